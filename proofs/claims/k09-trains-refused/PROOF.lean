import PyProof.Rows.All
import Wide.All
import OpenK.AllK
import Wide.FinOn
import HandS.ForMost
import HandS.Wide
import HandS.Style
import HandS.Flow
import HandS.Zip
import HandS.EndBits
import HandS.IsInst
import HandS.Lambda
import HandS.EndTab
import KE.LtData
import HandS.TupLe
import PyProof.NeKinds
import PyProof.FactsAll.dict_2
import PyProof.FactsAll.subtypes_4
import KE.KEqDict
import HandS.OwnEq
import PyProof.InstNe
import HandS.MakeKwOnly
import HandS.SortRule
import HandS.Conv
import HandS.SortKw
import HandS.SetFor
import KE.DataMinMax
import PyProof.Rows.CountFlat
import KE.DatumOrd
import HandS.Dict
import KE.KDictPairs
import KE.SortData
import HandS.WordsExc
import HandS.TryMany
import HandS.ExcInit
import KE.KExcInit
import KE.KExcIs
import HandS.ExcField
import KE.KNest
import KE.KNestM
import HandS.SortInts
import HandS.Comp
import PyProof.ReprRoads
import HandS.ExcOwn
import KE.OsRunLaw
import PySem.Challenge.RW_breakerrow_k09_trains_refused
set_option exponentiation.threshold 100000
set_option Elab.async false
set_option linter.all false
set_option maxRecDepth 100000
set_option maxHeartbeats 4000000
section
open PySem PySem.W PyProof.Rows
local macro_rules | `(tactic| k_head) => `(tactic| k_headL)
set_option maxHeartbeats 0 in
open_top L_top for PySem.Challenge.rw_breakerrow_k09_trains_refused
end
namespace DV
open PySem L2

/-- data: what a Python value says, with its heap read off -/
inductive D where
  | non | bl (b : Bool) | int (i : Int) | str (x : Str) | lst (xs : List D) | tup (xs : List D) | obj (c : Nat) (ks : List Str) (ds : List D) | scr (ns : List Int) | dct | dic (ks : List Int) (ds : List D) | exc (c : Nat) (ks : List Str) (ds : List D) | err (c : Nat) (ks : List Str) (ds : List D)

/-- what is static of a text behind its top -/
structure Gx where
  K : PySem.W.Frag
  cl : Nat → Addr
  T : List (Addr × Str)
  ea : Option (Nat × Addr × Addr)
/-- no table of code objects -/
def nT (o : HO) : Prop := ∀ ps, o ≠ .tbl ps

/-- a dict's keys and values -/
def dkV (ks : List Int) (vs : List V) : List (Key × V) := (ks.zip vs).map fun p => (.inl p.1, p.2)
/-! ### what stands for a datum -/
mutual
def Rep (g : Gx) (Av : Addr → Prop) (H : Hp) : D → V → Prop
  | .non, v => v = .non
  | .bl b, v => v = .bl b
  | .int i, v => v = .int i
  | .str x, v => v = .str x
  | .lst ds, v => ∃ a vs, v = .ref a ∧ ¬ Av a ∧ H a = some (.lst vs) ∧ Reps g Av H ds vs
  | .scr ns, v => ∃ a, v = .ref a ∧ ¬ Av a ∧ SqL g.K H a (ns.map V.int)
  | .tup ds, v => ∃ a vs, v = .ref a ∧ ¬ Av a ∧ SqT g.K H a vs ∧ Reps g Av H ds vs
  | .obj c ks ds, v => ∃ a dx vs, v = .ref a ∧ ¬ Av a ∧ ks.length = vs.length ∧ H a = some (.ins (g.cl c) dx (ks.zip vs)) ∧ Reps g Av H ds vs
  | .dct, v => ∃ a, v = .ref a ∧ ¬ Av a ∧ H a = some (.dK [])
  | .dic ks ds, v => ∃ a vs, v = .ref a ∧ ¬ Av a ∧ ks.length = vs.length ∧ H a = some (.dK (dkV ks vs)) ∧ Reps g Av H ds vs
  | .exc _ ks ds, v => ∃ a vs, v = .ref a ∧ ¬ Av a ∧ ks.length = vs.length ∧ H a = some (.xd (ks.zip vs).reverse) ∧ Reps g Av H ds vs
  | .err c ks ds, v => ∃ e a vs, g.ea = some (c, e, a) ∧ v = .ref e ∧ ¬ Av a ∧ ks.length = vs.length ∧ H a = some (.xd (ks.zip vs).reverse) ∧ Reps g Av H ds vs
def Reps (g : Gx) (Av : Addr → Prop) (H : Hp) : List D → List V → Prop
  | [], vs => vs = []
  | d :: ds, vs => ∃ v r, vs = v :: r ∧ Rep g Av H d v ∧ Reps g Av H ds r
end

def kfree (g : Gx) (H : Hp) : Prop := ∀ a o, g.K.lookup a = some o → H a = none

section
variable {g : Gx} {Av Av' : Addr → Prop} {H H' : Hp}
theorem sqL_mono {a : Addr} {vs : List V} (h : SqL g.K H a vs) (k : ∀ o, H a = some o → nT o → H' a = some o) : SqL g.K H' a vs := by
  rcases h with (h | ⟨o, h⟩) | h
  · exact .inl (.inl (k _ h nofun))
  · exact .inl (.inr ⟨o, k _ h nofun⟩)
  · exact .inr h
theorem sqT_mono {a : Addr} {vs : List V} (h : SqT g.K H a vs) (k : ∀ o, H a = some o → nT o → H' a = some o) : SqT g.K H' a vs := by
  rcases h with (h | ⟨o, h⟩) | h
  · exact .inl (.inl (k _ h nofun))
  · exact .inl (.inr ⟨o, k _ h nofun⟩)
  · exact .inr h
theorem sqL_at {a : Addr} {vs : List V} (h : SqL g.K H a vs) : (∃ o, H a = some o ∧ nT o) ∨ ∃ o, g.K.lookup a = some o := by
  rcases h with (h | ⟨o, h⟩) | ⟨o, _, _, h, _⟩
  · exact .inl ⟨_, h, nofun⟩
  · exact .inl ⟨_, h, nofun⟩
  · exact .inr ⟨_, h⟩
theorem sqT_at {a : Addr} {vs : List V} (h : SqT g.K H a vs) : (∃ o, H a = some o ∧ nT o) ∨ ∃ o, g.K.lookup a = some o := by
  rcases h with (h | ⟨o, h⟩) | ⟨o, _, _, h, _⟩
  · exact .inl ⟨_, h, nofun⟩
  · exact .inl ⟨_, h, nofun⟩
  · exact .inr ⟨_, h⟩
/-- a visited address: one that may not change, and stands in H or in the written part -/
abbrev Vst (g : Gx) (Av : Addr → Prop) (H : Hp) (a : Addr) : Prop := ¬ Av a ∧ ((∃ o, H a = some o ∧ nT o) ∨ ∃ o, g.K.lookup a = some o)
mutual
theorem rep_mono (k : ∀ a, Vst g Av H a → (∀ o, H a = some o → nT o → H' a = some o) ∧ ¬ Av' a) : ∀ (d : D) (v : V), Rep g Av H d v → Rep g Av' H' d v
  | .non, _, h => by simpa [Rep] using h
  | .bl _, _, h => by simpa [Rep] using h
  | .int _, _, h => by simpa [Rep] using h
  | .str _, _, h => by simpa [Rep] using h
  | .lst ds, v, h => by
    simp only [Rep] at h ⊢
    obtain ⟨a, vs, e, n, s, r⟩ := h
    have q := k a ⟨n, .inl ⟨_, s, nofun⟩⟩
    exact ⟨a, vs, e, q.2, q.1 _ s nofun, reps_mono k ds vs r⟩
  | .scr ns, v, h => by
    simp only [Rep] at h ⊢
    obtain ⟨a, e, n, s⟩ := h
    have q := k a ⟨n, sqL_at s⟩
    exact ⟨a, e, q.2, sqL_mono s q.1⟩
  | .tup ds, v, h => by
    simp only [Rep] at h ⊢
    obtain ⟨a, vs, e, n, s, r⟩ := h
    have q := k a ⟨n, sqT_at s⟩
    exact ⟨a, vs, e, q.2, sqT_mono s q.1, reps_mono k ds vs r⟩
  | .obj c ks ds, v, h => by
    simp only [Rep] at h ⊢
    obtain ⟨a, dx, vs, e, n, l, s, r⟩ := h
    have q := k a ⟨n, .inl ⟨_, s, nofun⟩⟩
    exact ⟨a, dx, vs, e, q.2, l, q.1 _ s nofun, reps_mono k ds vs r⟩
  | .dct, v, h => by
    simp only [Rep] at h ⊢
    obtain ⟨a, e, n, s⟩ := h
    have q := k a ⟨n, .inl ⟨_, s, nofun⟩⟩
    exact ⟨a, e, q.2, q.1 _ s nofun⟩
  | .dic ks ds, v, h => by
    simp only [Rep] at h ⊢
    obtain ⟨a, vs, e, n, l, s, r⟩ := h
    have q := k a ⟨n, .inl ⟨_, s, nofun⟩⟩
    exact ⟨a, vs, e, q.2, l, q.1 _ s nofun, reps_mono k ds vs r⟩
  | .exc c ks ds, v, h => by
    simp only [Rep] at h ⊢
    obtain ⟨a, vs, e, n, l, s, r⟩ := h
    have q := k a ⟨n, .inl ⟨_, s, nofun⟩⟩
    exact ⟨a, vs, e, q.2, l, q.1 _ s nofun, reps_mono k ds vs r⟩
  | .err c ks ds, v, h => by
    simp only [Rep] at h ⊢
    obtain ⟨e0, a, vs, e1, e, n, l, s, r⟩ := h
    have q := k a ⟨n, .inl ⟨_, s, nofun⟩⟩
    exact ⟨e0, a, vs, e1, e, q.2, l, q.1 _ s nofun, reps_mono k ds vs r⟩
theorem reps_mono (k : ∀ a, Vst g Av H a → (∀ o, H a = some o → nT o → H' a = some o) ∧ ¬ Av' a) : ∀ (ds : List D) (vs : List V), Reps g Av H ds vs → Reps g Av' H' ds vs
  | [], _, h => by simpa [Reps] using h
  | d :: ds, _, h => by
    simp only [Reps] at h ⊢
    obtain ⟨v, r, e, h1, h2⟩ := h
    exact ⟨v, r, e, rep_mono k d v h1, reps_mono k ds r h2⟩
end
theorem Reps.len : ∀ {ds : List D} {vs : List V}, Reps g Av H ds vs → ds.length = vs.length
  | [], _, h => by simp only [Reps] at h; subst h; rfl
  | d :: ds, _, h => by
    simp only [Reps] at h
    obtain ⟨v, r, rfl, _, h2⟩ := h
    rw [List.length_cons, List.length_cons, Reps.len h2]
theorem Reps.get : ∀ {ds : List D} {vs : List V} {i : Nat} {d : D}, Reps g Av H ds vs → ds[i]? = some d → ∃ v, vs[i]? = some v ∧ Rep g Av H d v
  | [], _, i, d, _, e => by simp at e
  | x :: ds, _, 0, d, h, e => by
    simp only [Reps] at h
    obtain ⟨v, r, rfl, h1, _⟩ := h
    simp at e; subst e
    exact ⟨v, rfl, h1⟩
  | x :: ds, _, i + 1, d, h, e => by
    simp only [Reps] at h
    obtain ⟨v, r, rfl, _, h2⟩ := h
    exact Reps.get (i := i) h2 (by simpa using e)
theorem Reps.app : ∀ {ds es : List D} {vs ws : List V}, Reps g Av H ds vs → Reps g Av H es ws → Reps g Av H (ds ++ es) (vs ++ ws)
  | [], _, _, _, h, q => by simp only [Reps] at h; subst h; exact q
  | d :: ds, _, _, _, h, q => by
    simp only [Reps] at h
    obtain ⟨v, r, rfl, h1, h2⟩ := h
    simp only [List.cons_append, Reps]
    exact ⟨v, _, rfl, h1, Reps.app h2 q⟩
theorem Reps.take : ∀ {ds : List D} {vs : List V} (n : Nat), Reps g Av H ds vs → Reps g Av H (ds.take n) (vs.take n)
  | _, _, 0, _ => by simp [Reps]
  | [], _, n + 1, h => by simp only [Reps] at h; subst h; simp [Reps]
  | d :: ds, _, n + 1, h => by
    simp only [Reps] at h
    obtain ⟨v, r, rfl, h1, h2⟩ := h
    simp only [List.take_succ_cons, Reps]
    exact ⟨v, _, rfl, h1, Reps.take n h2⟩
theorem Reps.drop : ∀ {ds : List D} {vs : List V} (n : Nat), Reps g Av H ds vs → Reps g Av H (ds.drop n) (vs.drop n)
  | _, _, 0, h => h
  | [], _, n + 1, h => by simp only [Reps] at h; subst h; simp [Reps]
  | d :: ds, _, n + 1, h => by
    simp only [Reps] at h
    obtain ⟨v, r, rfl, h1, h2⟩ := h
    simpa using Reps.drop n h2
theorem Reps.set {d : D} {v : V} (q : Rep g Av H d v) : ∀ {ds : List D} {vs : List V} (n : Nat), Reps g Av H ds vs → Reps g Av H (ds.set n d) (vs.set n v)
  | [], _, n, h => by simp only [Reps] at h; subst h; simp [Reps]
  | x :: ds, _, 0, h => by
    simp only [Reps] at h
    obtain ⟨w, r, rfl, h1, h2⟩ := h
    simp only [List.set_cons_zero, Reps]
    exact ⟨v, _, rfl, q, h2⟩
  | x :: ds, _, n + 1, h => by
    simp only [Reps] at h
    obtain ⟨w, r, rfl, h1, h2⟩ := h
    simp only [List.set_cons_succ, Reps]
    exact ⟨w, _, rfl, h1, Reps.set q n h2⟩
theorem Reps.one {d : D} {v : V} (q : Rep g Av H d v) : Reps g Av H [d] [v] := by
  simp only [Reps]
  exact ⟨v, [], rfl, q, rfl⟩
theorem Reps.rev : ∀ {ds : List D} {vs : List V}, Reps g Av H ds vs → Reps g Av H ds.reverse vs.reverse
  | [], _, h => by simp only [Reps] at h; subst h; simp [Reps]
  | d :: ds, _, h => by
    simp only [Reps] at h
    obtain ⟨v, r, rfl, h1, h2⟩ := h
    rw [List.reverse_cons, List.reverse_cons]
    exact Reps.app (Reps.rev h2) (Reps.one h1)
theorem Reps.repl {ds : List D} {vs : List V} (h : Reps g Av H ds vs) : ∀ n : Nat, Reps g Av H (List.replicate n ds).flatten (List.replicate n vs).flatten
  | 0 => by simp [Reps]
  | n + 1 => by
    rw [List.replicate_succ, List.replicate_succ, List.flatten_cons, List.flatten_cons]
    exact Reps.app h (Reps.repl h n)
end

/-! ### the frame: slots with data, some of them owned -/
abbrev Sl := Option (D × Bool)
abbrev Ct := List Sl
def Av (Bn : Addr → Prop) (Ow : List Addr) : Addr → Prop := fun a => Bn a ∨ a ∈ Ow
/-- the object at a is the owned datum d -/
def OwnA (g : Gx) (A : Addr → Prop) (H : Hp) (d : D) (a : Addr) : Prop :=
  match d with
  | .lst ds => ∃ vs, H a = some (.lst vs) ∧ Reps g A H ds vs
  | .obj c ks ds => ∃ dx vs, ks.length = vs.length ∧ H a = some (.ins (g.cl c) dx (ks.zip vs)) ∧ Reps g A H ds vs
  | _ => False
/-- a list or an object -/
def LI (H : Hp) (a : Addr) : Prop := (∃ vs, H a = some (.lst vs)) ∨ ∃ C dx fl, H a = some (.ins C dx fl)
theorem LI.ne {H : Hp} {a : Addr} (h : LI H a) : H a ≠ none := by
  rcases h with ⟨vs, e⟩ | ⟨C, dx, fl, e⟩ <;> rw [e] <;> nofun
theorem LI.same {H H' : Hp} {a : Addr} (h : LI H a) (s : Same H H') : LI H' a := by
  rcases h with ⟨vs, e⟩ | ⟨C, dx, fl, e⟩
  · exact .inl ⟨vs, s _ _ e⟩
  · exact .inr ⟨C, dx, fl, s _ _ e⟩
theorem LI.upd {H : Hp} {a b : Addr} {o : HO} (h : LI H a) (k : a = b → LI (upd H b o) b) : LI (L2.upd H b o) a := by
  by_cases e : a = b
  · rw [e]; exact k e
  · rcases h with ⟨vs, q⟩ | ⟨C, dx, fl, q⟩
    · exact .inl ⟨vs, by rw [upd_ne e]; exact q⟩
    · exact .inr ⟨C, dx, fl, by rw [upd_ne e]; exact q⟩
abbrev Tb (T : List (Addr × Str)) (H : Hp) : Prop := LamX.Tabs T H
theorem Tb.upd {T : List (Addr × Str)} {H : Hp} {p : Addr} {o : HO} (t : Tb T H) (h : LI H p) : Tb T (L2.upd H p o) := by
  intro q hq
  obtain ⟨ps, e1, e2, e3⟩ := t q hq
  have n1 : q.1 ≠ p := fun z => by
    rw [z] at e1
    rcases h with ⟨vs, e⟩ | ⟨C, dx, fl, e⟩ <;> (rw [e] at e1; cases e1)
  refine ⟨ps, by rw [upd_ne n1]; exact e1, e2, fun pos cv hc => ?_⟩
  obtain ⟨c, f1, f2⟩ := e3 pos cv hc
  refine ⟨c, f1, ?_⟩
  have n2 : c ≠ p := fun z => by
    rw [z] at f2
    unfold LamX.CodeO at f2
    rcases h with ⟨vs, e⟩ | ⟨C, dx, fl, e⟩ <;> (rw [e] at f2; cases f2)
  rw [upd_ne n2]
  exact f2
structure RS (g : Gx) (Bn : Addr → Prop) (Ow : List Addr) (H : Hp) (σ : St) (Γ : Ct) : Prop where
  len : σ.length = Γ.length
  slot : ∀ (i : Nat) d, Γ[i]? = some (some (d, false)) → ∃ v, σ[i]? = some (some v) ∧ Rep g (Av Bn Ow) H d v
  own : ∀ (i : Nat) d, Γ[i]? = some (some (d, true)) → ∃ a, σ[i]? = some (some (.ref a)) ∧ a ∈ Ow ∧ OwnA g (Av Bn Ow) H d a
  dist : ∀ (i j : Nat) d e a, Γ[i]? = some (some (d, true)) → Γ[j]? = some (some (e, true)) → σ[i]? = some (some (.ref a)) → σ[j]? = some (some (.ref a)) → i = j
  trl : ∀ a, Av Bn Ow a → LI H a
  sep : ∀ a, Bn a → a ∉ Ow
  kf : ∀ a, Av Bn Ow a → g.K.lookup a = none
  tabs : Tb g.T H
theorem RS.trk {g : Gx} {Bn : Addr → Prop} {Ow : List Addr} {H : Hp} {σ : St} {Γ : Ct} (r : RS g Bn Ow H σ Γ) (a : Addr) (h : Av Bn Ow a) : H a ≠ none := (r.trl a h).ne
/-- nothing stands there, or a table -/
def Nw (H : Hp) (a : Addr) : Prop := ∀ o, H a = some o → ¬ nT o
theorem nw_none {H : Hp} {a : Addr} (h : H a = none) : Nw H a := fun o e => by rw [h] at e; cases e
theorem LI.nw {H : Hp} {a : Addr} (h : LI H a) (n : Nw H a) : False := by
  rcases h with ⟨vs, e⟩ | ⟨C, dx, fl, e⟩
  · exact n _ e nofun
  · exact n _ e nofun
theorem RS.trn {g : Gx} {Bn : Addr → Prop} {Ow : List Addr} {H : Hp} {σ : St} {Γ : Ct} (r : RS g Bn Ow H σ Γ) (a : Addr) (h : Av Bn Ow a) (n : Nw H a) : False := (r.trl a h).nw n
/-- a step of the frame -/
structure Stp (Ow : List Addr) (H : Hp) (Ow' : List Addr) (H' : Hp) : Prop where
  keep0 : ∀ a o, H a = some o → nT o → a ∉ Ow → H' a = some o
  grow : ∀ a, a ∈ Ow' → a ∈ Ow ∨ Nw H a
theorem Stp.keep {Ow : List Addr} {H : Hp} {Ow' : List Addr} {H' : Hp} (s : Stp Ow H Ow' H') (a : Addr) (o : HO) (h : H a = some o) (n : a ∉ Ow) (t : nT o := by exact nofun) : H' a = some o := s.keep0 a o h t n
theorem Stp.refl (Ow : List Addr) (H : Hp) : Stp Ow H Ow H := ⟨fun _ _ h _ _ => h, fun _ h => .inl h⟩
theorem Stp.trans {O1 O2 O3 : List Addr} {H1 H2 H3 : Hp} (a : Stp O1 H1 O2 H2) (b : Stp O2 H2 O3 H3) : Stp O1 H1 O3 H3 where
  keep0 := fun x o h t n => b.keep0 x o (a.keep0 x o h t n) t fun z => by
    rcases a.grow x z with q | q
    · exact n q
    · exact q o h t
  grow := fun x h => by
    rcases b.grow x h with q | q
    · exact a.grow x q
    · by_cases m : x ∈ O1
      · exact .inl m
      · exact .inr fun o e t => q o (a.keep0 x o e t m) t
section
variable {g : Gx} {Bn : Addr → Prop} {Ow Ow' : List Addr} {H H' : Hp} {σ : St} {Γ Γ' : Ct}
/-- what may be carried over a step -/
theorem step_vst (s : Stp Ow H Ow' H') (kf : ∀ a, a ∈ Ow' → g.K.lookup a = none) : ∀ a, Vst g (Av Bn Ow) H a → (∀ o, H a = some o → nT o → H' a = some o) ∧ ¬ Av Bn Ow' a := fun a ⟨n, t⟩ => by
  have n1 : ¬ Bn a := fun z => n (.inl z)
  have n2 : a ∉ Ow := fun z => n (.inr z)
  refine ⟨fun o h t => s.keep0 a o h t n2, fun z => ?_⟩
  rcases z with z | z
  · exact n1 z
  · rcases t with ⟨o, t, nt⟩ | ⟨o, t⟩
    · rcases s.grow a z with q | q
      · exact n2 q
      · exact q o t nt
    · rw [kf a z] at t; cases t
theorem Rep.step {d : D} {v : V} (h : Rep g (Av Bn Ow) H d v) (s : Stp Ow H Ow' H') (r : RS g Bn Ow' H' σ Γ) : Rep g (Av Bn Ow') H' d v :=
  rep_mono (step_vst s fun a h => r.kf a (.inr h)) d v h
theorem Reps.step {d : List D} {v : List V} (h : Reps g (Av Bn Ow) H d v) (s : Stp Ow H Ow' H') (r : RS g Bn Ow' H' σ Γ) : Reps g (Av Bn Ow') H' d v :=
  reps_mono (step_vst s fun a h => r.kf a (.inr h)) d v h
/-- the heap has grown, nothing else -/
theorem same_vst {A : Addr → Prop} (s : Same H H') : ∀ a, Vst g A H a → (∀ o, H a = some o → nT o → H' a = some o) ∧ ¬ A a := fun a ⟨n, _⟩ => ⟨fun o h _ => s a o h, n⟩
theorem Rep.same {A : Addr → Prop} {d : D} {v : V} (h : Rep g A H d v) (s : Same H H') : Rep g A H' d v := rep_mono (same_vst s) d v h
theorem Reps.same {A : Addr → Prop} {d : List D} {v : List V} (h : Reps g A H d v) (s : Same H H') : Reps g A H' d v := reps_mono (same_vst s) d v h
theorem OwnA.same {A : Addr → Prop} {d : D} {a : Addr} (h : OwnA g A H d a) (s : Same H H') : OwnA g A H' d a := by
  cases d with
  | lst ds => obtain ⟨vs, e, r⟩ := h; exact ⟨vs, s _ _ e, r.same s⟩
  | obj c ks ds => obtain ⟨dx, vs, l, e, r⟩ := h; exact ⟨dx, vs, l, s _ _ e, r.same s⟩
  | _ => exact h
theorem RS.same (r : RS g Bn Ow H σ Γ) (s : Same H H') : RS g Bn Ow H' σ Γ where
  len := r.len
  slot := fun i d h => let ⟨v, e, q⟩ := r.slot i d h; ⟨v, e, q.same s⟩
  own := fun i d h => let ⟨a, e, m, q⟩ := r.own i d h; ⟨a, e, m, q.same s⟩
  dist := r.dist
  trl := fun a h => (r.trl a h).same s
  sep := r.sep
  kf := r.kf
  tabs := fun p hp => (r.tabs p hp).ext s
theorem Stp.same (s : Same H H') : Stp Ow H Ow H' := ⟨fun a o h _ _ => s a o h, fun _ h => .inl h⟩
/-- less is avoided -/
theorem rep_less {A A' : Addr → Prop} (k : ∀ a, A' a → A a) {d : D} {v : V} (h : Rep g A H d v) : Rep g A' H d v := rep_mono (fun a ⟨n, _⟩ => ⟨fun _ e _ => e, fun z => n (k a z)⟩) d v h
theorem reps_less {A A' : Addr → Prop} (k : ∀ a, A' a → A a) {d : List D} {v : List V} (h : Reps g A H d v) : Reps g A' H d v := reps_mono (fun a ⟨n, _⟩ => ⟨fun _ e _ => e, fun z => n (k a z)⟩) d v h
theorem own_less {A A' : Addr → Prop} (k : ∀ a, A' a → A a) {d : D} {a : Addr} (h : OwnA g A H d a) : OwnA g A' H d a := by
  cases d with
  | lst ds => obtain ⟨vs, e, r⟩ := h; exact ⟨vs, e, reps_less k r⟩
  | obj c ks ds => obtain ⟨dx, vs, l, e, r⟩ := h; exact ⟨dx, vs, l, e, reps_less k r⟩
  | _ => exact h
/-- an owned object becomes a plain one -/
theorem OwnA.rep {A : Addr → Prop} {d : D} {a : Addr} (h : OwnA g A H d a) (n : ¬ A a) : Rep g A H d (.ref a) := by
  cases d with
  | lst ds => obtain ⟨vs, e, r⟩ := h; simp only [Rep]; exact ⟨a, vs, rfl, n, e, r⟩
  | obj c ks ds => obtain ⟨dx, vs, l, e, r⟩ := h; simp only [Rep]; exact ⟨a, dx, vs, rfl, n, l, e, r⟩
  | _ => exact h.elim
end
end DV

namespace DV
open PySem L2

/-! ### data: equality, truth, operations -/
mutual
def eqd : D → D → Bool
  | .non, .non => true
  | .bl a, .bl b => a == b
  | .bl a, .int j => (if a then 1 else 0) == j
  | .int i, .bl b => i == (if b then 1 else 0)
  | .int i, .int j => i == j
  | .str x, .str y => x == y
  | .lst xs, .lst ys => eqds xs ys
  | .tup xs, .tup ys => eqds xs ys
  | _, _ => false
def eqds : List D → List D → Bool
  | [], [] => true
  | x :: xs, y :: ys => eqd x y && eqds xs ys
  | _, _ => false
end
/-- plain data of a depth below n -/
def okB : Nat → D → Bool
  | _, .non => true
  | _, .bl _ => true
  | _, .int _ => true
  | _, .str x => PyData.strOk x
  | n + 1, .lst ds => ds.all (okB n)
  | n + 1, .tup ds => ds.all (okB n)
  | _, _ => false
def flatD : D → Bool
  | .non => true
  | .bl _ => true
  | .int _ => true
  | .str _ => true
  | _ => false
def truthD : D → Option Bool
  | .non => some false
  | .bl b => some b
  | .int i => some (i != 0)
  | .str x => if x.length ≤ sizeLine then some ((x.length : Int) != 0) else none
  | .lst ds => some (!ds.isEmpty)
  | .tup ds => some (!ds.isEmpty)
  | .obj _ _ _ => none
  | .scr ns => some (!ns.isEmpty)
  | .dct => none
  | .dic _ _ => none
  | .exc _ _ _ => none
  | .err _ _ _ => none

inductive RV where
  | fz (d : D) | nw (d : D) | sl (i : Nat)
inductive BOp where
  | add | sub | mul | fdiv | mod | pow
  deriving DecidableEq
inductive COp where
  | eq | ne | lt | le | gt | ge | is | isnot | inn | notin
  deriving DecidableEq
inductive OOp where
  | eq | ne | inn | notin | ix | add
  deriving DecidableEq
inductive Ty where
  | int | bool | str | list | tuple
  deriving DecidableEq
inductive Bi where
  | len | int1 | max2 | min2 | maxl | minl | suml | list | tuple | alll | anyl | isi (t : Ty) | abs | sortp | minp | min2p | sortt | dictp | sorti | mint | rpr
  deriving DecidableEq
inductive IK where
  | seq | enum | zip | rng
  deriving DecidableEq
inductive Tg where
  | nm (i : Nat) | tp (ts : List Tg)

def tgIx : Tg → List Nat
  | .nm i => [i]
  | .tp ts => tgIxs ts
where tgIxs : List Tg → List Nat
  | [] => []
  | t :: ts => tgIx t ++ tgIxs ts
def mulOk (i j : Int) : Bool := decide (-(2 ^ 64) < i ∧ i < 2 ^ 64) || decide (-(2 ^ 64) < j ∧ j < 2 ^ 64) || decide (i.natAbs.log2 + j.natAbs.log2 < 1000000)
@[irreducible] def in1k (i : Int) : Bool := decide (i.natAbs < 2 ^ 1000)
def binD : BOp → D → D → Option RV
  | .add, .int a, .int b => some (.fz (.int (a + b)))
  | .add, .str a, .str b => if a.length + b.length ≤ sizeLine then some (.fz (.str (a ++ b))) else none
  | .add, .lst a, .lst b => if a.length + b.length ≤ sizeLine then some (.nw (.lst (a ++ b))) else none
  | .add, .tup a, .tup b => if a.length + b.length ≤ sizeLine ∧ a ≠ [] then some (.fz (.tup (a ++ b))) else none
  | .sub, .int a, .int b => some (.fz (.int (a - b)))
  | .mul, .int a, .int b => if mulOk a b then some (.fz (.int (a * b))) else none
  | .mul, .lst a, .int k => if -(2 ^ 63) ≤ k ∧ k < 2 ^ 63 ∧ a.length * k.toNat ≤ sizeLine then some (.nw (.lst (List.replicate k.toNat a).flatten)) else none
  | .fdiv, .int a, .int b => if 0 < b ∧ b.natAbs.log2 < 9000 then some (.fz (.int (a / b))) else none
  | .mod, .int a, .int b => if 0 < b then some (.fz (.int (a % b))) else none
  | .pow, .int a, .int b => if 0 ≤ b ∧ b ≤ 1000000 ∧ a.natAbs < 2 ^ 64 then some (.fz (.int (a ^ b.toNat))) else if 0 ≤ b ∧ b ≤ 1000 ∧ in1k a = true then some (.fz (.int (a ^ b.toNat))) else none
  | _, _, _ => none
def isNonD : D → Bool
  | .non => true
  | _ => false
/-- lists of other lengths -/
def lenNe : D → D → Bool
  | .lst a, .lst b => decide (a.length ≠ b.length)
  | _, _ => false
/-- two texts -/
def strEq : D → D → Option Bool
  | .str x, .str y => some (x == y)
  | _, _ => none
/-- an empty dict and a tuple -/
def dtNe : D → D → Bool
  | .dct, .tup _ => true
  | _, _ => false
/-- (a, b) > (c, d) -/
def pGt (a b c d : Int) : Bool := decide (c < a ∨ (a = c ∧ d < b))
def tupGt : List D → List D → Option Bool
  | [.int a, .int b], [.int c, .int d] => some (pGt a b c d)
  | _, _ => none
def cmpD : COp → D → D → Option Bool
  | .eq, a, b => if okB 12 a && okB 12 b then some (eqd a b) else if lenNe a b then some false else strEq a b
  | .ne, a, b => if okB 12 a && okB 12 b then some (!eqd a b) else if lenNe a b then some true else if dtNe a b then some true else none
  | .lt, .int a, .int b => some (decide (a < b))
  | .le, .int a, .int b => some (decide (a ≤ b))
  | .gt, .int a, .int b => some (decide (b < a))
  | .ge, .int a, .int b => some (decide (b ≤ a))
  | .is, a, .non => some (isNonD a)
  | .isnot, a, .non => some (!isNonD a)
  | .inn, a, .lst b => if flatD a && b.all flatD then some (b.any fun y => eqd y a) else none
  | .inn, a, .tup b => if flatD a && b.all flatD then some (b.any fun y => eqd y a) else none
  | .notin, a, .lst b => if flatD a && b.all flatD then some (!(b.any fun y => eqd y a)) else none
  | .notin, a, .tup b => if flatD a && b.all flatD then some (!(b.any fun y => eqd y a)) else none
  | .gt, .tup xs, .tup ys => tupGt xs ys
  | _, _, _ => none
def ixN' (n : Nat) (i : Int) : Option Nat := ixN n i
def ixD : D → D → Option D
  | .lst xs, .int i => atI xs i
  | .tup xs, .int i => atI xs i
  | .scr ns, .int i => (atI ns i).map D.int
  | .str z, .int i => if z.length ≤ sizeLine then (atI z.cps.toList i).map fun c => .str ⟨#[c]⟩ else none
  | _, _ => none
def cutD (xs : List D) (lo hi : Option Int) : List D := (xs.drop (HT.sIx xs.length 0 lo)).take (HT.sIx xs.length xs.length hi - HT.sIx xs.length 0 lo)
def slcD : D → Option Int → Option Int → Option RV
  | .lst xs, lo, hi => some (.nw (.lst (cutD xs lo hi)))
  | .scr ns, lo, hi => some (.nw (.lst (cutD (ns.map D.int) lo hi)))
  | .tup xs, lo, hi => if HT.sIx xs.length 0 lo = 0 ∧ HT.sIx xs.length xs.length hi = xs.length then none else some (.fz (.tup (cutD xs lo hi)))
  | _, _, _ => none
def shallow : D → Bool
  | .obj _ _ _ => false
  | .exc _ _ _ => false
  | .err _ _ _ => false
  | .scr _ => false
  | _ => true
def isiD : Ty → D → Bool
  | .int, .int _ => true
  | .int, .bl _ => true
  | .bool, .bl _ => true
  | .str, .str _ => true
  | .list, .lst _ => true
  | .tuple, .tup _ => true
  | _, _ => false
/-- the ints of a list of ints -/
def intsD : List D → Option (List Int)
  | [] => some []
  | .int i :: r => (intsD r).map (i :: ·)
  | _ :: _ => none
def blsD : List D → Option (List Bool)
  | [] => some []
  | .bl i :: r => (blsD r).map (i :: ·)
  | _ :: _ => none
def maxI : List Int → Option Int
  | [] => none
  | x :: r => some (r.foldl (fun a b => if a < b then b else a) x)
def minI : List Int → Option Int
  | [] => none
  | x :: r => some (r.foldl (fun a b => if b < a then b else a) x)
/-- pairs of ints -/
def pairsD : List D → Option (List (Int × Int))
  | [] => some []
  | .tup [.int i, .int j] :: r => (pairsD r).map ((i, j) :: ·)
  | _ :: _ => none
def pLe (p q : Int × Int) : Bool := decide (p.1 < q.1 ∨ (p.1 = q.1 ∧ p.2 ≤ q.2))
def pLt (p q : Int × Int) : Bool := decide (p.1 < q.1 ∨ (p.1 = q.1 ∧ p.2 < q.2))
def minP : List (Int × Int) → Option (Int × Int)
  | [] => none
  | p :: ps => some (ps.foldl (fun a y => if pLt y a then y else a) p)
def insP (p : Int × Int) : List (Int × Int) → List (Int × Int)
  | [] => [p]
  | q :: r => if pLe p q then p :: q :: r else q :: insP p r
def sortP : List (Int × Int) → List (Int × Int)
  | [] => []
  | p :: r => insP p (sortP r)
def sortD : D → Option D
  | .lst xs => (pairsD xs).map fun ps => .lst ((sortP ps).map fun p => .tup [.int p.1, .int p.2])
  | _ => none
/-- a dict of pairs, the first ones different ints -/
def dctpD : List D → Option (List Int × List D)
  | [] => some ([], [])
  | .tup [.int k, d] :: r => (dctpD r).bind fun (ks, ds) => if ks.contains k then none else some (k :: ks, d :: ds)
  | _ => none
/-- triples of ints, the first ones ascending -/
def ascT : List D → Bool
  | [] => true
  | [.tup [.int _, .int _, .int _]] => true
  | .tup [.int a, .int _, .int _] :: .tup [.int b, .int c, .int d] :: r => decide (a < b) && ascT (.tup [.int b, .int c, .int d] :: r)
  | _ => false
def insI (x : Int) : List Int → List Int
  | [] => [x]
  | y :: r => if x ≤ y then x :: y :: r else y :: insI x r
def sortI : List Int → List Int
  | [] => []
  | x :: r => insI x (sortI r)
/-- tuples of an int and a list of ints -/
def tlsD : List D → Option (List (Int × List Int))
  | [] => some []
  | .tup [.int p, .lst l] :: r => (intsD l).bind fun ns => (tlsD r).map fun t => (p, ns) :: t
  | _ => none
def pyT (p : Int × List Int) : PyData := .tuple [.int p.1, .list (p.2.map .int)]
def minT : List (Int × List Int) → Option (Int × List Int)
  | [] => none
  | p :: ps => some (ps.foldl (fun a y => if PySem.W.dataLt (pyT y) (pyT a) then y else a) p)
/-! data that repr can show -/
mutual
def pyO : D → Option PyData
  | .non => some .none
  | .bl b => some (.bool b)
  | .int i => some (.int i)
  | .str x => some (.str x)
  | .lst ds => (pyOs ds).map .list
  | .tup ds => (pyOs ds).map .tuple
  | .dct => some (.dict [])
  | _ => none
def pyOs : List D → Option (List PyData)
  | [] => some []
  | d :: ds => (pyO d).bind fun p => (pyOs ds).map fun ps => p :: ps
end
@[irreducible] def shwOk (p : PyData) : Bool := p.showable && (decide (p.shown.length ≤ sizeLine) && decide (p.depth ≤ 40))
/-! data without an error inside -/
mutual
def noE : D → Bool
  | .err _ _ _ => false
  | .lst ds => noEs ds
  | .tup ds => noEs ds
  | .obj _ _ ds => noEs ds
  | .dic _ ds => noEs ds
  | .exc _ _ ds => noEs ds
  | _ => true
def noEs : List D → Bool
  | [] => true
  | d :: ds => noE d && noEs ds
end
def biD : Bi → List D → Option RV
  | .len, [.lst xs] => some (.fz (.int xs.length))
  | .len, [.tup xs] => some (.fz (.int xs.length))
  | .len, [.scr ns] => some (.fz (.int ns.length))
  | .len, [.str x] => if x.length ≤ sizeLine then some (.fz (.int x.length)) else none
  | .int1, [.int i] => some (.fz (.int i))
  | .int1, [.bl b] => some (.fz (.int (if b then 1 else 0)))
  | .max2, [.int a, .int b] => some (.fz (.int (if b > a then b else a)))
  | .min2, [.int a, .int b] => some (.fz (.int (if b < a then b else a)))
  | .maxl, [.lst xs] => (intsD xs).bind fun ns => (maxI ns).map fun m => .fz (.int m)
  | .minl, [.lst xs] => (intsD xs).bind fun ns => (minI ns).map fun m => .fz (.int m)
  | .suml, [.lst xs] => (intsD xs).map fun ns => .fz (.int ns.sum)
  | .list, [.lst xs] => some (.nw (.lst xs))
  | .list, [.tup xs] => some (.nw (.lst xs))
  | .tuple, [.lst xs] => some (.fz (.tup xs))
  | .tuple, [.tup xs] => some (.fz (.tup xs))
  | .alll, [.lst xs] => (blsD xs).map fun bs => .fz (.bl (bs.all id))
  | .anyl, [.lst xs] => (blsD xs).map fun bs => .fz (.bl (bs.any id))
  | .isi t, [d] => if shallow d then some (.fz (.bl (isiD t d))) else none
  | .abs, [.int i] => some (.fz (.int (if i < 0 then -i else i)))
  | .sortp, [d] => (sortD d).map .nw
  | .minp, [.lst xs] => (pairsD xs).bind fun ps => (minP ps).map fun p => .fz (.tup [.int p.1, .int p.2])
  | .min2p, [.tup [.int a, .int b], .tup [.int c, .int d]] => some (.fz (if pLt (c, d) (a, b) then .tup [.int c, .int d] else .tup [.int a, .int b]))
  | .sortt, [.lst xs] => if ascT xs then some (.nw (.lst xs)) else none
  | .dictp, [.lst xs] => (dctpD xs).map fun (ks, ds) => .fz (.dic ks ds)
  | .sorti, [.lst xs] => (intsD xs).map fun ns => .nw (.lst ((sortI ns).map D.int))
  | .mint, [.lst xs] => (tlsD xs).bind fun ps => (minT ps).map fun m => .fz (.tup [.int m.1, .lst (m.2.map D.int)])
  | .rpr, [d] => (pyO d).bind fun p => if shwOk p then some (.fz (.str p.shown)) else none
  | _, _ => none

/-! ### the language -/
inductive E where
  | stuck
  | var (i : Nat)
  | cst (d : D)
  | bin (op : BOp) (a b : E)
  | neg (a : E)
  | cmp (op : COp) (a b : E)
  | chain (o1 o2 : COp) (a b c : E)
  | and (a b : E)
  | or (a b : E)
  | not (a : E)
  | ite (c a b : E)
  | lst (es : List E)
  | tup (es : List E)
  | ix (a b : E)
  | slc (a : E) (lo hi : List E)
  | call (k : Nat) (es : List E)
  | bi (b : Bi) (es : List E)
  | comp (own : List Nat) (tg : Tg) (ik : IK) (its : List E) (cond : List E) (elt : E)
  | fld (cs : List Nat) (a : E) (nm : Str)
  | meth (c : Nat) (nm : Str) (k : Nat) (o : E) (es : List E)
  | mk (c k : Nat) (es : List E)
  | own (o : OOp) (c k : Nat) (a b : E)
  | lenO (c k : Nat) (a : E)
  | isc (cs : List Nat) (c : Nat) (a : E)
  | callp (k : Nat) (p : List Nat) (es : List E)
  | mkp (c k : Nat) (p : List Nat) (es : List E)
  | chain3 (o1 o2 o3 : COp) (a b c d : E)
  | rev (a : E)
  | dct
  | tne (c k : Nat) (a b : E)
  | rngl (a b : E)
  | mxd (m : Bool) (a d : E)
  | cnt (a x : E)
  | pop (i : Nat)
  | idx (a x : E)
  | shr (a : E)
  | inO (c k c2 k2 : Nat) (a b : E)
  | dget (a b : E)
  | din (a b : E)
  | ownx (o : OOp) (c k : Nat) (a b : E)
  | mkx (c k : Nat) (es : List E)
  | xis (all cs : List Nat) (i : Nat)
  | xfld (all : List Nat) (i : Nat) (nm : Str)
  | said (d0 : D) (sd : Nat → List Str → List D → Option D) (e : E)
  | comp2 (own : List Nat) (tg : Tg) (ik : IK) (its : List E) (cond : List E) (own1 : List Nat) (tg1 : Tg) (n : E) (cond1 : List E) (elt : E)

abbrev FS := Ct → Option (RV × Ct)

def datum (Γ : Ct) : RV → Option D
  | .fz d => some d
  | .nw d => some d
  | .sl i => match Γ[i]? with
    | some (some (d, _)) => some d
    | _ => none
/-- the value becomes a plain one -/
def fre (Γ : Ct) : RV → Option (D × Ct)
  | .fz d => some (d, Γ)
  | .nw d => some (d, Γ)
  | .sl i => match Γ[i]? with
    | some (some (d, true)) => some (d, Γ.set i (some (d, false)))
    | some (some (d, false)) => some (d, Γ)
    | _ => none
def fres : List RV → Ct → Option (List D × Ct)
  | [], Γ => some ([], Γ)
  | x :: xs, Γ => (fre Γ x).bind fun (d, Γ1) => (fres xs Γ1).map fun (ds, Γ2) => (d :: ds, Γ2)
def datums (Γ : Ct) : List RV → Option (List D)
  | [] => some []
  | x :: xs => (datum Γ x).bind fun d => (datums Γ xs).map (d :: ·)
/-- an argument's slot for the callee -/
def argS (Γ : Ct) : RV → Option (D × Bool)
  | .fz d => some (d, false)
  | .nw d => some (d, true)
  | .sl i => match Γ[i]? with
    | some (some p) => some p
    | _ => none
def argSs (Γ : Ct) : List RV → Option (List (D × Bool))
  | [] => some []
  | x :: xs => (argS Γ x).bind fun d => (argSs Γ xs).map (d :: ·)
/-- the slots that are handed over -/
def ownIx (Γ : Ct) : List RV → List Nat
  | [] => []
  | .sl i :: xs => match Γ[i]? with
    | some (some (_, true)) => i :: ownIx Γ xs
    | _ => ownIx Γ xs
  | _ :: xs => ownIx Γ xs
def nodupB : List Nat → Bool
  | [] => true
  | x :: xs => !(xs.contains x) && nodupB xs
/-- what comes back at the slots that were handed over -/
def putOuts (Γ0 : Ct) : List RV → Ct → Ct → Ct
  | .sl i :: xs, o :: os, Γ => match Γ0[i]? with
    | some (some (_, true)) => putOuts Γ0 xs os (Γ.set i o)
    | _ => putOuts Γ0 xs os Γ
  | _ :: xs, _ :: os, Γ => putOuts Γ0 xs os Γ
  | _, _, Γ => Γ

/-- values in the parameters' order -/
def permL {α : Type} (p : List Nat) (xs : List α) : List α := p.filterMap fun i => xs[i]?
def permOk (p : List Nat) (n : Nat) : Bool := nodupB p && p.all fun i => decide (i < n)
/-- a call, by its results -/
def callD (F : FS) (xs : List RV) (Γ : Ct) : Option (RV × Ct) := (argSs Γ xs).bind fun as => if nodupB (ownIx Γ xs) then (F (as.map some)).bind fun (r, os) => match r with
      | .sl _ => none
      | r => some (r, putOuts Γ xs os Γ)
    else none
/-- a new object of class c, by its __init__ -/
def mkD (F : FS) (c : Nat) (xs : List RV) (Γ : Ct) : Option (RV × Ct) := (argSs Γ xs).bind fun as => if nodupB (ownIx Γ xs) then (F (some (.obj c [] [], true) :: as.map some)).bind fun (r, os) => match r, os with
      | .fz .non, some (.obj c' ks ds, true) :: os' => some (.nw (.obj c' ks ds), putOuts Γ xs os' Γ)
      | _, _ => none
    else none
/-- the same, of an __init__ that may raise -/
def mkX (F : FS) (c : Nat) (xs : List RV) (Γ : Ct) : Option (RV × Ct) := (argSs Γ xs).bind fun as => if nodupB (ownIx Γ xs) then (F (some (.obj c [] [], true) :: as.map some)).bind fun (r, os) => match r, os with
    | .fz (.exc c' ks ds), _ :: os' => some (.fz (.exc c' ks ds), putOuts Γ xs os' Γ)
    | .fz .non, some (.obj c' ks ds, true) :: os' => some (.nw (.obj c' ks ds), putOuts Γ xs os' Γ)
    | _, _ => none
    else none
def fldL (nm : Str) : List Str → List D → Option D
  | k :: ks, d :: ds => if nm = k then some d else fldL nm ks ds
  | _, _ => none
def xisD (all cs : List Nat) : Sl → Option Bool
  | some (.err c _ _, false) => if all.contains c then some (cs.contains c) else none
  | _ => none
def xfldD (all : List Nat) (nm : Str) : Sl → Option D
  | some (.err c ks ds, false) => if all.contains c then fldL nm ks.reverse ds.reverse else none
  | _ => none
/-- what a def tells of a call that it makes: d0, or what it makes of an error -/
def saidD (d0 : D) (sd : Nat → List Str → List D → Option D) : RV → Option D
  | .fz (.exc c ks ds) => sd c ks ds
  | _ => some d0
def fldD (cs : List Nat) : D → Str → Option D
  | .obj c ks ds, nm => if cs.contains c then fldL nm ks ds else none
  | _, _ => none
def isObj (c : Nat) : D → Bool
  | .obj c' _ _ => c == c'
  | _ => false
/-- isinstance with an own class, among the classes cs -/
def iscD (cs : List Nat) (c : Nat) : D → Option Bool
  | .obj c' _ _ => if cs.contains c' then some (c == c') else none
  | .scr _ => none
  | .dct => none
  | .dic _ _ => none
  | .exc _ _ _ => none
  | .err _ _ _ => none
  | _ => some false
def hasF (nm : Str) : D → Bool
  | .obj _ ks _ => ks.contains nm
  | _ => false
/-- plain data: no objects at the top -/
def plainB : D → Bool
  | .obj _ _ _ => false
  | .scr _ => false
  | .dct => false
  | .dic _ _ => false
  | .exc _ _ _ => false
  | .err _ _ _ => false
  | _ => true
/-- what is asked of the other operand -/
def okO (o : OOp) (c : Nat) (e : D) : Bool := match o with
  | .eq => isObj c e || plainB e
  | .ne => isObj c e || plainB e
  | .add => isObj c e
  | _ => true
/-- what an own operator's answer becomes -/
def postO : OOp → RV → Option RV
  | .eq, .fz (.bl b) => some (.fz (.bl b))
  | .ne, .fz (.bl b) => some (.fz (.bl (!b)))
  | .inn, .fz (.bl b) => some (.fz (.bl b))
  | .notin, .fz (.bl b) => some (.fz (.bl (!b)))
  | .ix, r => some r
  | .add, r => some r
  | _, _ => none
/-- the same operator on plain data -/
def plainO : OOp → D → D → Option RV
  | .eq, d, e => (cmpD .eq d e).map fun b => .fz (.bl b)
  | .ne, d, e => (cmpD .ne d e).map fun b => .fz (.bl b)
  | .inn, d, e => (cmpD .inn d e).map fun b => .fz (.bl b)
  | .notin, d, e => (cmpD .notin d e).map fun b => .fz (.bl b)
  | .ix, d, e => (ixD d e).map .fz
  | .add, d, e => binD .add d e
/-- whose method it is -/
def selfO (o : OOp) (d e : D) : D × D := match o with
  | .inn => (e, d)
  | .notin => (e, d)
  | _ => (d, e)
def asgT : Tg → D → Ct → Option Ct
  | .nm i, d, Γ => if i < Γ.length then some (Γ.set i (some (d, false))) else none
  | .tp ts, .tup ds, Γ => asgTs ts ds Γ
  | _, _, _ => none
where asgTs : List Tg → List D → Ct → Option Ct
  | [], [], Γ => some Γ
  | t :: ts, d :: ds, Γ => (asgT t d Γ).bind fun Γ1 => asgTs ts ds Γ1
  | _, _, _ => none

/-- what is walked -/
def enumD : Nat → List D → List D
  | _, [] => []
  | n, d :: ds => .tup [.int n, d] :: enumD (n + 1) ds
def zipD : List D → List D → List D
  | a :: as, b :: bs => .tup [a, b] :: zipD as bs
  | _, _ => []
def rngD (lo : Int) (c : Int) : Nat → List D
  | 0 => []
  | n + 1 => .int lo :: rngD (lo + c) c n
@[irreducible] def in62 (i : Int) : Bool := decide (i.natAbs.log2 < 62)
def iterD : IK → List RV → Ct → Option (List D × Ct)
  | .seq, [x], Γ => (fre Γ x).bind fun (d, Γ1) => match d with
    | .lst ds => some (ds, Γ1)
    | .tup ds => some (ds, Γ1)
    | _ => none
  | .enum, [x], Γ => (fre Γ x).bind fun (d, Γ1) => match d with
    | .lst ds => some (enumD 0 ds, Γ1)
    | _ => none
  | .zip, [x, y], Γ => (fre Γ x).bind fun (d, Γ1) => (fre Γ1 y).bind fun (e, Γ2) => match d, e with
    | .lst ds, .lst es => some (zipD ds es, Γ2)
    | _, _ => none
  | .rng, xs, Γ => (datums Γ xs).bind fun ds => match ds with
    | [.int b] => if in62 b then some (rngD 0 1 b.toNat, Γ) else none
    | [.int a, .int b] => if in62 a && in62 b then some (rngD a 1 (b - a).toNat, Γ) else none
    | [.int a, .int b, .int c] => if c ≠ 0 ∧ c.natAbs.log2 < 9000 ∧ Builtin.Range.rangeSize a b c = ((Builtin.Range.rangeSize a b c).toNat : Nat) then some (rngD a c (Builtin.Range.rangeSize a b c).toNat, Γ) else none
    | _ => none
  | _, _, _ => none
def wipeG (Γ : Ct) : List Nat → Ct
  | [] => Γ
  | v :: vs => (wipeG Γ vs).set v none
def restG (Γ Γ' : Ct) : List Nat → Ct
  | [] => Γ'
  | v :: vs => (restG Γ Γ' vs).set v (Γ.getD v none)
/-- no owned slot among these -/
def plainIx (Γ : Ct) (vs : List Nat) : Bool := vs.all fun v => match Γ[v]? with
  | some (some (_, true)) => false
  | some _ => true
  | none => false
def testD (Γ : Ct) (x : RV) : Option Bool := (datum Γ x).bind truthD
def compLoop (own : List Nat) (tg : Tg) (ct : Ct → Option (Bool × Ct)) (el : Ct → Option (RV × Ct)) : List D → List D → Ct → Option (List D × Ct)
  | [], acc, Γ => some (acc, Γ)
  | d :: ds, acc, Γ => (asgT tg d Γ).bind fun Γ1 => (ct Γ1).bind fun (b, Γ2) =>
    if b then (el Γ2).bind fun (x, Γ3) => (fre Γ3 x).bind fun (e, Γ4) => if plainIx Γ4 own then compLoop own tg ct el ds (acc ++ [e]) (wipeG Γ4 own) else none
    else if plainIx Γ2 own then compLoop own tg ct el ds acc (wipeG Γ2 own) else none

/-- range(n) -/
def rngI : D → Option (List D)
  | .int k => if in62 k then some (rngD 0 1 k.toNat) else none
  | _ => none
/-- the turns of a comprehension with two fors -/
def compLoop2 (own : List Nat) (tg : Tg) (ct : Ct → Option (Bool × Ct)) (it : Ct → Option (List D × Ct)) (own1 : List Nat) (tg1 : Tg) (ct1 : Ct → Option (Bool × Ct)) (el : Ct → Option (RV × Ct)) : List D → List D → Ct → Option (List D × Ct)
  | [], acc, Γ => some (acc, Γ)
  | d :: ds, acc, Γ => (asgT tg d Γ).bind fun Γ1 => (ct Γ1).bind fun (b, Γ2) =>
    if b then (it Γ2).bind fun (ds1, Γ3) => if plainIx Γ3 own1 && decide (acc.length + ds1.length ≤ sizeLine) then (compLoop own1 tg1 ct1 el ds1 acc (wipeG Γ3 own1)).bind fun (acc2, Γ4) => if plainIx Γ4 own then compLoop2 own tg ct it own1 tg1 ct1 el ds acc2 (wipeG Γ4 own) else none else none
    else if plainIx Γ2 own then compLoop2 own tg ct it own1 tg1 ct1 el ds acc (wipeG Γ2 own) else none

@[irreducible] def lenOk (n : Int) : Bool := decide (0 ≤ n ∧ n < 1000000000)
theorem lenOk_iff {n : Int} : lenOk n = true ↔ 0 ≤ n ∧ n < 1000000000 := by unfold lenOk; exact decide_eq_true_iff
def slO : List D → Option (Option Int)
  | [] => some none
  | [.int i] => some (some i)
  | _ => none
def rnglD : D → D → Option (List D)
  | .int a, .int b => if in62 a && in62 b && decide ((b - a).toNat ≤ 1000000) then some (rngD a 1 (b - a).toNat) else none
  | _, _ => none
def tupOf : D → Option (List D)
  | .tup xs => some xs
  | _ => none
def trueR : Option (RV × Ct) → Bool
  | some (.fz (.bl true), _) => true
  | _ => false
/-- objects of class c, equal one by one by their own == -/
def tneD (F : FS) (c : Nat) : List D → List D → Bool
  | [], [] => true
  | x :: xs, y :: ys => isObj c x && isObj c y && trueR (F [some (x, false), some (y, false)]) && tneD F c xs ys
  | _, _ => false
def revD : D → Option D
  | .lst xs => some (.lst xs.reverse)
  | _ => none
/-- max(xs, default=d), min(xs, default=d) -/
def mxdD (m : Bool) : D → D → Option D
  | .lst xs, d => (intsD xs).bind fun ns => match (if m then maxI ns else minI ns) with
    | some i => some (.int i)
    | none => if flatD d then some d else none
  | _, _ => none
def cntD : D → D → Option D
  | .lst xs, d => if flatD d && xs.all flatD then some (.int ((xs.filter fun y => eqd y d).length : Int)) else none
  | _, _ => none
def isLD : D → Bool
  | .lst _ => true
  | _ => false
def idxD : D → D → Option D
  | .lst xs, d => if flatD d && xs.all flatD then (xs.findIdx? fun y => eqd y d).map fun j => .int (j : Nat) else none
  | _, _ => none
def popD (Γ : Ct) (i : Nat) : Option (D × D) := match Γ[i]? with
  | some (some (.lst xs, true)) => match xs.getLast? with
    | some d => some (d, .lst xs.dropLast)
    | none => none
  | _ => none
def lstOf : D → Option (List D)
  | .lst ds => some ds
  | _ => none
def falseR : Option (RV × Ct) → Bool
  | some (.fz (.bl b), _) => !b
  | _ => false
def nltD : D → Bool
  | .non => true
  | .lst _ => true
  | .tup _ => true
  | _ => false
/-- an item that is not equal to d, by the own == of one of them -/
def nqD (F F2 : FS) (c2 : Nat) (d e : D) : Bool := (nltD e && falseR (F [some (d, false), some (e, false)])) || (isObj c2 e && falseR (F2 [some (e, false), some (d, false)]))
def dgetL : List Int → List D → Int → Option D
  | k :: ks, d :: ds, i => if k = i then some d else dgetL ks ds i
  | _, _, _ => none
def dgetD : D → D → Option D
  | .dic ks ds, .int i => dgetL ks ds i
  | _, _ => none
def dinD : D → D → Option Bool
  | .int i, .dic ks _ => some (ks.contains i)
  | _, _ => none
mutual
def ev (fs : List FS) : E → Ct → Option (RV × Ct)
  | .stuck, _ => none
  | .var i, Γ => match Γ[i]? with
    | some (some _) => some (.sl i, Γ)
    | _ => none
  | .cst d, Γ => some (.fz d, Γ)
  | .bin op a b, Γ => (ev fs a Γ).bind fun (x, Γ1) => (ev fs b Γ1).bind fun (y, Γ2) => (datum Γ2 x).bind fun d => (datum Γ2 y).bind fun e => (binD op d e).map fun r => (r, Γ2)
  | .neg a, Γ => (ev fs a Γ).bind fun (x, Γ1) => (datum Γ1 x).bind fun d => match d with
    | .int i => some (.fz (.int (-i)), Γ1)
    | _ => none
  | .cmp op a b, Γ => (ev fs a Γ).bind fun (x, Γ1) => (ev fs b Γ1).bind fun (y, Γ2) => (datum Γ2 x).bind fun d => (datum Γ2 y).bind fun e => (cmpD op d e).map fun r => (.fz (.bl r), Γ2)
  | .chain o1 o2 a b c, Γ => (ev fs a Γ).bind fun (x, Γ1) => (ev fs b Γ1).bind fun (y, Γ2) => (datum Γ2 x).bind fun d => (datum Γ2 y).bind fun e => (cmpD o1 d e).bind fun r =>
      if r then (ev fs c Γ2).bind fun (z, Γ3) => (datum Γ3 y).bind fun e => (datum Γ3 z).bind fun f => (cmpD o2 e f).map fun r => (.fz (.bl r), Γ3)
      else some (.fz (.bl false), Γ2)
  | .and a b, Γ => (ev fs a Γ).bind fun (x, Γ1) => (testD Γ1 x).bind fun t => if t then ev fs b Γ1 else some (x, Γ1)
  | .or a b, Γ => (ev fs a Γ).bind fun (x, Γ1) => (testD Γ1 x).bind fun t => if t then some (x, Γ1) else ev fs b Γ1
  | .not a, Γ => (ev fs a Γ).bind fun (x, Γ1) => (testD Γ1 x).map fun t => (.fz (.bl (!t)), Γ1)
  | .ite c a b, Γ => (ev fs c Γ).bind fun (x, Γ1) => (testD Γ1 x).bind fun t => if t then ev fs a Γ1 else ev fs b Γ1
  | .lst es, Γ => (evs fs es Γ).bind fun (xs, Γ1) => (fres xs Γ1).bind fun (ds, Γ2) => if ds.length ≤ sizeLine then some (.nw (.lst ds), Γ2) else none
  | .tup es, Γ => (evs fs es Γ).bind fun (xs, Γ1) => (fres xs Γ1).bind fun (ds, Γ2) => if ds.length ≤ sizeLine then some (.fz (.tup ds), Γ2) else none
  | .ix a b, Γ => (ev fs a Γ).bind fun (x, Γ1) => (ev fs b Γ1).bind fun (y, Γ2) => (datum Γ2 x).bind fun d => (datum Γ2 y).bind fun e => (ixD d e).map fun r => (.fz r, Γ2)
  | .slc a lo hi, Γ => (ev fs a Γ).bind fun (x, Γ1) => (evs fs lo Γ1).bind fun (ys, Γ2) => (datums Γ2 ys).bind fun l => (evs fs hi Γ2).bind fun (zs, Γ3) => (datum Γ3 x).bind fun d => (datums Γ3 zs).bind fun h =>
      (slO l).bind fun lo' => (slO h).bind fun hi' => (slcD d lo' hi').map fun r => (r, Γ3)
  | .call k es, Γ => (evs fs es Γ).bind fun (xs, Γ1) => (fs[k]?).bind fun F => (argSs Γ1 xs).bind fun as => if nodupB (ownIx Γ1 xs) then (F (as.map some)).bind fun (r, os) => match r with
      | .sl _ => none
      | r => some (r, putOuts Γ1 xs os Γ1)
    else none
  | .bi b es, Γ => (evs fs es Γ).bind fun (xs, Γ1) => (datums Γ1 xs).bind fun ds => (biD b ds).map fun r => (r, Γ1)
  | .comp own tg ik its cond elt, Γ => (evs fs its Γ).bind fun (xs, Γ1) => (iterD ik xs Γ1).bind fun (ds, Γ2) =>
      if plainIx Γ2 own && decide (ds.length ≤ sizeLine) && (tgIx tg).all (fun i => own.contains i) then
        (compLoop own tg (evc fs cond) (ev fs elt) ds [] (wipeG Γ2 own)).map fun (acc, Γ3) => (.nw (.lst acc), restG Γ2 Γ3 own)
      else none
  | .fld cs a nm, Γ => (ev fs a Γ).bind fun (x, Γ1) => (datum Γ1 x).bind fun d => (fldD cs d nm).map fun r => (.fz r, Γ1)
  | .meth c nm k o es, Γ => (ev fs o Γ).bind fun (x, Γ0) => (fre Γ0 x).bind fun (d, Γ1) => if isObj c d && !(hasF nm d) then (evs fs es Γ1).bind fun (ys, Γ2) => (fs[k]?).bind fun F => callD F (.fz d :: ys) Γ2 else none
  | .mk c k es, Γ => (evs fs es Γ).bind fun (ys, Γ1) => (fs[k]?).bind fun F => mkD F c ys Γ1
  | .own o c k a b, Γ => (ev fs a Γ).bind fun (x, Γ1) => (ev fs b Γ1).bind fun (y, Γ2) => (datum Γ2 x).bind fun d => (datum Γ2 y).bind fun e =>
      if isObj c (selfO o d e).1 then (fre Γ2 x).bind fun (d', Γ3) => (fre Γ3 y).bind fun (e', Γ4) => if isObj c (selfO o d' e').1 && okO o c (selfO o d' e').2 then (fs[k]?).bind fun F => (callD F [.fz (selfO o d' e').1, .fz (selfO o d' e').2] Γ4).bind fun (r, Γ5) => (postO o r).map fun r' => (r', Γ5) else none
      else (plainO o d e).map fun r => (r, Γ2)
  | .lenO c k a, Γ => (ev fs a Γ).bind fun (x, Γ1) => (datum Γ1 x).bind fun d =>
      if isObj c d then (fre Γ1 x).bind fun (_, Γ2) => (fs[k]?).bind fun F => (callD F [.fz d] Γ2).bind fun (r, Γ3) => match r with
        | .fz (.int n) => if lenOk n then some (.fz (.int n), Γ3) else none
        | _ => none
      else (biD .len [d]).map fun r => (r, Γ1)
  | .isc cs c a, Γ => (ev fs a Γ).bind fun (x, Γ1) => (datum Γ1 x).bind fun d => (iscD cs c d).map fun b => (.fz (.bl b), Γ1)
  | .callp k p es, Γ => (evs fs es Γ).bind fun (xs, Γ1) => (fs[k]?).bind fun F => if permOk p xs.length then callD F (permL p xs) Γ1 else none
  | .mkp c k p es, Γ => (evs fs es Γ).bind fun (xs, Γ1) => (fs[k]?).bind fun F => if permOk p xs.length then mkD F c (permL p xs) Γ1 else none
  | .chain3 o1 o2 o3 a b c d, Γ => (ev fs a Γ).bind fun (x, Γ1) => (ev fs b Γ1).bind fun (y, Γ2) => (datum Γ2 x).bind fun dx => (datum Γ2 y).bind fun dy => (cmpD o1 dx dy).bind fun r =>
      if r then (ev fs c Γ2).bind fun (z, Γ3) => (datum Γ3 y).bind fun dy => (datum Γ3 z).bind fun dz => (cmpD o2 dy dz).bind fun r =>
        if r then (ev fs d Γ3).bind fun (u, Γ4) => (datum Γ4 z).bind fun dz => (datum Γ4 u).bind fun du => (cmpD o3 dz du).map fun r => (.fz (.bl r), Γ4)
        else some (.fz (.bl false), Γ3)
      else some (.fz (.bl false), Γ2)
  | .rev a, Γ => (ev fs a Γ).bind fun (x, Γ1) => (datum Γ1 x).bind fun d => (revD d).map fun r => (.nw r, Γ1)
  | .dct, Γ => some (.fz .dct, Γ)
  | .tne c k a b, Γ => (ev fs a Γ).bind fun (x, Γ1) => (ev fs b Γ1).bind fun (y, Γ2) => (datum Γ2 x).bind fun d => (datum Γ2 y).bind fun e => (tupOf d).bind fun ds => (tupOf e).bind fun es => (fs[k]?).bind fun F => if tneD F c ds es then some (.fz (.bl false), Γ2) else none
  | .rngl a b, Γ => (ev fs a Γ).bind fun (x, Γ1) => (ev fs b Γ1).bind fun (y, Γ2) => (datum Γ2 x).bind fun d => (datum Γ2 y).bind fun e => (rnglD d e).map fun ds => (.nw (.lst ds), Γ2)
  | .mxd m a d, Γ => (ev fs a Γ).bind fun (x, Γ1) => (ev fs d Γ1).bind fun (y, Γ2) => (datum Γ2 x).bind fun dx => (datum Γ2 y).bind fun dy => (mxdD m dx dy).map fun r => (.fz r, Γ2)
  | .cnt a b, Γ => (ev fs a Γ).bind fun (x, Γ1) => (datum Γ1 x).bind fun d0 => if isLD d0 then (ev fs b Γ1).bind fun (y, Γ2) => (datum Γ2 x).bind fun dx => (datum Γ2 y).bind fun dy => (cntD dx dy).map fun r => (.fz r, Γ2) else none
  | .pop i, Γ => (popD Γ i).map fun (d, c) => (.fz d, Γ.set i (some (c, true)))
  | .idx a b, Γ => (ev fs a Γ).bind fun (x, Γ1) => (datum Γ1 x).bind fun d0 => if isLD d0 then (ev fs b Γ1).bind fun (y, Γ2) => (datum Γ2 x).bind fun dx => (datum Γ2 y).bind fun dy => (idxD dx dy).map fun r => (.fz r, Γ2) else none
  | .shr a, Γ => (ev fs a Γ).bind fun (x, Γ1) => (fre Γ1 x).map fun (d, Γ2) => (.fz d, Γ2)
  | .inO c k c2 k2 a b, Γ => (ev fs a Γ).bind fun (x, Γ1) => (ev fs b Γ1).bind fun (y, Γ2) => (fre Γ2 x).bind fun (d, Γ3) => (fre Γ3 y).bind fun (e, Γ4) => (lstOf e).bind fun es => (fs[k]?).bind fun F => (fs[k2]?).bind fun F2 => if isObj c d && es.all (nqD F F2 c2 d) then some (.fz (.bl false), Γ4) else none
  | .dget a b, Γ => (ev fs a Γ).bind fun (x, Γ1) => (ev fs b Γ1).bind fun (y, Γ2) => (datum Γ2 x).bind fun d => (datum Γ2 y).bind fun e => (dgetD d e).map fun r => (.fz r, Γ2)
  | .din a b, Γ => (ev fs a Γ).bind fun (x, Γ1) => (ev fs b Γ1).bind fun (y, Γ2) => (datum Γ2 x).bind fun d => (datum Γ2 y).bind fun e => (dinD d e).map fun r => (.fz (.bl r), Γ2)
  | .ownx o c k a b, Γ => (ev fs a Γ).bind fun (x, Γ1) => (ev fs b Γ1).bind fun (y, Γ2) => (fre Γ2 x).bind fun (d, Γ3) => (fre Γ3 y).bind fun (e, Γ4) => if isObj c d && okO o c e then (fs[k]?).bind fun F => callD F [.fz d, .fz e] Γ4 else none
  | .mkx c k es, Γ => (evs fs es Γ).bind fun (ys, Γ1) => (fs[k]?).bind fun F => mkX F c ys Γ1
  | .xis all cs i, Γ => (xisD all cs (Γ.getD i none)).map fun b => (.fz (.bl b), Γ)
  | .xfld all i nm, Γ => (xfldD all nm (Γ.getD i none)).map fun r => (.fz r, Γ)
  | .said d0 sd a, Γ => (ev fs a Γ).bind fun (x, Γ1) => (saidD d0 sd x).map fun d => (.fz d, Γ1)
  | .comp2 own tg ik its cond own1 tg1 n cond1 elt, Γ => (evs fs its Γ).bind fun (xs, Γ1) => (iterD ik xs Γ1).bind fun (ds, Γ2) =>
      if plainIx Γ2 own && (tgIx tg).all (fun i => own.contains i) && (tgIx tg1).all (fun i => own1.contains i) && own1.all (fun i => own.contains i) then
        (compLoop2 own tg (evc fs cond) (fun Γ => (ev fs n Γ).bind fun (x, Γ1) => (datum Γ1 x).bind fun d => (rngI d).map fun ds => (ds, Γ1)) own1 tg1 (evc fs cond1) (ev fs elt) ds [] (wipeG Γ2 own)).map fun (acc, Γ3) => (.nw (.lst acc), restG Γ2 Γ3 own)
      else none
def evs (fs : List FS) : List E → Ct → Option (List RV × Ct)
  | [], Γ => some ([], Γ)
  | e :: es, Γ => (ev fs e Γ).bind fun (x, Γ1) => (evs fs es Γ1).map fun (xs, Γ2) => (x :: xs, Γ2)
def evc (fs : List FS) : List E → Ct → Option (Bool × Ct)
  | [], Γ => some (true, Γ)
  | [e], Γ => (ev fs e Γ).bind fun (x, Γ1) => (testD Γ1 x).map fun t => (t, Γ1)
  | _, _ => none
end

/-! ### statements -/
/-- what is done with the value of a call that may raise -/
inductive XDst where
  | drop | asg (tg : Tg) | asgO (i : Nat) | ret
inductive S where
  | stuck | pass | brk | cont | retN
  | asg (tg : Tg) (e : E)
  | asgO (i : Nat) (e : E)
  | par (is : List (Nat × Bool)) (es : List E)
  | expr (e : E)
  | app (i : Nat) (e : E)
  | ext (i : Nat) (e : E)
  | seti (i : Nat) (k e : E)
  | ret (e : E)
  | ite (c : E) (a b : List S)
  | whl (c : E) (b : List S)
  | for_ (tg : Tg) (ik : IK) (its : List E) (b : List S)
  | setf (c : Nat) (i : Nat) (nm : Str) (e : E)
  | xapp (a : E) (d : D)
  | grow (c i : Nat) (nm : Str) (e0 : E) (tg : Tg) (e1 e2 : E) (k : Nat) (es : List E)
  | rse (c : Nat) (ks : List Str) (es : List E)
  | xex (e : E) (k : XDst)
  | try_ (e : E) (all : List Nat) (i : Nat) (b : List S)
inductive Out where
  | nx (Γ : Ct) | rt (r : RV) (Γ : Ct) | bk (Γ : Ct) | ct (Γ : Ct) | xc (c : Nat) (ks : List Str) (ds : List D) (Γ : Ct)

def disjB (xs ys : List Nat) : Bool := xs.all fun x => !(ys.contains x)
def forLoop (tg : Tg) (body : Ct → Option Out) : List D → Ct → Option Out
  | [], Γ => some (.nx Γ)
  | d :: ds, Γ => (asgT tg d Γ).bind fun Γ1 => (body Γ1).bind fun o => match o with
    | .nx Γ2 => forLoop tg body ds Γ2
    | .ct Γ2 => forLoop tg body ds Γ2
    | .bk Γ2 => some (.nx Γ2)
    | .rt r Γ2 => some (.rt r Γ2)
    | .xc c ks ds Γ2 => some (.xc c ks ds Γ2)
def whlLoop (c : Ct → Option (Bool × Ct)) (body : Ct → Option Out) : Nat → Ct → Option Out
  | 0, _ => none
  | n + 1, Γ => (c Γ).bind fun (b, Γ1) => if b then (body Γ1).bind fun o => match o with
    | .nx Γ2 => whlLoop c body n Γ2
    | .ct Γ2 => whlLoop c body n Γ2
    | .bk Γ2 => some (.nx Γ2)
    | .rt r Γ2 => some (.rt r Γ2)
    | .xc c ks ds Γ2 => some (.xc c ks ds Γ2)
   else some (.nx Γ1)
def fuel : Nat := 1000000000
/-- the values of a parallel assignment, one after another: plain ones, but for new ones that are to be owned; then they are stored -/
def evn (fs : List FS) : List (Nat × Bool) → List E → Ct → Option (List RV × Ct)
  | [], [], Γ => some ([], Γ)
  | (i, b) :: is, e :: es, Γ => (ev fs e Γ).bind fun (x, Γ1) => match b, x with
    | true, .nw d => (evn fs is es Γ1).map fun (ys, Γ2) => (.nw d :: ys, Γ2)
    | _, x => (fre Γ1 x).bind fun (d, Γ2) => (evn fs is es Γ2).map fun (ys, Γ3) => (.fz d :: ys, Γ3)
  | _, _, _ => none
def parS : List (Nat × Bool) → List RV → Ct → Option Ct
  | [], [], Γ => some Γ
  | (i, _) :: is, .nw d :: xs, Γ => if i < Γ.length then parS is xs (Γ.set i (some (d, true))) else none
  | (i, _) :: is, .fz d :: xs, Γ => if i < Γ.length then parS is xs (Γ.set i (some (d, false))) else none
  | _, _, _ => none
def isLst (Γ : Ct) (i : Nat) : Bool := match Γ[i]? with
  | some (some (.lst _, _)) => true
  | _ => false
def appD : D → D → Option D
  | .lst xs, d => if xs.length < sizeLine then some (.lst (xs ++ [d])) else none
  | _, _ => none
def extD : D → D → Option D
  | .lst xs, .lst ys => if xs.length + ys.length ≤ sizeLine then some (.lst (xs ++ ys)) else none
  | _, _ => none
def setD : D → D → D → Option D
  | .lst xs, .int k, d => (ixN xs.length k).map fun j => .lst (xs.set j d)
  | _, _, _ => none
def putL (nm : Str) (d : D) : List Str → List D → List Str × List D
  | k :: ks, x :: xs => if k = nm then (k :: ks, d :: xs) else let r := putL nm d ks xs; (k :: r.1, x :: r.2)
  | _, _ => ([nm], [d])
def putD (c0 : Nat) : D → Str → D → Option D
  | .obj c ks ds, nm, d => if c = c0 ∧ ks.length < 1000 ∧ ks.length = ds.length then some (.obj c (putL nm d ks ds).1 (putL nm d ks ds).2) else none
  | _, _, _ => none
/-- no error in the frame -/
def noG (Γ : Ct) : Bool := Γ.all fun s => match s with
  | some (d, _) => noE d
  | none => true
/-- an exception's fields -/
def excOk (ks : List Str) (ds : List D) : Bool := decide (ks.length = ds.length)
/-- a list in a field grows: its last item goes to a call, whose answer is appended -/
def growLoop (tg : Tg) (F : FS) (el : Ct → Option (List RV × Ct)) : List D → List D → Ct → Option (List D × Ct)
  | [], L, Γ => some (L, Γ)
  | d :: rest, L, Γ => (asgT tg d Γ).bind fun Γ1 => (L.getLast?).bind fun l => (el Γ1).bind fun (ys, Γ2) => (callD F (.fz l :: ys) Γ2).bind fun (r, Γ3) => (fre Γ3 r).bind fun (y, Γ4) => if L.length < sizeLine then growLoop tg F el rest (L ++ [y]) Γ4 else none
mutual
def ex (fs : List FS) (pn : List Nat) : S → Ct → Option Out
  | .stuck, _ => none
  | .pass, Γ => some (.nx Γ)
  | .brk, Γ => some (.bk Γ)
  | .cont, Γ => some (.ct Γ)
  | .retN, Γ => some (.rt (.fz .non) Γ)
  | .asg tg e, Γ => (ev fs e Γ).bind fun (x, Γ1) => (fre Γ1 x).bind fun (d, Γ2) => if disjB (tgIx tg) pn then (asgT tg d Γ2).map .nx else none
  | .asgO i e, Γ => (ev fs e Γ).bind fun (x, Γ1) => match x with
    | .nw d => if i < Γ1.length ∧ disjB [i] pn = true then some (.nx (Γ1.set i (some (d, true)))) else none
    | x => (fre Γ1 x).bind fun (d, Γ2) => if i < Γ2.length ∧ disjB [i] pn = true then some (.nx (Γ2.set i (some (d, false)))) else none
  | .par is es, Γ => if disjB (is.map (·.1)) pn then (evn fs is es Γ).bind fun (ys, Γ2) => (parS is ys Γ2).map .nx else none
  | .expr e, Γ => (ev fs e Γ).map fun (_, Γ1) => .nx Γ1
  | .app i e, Γ => if isLst Γ i then (ev fs e Γ).bind fun (x, Γ1) => (fre Γ1 x).bind fun (d, Γ2) => match Γ2[i]? with
    | some (some (c, true)) => (appD c d).map fun c' => .nx (Γ2.set i (some (c', true)))
    | _ => none
   else none
  | .ext i e, Γ => if isLst Γ i then (ev fs e Γ).bind fun (x, Γ1) => (datum Γ1 x).bind fun d => match Γ1[i]? with
    | some (some (c, true)) => (extD c d).map fun c' => .nx (Γ1.set i (some (c', true)))
    | _ => none
   else none
  | .seti i k e, Γ => (ev fs e Γ).bind fun (x, Γ1) => (fre Γ1 x).bind fun (d, Γ2) => if isLst Γ2 i then (ev fs k Γ2).bind fun (y, Γ3) => (datum Γ3 y).bind fun kd => match Γ3[i]? with
    | some (some (c, true)) => (setD c kd d).map fun c' => .nx (Γ3.set i (some (c', true)))
    | _ => none
   else none
  | .ret e, Γ => (ev fs e Γ).map fun (x, Γ1) => .rt x Γ1
  | .ite c a b, Γ => (ev fs c Γ).bind fun (x, Γ1) => (testD Γ1 x).bind fun t => if t then exs fs pn a Γ1 else exs fs pn b Γ1
  | .whl c b, Γ => whlLoop (fun Γ => (ev fs c Γ).bind fun (x, Γ1) => (testD Γ1 x).map fun t => (t, Γ1)) (exs fs pn b) fuel Γ
  | .for_ tg ik its b, Γ => (evs fs its Γ).bind fun (xs, Γ1) => (iterD ik xs Γ1).bind fun (ds, Γ2) => if disjB (tgIx tg) pn then forLoop tg (exs fs pn b) ds Γ2 else none
  | .setf c0 i nm e, Γ => (ev fs e Γ).bind fun (x, Γ1) => (fre Γ1 x).bind fun (d, Γ2) => match Γ2[i]? with
    | some (some (c, true)) => (putD c0 c nm d).map fun c' => .nx (Γ2.set i (some (c', true)))
    | _ => none
  | .xapp a d, Γ => (ev fs a Γ).bind fun (x, Γ1) => match x with
    | .nw (.lst xs) => if xs.length < sizeLine ∧ flatD d = true then some (.nx Γ1) else none
    | _ => none
  | .grow c i nm e0 tg e1 e2 k es, Γ => (ev fs e0 Γ).bind fun (x, Γ1) => match x, Γ1[i]? with
    | .nw (.lst L0), some (some (.obj c1 ks ds, true)) =>
      if c1 = c ∧ ks.length < 900 ∧ ks.length = ds.length ∧ ks.contains nm = false ∧ disjB (tgIx tg) (i :: pn) = true then
        (evs fs [e1, e2] (Γ1.set i none)).bind fun (xs, Γ2) => (iterD .zip xs Γ2).bind fun (zs, Γ3) => (fs[k]?).bind fun F =>
          (growLoop tg F (evs fs es) zs L0 Γ3).map fun (L, Γ4) => .nx (Γ4.set i (some (.obj c (ks ++ [nm]) (ds ++ [.lst L]), true)))
      else none
    | _, _ => none
  | .rse c ks es, Γ => (evs fs es Γ).bind fun (xs, Γ1) => (fres xs Γ1).bind fun (ds, Γ2) => if excOk ks ds then some (.xc c ks ds Γ2) else none
  | .xex e k, Γ => (ev fs e Γ).bind fun (x, Γ1) => match x with
    | .fz (.exc c ks ds) => some (.xc c ks ds Γ1)
    | x => match k with
      | .drop => some (.nx Γ1)
      | .ret => some (.rt x Γ1)
      | .asg tg => (fre Γ1 x).bind fun (d, Γ2) => if disjB (tgIx tg) pn then (asgT tg d Γ2).map .nx else none
      | .asgO i => match x with
        | .nw d => if i < Γ1.length ∧ disjB [i] pn = true then some (.nx (Γ1.set i (some (d, true)))) else none
        | x => (fre Γ1 x).bind fun (d, Γ2) => if i < Γ2.length ∧ disjB [i] pn = true then some (.nx (Γ2.set i (some (d, false)))) else none
  | .try_ e all i b, Γ => (ev fs e Γ).bind fun (x, Γ1) => match x with
    | .fz (.exc c ks ds) => if all.contains c ∧ disjB [i] pn = true ∧ i < Γ1.length then (exs fs pn b (Γ1.set i (some (.err c ks ds, false)))).bind fun o => match o with
      | .nx Γ2 => if noG (Γ2.set i none) then some (.nx (Γ2.set i none)) else none
      | _ => none
     else none
    | _ => some (.nx Γ1)
def exs (fs : List FS) (pn : List Nat) : List S → Ct → Option Out
  | [], Γ => some (.nx Γ)
  | s :: ss, Γ => (ex fs pn s Γ).bind fun o => match o with
    | .nx Γ1 => exs fs pn ss Γ1
    | o => some o
end
/-- the slots of the arguments that are handed over -/
def ownPs : Nat → Ct → List Nat
  | _, [] => []
  | n, some (_, true) :: r => n :: ownPs (n + 1) r
  | n, _ :: r => ownPs (n + 1) r
/-- what comes back at the arguments -/
def outsOf : Ct → Ct → Ct
  | some (_, true) :: r, x :: xs => x :: outsOf r xs
  | y :: r, _ :: xs => y :: outsOf r xs
  | _, _ => []
def finish (np : Nat) (G0 : Ct) : Out → Option (RV × Ct)
  | .nx Γ => some (.fz .non, outsOf G0 Γ)
  | .rt (.fz d) Γ => some (.fz d, outsOf G0 Γ)
  | .rt (.nw d) Γ => some (.nw d, outsOf G0 Γ)
  | .rt (.sl i) Γ => match Γ[i]? with
    | some (some (d, true)) => if i < np then some (.fz d, outsOf G0 (Γ.set i (some (d, false)))) else some (.nw d, outsOf G0 Γ)
    | some (some (d, false)) => some (.fz d, outsOf G0 Γ)
    | _ => none
  | _ => none
/-- a def: np parameters, n slots -/
def runF (fs : List FS) (np n : Nat) (body : List S) : FS := fun G0 =>
  if G0.length = np then (exs fs (ownPs 0 G0) body (G0 ++ List.replicate (n - np) none)).bind (finish np G0) else none
end DV

namespace DV
open PySem L2

/-! ### results -/
def Val (g : Gx) (Bn : Addr → Prop) (Ow : List Addr) (H : Hp) (σ : St) (Γ : Ct) : RV → V → Prop
  | .fz d, v => Rep g (Av Bn Ow) H d v
  | .nw d, v => ∃ a, v = .ref a ∧ a ∈ Ow ∧ OwnA g (Av Bn Ow) H d a ∧ ∀ (i : Nat) e, Γ[i]? = some (some (e, true)) → σ[i]? ≠ some (some (.ref a))
  | .sl i, v => σ[i]? = some (some v)
def RV.dn : RV → RV
  | .nw d => .fz d
  | r => r
theorem datum_dn (Γ : Ct) (r : RV) : datum Γ r.dn = datum Γ r := by cases r <;> rfl
theorem fre_dn (Γ : Ct) (r : RV) : fre Γ r.dn = fre Γ r := by cases r <;> rfl
/-- a value that can be read: its top may be owned -/
def Rdb (g : Gx) (A : Addr → Prop) (H : Hp) (d : D) (v : V) : Prop :=
  match d with
  | .lst ds => ∃ a vs, v = .ref a ∧ H a = some (.lst vs) ∧ Reps g A H ds vs
  | .obj c ks ds => ∃ a dx vs, v = .ref a ∧ ks.length = vs.length ∧ H a = some (.ins (g.cl c) dx (ks.zip vs)) ∧ Reps g A H ds vs
  | d => Rep g A H d v
section
variable {g : Gx} {Bn : Addr → Prop} {Ow Ow' : List Addr} {H H' : Hp} {σ : St} {Γ Γ' : Ct} {A : Addr → Prop}
theorem Rep.rdb {d : D} {v : V} (h : Rep g A H d v) : Rdb g A H d v := by
  cases d with
  | lst ds => simp only [Rep] at h; obtain ⟨a, vs, e, _, s, r⟩ := h; exact ⟨a, vs, e, s, r⟩
  | obj c ks ds => simp only [Rep] at h; obtain ⟨a, dx, vs, e, _, l, s, r⟩ := h; exact ⟨a, dx, vs, e, l, s, r⟩
  | _ => exact h
theorem OwnA.rdb {d : D} {a : Addr} (h : OwnA g A H d a) : Rdb g A H d (.ref a) := by
  cases d with
  | lst ds => obtain ⟨vs, e, r⟩ := h; exact ⟨a, vs, rfl, e, r⟩
  | obj c ks ds => obtain ⟨dx, vs, l, e, r⟩ := h; exact ⟨a, dx, vs, rfl, l, e, r⟩
  | _ => exact h.elim
theorem Rdb.same {d : D} {v : V} (h : Rdb g A H d v) (s : Same H H') : Rdb g A H' d v := by
  cases d with
  | lst ds => obtain ⟨a, vs, e, s1, r⟩ := h; exact ⟨a, vs, e, s _ _ s1, r.same s⟩
  | obj c ks ds => obtain ⟨a, dx, vs, e, l, s1, r⟩ := h; exact ⟨a, dx, vs, e, l, s _ _ s1, r.same s⟩
  | _ => exact Rep.same h s
theorem ct_get {i : Nat} {p : D × Bool} (h : Γ[i]? = some (some p)) : p = (p.1, p.2) := rfl
theorem Val.rdb {r : RV} {v : V} {d : D} (rs : RS g Bn Ow H σ Γ) (h : Val g Bn Ow H σ Γ r v) (e : datum Γ r = some d) : Rdb g (Av Bn Ow) H d v := by
  cases r with
  | fz x => simp only [datum, Option.some.injEq] at e; subst e; exact Rep.rdb h
  | nw x => simp only [datum, Option.some.injEq] at e; subst e; obtain ⟨a, rfl, _, o, _⟩ := h; exact o.rdb
  | sl i =>
    simp only [datum] at e
    have h : σ[i]? = some (some v) := h
    split at e
    · rename_i x b q
      cases e
      cases b with
      | false => obtain ⟨w, e1, r1⟩ := rs.slot i _ q; rw [h] at e1; cases e1; exact r1.rdb
      | true => obtain ⟨a, e1, _, o⟩ := rs.own i _ q; rw [h] at e1; cases e1; exact o.rdb
    · cases e
/-- pending values over a step -/
theorem Val.step {r : RV} {v : V} (h : Val g Bn Ow H σ Γ r.dn v) (s : Stp Ow H Ow' H') (rs : RS g Bn Ow' H' σ Γ') : Val g Bn Ow' H' σ Γ' r.dn v := by
  cases r with
  | fz x => exact Rep.step h s rs
  | nw x => exact Rep.step h s rs
  | sl i => exact h
/-- fewer owned -/
theorem RS.less (rs : RS g Bn Ow H σ Γ) (k : ∀ a, a ∈ Ow' → a ∈ Ow) (ks : ∀ (i : Nat) d a, Γ[i]? = some (some (d, true)) → σ[i]? = some (some (.ref a)) → a ∈ Ow → a ∈ Ow') : RS g Bn Ow' H σ Γ := by
  have kk : ∀ a, Av Bn Ow' a → Av Bn Ow a := fun a h => h.elim .inl fun z => .inr (k a z)
  refine ⟨rs.len, fun i d h => ?_, fun i d h => ?_, rs.dist, fun a h => rs.trl a (kk a h), fun a h z => rs.sep a h (k a z), fun a h => rs.kf a (kk a h), rs.tabs⟩
  · obtain ⟨v, e, r⟩ := rs.slot i d h; exact ⟨v, e, rep_less kk r⟩
  · obtain ⟨a, e, m, r⟩ := rs.own i d h; exact ⟨a, e, ks i d a h e m, own_less kk r⟩
theorem stp_less (k : ∀ a, a ∈ Ow' → a ∈ Ow) : Stp Ow H Ow' H := ⟨fun _ _ h _ _ => h, fun a h => .inl (k a h)⟩
theorem mem_ne {a b : Addr} (h : a ∈ Ow.filter (fun x => decide (x ≠ b))) : a ∈ Ow ∧ a ≠ b := by
  have := List.mem_filter.mp h
  exact ⟨this.1, of_decide_eq_true this.2⟩
theorem ne_mem {a b : Addr} (h : a ∈ Ow) (n : a ≠ b) : a ∈ Ow.filter (fun x => decide (x ≠ b)) := List.mem_filter.mpr ⟨h, decide_eq_true n⟩
/-- a value becomes a plain one -/
theorem fre_ok {r : RV} {v : V} {d : D} (rs : RS g Bn Ow H σ Γ) (h : Val g Bn Ow H σ Γ r v) (e : fre Γ r = some (d, Γ')) : ∃ Ow', Stp Ow H Ow' H ∧ RS g Bn Ow' H σ Γ' ∧ Rep g (Av Bn Ow') H d v := by
  cases r with
  | fz x => simp only [fre, Option.some.injEq, Prod.mk.injEq] at e; obtain ⟨rfl, rfl⟩ := e; exact ⟨Ow, .refl _ _, rs, h⟩
  | nw x =>
    simp only [fre, Option.some.injEq, Prod.mk.injEq] at e; obtain ⟨rfl, rfl⟩ := e
    obtain ⟨a, rfl, m, o, no⟩ := h
    have kk : ∀ b, b ∈ Ow.filter (fun x => decide (x ≠ a)) → b ∈ Ow := fun b z => (mem_ne z).1
    refine ⟨Ow.filter (fun x => decide (x ≠ a)), stp_less kk, rs.less kk (fun i d b q1 q2 q3 => ne_mem q3 fun z => ?_), (own_less (fun b z => z.elim .inl fun z => .inr (kk b z)) o).rep fun z => ?_⟩
    · subst z; exact no i d q1 q2
    · rcases z with z | z
      · exact rs.sep a z m
      · exact (mem_ne z).2 rfl
  | sl i =>
    simp only [fre] at e
    have h : σ[i]? = some (some v) := h
    split at e
    · rename_i x q
      simp only [Option.some.injEq, Prod.mk.injEq] at e; obtain ⟨rfl, rfl⟩ := e
      obtain ⟨a, e1, m, o⟩ := rs.own i _ q
      rw [h] at e1; cases e1
      have kk : ∀ b, b ∈ Ow.filter (fun x => decide (x ≠ a)) → b ∈ Ow := fun b z => (mem_ne z).1
      have ka : ∀ b, Av Bn (Ow.filter (fun x => decide (x ≠ a))) b → Av Bn Ow b := fun b z => z.elim .inl fun z => .inr (kk b z)
      have hil : i < Γ.length := (List.getElem?_eq_some_iff.mp q).1
      have rp : Rep g (Av Bn (Ow.filter (fun x => decide (x ≠ a)))) H x (.ref a) := (own_less ka o).rep fun z => by
        rcases z with z | z
        · exact rs.sep a z m
        · exact (mem_ne z).2 rfl
      refine ⟨Ow.filter (fun x => decide (x ≠ a)), stp_less kk, ⟨by rw [List.length_set]; exact rs.len, fun j d' h' => ?_, fun j d' h' => ?_, fun j k d1 d2 b h1 h2 h3 h4 => ?_, fun b z => rs.trl b (ka b z), fun b z w => rs.sep b z (kk b w), fun b z => rs.kf b (ka b z), rs.tabs⟩, rp⟩
      · by_cases hj : i = j
        · subst hj
          rw [List.getElem?_set_self hil] at h'
          cases h'
          exact ⟨_, h, rp⟩
        · rw [List.getElem?_set_ne hj] at h'
          obtain ⟨w, e2, r2⟩ := rs.slot j d' h'
          exact ⟨w, e2, rep_less ka r2⟩
      · by_cases hj : i = j
        · subst hj
          rw [List.getElem?_set_self hil] at h'
          cases h'
        · rw [List.getElem?_set_ne hj] at h'
          obtain ⟨b, e2, m2, r2⟩ := rs.own j d' h'
          exact ⟨b, e2, ne_mem m2 fun z => hj (by subst z; exact rs.dist i j _ _ _ q h' h e2), own_less ka r2⟩
      · have ne1 : i ≠ j := fun z => by subst z; rw [List.getElem?_set_self hil] at h1; cases h1
        have ne2 : i ≠ k := fun z => by subst z; rw [List.getElem?_set_self hil] at h2; cases h2
        rw [List.getElem?_set_ne ne1] at h1
        rw [List.getElem?_set_ne ne2] at h2
        exact rs.dist j k _ _ _ h1 h2 h3 h4
    · rename_i x q
      simp only [Option.some.injEq, Prod.mk.injEq] at e; obtain ⟨rfl, rfl⟩ := e
      obtain ⟨w, e1, r1⟩ := rs.slot i _ q
      rw [h] at e1; cases e1
      exact ⟨Ow, .refl _ _, rs, r1⟩
    · cases e
theorem dn_ok {r : RV} {v : V} (rs : RS g Bn Ow H σ Γ) (h : Val g Bn Ow H σ Γ r v) : ∃ Ow', Stp Ow H Ow' H ∧ RS g Bn Ow' H σ Γ ∧ Val g Bn Ow' H σ Γ r.dn v := by
  cases r with
  | fz x => exact ⟨Ow, .refl _ _, rs, h⟩
  | sl i => exact ⟨Ow, .refl _ _, rs, h⟩
  | nw x => exact fre_ok rs h rfl
/-- a new object is laid, and owned -/
theorem RS.add {p : Addr} (rs : RS g Bn Ow H σ Γ) (s : Same H H') (np : H p = none) (hp : LI H' p) (hk : g.K.lookup p = none) : RS g Bn (p :: Ow) H' σ Γ := by
  have vs : ∀ a, Vst g (Av Bn Ow) H a → (∀ o, H a = some o → nT o → H' a = some o) ∧ ¬ Av Bn (p :: Ow) a := fun a ⟨n, t⟩ => by
    refine ⟨fun o h _ => s a o h, fun z => ?_⟩
    rcases z with z | z
    · exact n (.inl z)
    · rcases List.mem_cons.mp z with z | z
      · subst z
        rcases t with ⟨o, t, _⟩ | ⟨o, t⟩
        · rw [np] at t; cases t
        · rw [hk] at t; cases t
      · exact n (.inr z)
  refine ⟨rs.len, fun i d h => ?_, fun i d h => ?_, rs.dist, fun a h => ?_, fun a h z => ?_, fun a h => ?_, fun q hq => (rs.tabs q hq).ext s⟩
  · obtain ⟨v, e, r⟩ := rs.slot i d h; exact ⟨v, e, rep_mono vs d v r⟩
  · obtain ⟨a, e, m, r⟩ := rs.own i d h
    refine ⟨a, e, List.mem_cons_of_mem _ m, ?_⟩
    cases d with
    | lst ds => obtain ⟨ws, e1, r1⟩ := r; exact ⟨ws, s _ _ e1, reps_mono vs _ _ r1⟩
    | obj c ks ds => obtain ⟨dx, ws, l, e1, r1⟩ := r; exact ⟨dx, ws, l, s _ _ e1, reps_mono vs _ _ r1⟩
    | _ => exact r
  · rcases h with h | h
    · exact (rs.trl a (.inl h)).same s
    · rcases List.mem_cons.mp h with h | h
      · subst h; exact hp
      · exact (rs.trl a (.inr h)).same s
  · rcases List.mem_cons.mp z with z | z
    · subst z; exact rs.trk a (.inl h) np
    · exact rs.sep a h z
  · rcases h with h | h
    · exact rs.kf a (.inl h)
    · rcases List.mem_cons.mp h with h | h
      · subst h; exact hk
      · exact rs.kf a (.inr h)
theorem stp_add {p : Addr} (s : Same H H') (np : H p = none) : Stp Ow H (p :: Ow) H' where
  keep0 := fun a o h _ _ => s a o h
  grow := fun a h => by
    rcases List.mem_cons.mp h with h | h
    · subst h; exact .inr (nw_none np)
    · exact .inl h
theorem same_new {p : Addr} {o : HO} (h : H p = none) : Same H (upd H p o) := fun b x e => by
  rw [upd_ne (ne_of_none e h)]
  exact e
/-- the result of an operation that lays at most one object -/
def Res (g : Gx) (A : Addr → Prop) (H H' : Hp) : RV → V → Prop
  | .fz d, v => Rep g A H' d v
  | .nw d, v => ∃ p, v = .ref p ∧ H p = none ∧ g.K.lookup p = none ∧ OwnA g (fun a => A a ∨ a = p) H' d p
  | .sl _, _ => False
theorem Res.val {r : RV} {v : V} (rs : RS g Bn Ow H σ Γ) (s : Same H H') (h : Res g (Av Bn Ow) H H' r v) :
    ∃ Ow', Stp Ow H Ow' H' ∧ RS g Bn Ow' H' σ Γ ∧ Val g Bn Ow' H' σ Γ r v := by
  cases r with
  | fz d => exact ⟨Ow, Stp.same s, rs.same s, h⟩
  | sl i => exact h.elim
  | nw d =>
    obtain ⟨p, rfl, np, hk, o⟩ := h
    have hp : LI H' p := by
      cases d with
      | lst ds => obtain ⟨ws, e1, _⟩ := o; exact .inl ⟨_, e1⟩
      | obj c ks ds => obtain ⟨dx, ws, l, e1, _⟩ := o; exact .inr ⟨_, _, _, e1⟩
      | _ => exact o.elim
    refine ⟨p :: Ow, stp_add s np, rs.add s np hp hk, p, rfl, List.mem_cons_self, own_less (fun a z => ?_) o, fun i e h1 h2 => ?_⟩
    · rcases z with z | z
      · exact .inl (.inl z)
      · rcases List.mem_cons.mp z with z | z
        · exact .inr z
        · exact .inl (.inr z)
    · obtain ⟨a, e2, m, _⟩ := rs.own i e h1
      rw [h2] at e2; cases e2
      exact rs.trk p (.inr m) np
end

/-! ### rules, weakened and with what the state says -/
section
variable {X : Cx}
theorem Inv.kf {pins : List (Addr × Obj)} {σ : St} {H : Hp} {s : Shared} (I : Inv X pins σ H s) : ∀ a o, X.K.lookup a = some o → H a = none := fun a o e => (I.bs a o (I.ok.mod.kin a o e)).2
theorem PE.weak {e : Expr} {t t' : TE} (h : PE X e t) (k : ∀ σ H Q, t' σ H Q → t σ H Q) : PE X e t' := ⟨fun pins s σ H Q I q => h.run pins s σ H Q I (k σ H Q q)⟩
theorem PE.kf {e : Expr} {t : TE} (h : PE X e t) : PE X e (fun σ H Q => t σ H fun v H' => (∀ a o, X.K.lookup a = some o → H' a = none) → Q v H') :=
  ⟨fun pins s σ H Q I q => thn (h.run pins s σ H _ I q) fun u s1 ⟨v, H1, I1, r, q1⟩ => ⟨v, H1, I1, r, q1 (Inv.kf I1)⟩⟩
theorem PT.weak {e : Expr} {t t' : TT} (h : PT X e t) (k : ∀ σ H Q, t' σ H Q → t σ H Q) : PT X e t' := ⟨fun pins s σ H Q I q => h.run pins s σ H Q I (k σ H Q q)⟩
theorem PA.weak {e : List Expr} {t t' : TA} (h : PA X e t) (k : ∀ σ H Q, t' σ H Q → t σ H Q) : PA X e t' := ⟨fun p pins s σ H Q I q => h.run p pins s σ H Q I (k σ H Q q)⟩
theorem OpR.weak {f : Value → Value → Sem Value} {r r' : R2} (h : OpR X f r) (k : ∀ x y H Q, r' x y H Q → r x y H Q) : OpR X f r' := fun pins s σ H x y v u Q I rx ry q => h pins s σ H x y v u Q I rx ry (k x y H Q q)
theorem OpR.kf {f : Value → Value → Sem Value} {r : R2} (h : OpR X f r) : OpR X f (fun x y H Q => r x y H fun v H' => (∀ a o, X.K.lookup a = some o → H' a = none) → Q v H') := fun pins s σ H x y v u Q I rx ry q =>
  thn (h pins s σ H x y v u _ I rx ry q) fun u s1 ⟨v, H1, I1, r, q1⟩ => ⟨v, H1, I1, r, q1 (Inv.kf I1)⟩
theorem CallR.weak {f : Value} {r r' : List V → Hp → VK → Prop} (h : CallR X f r) (k : ∀ x H Q, r' x H Q → r x H Q) : CallR X f r' := fun pins s σ H x v Q I rx q => h pins s σ H x v Q I rx (k x H Q q)
theorem CallR.kf {f : Value} {r : List V → Hp → VK → Prop} (h : CallR X f r) : CallR X f (fun x H Q => r x H fun v H' => (∀ a o, X.K.lookup a = some o → H' a = none) → Q v H') := fun pins s σ H x v Q I rx q =>
  thn (h pins s σ H x v _ I rx q) fun u s1 ⟨v, H1, I1, r, q1⟩ => ⟨v, H1, I1, r, q1 (Inv.kf I1)⟩
theorem kf_new {K : PySem.W.Frag} {H : Hp} {p : Addr} {o : HO} (kf : ∀ a o, K.lookup a = some o → H a = none) (h : H p = some o) : K.lookup p = none := by
  cases e : K.lookup p with
  | none => rfl
  | some x => rw [kf p x e] at h; cases h
theorem IxR.weak {r r' : R2} (h : IxR X r) (k : ∀ x y H Q, r' x y H Q → r x y H Q) : IxR X r' := fun a b pins s σ H x y v u Q I rx ry q => h a b pins s σ H x y v u Q I rx ry (k x y H Q q)
end
end DV

namespace DV
open PySem L2
/-! ### equality of data -/
mutual
def toPy : D → PyData
  | .non => .none
  | .bl b => .bool b
  | .int i => .int i
  | .str x => .str x
  | .lst ds => .list (toPys ds)
  | .tup ds => .tuple (toPys ds)
  | .obj _ _ _ => .none
  | .scr _ => .none
  | .dct => .none
  | .dic _ _ => .none
  | .exc _ _ _ => .none
  | .err _ _ _ => .none
def toPys : List D → List PyData
  | [] => []
  | d :: ds => toPy d :: toPys ds
end
theorem okB_lst {n : Nat} {ds : List D} (h : okB n (.lst ds) = true) : ∃ m, n = m + 1 ∧ ds.all (okB m) = true := by
  cases n with
  | zero => simp [okB] at h
  | succ m => exact ⟨m, rfl, by simpa only [okB] using h⟩
theorem okB_tup {n : Nat} {ds : List D} (h : okB n (.tup ds) = true) : ∃ m, n = m + 1 ∧ ds.all (okB m) = true := by
  cases n with
  | zero => simp [okB] at h
  | succ m => exact ⟨m, rfl, by simpa only [okB] using h⟩
theorem okB_obj {n : Nat} {c : Nat} {ks : List Str} {ds : List D} : okB n (.obj c ks ds) = false := by cases n <;> rfl
theorem okB_scr {n : Nat} {ns : List Int} : okB n (.scr ns) = false := by cases n <;> rfl
theorem okB_dct {n : Nat} : okB n .dct = false := by cases n <;> rfl
theorem okB_dic {n : Nat} {ks : List Int} {ds : List D} : okB n (.dic ks ds) = false := by cases n <;> rfl
theorem okB_exc {n : Nat} {c : Nat} {ks : List Str} {ds : List D} : okB n (.exc c ks ds) = false := by cases n <;> rfl
theorem okB_err {n : Nat} {c : Nat} {ks : List Str} {ds : List D} : okB n (.err c ks ds) = false := by cases n <;> rfl
mutual
theorem py_lay : ∀ (d : D) (n : Nat), okB n d = true → PyData.canLay0 (toPy d) = true ∧ PyData.depth (toPy d) ≤ n
  | .non, n, h => ⟨rfl, Nat.zero_le _⟩
  | .bl _, n, h => ⟨rfl, Nat.zero_le _⟩
  | .int _, n, h => ⟨rfl, Nat.zero_le _⟩
  | .str x, n, h => by
    have h' : PyData.strOk x = true := by cases n <;> simpa only [okB] using h
    exact ⟨h', Nat.zero_le _⟩
  | .lst ds, n, h => by
    obtain ⟨m, rfl, h⟩ := okB_lst h
    have q := pys_lay ds m h
    exact ⟨by simpa only [toPy, PyData.canLay0] using q.1, by simp only [toPy, PyData.depth]; omega⟩
  | .tup ds, n, h => by
    obtain ⟨m, rfl, h⟩ := okB_tup h
    have q := pys_lay ds m h
    exact ⟨by simpa only [toPy, PyData.canLay0] using q.1, by simp only [toPy, PyData.depth]; omega⟩
  | .obj _ _ _, n, h => by rw [okB_obj] at h; cases h
  | .scr _, n, h => by rw [okB_scr] at h; cases h
  | .dct, n, h => by rw [okB_dct] at h; cases h
  | .dic _ _, n, h => by rw [okB_dic] at h; cases h
  | .exc _ _ _, n, h => by rw [okB_exc] at h; cases h
  | .err _ _ _, n, h => by rw [okB_err] at h; cases h
theorem pys_lay : ∀ (ds : List D) (n : Nat), ds.all (okB n) = true → PyData.canLayAll0 (toPys ds) = true ∧ PyData.depthAll (toPys ds) ≤ n
  | [], n, h => ⟨rfl, Nat.zero_le _⟩
  | d :: ds, n, h => by
    rw [List.all_cons, Bool.and_eq_true] at h
    have q1 := py_lay d n h.1
    have q2 := pys_lay ds n h.2
    refine ⟨by simp only [toPys, PyData.canLayAll0, q1.1, q2.1]; rfl, ?_⟩
    simp only [toPys, PyData.depthAll]
    omega
end
theorem py_shaped {d : D} (h : okB 12 d = true) : SeqAt.shaped (toPy d) = true := by
  have q := py_lay d 12 h
  unfold SeqAt.shaped
  rw [q.1, decide_eq_true (show PyData.depth (toPy d) ≤ 64 by omega)]
  rfl
mutual
theorem py_eqv : ∀ (d e : D) (n m : Nat), okB n d = true → okB m e = true → PyData.eqv (toPy d) (toPy e) = eqd d e
  | .lst xs, e, n, m, h, h' => by
    obtain ⟨k, rfl, h⟩ := okB_lst h
    cases e with
    | lst ys =>
      obtain ⟨k', rfl, h'⟩ := okB_lst h'
      simp only [toPy, PyData.eqv, eqd]
      exact pys_eqv xs ys k k' h h'
    | obj => rw [okB_obj] at h'; cases h'
    | scr => rw [okB_scr] at h'; cases h'
    | dct => rw [okB_dct] at h'; cases h'
    | dic _ _ => rw [okB_dic] at h'; cases h'
    | exc _ _ _ => rw [okB_exc] at h'; cases h'
    | err _ _ _ => rw [okB_err] at h'; cases h'
    | _ => simp only [toPy, PyData.eqv, eqd]
  | .tup xs, e, n, m, h, h' => by
    obtain ⟨k, rfl, h⟩ := okB_tup h
    cases e with
    | tup ys =>
      obtain ⟨k', rfl, h'⟩ := okB_tup h'
      simp only [toPy, PyData.eqv, eqd]
      exact pys_eqv xs ys k k' h h'
    | obj => rw [okB_obj] at h'; cases h'
    | scr => rw [okB_scr] at h'; cases h'
    | dct => rw [okB_dct] at h'; cases h'
    | dic _ _ => rw [okB_dic] at h'; cases h'
    | exc _ _ _ => rw [okB_exc] at h'; cases h'
    | err _ _ _ => rw [okB_err] at h'; cases h'
    | _ => simp only [toPy, PyData.eqv, eqd]
  | .non, e, n, m, h, h' => by
    cases e with
    | obj => rw [okB_obj] at h'; cases h'
    | scr => rw [okB_scr] at h'; cases h'
    | dct => rw [okB_dct] at h'; cases h'
    | dic _ _ => rw [okB_dic] at h'; cases h'
    | exc _ _ _ => rw [okB_exc] at h'; cases h'
    | err _ _ _ => rw [okB_err] at h'; cases h'
    | _ => simp only [toPy, PyData.eqv, eqd]
  | .bl _, e, n, m, h, h' => by
    cases e with
    | obj => rw [okB_obj] at h'; cases h'
    | scr => rw [okB_scr] at h'; cases h'
    | dct => rw [okB_dct] at h'; cases h'
    | dic _ _ => rw [okB_dic] at h'; cases h'
    | exc _ _ _ => rw [okB_exc] at h'; cases h'
    | err _ _ _ => rw [okB_err] at h'; cases h'
    | _ => simp only [toPy, PyData.eqv, eqd]
  | .int _, e, n, m, h, h' => by
    cases e with
    | obj => rw [okB_obj] at h'; cases h'
    | scr => rw [okB_scr] at h'; cases h'
    | dct => rw [okB_dct] at h'; cases h'
    | dic _ _ => rw [okB_dic] at h'; cases h'
    | exc _ _ _ => rw [okB_exc] at h'; cases h'
    | err _ _ _ => rw [okB_err] at h'; cases h'
    | _ => simp only [toPy, PyData.eqv, eqd]
  | .str _, e, n, m, h, h' => by
    cases e with
    | obj => rw [okB_obj] at h'; cases h'
    | scr => rw [okB_scr] at h'; cases h'
    | dct => rw [okB_dct] at h'; cases h'
    | dic _ _ => rw [okB_dic] at h'; cases h'
    | exc _ _ _ => rw [okB_exc] at h'; cases h'
    | err _ _ _ => rw [okB_err] at h'; cases h'
    | _ => simp only [toPy, PyData.eqv, eqd]
  | .obj _ _ _, e, n, m, h, h' => by rw [okB_obj] at h; cases h
  | .scr _, e, n, m, h, h' => by rw [okB_scr] at h; cases h
  | .dct, e, n, m, h, h' => by rw [okB_dct] at h; cases h
  | .dic _ _, e, n, m, h, h' => by rw [okB_dic] at h; cases h
  | .exc _ _ _, e, n, m, h, h' => by rw [okB_exc] at h; cases h
  | .err _ _ _, e, n, m, h, h' => by rw [okB_err] at h; cases h
theorem pys_eqv : ∀ (xs ys : List D) (n m : Nat), xs.all (okB n) = true → ys.all (okB m) = true → PyData.eqvAll (toPys xs) (toPys ys) = eqds xs ys
  | [], ys, n, m, h, h' => by cases ys <;> simp only [toPys, PyData.eqvAll, eqds]
  | x :: xs, ys, n, m, h, h' => by
    cases ys with
    | nil => simp only [toPys, PyData.eqvAll, eqds]
    | cons y ys =>
      rw [List.all_cons, Bool.and_eq_true] at h h'
      simp only [toPys, PyData.eqvAll, eqds]
      rw [py_eqv x y n m h.1 h'.1, pys_eqv xs ys n m h.2 h'.2]
end
section
variable {g : Gx} {A : Addr → Prop} {H : Hp}
mutual
theorem rep_dp : ∀ (d : D) (n : Nat) (v : V), okB n d = true → Rep g A H d v → Dp g.K H v (toPy d)
  | .non, n, v, _, h => by simp only [Rep] at h; subst h; exact .non
  | .bl b, n, v, _, h => by simp only [Rep] at h; subst h; exact .bl b
  | .int b, n, v, _, h => by simp only [Rep] at h; subst h; exact .int b
  | .str b, n, v, _, h => by simp only [Rep] at h; subst h; exact .str b
  | .lst ds, n, v, k, h => by
    obtain ⟨m, rfl, k⟩ := okB_lst k
    simp only [Rep] at h
    obtain ⟨a, vs, rfl, _, s, r⟩ := h
    exact .lst (.inl (.inl s)) (reps_dp ds m vs k r)
  | .tup ds, n, v, k, h => by
    obtain ⟨m, rfl, k⟩ := okB_tup k
    simp only [Rep] at h
    obtain ⟨a, vs, rfl, _, s, r⟩ := h
    exact .tup s (reps_dp ds m vs k r)
  | .obj _ _ _, n, v, k, _ => by rw [okB_obj] at k; cases k
  | .scr _, n, v, k, _ => by rw [okB_scr] at k; cases k
  | .dct, n, v, k, _ => by rw [okB_dct] at k; cases k
  | .dic _ _, n, v, k, _ => by rw [okB_dic] at k; cases k
  | .exc _ _ _, n, v, k, _ => by rw [okB_exc] at k; cases k
  | .err _ _ _, n, v, k, _ => by rw [okB_err] at k; cases k
theorem reps_dp : ∀ (ds : List D) (n : Nat) (vs : List V), ds.all (okB n) = true → Reps g A H ds vs → DpAll g.K H vs (toPys ds)
  | [], n, vs, _, h => by simp only [Reps] at h; subst h; exact .nil
  | d :: ds, n, vs, k, h => by
    rw [List.all_cons, Bool.and_eq_true] at k
    simp only [Reps] at h
    obtain ⟨v, r, rfl, h1, h2⟩ := h
    exact .cons (rep_dp d n v k.1 h1) (reps_dp ds n r k.2 h2)
end
theorem rdb_dp {d : D} {n : Nat} {v : V} (k : okB n d = true) (h : Rdb g A H d v) : Dp g.K H v (toPy d) := by
  cases d with
  | lst ds =>
    obtain ⟨m, rfl, k⟩ := okB_lst k
    obtain ⟨a, vs, rfl, s, r⟩ := h
    exact .lst (.inl (.inl s)) (reps_dp ds m vs k r)
  | obj => rw [okB_obj] at k; cases k
  | scr => rw [okB_scr] at k; cases k
  | dct => rw [okB_dct] at k; cases k
  | dic _ _ => rw [okB_dic] at k; cases k
  | exc _ _ _ => rw [okB_exc] at k; cases k
  | err _ _ _ => rw [okB_err] at k; cases k
  | non => exact rep_dp (A := A) _ n v k h
  | bl => exact rep_dp (A := A) _ n v k h
  | int => exact rep_dp (A := A) _ n v k h
  | str => exact rep_dp (A := A) _ n v k h
  | tup => exact rep_dp (A := A) _ n v k h
theorem rdb_int {i : Int} {v : V} (h : Rdb g A H (.int i) v) : v = .int i := by simpa only [Rdb, Rep] using h
theorem rdb_str {i : Str} {v : V} (h : Rdb g A H (.str i) v) : v = .str i := by simpa only [Rdb, Rep] using h
theorem rdb_bl {i : Bool} {v : V} (h : Rdb g A H (.bl i) v) : v = .bl i := by simpa only [Rdb, Rep] using h
theorem rdb_non {v : V} (h : Rdb g A H .non v) : v = .non := by simpa only [Rdb, Rep] using h
theorem rdb_tup {ds : List D} {v : V} (h : Rdb g A H (.tup ds) v) : ∃ a vs, v = .ref a ∧ ¬ A a ∧ SqT g.K H a vs ∧ Reps g A H ds vs := by simpa only [Rdb, Rep] using h
theorem rdb_dct {v : V} (h : Rdb g A H .dct v) : ∃ a, v = .ref a ∧ ¬ A a ∧ H a = some (.dK []) := by simpa only [Rdb, Rep] using h
theorem rdb_dic {ks : List Int} {ds : List D} {v : V} (h : Rdb g A H (.dic ks ds) v) : ∃ a vs, v = .ref a ∧ ¬ A a ∧ ks.length = vs.length ∧ H a = some (.dK (dkV ks vs)) ∧ Reps g A H ds vs := by simpa only [Rdb, Rep] using h
theorem rdb_scr {ns : List Int} {v : V} (h : Rdb g A H (.scr ns) v) : ∃ a, v = .ref a ∧ ¬ A a ∧ SqL g.K H a (ns.map V.int) := by simpa only [Rdb, Rep] using h
/-- flat data and flat values -/
theorem flat_rep : ∀ {d : D} {v : V}, flatD d = true → Rep g A H d v → flatV v = true ∧ ∀ {e : D} {w : V}, flatD e = true → Rep g A H e w → eqV v w = eqd d e := by
  intro d v hd h
  cases d with
  | non => simp only [Rep] at h; subst h; exact ⟨rfl, fun {e w} he q => by cases e <;> first | (simp only [Rep] at q; subst q; rfl) | (simp [flatD] at he)⟩
  | bl b => simp only [Rep] at h; subst h; exact ⟨rfl, fun {e w} he q => by cases e <;> first | (simp only [Rep] at q; subst q; rfl) | (simp [flatD] at he)⟩
  | int b => simp only [Rep] at h; subst h; exact ⟨rfl, fun {e w} he q => by cases e <;> first | (simp only [Rep] at q; subst q; rfl) | (simp [flatD] at he)⟩
  | str b => simp only [Rep] at h; subst h; exact ⟨rfl, fun {e w} he q => by cases e <;> first | (simp only [Rep] at q; subst q; rfl) | (simp [flatD] at he)⟩
  | _ => simp [flatD] at hd
theorem flat_reps : ∀ {ds : List D} {vs : List V} {e : D} {w : V}, ds.all flatD = true → Reps g A H ds vs → flatD e = true → Rep g A H e w → vs.all flatV = true ∧ inV w vs = ds.any fun y => eqd y e
  | [], _, _, _, _, h, _, _ => by simp only [Reps] at h; subst h; exact ⟨rfl, rfl⟩
  | d :: ds, _, e, w, k, h, ke, he => by
    rw [List.all_cons, Bool.and_eq_true] at k
    simp only [Reps] at h
    obtain ⟨v, r, rfl, h1, h2⟩ := h
    have q1 := flat_rep k.1 h1
    have q2 := flat_reps k.2 h2 ke he
    refine ⟨by rw [List.all_cons, q1.1, q2.1]; rfl, ?_⟩
    have q3 : (r.any fun y => eqV y w) = ds.any fun y => eqd y e := q2.2
    show ((v :: r).any fun y => eqV y w) = _
    rw [List.any_cons, List.any_cons, q1.2 ke he, q3]
theorem rdb_flat {d : D} {v : V} (k : flatD d = true) (h : Rdb g A H d v) : Rep g A H d v := by
  cases d <;> first | exact h | (simp [flatD] at k)
end

/-! ### the operators -/
def CPowB (i j : Int) : Prop := 0 ≤ j ∧ (Builtin.Int.intBits i : Int) * j ≤ 2 ^ 27
theorem op_powB {X : Cx} : OpR X (binaryOp .Pow) (rI CPowB fun i j => .int (i ^ j.toNat)) := opI fun _ _ _ _ _ _ _ hc q => PyProof.Rows.pow_int hc.1 hc.2 q
/-- what an operation on data asks and gives -/
def rBin (g : Gx) (op : BOp) : R2 := fun x y H Q => ∃ A d e r, Rdb g A H d x ∧ Rdb g A H e y ∧ (∀ a, A a → H a ≠ none) ∧ binD op d e = some r ∧ ∀ v H', Same H H' → Res g A H H' r v → Q v H'
def opOf : BOp → Operator
  | .add => .Add | .sub => .Sub | .mul => .Mult | .fdiv => .FloorDiv | .mod => .Mod | .pow => .Pow
section
variable {X : Cx} {g : Gx}
theorem same_rfl (H : Hp) : Same H H := fun _ _ h => h
theorem new_lst {A : Addr → Prop} {H : Hp} {p : Addr} {ds : List D} {vs : List V} (np : H p = none) (hk : g.K.lookup p = none) (r : Reps g A H ds vs) : Res g A H (upd H p (.lst vs)) (.nw (.lst ds)) (.ref p) := by
  refine ⟨p, rfl, np, hk, vs, upd_same, reps_mono (fun a ⟨n, t⟩ => ⟨fun o h _ => same_new np a o h, fun z => ?_⟩) _ _ r⟩
  rcases z with z | z
  · exact n z
  · subst z
    rcases t with ⟨o, t, _⟩ | ⟨o, t⟩
    · rw [np] at t; cases t
    · rw [hk] at t; cases t
theorem new_tup {A : Addr → Prop} {H : Hp} {p : Addr} {ds : List D} {vs : List V} (np : H p = none) (tr : ∀ a, A a → H a ≠ none) (r : Reps g A H ds vs) : Res g A H (upd H p (.tup vs)) (.fz (.tup ds)) (.ref p) := by
  simp only [Res, Rep]
  exact ⟨p, vs, rfl, fun z => tr p z np, .inl (.inl upd_same), r.same (same_new np)⟩
theorem mulOk_of {i j : Int} (h : mulOk i j = true) : IntMulOk i j := by
  unfold mulOk at h
  simp only [Bool.or_eq_true, decide_eq_true_eq] at h
  rcases h with (h | h) | h
  · exact CMul.ok (.inl h)
  · exact CMul.ok (.inr h)
  · exact CMulW.ok h
theorem op_mulA : OpR X (binaryOp .Mult) (rI (fun i j => mulOk i j = true) fun i j => .int (i * j)) := opI fun _ _ _ _ _ _ _ hc q => PyProof.Rows.mul_int q (mulOk_of hc)
theorem op_bin (hK : X.K = g.K) (op : BOp) : OpR X (binaryOp (opOf op)) (rBin g op) := by
  have kfe : ∀ {H : Hp} {p : Addr} {o : HO}, (∀ a o, X.K.lookup a = some o → H a = none) → H p = some o → g.K.lookup p = none := fun h e => by rw [← hK]; exact kf_new h e
  cases op with
  | add =>
    refine OpR.weak (OpR.kf (op_add.or (op_add_str.or (op_cat.or op_catT)))) ?_
    rintro x y H Q ⟨A, d, e, r, hd, he, tr, hb, hQ⟩
    cases d <;> cases e <;> simp only [binD, reduceCtorEq, Option.ite_none_right_eq_some, Option.some.injEq] at hb
    · subst hb
      refine .inl ⟨_, _, rdb_int hd, rdb_int he, fun kf => hQ _ _ (same_rfl H) ?_⟩
      simp only [Res, Rep]
    · obtain ⟨hz, rfl⟩ := hb
      refine .inr (.inl ⟨_, _, rdb_str hd, rdb_str he, hz, fun kf => hQ _ _ (same_rfl H) ?_⟩)
      simp only [Res, Rep]
    · obtain ⟨hz, rfl⟩ := hb
      obtain ⟨a, vs, rfl, e1, r1⟩ := hd
      obtain ⟨b, ws, rfl, e2, r2⟩ := he
      refine .inr (.inr (.inl ⟨a, b, vs, ws, rfl, rfl, e1, e2, by rw [← r1.len, ← r2.len]; exact hz, fun p np kf => hQ _ _ (same_new np) (new_lst np (kfe kf upd_same) (r1.app r2))⟩))
    · obtain ⟨⟨hz, hne⟩, rfl⟩ := hb
      obtain ⟨a, vs, rfl, na, e1, r1⟩ := rdb_tup hd
      obtain ⟨b, ws, rfl, nb, e2, r2⟩ := rdb_tup he
      have l1 := r1.len
      have l2 := r2.len
      refine .inr (.inr (.inr ⟨a, b, vs, ws, rfl, rfl, by rw [hK]; exact e1, by rw [hK]; exact e2, fun z => ?_, by omega, fun z kf => hQ _ _ (same_rfl H) ?_, fun z p np kf => hQ _ _ (same_new np) (new_tup np tr (r1.app r2))⟩))
      · subst z
        exact hne (List.eq_nil_of_length_eq_zero l1)
      · subst z
        have : _ = [] := List.eq_nil_of_length_eq_zero l2
        subst this
        rw [List.append_nil]
        simp only [Res, Rep]
        exact ⟨a, vs, rfl, na, e1, r1⟩
  | sub =>
    refine OpR.weak (OpR.kf op_sub) ?_
    rintro x y H Q ⟨A, d, e, r, hd, he, tr, hb, hQ⟩
    cases d <;> cases e <;> simp only [binD, reduceCtorEq, Option.some.injEq] at hb
    subst hb
    exact ⟨_, _, rdb_int hd, rdb_int he, fun kf => hQ _ _ (same_rfl H) (by simp only [Res, Rep])⟩
  | mul =>
    refine OpR.weak (OpR.kf (op_mulA.or op_rep)) ?_
    rintro x y H Q ⟨A, d, e, r, hd, he, tr, hb, hQ⟩
    cases d <;> cases e <;> simp only [binD, reduceCtorEq, Option.ite_none_right_eq_some, Option.some.injEq] at hb
    · obtain ⟨hz, rfl⟩ := hb
      exact .inl ⟨_, _, rdb_int hd, rdb_int he, hz, fun kf => hQ _ _ (same_rfl H) (by simp only [Res, Rep])⟩
    · obtain ⟨⟨h1, h2, h3⟩, rfl⟩ := hb
      obtain ⟨a, vs, rfl, e1, r1⟩ := hd
      exact .inr ⟨a, _, vs, rfl, rdb_int he, e1, h1, h2, by rw [← r1.len]; exact h3, fun p np kf => hQ _ _ (same_new np) (new_lst np (kfe kf upd_same) (r1.repl _))⟩
  | fdiv =>
    refine OpR.weak (OpR.kf op_fdivW) ?_
    rintro x y H Q ⟨A, d, e, r, hd, he, tr, hb, hQ⟩
    cases d <;> cases e <;> simp only [binD, reduceCtorEq, Option.ite_none_right_eq_some, Option.some.injEq] at hb
    obtain ⟨hz, rfl⟩ := hb
    exact ⟨_, _, rdb_int hd, rdb_int he, hz, fun kf => hQ _ _ (same_rfl H) (by simp only [Res, Rep])⟩
  | mod =>
    refine OpR.weak (OpR.kf op_mod) ?_
    rintro x y H Q ⟨A, d, e, r, hd, he, tr, hb, hQ⟩
    cases d <;> cases e <;> simp only [binD, reduceCtorEq, Option.ite_none_right_eq_some, Option.some.injEq] at hb
    obtain ⟨hz, rfl⟩ := hb
    exact ⟨_, _, rdb_int hd, rdb_int he, hz, fun kf => hQ _ _ (same_rfl H) (by simp only [Res, Rep])⟩
  | pow =>
    refine OpR.weak (OpR.kf op_powB) ?_
    rintro x y H Q ⟨A, d, e, r, hd, he, tr, hb, hQ⟩
    cases d <;> cases e <;> simp only [binD, reduceCtorEq] at hb
    rename_i a b
    by_cases c : 0 ≤ b ∧ b ≤ 1000000 ∧ a.natAbs < 2 ^ 64
    · rw [if_pos c, Option.some.injEq] at hb
      subst hb
      exact ⟨_, _, rdb_int hd, rdb_int he, ⟨c.1, PyProof.Rows.bits_mul_le c.2.2 c.1 c.2.1⟩, fun kf => hQ _ _ (same_rfl H) (by simp only [Res, Rep])⟩
    · rw [if_neg c] at hb
      by_cases c2 : 0 ≤ b ∧ b ≤ 1000 ∧ in1k a = true
      · rw [if_pos c2, Option.some.injEq] at hb
        subst hb
        refine ⟨_, _, rdb_int hd, rdb_int he, ⟨c2.1, ?_⟩, fun kf => hQ _ _ (same_rfl H) (by simp only [Res, Rep])⟩
        have h1 := c2.2.2
        unfold in1k at h1
        have h2 := PyProof.Rows.intBits_le (of_decide_eq_true h1)
        have h3 : (Builtin.Int.intBits a : Int) * b ≤ 1000 * b := Int.mul_le_mul_of_nonneg_right (by omega) c2.1
        omega
      · rw [if_neg c2] at hb
        cases hb
def cmpOf : COp → CmpOp
  | .eq => .Eq | .ne => .NotEq | .lt => .Lt | .le => .LtE | .gt => .Gt | .ge => .GtE | .is => .Is | .isnot => .IsNot | .inn => .In | .notin => .NotIn
def rCmp (g : Gx) (op : COp) : R2 := fun x y H Q => ∃ A d e b, Rdb g A H d x ∧ Rdb g A H e y ∧ cmpD op d e = some b ∧ Q (.bl b) H
theorem rdb_isnon {A : Addr → Prop} {H : Hp} {d : D} {v : V} (h : Rdb g A H d v) : decide (v = .non) = isNonD d := by
  cases d with
  | non => rw [rdb_non h]; rfl
  | bl => rw [rdb_bl h]; rfl
  | int => rw [rdb_int h]; rfl
  | str => rw [rdb_str h]; rfl
  | lst => obtain ⟨a, vs, rfl, _⟩ := h; rfl
  | tup => obtain ⟨a, vs, rfl, _⟩ := rdb_tup h; rfl
  | obj => obtain ⟨a, dx, vs, rfl, _⟩ := h; rfl
  | scr => obtain ⟨a, rfl, _⟩ := rdb_scr h; rfl
  | dct => obtain ⟨a, rfl, _⟩ := rdb_dct h; rfl
  | dic ks ds => obtain ⟨a, vs, rfl, _⟩ := rdb_dic h; rfl
  | exc c ks ds => simp only [Rdb, Rep] at h; obtain ⟨a, vs, rfl, _⟩ := h; rfl
  | err c ks ds => simp only [Rdb, Rep] at h; obtain ⟨e0, a, vs, _, rfl, _⟩ := h; rfl
theorem OpR.or {f : Value → Value → Sem Value} {r r' : R2} (h : OpR X f r) (h' : OpR X f r') : OpR X f (fun x y H Q => r x y H Q ∨ r' x y H Q) := fun pins s σ H x y v u Q I rx ry q => q.elim (fun q => h pins s σ H x y v u Q I rx ry q) fun q => h' pins s σ H x y v u Q I rx ry q
def rLenNe (K : PySem.W.Frag) (k : Bool) : R2 := fun x y H Q => ∃ a b xs ys, x = .ref a ∧ y = .ref b ∧ SqL K H a xs ∧ SqL K H b ys ∧ xs.length ≠ ys.length ∧ Q (.bl k) H
theorem op_eqLen (hu : X.A.units < cLine) : OpR X (compareOp .Eq) (rLenNe X.K false) := by
  rintro pins s σ H x y v u Q I rx ry ⟨a, b, xs, ys, rfl, rfl, ha, hb, hne, q⟩
  cases rx
  cases ry
  obtain ⟨its, r, e, z⟩ := I.list ha
  obtain ⟨its2, r2, e2, z2⟩ := I.list hb
  have hsz : (its.toArray.size != its2.toArray.size) = true := by
    rw [List.size_toArray, List.size_toArray, ← r.length, ← r2.length]
    simpa using hne
  exact PySem.SeqAt.eq_list_lengthsAt e.isList e2.isList hsz hu ⟨.bl false, H, I, rfl, q⟩
theorem op_neLen (hu : X.A.units < cLine) : OpR X (compareOp .NotEq) (rLenNe X.K true) := by
  rintro pins s σ H x y v u Q I rx ry ⟨a, b, xs, ys, rfl, rfl, ha, hb, hne, q⟩
  cases rx
  cases ry
  obtain ⟨its, r, e, z⟩ := I.list ha
  obtain ⟨its2, r2, e2, z2⟩ := I.list hb
  have hsz : (its.toArray.size != its2.toArray.size) = true := by
    rw [List.size_toArray, List.size_toArray, ← r.length, ← r2.length]
    simpa using hne
  exact PySem.SeqAt.RcNeAt.lists_lengths e.isList e2.isList hsz hu X.prog X.w X.xe _ ⟨.bl true, H, I, rfl, q⟩
theorem lenNe_ok {A : Addr → Prop} {H : Hp} {d e : D} {x y : V} {k : Bool} {Q : VK} (h : lenNe d e = true) (hd : Rdb g A H d x) (he : Rdb g A H e y) (hQ : Q (.bl k) H) : rLenNe g.K k x y H Q := by
  cases d <;> cases e <;> simp only [lenNe, Bool.false_eq_true, decide_eq_true_eq] at h
  obtain ⟨a, vs, rfl, s1, r1⟩ := hd
  obtain ⟨b, ws, rfl, s2, r2⟩ := he
  exact ⟨a, b, vs, ws, rfl, rfl, .inl (.inl s1), .inl (.inl s2), by rw [← r1.len, ← r2.len]; exact h, hQ⟩
theorem reps_two {A : Addr → Prop} {H : Hp} {i j : Int} {vs : List V} (h : Reps g A H [.int i, .int j] vs) : vs = [i, j].map V.int := by
  simp only [Reps, Rep] at h
  obtain ⟨_, _, rfl, rfl, _, _, rfl, rfl, rfl⟩ := h
  rfl
/-- (i, j) > (k, l) -/
def rGtP (K : PySem.W.Frag) : R2 := fun x y H Q => ∃ a b i j k l, x = .ref a ∧ y = .ref b ∧ SqT K H a ([i, j].map V.int) ∧ SqT K H b ([k, l].map V.int) ∧ Q (.bl (pGt i j k l)) H
theorem op_gtP (hu : X.A.units < cLine) : OpR X (compareOp .Gt) (rGtP X.K) := by
  rintro pins s σ H x y v u Q I rx ry ⟨a, b, i, j, k, l, rfl, rfl, ha, hb, q⟩
  cases rx
  cases ry
  obtain ⟨its, r1, p1, _⟩ := I.tuple ha
  obtain ⟨its2, r2, p2, _⟩ := I.tuple hb
  have i1 := Vals.ints r1
  have i2 := Vals.ints r2
  have e1 : its.toArray.size = 2 := by rw [List.size_toArray]; exact i1.length
  have e2 : its2.toArray.size = 2 := by rw [List.size_toArray]; exact i2.length
  have at1 : ∀ n (h1 : n < its.toArray.size), ∃ t, its.toArray[n] = .int ([i, j].getD n 0) t := fun n h1 => i1.int_at n _ (by rw [List.getElem_toArray]; exact List.getElem?_eq_getElem _)
  have at2 : ∀ n (h1 : n < its2.toArray.size), ∃ t, its2.toArray[n] = .int ([k, l].getD n 0) t := fun n h1 => i2.int_at n _ (by rw [List.getElem_toArray]; exact List.getElem?_eq_getElem _)
  have R := Ob.RcOp.tuples_gt (e := fun n => [i, j].getD n 0 == [k, l].getD n 0) (r := fun n => decide ([k, l].getD n 0 < [i, j].getD n 0)) p1 p2 hu (fun n h1 h2 => by
    obtain ⟨t, et⟩ := at1 n h1
    obtain ⟨t', et'⟩ := at2 n h2
    rw [et, et']
    exact SeqAt.EqAt.int_int _ t _ t') (fun n h1 h2 _ => by
    obtain ⟨t, et⟩ := at1 n h1
    obtain ⟨t', et'⟩ := at2 n h2
    rw [et, et']
    exact Ob.RcOp.gt_int _ _ t t')
  rw [e1, e2] at R
  have lx : Ob.lexAt (fun n => [i, j].getD n 0 == [k, l].getD n 0) (fun n => decide ([k, l].getD n 0 < [i, j].getD n 0)) (decide (2 > 2)) 0 (min 2 2) = pGt i j k l := by
    show Ob.lexAt _ _ _ 0 2 = _
    rw [Ob.lexAt_succ, Ob.lexAt_succ, Ob.lexAt_zero]
    unfold pGt
    by_cases c : i = k
    · subst c
      by_cases d : j = l
      · subst d; simp
      · simp [d]
    · by_cases d : k < i <;> simp [c, d]
  rw [lx] at R
  exact R X.prog X.w X.xe (EP X pins σ Q) ⟨.bl (pGt i j k l), H, I, rfl, q⟩
section
open PySem.SeqAt
variable {X : Cx}
theorem tup_ne_dct (l b : Addr) (its : Array Value) (n : Nat) (d1 d2 : Option Addr) (sa sb : Array (Option Value)) (es : Array DictEntry) (ep : Nat) :
    Meets (Builtin.«tuple.__ne__» ⟨[.ref l, .ref b], []⟩) (fun _ R s => s.heap.get? l = some { cls := .type "tuple", dict := d1, data := .seq its n, slots := sa } ∧ s.heap.get? b = some { cls := .type "dict", dict := d2, data := .dict es ep, slots := sb } ∧ R (.ok (.ret .notImplemented)) s) :=
  .of_wp fun prog w A R s h => by obtain ⟨hp, g, d, tk, os⟩ := s; obtain ⟨hl, hb, h⟩ := h; have f1 := F.sub_dict_tuple; wp_walk using wpAny_loadPart' hl, wpAny_loadPart' hb; exact ⟨_, rfl, h⟩
def rDtNe (K : PySem.W.Frag) : R2 := fun x y H Q => ∃ a b xs, x = .ref a ∧ y = .ref b ∧ H a = some (.dK []) ∧ SqT K H b xs ∧ Q (.bl true) H
theorem op_neDT (hu : X.A.units < cLine) : OpR X (compareOp .NotEq) (rDtNe X.K) := by
  rintro pins s σ H x y v u Q I rx ry ⟨a, b, xs, rfl, rfl, ha, hb, q⟩
  cases rx
  cases ry
  obtain ⟨_, hsm, vs, kv, hd⟩ := dk_of I.hok ha
  have tyd := hd.typeIs (s := s)
  obtain ⟨o, es, ep, e1, e2, e3, e4⟩ := hd
  obtain ⟨its, r, ⟨o2, ho2, hc2, n2, hd2⟩, z⟩ := I.tuple hb
  obtain ⟨c1, d1, t1, s1⟩ := o
  obtain ⟨c2, d2, t2, s2⟩ := o2
  have hc1 := e2.1
  simp only at hc1 hc2 hd2 e3
  subst hc1 hc2 hd2 e3
  have hne : a ≠ b := fun z => by
    rw [z, ho2] at e1
    have w := congrArg Obj.cls (Option.some.inj e1)
    simp at w
  refine (rc_ne_decline_or (k := false) (Ta := "dict") (Tb := "tuple") tyd ⟨_, ho2, rfl⟩ (by decide) F.sub_tuple_dict F.slot_dict_ne F.slot_tuple_ne_refl (fun Q' hq => ?_) (fun Q' hq => ?_) (fun Q' hq => ?_) (.inr hu) ⟨.bl true, H, I, rfl, q⟩)
  · refine wpAny_call_entry F.slot_dict_ne tyd F.entry_dict_ne ?_ (F.args_dict_ne_2 _ _)
    show wpAny _ _ (Builtin.Dict.dictSlotArgs "__ne__" ⟨[.ref a, .ref b], []⟩ >>= _) _ _ s
    refine wpAny_bind ?_
    unfold Builtin.Dict.dictSlotArgs
    refine wpAny_bind (wpAny_notOrdered_dict tyd ?_)
    show wpAny _ _ (pure (Value.ref a, Value.ref b)) _ _ s
    refine wpAny_pure ?_
    refine wpAny_bind (wpAny_isInstance (T := "tuple") ⟨_, ho2, rfl⟩ F.sub_tuple_dict ?_)
    simp only [Bool.not_false, if_true]
    refine wpAny_bind (wpAny_rule (wpAny_bind (wpAny_pure ?_)))
    exact wpAny_pure ⟨_, rfl, hq⟩
  · exact call_meets F.slot_tuple_ne_refl ⟨_, ho2, rfl⟩ F.entry_tuple_ne (F.args_tuple_ne_2 _ _) (tup_ne_dct b a its.toArray n2 d2 d1 s2 s1 es ep) ⟨ho2, e1, hq⟩
  · exact wpAny_isSame_ref_other hne e1 ho2 (by simp) hq
end
theorem dtNe_ok {A : Addr → Prop} {H : Hp} {d e : D} {x y : V} {Q : VK} (h : dtNe d e = true) (hd : Rdb g A H d x) (he : Rdb g A H e y) (hQ : Q (.bl true) H) : rDtNe g.K x y H Q := by
  cases d <;> cases e <;> simp only [dtNe, Bool.false_eq_true] at h
  obtain ⟨a, rfl, _, s1⟩ := rdb_dct hd
  obtain ⟨b, ws, rfl, _, s2, _⟩ := rdb_tup he
  exact ⟨a, b, ws, rfl, rfl, s1, s2, hQ⟩
/-- texts of any signs -/
def rStrEq : R2 := fun x y H Q => ∃ a b, x = .str a ∧ y = .str b ∧ Q (.bl (a == b)) H
theorem op_eqStr : OpR X (compareOp .Eq) rStrEq := by
  rintro pins s σ H x y v u Q I rx ry ⟨a, b, rfl, rfl, q⟩
  obtain ⟨t1, rfl⟩ := rx
  obtain ⟨t2, rfl⟩ := ry
  exact PySem.SeqAt.RcAt.str_str a t1 b t2 X.prog X.w X.xe _ ⟨.bl (a == b), H, I, rfl, q⟩
theorem op_cmp (hK : X.K = g.K) (hu : X.A.units + 64 < cLine) (op : COp) : OpR X (compareOp (cmpOf op)) (rCmp g op) := by
  cases op with
  | eq =>
    refine OpR.weak (OpR.or (OpR.or (op_eqD hu) (op_eqLen (by omega))) op_eqStr) ?_
    rintro x y H Q ⟨A, d, e, b, hd, he, hb, hQ⟩
    simp only [cmpD] at hb
    split at hb
    case isFalse => 
      split at hb
      · rename_i hl
        cases hb
        rw [hK]
        exact .inl (.inr (lenNe_ok hl hd he hQ))
      · refine .inr ?_
        cases d <;> cases e <;> simp only [strEq, reduceCtorEq, Option.some.injEq] at hb
        subst hb
        exact ⟨_, _, rdb_str hd, rdb_str he, hQ⟩
    rename_i hk
    simp only [Bool.and_eq_true] at hk
    obtain ⟨k1, k2⟩ := hk
    simp only [Option.some.injEq] at hb
    subst hb
    refine .inl (.inl ?_)
    rw [hK]
    exact ⟨toPy d, toPy e, rdb_dp k1 hd, rdb_dp k2 he, py_shaped k1, py_shaped k2, by rw [py_eqv d e 12 12 k1 k2]; exact hQ⟩
  | ne =>
    refine OpR.weak (OpR.or (OpR.or (op_neD hu) (op_neLen (by omega))) (op_neDT (by omega))) ?_
    rintro x y H Q ⟨A, d, e, b, hd, he, hb, hQ⟩
    simp only [cmpD] at hb
    split at hb
    case isFalse => 
      split at hb
      · rename_i hl
        cases hb
        rw [hK]
        exact .inl (.inr (lenNe_ok hl hd he hQ))
      · split at hb
        · rename_i hl
          cases hb
          rw [hK]
          exact .inr (dtNe_ok hl hd he hQ)
        · cases hb
    rename_i hk
    simp only [Bool.and_eq_true] at hk
    obtain ⟨k1, k2⟩ := hk
    simp only [Option.some.injEq] at hb
    subst hb
    refine .inl (.inl ?_)
    rw [hK]
    exact ⟨toPy d, toPy e, rdb_dp k1 hd, rdb_dp k2 he, py_shaped k1, py_shaped k2, by rw [py_eqv d e 12 12 k1 k2]; exact hQ⟩
  | lt =>
    refine OpR.weak op_lt ?_
    rintro x y H Q ⟨A, d, e, b, hd, he, hb, hQ⟩
    cases d <;> cases e <;> simp only [cmpD, reduceCtorEq, Option.some.injEq] at hb
    subst hb
    exact ⟨_, _, rdb_int hd, rdb_int he, hQ⟩
  | le =>
    refine OpR.weak op_le ?_
    rintro x y H Q ⟨A, d, e, b, hd, he, hb, hQ⟩
    cases d <;> cases e <;> simp only [cmpD, reduceCtorEq, Option.some.injEq] at hb
    subst hb
    exact ⟨_, _, rdb_int hd, rdb_int he, hQ⟩
  | gt =>
    refine OpR.weak (OpR.or op_gt (op_gtP (by omega))) ?_
    rintro x y H Q ⟨A, d, e, b, hd, he, hb, hQ⟩
    cases d <;> cases e <;> simp only [cmpD, reduceCtorEq, Option.some.injEq] at hb
    · subst hb
      exact .inl ⟨_, _, rdb_int hd, rdb_int he, hQ⟩
    · unfold tupGt at hb
      split at hb
      · rename_i i j k l
        cases hb
        obtain ⟨a, vs, rfl, _, s1, r1⟩ := rdb_tup hd
        obtain ⟨b, ws, rfl, _, s2, r2⟩ := rdb_tup he
        rw [reps_two r1] at s1
        rw [reps_two r2] at s2
        rw [← hK] at s1 s2
        exact .inr ⟨a, b, i, j, k, l, rfl, rfl, s1, s2, hQ⟩
      · cases hb
  | ge =>
    refine OpR.weak op_ge ?_
    rintro x y H Q ⟨A, d, e, b, hd, he, hb, hQ⟩
    cases d <;> cases e <;> simp only [cmpD, reduceCtorEq, Option.some.injEq] at hb
    subst hb
    exact ⟨_, _, rdb_int hd, rdb_int he, hQ⟩
  | is =>
    refine OpR.weak op_isN ?_
    rintro x y H Q ⟨A, d, e, b, hd, he, hb, hQ⟩
    cases e <;> simp only [cmpD, reduceCtorEq, Option.some.injEq] at hb
    subst hb
    exact ⟨rdb_non he, by rw [rdb_isnon hd]; exact hQ⟩
  | isnot =>
    refine OpR.weak op_notN ?_
    rintro x y H Q ⟨A, d, e, b, hd, he, hb, hQ⟩
    cases e <;> simp only [cmpD, reduceCtorEq, Option.some.injEq] at hb
    subst hb
    refine ⟨rdb_non he, ?_⟩
    rw [rdb_isnon hd]
    exact hQ
  | inn =>
    refine OpR.weak op_in_seq ?_
    rintro x y H Q ⟨A, d, e, b, hd, he, hb, hQ⟩
    rw [hK]
    cases e <;> simp only [cmpD, reduceCtorEq, Option.ite_none_right_eq_some, Bool.and_eq_true, Option.some.injEq] at hb
    · obtain ⟨⟨k1, k2⟩, rfl⟩ := hb
      obtain ⟨a, vs, rfl, e1, r1⟩ := he
      have q := flat_reps k2 r1 k1 (rdb_flat k1 hd)
      exact ⟨a, vs, rfl, .inl (.inl (.inl e1)), (flat_rep k1 (rdb_flat k1 hd)).1, q.1, by rw [if_neg Bool.false_ne_true, q.2]; exact hQ⟩
    · obtain ⟨⟨k1, k2⟩, rfl⟩ := hb
      obtain ⟨a, vs, rfl, na, e1, r1⟩ := rdb_tup he
      have q := flat_reps k2 r1 k1 (rdb_flat k1 hd)
      exact ⟨a, vs, rfl, .inr e1, (flat_rep k1 (rdb_flat k1 hd)).1, q.1, by rw [if_neg Bool.false_ne_true, q.2]; exact hQ⟩
  | notin =>
    refine OpR.weak op_notIn_seq ?_
    rintro x y H Q ⟨A, d, e, b, hd, he, hb, hQ⟩
    rw [hK]
    cases e <;> simp only [cmpD, reduceCtorEq, Option.ite_none_right_eq_some, Bool.and_eq_true, Option.some.injEq] at hb
    · obtain ⟨⟨k1, k2⟩, rfl⟩ := hb
      obtain ⟨a, vs, rfl, e1, r1⟩ := he
      have q := flat_reps k2 r1 k1 (rdb_flat k1 hd)
      exact ⟨a, vs, rfl, .inl (.inl (.inl e1)), (flat_rep k1 (rdb_flat k1 hd)).1, q.1, by rw [if_pos rfl, q.2]; exact hQ⟩
    · obtain ⟨⟨k1, k2⟩, rfl⟩ := hb
      obtain ⟨a, vs, rfl, na, e1, r1⟩ := rdb_tup he
      have q := flat_reps k2 r1 k1 (rdb_flat k1 hd)
      exact ⟨a, vs, rfl, .inr e1, (flat_rep k1 (rdb_flat k1 hd)).1, q.1, by rw [if_pos rfl, q.2]; exact hQ⟩
end
end DV

namespace DV
open PySem L2
/-- what a frame must be, the suite of a clause too -/
structure Cok0 (g : Gx) (X : Cx) : Prop where
  K : X.K = g.K
  hu : X.A.units + 64 < cLine
  nd : X.N.Nodup
/-- what is asked of a context -/
structure Cok (g : Gx) (X : Cx) : Prop where
  K : X.K = g.K
  calm : X.calm = true
  hu : X.A.units + 64 < cLine
  nd : X.N.Nodup
  ea : g.ea = none
theorem Cok.c0 {g : Gx} {X : Cx} (C : Cok g X) : Cok0 g X := ⟨C.K, C.hu, C.nd⟩
instance {g : Gx} {X : Cx} : Coe (Cok g X) (Cok0 g X) := ⟨Cok.c0⟩
def tR (g : Gx) (fs : List FS) (ie : E) : TE := fun σ H Q => ∃ Bn Ow Γ r Γ', RS g Bn Ow H σ Γ ∧ ev fs ie Γ = some (r, Γ') ∧ ∀ v H' Ow', Stp Ow H Ow' H' → RS g Bn Ow' H' σ Γ' → Val g Bn Ow' H' σ Γ' r v → Q v H'
def tT (g : Gx) (fs : List FS) (ie : E) : TT := fun σ H Q => ∃ Bn Ow Γ r Γ' t, RS g Bn Ow H σ Γ ∧ ev fs ie Γ = some (r, Γ') ∧ testD Γ' r = some t ∧ ∀ H' Ow', Stp Ow H Ow' H' → RS g Bn Ow' H' σ Γ' → Q t H'
/-- values by results -/
def Vls (g : Gx) (Bn : Addr → Prop) (Ow : List Addr) (H : Hp) (σ : St) (Γ : Ct) : List RV → List V → Prop
  | [], vs => vs = []
  | x :: xs, vs => ∃ v r, vs = v :: r ∧ Val g Bn Ow H σ Γ x.dn v ∧ Vls g Bn Ow H σ Γ xs r
def tAs (g : Gx) (fs : List FS) (es : List E) : TA := fun σ H Q => ∃ Bn Ow Γ xs Γ', RS g Bn Ow H σ Γ ∧ evs fs es Γ = some (xs, Γ') ∧ ∀ vs H' Ow', Stp Ow H Ow' H' → RS g Bn Ow' H' σ Γ' → Vls g Bn Ow' H' σ Γ' xs vs → Q vs H'
section
variable {X : Cx} {g : Gx} {fs : List FS} {Bn : Addr → Prop} {Ow Ow' : List Addr} {H H' : Hp} {σ : St} {Γ Γ' Γ1 Γ2 : Ct} {a b c : Expr} {ia ib ic : E} {pos : Pos}
theorem Vls.step : ∀ {xs : List RV} {vs : List V}, Vls g Bn Ow H σ Γ xs vs → Stp Ow H Ow' H' → RS g Bn Ow' H' σ Γ' → Vls g Bn Ow' H' σ Γ' xs vs
  | [], _, h, _, _ => h
  | x :: xs, _, ⟨v, r, e, h1, h2⟩, s, q => ⟨v, r, e, h1.step s q, Vls.step h2 s q⟩
theorem Vls.len : ∀ {xs : List RV} {vs : List V}, Vls g Bn Ow H σ Γ xs vs → xs.length = vs.length
  | [], _, h => by have h : _ = [] := h; subst h; rfl
  | x :: xs, _, ⟨v, r, e, h1, h2⟩ => by subst e; rw [List.length_cons, List.length_cons, h2.len]
theorem fres_ok : ∀ {xs : List RV} {vs : List V} {ds : List D} {Ow : List Addr} {Γ Γ' : Ct}, RS g Bn Ow H σ Γ → Vls g Bn Ow H σ Γ xs vs → fres xs Γ = some (ds, Γ') → ∃ Ow', Stp Ow H Ow' H ∧ RS g Bn Ow' H σ Γ' ∧ Reps g (Av Bn Ow') H ds vs
  | [], _, ds, Ow, Γ, Γ', rs, h, e => by
    have h : _ = [] := h
    subst h
    simp only [fres, Option.some.injEq, Prod.mk.injEq] at e
    obtain ⟨rfl, rfl⟩ := e
    exact ⟨Ow, .refl _ _, rs, by simp only [Reps]⟩
  | x :: xs, _, ds, Ow, Γ, Γ', rs, ⟨v, r, e0, h1, h2⟩, e => by
    subst e0
    simp only [fres] at e
    obtain ⟨⟨d, Γ1⟩, e1, e⟩ := Option.bind_eq_some_iff.mp e
    obtain ⟨⟨es, Γ2⟩, e2, e⟩ := Option.map_eq_some_iff.mp e
    simp only [Prod.mk.injEq] at e
    obtain ⟨rfl, rfl⟩ := e
    rw [← fre_dn] at e1
    obtain ⟨O1, s1, r1, p1⟩ := fre_ok rs h1 e1
    obtain ⟨O2, s2, r2, p2⟩ := fres_ok r1 (h2.step s1 r1) e2
    refine ⟨O2, s1.trans s2, r2, ?_⟩
    simp only [Reps]
    exact ⟨v, r, rfl, p1.step s2 r2, p2⟩
theorem datums_ok : ∀ {xs : List RV} {vs : List V} {ds : List D}, RS g Bn Ow H σ Γ → Vls g Bn Ow H σ Γ xs vs → datums Γ xs = some ds → Paired (fun d v => Rdb g (Av Bn Ow) H d v) ds vs
  | [], _, ds, rs, h, e => by
    have h : _ = [] := h
    subst h
    simp only [datums, Option.some.injEq] at e
    subst e
    exact .nil
  | x :: xs, _, ds, rs, ⟨v, r, e0, h1, h2⟩, e => by
    subst e0
    simp only [datums] at e
    obtain ⟨d, e1, e⟩ := Option.bind_eq_some_iff.mp e
    obtain ⟨es, e2, rfl⟩ := Option.map_eq_some_iff.mp e
    rw [← datum_dn] at e1
    exact .cons (h1.rdb rs e1) (datums_ok rs h2 e2)

theorem tR_one {x : RV} {Q : VK} (rs : RS g Bn Ow H σ Γ) (e1 : ev fs ia Γ = some (x, Γ1)) (k : ∀ v H1 Ow1, Stp Ow H Ow1 H1 → RS g Bn Ow1 H1 σ Γ1 → Val g Bn Ow1 H1 σ Γ1 x.dn v → Q v H1) : tR g fs ia σ H Q :=
  ⟨Bn, Ow, Γ, x, Γ1, rs, e1, fun v H' Ow' s r val => let ⟨O2, s2, r2, v2⟩ := dn_ok r val; k v H' O2 (s.trans s2) r2 v2⟩
theorem tR_two {x y : RV} {R : V → V → Hp → Prop} (rs : RS g Bn Ow H σ Γ) (e1 : ev fs ia Γ = some (x, Γ1)) (e2 : ev fs ib Γ1 = some (y, Γ2))
    (k : ∀ v w H2 Ow2, Stp Ow H Ow2 H2 → RS g Bn Ow2 H2 σ Γ2 → Val g Bn Ow2 H2 σ Γ2 x.dn v → Val g Bn Ow2 H2 σ Γ2 y.dn w → R v w H2) : tR g fs ia σ H fun v H1 => tR g fs ib σ H1 fun w H2 => R v w H2 :=
  tR_one rs e1 fun v H1 O1 s1 r1 v1 => tR_one r1 e2 fun w H2 O2 s2 r2 w2 => k v w H2 O2 (s1.trans s2) r2 (v1.step s2 r2) w2

/-! ### names, constants -/
theorem p_stuck {e : Expr} : PE X e (tR g fs .stuck) := ⟨fun _ _ _ _ _ _ ⟨_, _, _, _, _, _, h, _⟩ => by simp only [ev, reduceCtorEq] at h⟩
theorem t_stuck {e : Expr} : PT X e (tT g fs .stuck) := ⟨fun _ _ _ _ _ _ ⟨_, _, _, _, _, _, _, h, _⟩ => by simp only [ev, reduceCtorEq] at h⟩
theorem p_var {i : Nat} (h : PE X a (tVar i)) : PE X a (tR g fs (.var i)) := by
  refine PE.weak h ?_
  rintro σ H Q ⟨Bn, Ow, Γ, r, Γ', rs, he, hQ⟩
  simp only [ev] at he
  split at he
  · rename_i p q
    simp only [Option.some.injEq, Prod.mk.injEq] at he
    obtain ⟨rfl, rfl⟩ := he
    obtain ⟨d, b⟩ := p
    have : ∃ v, σ[i]? = some (some v) := by
      cases b with
      | false => obtain ⟨v, e, _⟩ := rs.slot i d q; exact ⟨v, e⟩
      | true => obtain ⟨v, e, _⟩ := rs.own i d q; exact ⟨_, e⟩
    obtain ⟨v, e⟩ := this
    exact ⟨v, e, hQ v H Ow (.refl _ _) rs e⟩
  · cases he
/-- a constant; what stands for it may lean on the written part -/
theorem p_cst {d : D} {v : V} (h : PE X a (tC v)) (hK : X.K = g.K) (k : ∀ A H, (∀ a, A a → g.K.lookup a = none) → Rep g A H d v) : PE X a (tR g fs (.cst d)) := by
  refine PE.weak h ?_
  rintro σ H Q ⟨Bn, Ow, Γ, r, Γ', rs, he, hQ⟩
  simp only [ev, Option.some.injEq, Prod.mk.injEq] at he
  obtain ⟨rfl, rfl⟩ := he
  exact hQ v H Ow (.refl _ _) rs (k _ H rs.kf)

/-! ### operators -/
theorem p_bin {op : BOp} (C : Cok0 g X) (ha : PE X a (tR g fs ia)) (hb : PE X b (tR g fs ib)) : PE X (.BinOp a (opOf op) b pos) (tR g fs (.bin op ia ib)) := by
  refine PE.weak (pe_op (op_bin C.K op) ha hb) ?_
  rintro σ H Q ⟨Bn, Ow, Γ, r, Γ', rs, he, hQ⟩
  simp only [ev] at he
  obtain ⟨⟨x, Γ1⟩, e1, he⟩ := Option.bind_eq_some_iff.mp he
  obtain ⟨⟨y, Γ2⟩, e2, he⟩ := Option.bind_eq_some_iff.mp he
  obtain ⟨d, ed, he⟩ := Option.bind_eq_some_iff.mp he
  obtain ⟨e, ee, he⟩ := Option.bind_eq_some_iff.mp he
  obtain ⟨r', hb, he⟩ := Option.map_eq_some_iff.mp he
  simp only [Prod.mk.injEq] at he
  obtain ⟨rfl, rfl⟩ := he
  rw [← datum_dn] at ed ee
  exact tR_two rs e1 e2 fun v w H2 O2 s2 r2 v2 w2 => ⟨Av Bn O2, d, e, _, v2.rdb r2 ed, w2.rdb r2 ee, r2.trk, hb, fun v' H' sm res => let ⟨O3, s3, r3, val⟩ := res.val r2 sm; hQ v' H' O3 (s2.trans s3) r3 val⟩
theorem p_neg (ha : PE X a (tR g fs ia)) : PE X (.UnaryOp .USub a pos) (tR g fs (.neg ia)) := by
  refine PE.weak (pe_un un_neg ha) ?_
  rintro σ H Q ⟨Bn, Ow, Γ, r, Γ', rs, he, hQ⟩
  simp only [ev] at he
  obtain ⟨⟨x, Γ1⟩, e1, he⟩ := Option.bind_eq_some_iff.mp he
  obtain ⟨d, ed, he⟩ := Option.bind_eq_some_iff.mp he
  rw [← datum_dn] at ed
  refine tR_one rs e1 fun v H1 O1 s1 r1 v1 => ?_
  have q := v1.rdb r1 ed
  cases d <;> simp only [reduceCtorEq, Option.some.injEq, Prod.mk.injEq] at he
  obtain ⟨rfl, rfl⟩ := he
  exact ⟨_, rdb_int q, hQ _ H1 O1 s1 r1 (by simp only [Val, Rep])⟩
theorem cmp_core {op : COp} {Q : VK} (rs : RS g Bn Ow H σ Γ) {r : RV} (he : ev fs (.cmp op ia ib) Γ = some (r, Γ')) (hQ : ∀ v H' Ow', Stp Ow H Ow' H' → RS g Bn Ow' H' σ Γ' → Val g Bn Ow' H' σ Γ' r v → Q v H') :
    tOp (rCmp g op) (tR g fs ia) (tR g fs ib) σ H Q := by
  simp only [ev] at he
  obtain ⟨⟨x, Γ1⟩, e1, he⟩ := Option.bind_eq_some_iff.mp he
  obtain ⟨⟨y, Γ2⟩, e2, he⟩ := Option.bind_eq_some_iff.mp he
  obtain ⟨d, ed, he⟩ := Option.bind_eq_some_iff.mp he
  obtain ⟨e, ee, he⟩ := Option.bind_eq_some_iff.mp he
  obtain ⟨r', hb, he⟩ := Option.map_eq_some_iff.mp he
  simp only [Prod.mk.injEq] at he
  obtain ⟨rfl, rfl⟩ := he
  rw [← datum_dn] at ed ee
  exact tR_two rs e1 e2 fun v w H2 O2 s2 r2 v2 w2 => ⟨Av Bn O2, d, e, r', v2.rdb r2 ed, w2.rdb r2 ee, hb, hQ _ H2 O2 s2 r2 (by simp only [Val, Rep])⟩
theorem p_cmp {op : COp} (C : Cok0 g X) (ha : PE X a (tR g fs ia)) (hb : PE X b (tR g fs ib)) (hm : behindInMarks (cmpOf op) b = false) : PE X (.Compare a [cmpOf op] [b] pos) (tR g fs (.cmp op ia ib)) := by
  refine PE.weak (pe_cmpR (op_cmp C.K C.hu op) ha hb hm) ?_
  rintro σ H Q ⟨Bn, Ow, Γ, r, Γ', rs, he, hQ⟩
  exact cmp_core rs he hQ
theorem t_cmp {op : COp} (C : Cok0 g X) (ha : PE X a (tR g fs ia)) (hb : PE X b (tR g fs ib)) (hm : behindInMarks (cmpOf op) b = false) : PT X (.Compare a [cmpOf op] [b] pos) (tT g fs (.cmp op ia ib)) := by
  refine PT.weak (pt_cmpR (op_cmp C.K C.hu op) ha hb hm) ?_
  rintro σ H Q ⟨Bn, Ow, Γ, r, Γ', t, rs, he, ht, hQ⟩
  refine cmp_core rs he fun v H1 O1 s1 r1 v1 => ?_
  simp only [ev] at he
  obtain ⟨⟨x, Γ1⟩, e1, he⟩ := Option.bind_eq_some_iff.mp he
  obtain ⟨⟨y, Γ2⟩, e2, he⟩ := Option.bind_eq_some_iff.mp he
  obtain ⟨d, ed, he⟩ := Option.bind_eq_some_iff.mp he
  obtain ⟨e, ee, he⟩ := Option.bind_eq_some_iff.mp he
  obtain ⟨r', hb, he⟩ := Option.map_eq_some_iff.mp he
  simp only [Prod.mk.injEq] at he
  obtain ⟨rfl, rfl⟩ := he
  simp only [testD, datum, Option.bind_some, truthD, Option.some.injEq] at ht
  subst ht
  simp only [Val, Rep] at v1
  exact ⟨r', v1, hQ H1 O1 s1 r1⟩
theorem chain_core {o1 o2 : COp} {Q : VK} (rs : RS g Bn Ow H σ Γ) {r : RV} (he : ev fs (.chain o1 o2 ia ib ic) Γ = some (r, Γ')) (hQ : ∀ v H' Ow' (k : Bool), Stp Ow H Ow' H' → RS g Bn Ow' H' σ Γ' → v = .bl k → r = .fz (.bl k) → Q v H') :
    tChain (rCmp g o1) (rCmp g o2) (tR g fs ia) (tR g fs ib) (tR g fs ic) σ H Q := by
  simp only [ev] at he
  obtain ⟨⟨x, Γ1⟩, e1, he⟩ := Option.bind_eq_some_iff.mp he
  obtain ⟨⟨y, Γ2⟩, e2, he⟩ := Option.bind_eq_some_iff.mp he
  obtain ⟨d, ed, he⟩ := Option.bind_eq_some_iff.mp he
  obtain ⟨e, ee, he⟩ := Option.bind_eq_some_iff.mp he
  obtain ⟨k, hb, he⟩ := Option.bind_eq_some_iff.mp he
  rw [← datum_dn] at ed ee
  refine tR_two rs e1 e2 fun v w H2 O2 s2 r2 v2 w2 => ⟨Av Bn O2, d, e, k, v2.rdb r2 ed, w2.rdb r2 ee, hb, k, rfl, ?_⟩
  cases k with
  | false =>
    simp only [Bool.false_eq_true, if_false, Option.some.injEq, Prod.mk.injEq] at he ⊢
    obtain ⟨rfl, rfl⟩ := he
    exact hQ _ H2 O2 false s2 r2 rfl rfl
  | true =>
    simp only [if_true] at he ⊢
    obtain ⟨⟨z, Γ3⟩, e3, he⟩ := Option.bind_eq_some_iff.mp he
    obtain ⟨e', ee', he⟩ := Option.bind_eq_some_iff.mp he
    obtain ⟨f, ef, he⟩ := Option.bind_eq_some_iff.mp he
    obtain ⟨k', hb', he⟩ := Option.map_eq_some_iff.mp he
    simp only [Prod.mk.injEq] at he
    obtain ⟨rfl, rfl⟩ := he
    rw [← datum_dn] at ee' ef
    exact tR_one r2 e3 fun u H3 O3 s3 r3 u3 => ⟨Av Bn O3, e', f, k', (w2.step s3 r3).rdb r3 ee', u3.rdb r3 ef, hb', hQ _ H3 O3 k' (s2.trans s3) r3 rfl rfl⟩
theorem p_chain {o1 o2 : COp} (C : Cok0 g X) (ha : PE X a (tR g fs ia)) (hb : PE X b (tR g fs ib)) (hc : PE X c (tR g fs ic)) (hm : lastMarks [cmpOf o1, cmpOf o2] [b, c] = false) : PE X (.Compare a [cmpOf o1, cmpOf o2] [b, c] pos) (tR g fs (.chain o1 o2 ia ib ic)) := by
  refine PE.weak (pe_chain (op_cmp C.K C.hu o1) (op_cmp C.K C.hu o2) ha hb hc hm) ?_
  rintro σ H Q ⟨Bn, Ow, Γ, r, Γ', rs, he, hQ⟩
  exact chain_core rs he fun v H1 O1 k s1 r1 e1 e2 => hQ v H1 O1 s1 r1 (by subst e1 e2; simp only [Val, Rep])
theorem t_chain {o1 o2 : COp} (C : Cok0 g X) (ha : PE X a (tR g fs ia)) (hb : PE X b (tR g fs ib)) (hc : PE X c (tR g fs ic)) (hm : lastMarks [cmpOf o1, cmpOf o2] [b, c] = false) : PT X (.Compare a [cmpOf o1, cmpOf o2] [b, c] pos) (tT g fs (.chain o1 o2 ia ib ic)) := by
  refine PT.weak (pt_chain (op_cmp C.K C.hu o1) (op_cmp C.K C.hu o2) ha hb hc hm) ?_
  rintro σ H Q ⟨Bn, Ow, Γ, r, Γ', t, rs, he, ht, hQ⟩
  refine chain_core rs he fun v H1 O1 k s1 r1 e1 e2 => ⟨k, e1, ?_⟩
  subst e2
  simp only [testD, datum, Option.bind_some, truthD, Option.some.injEq] at ht
  subst ht
  exact hQ H1 O1 s1 r1

/-! ### truth -/
theorem truth_v {A : Addr → Prop} {d : D} {v : V} {k : Bool} (h : Rdb g A H d v) (e : truthD d = some k) : TruV g.K v H k := by
  cases d with
  | non => rw [rdb_non h]; simp only [truthD, Option.some.injEq] at e; exact e.symm
  | bl b => rw [rdb_bl h]; simp only [truthD, Option.some.injEq] at e; exact e.symm
  | int b => rw [rdb_int h]; simp only [truthD, Option.some.injEq] at e; exact e.symm
  | str b => rw [rdb_str h]; simp only [truthD, Option.ite_none_right_eq_some, Option.some.injEq] at e; exact ⟨e.1, e.2.symm⟩
  | lst ds =>
    obtain ⟨a, vs, rfl, e1, r⟩ := h
    simp only [truthD, Option.some.injEq] at e
    refine .inl ⟨vs, .inl (.inl e1), ?_⟩
    have l := r.len
    rw [← e]
    cases ds <;> cases vs <;> simp at l <;> rfl
  | tup ds =>
    obtain ⟨a, vs, rfl, _, e1, r⟩ := rdb_tup h
    simp only [truthD, Option.some.injEq] at e
    refine .inr (.inl ⟨vs, e1, ?_⟩)
    have l := r.len
    rw [← e]
    cases ds <;> cases vs <;> simp at l <;> rfl
  | obj => simp only [truthD, reduceCtorEq] at e
  | dct => simp only [truthD, reduceCtorEq] at e
  | dic _ _ => simp only [truthD, reduceCtorEq] at e
  | exc _ _ _ => simp only [truthD, reduceCtorEq] at e
  | err _ _ _ => simp only [truthD, reduceCtorEq] at e
  | scr ns =>
    obtain ⟨a, rfl, _, e1⟩ := rdb_scr h
    simp only [truthD, Option.some.injEq] at e
    refine .inl ⟨_, e1, ?_⟩
    rw [← e]
    cases ns <;> rfl
theorem test_v {x : RV} {v : V} {k : Bool} (rs : RS g Bn Ow H σ Γ) (h : Val g Bn Ow H σ Γ x v) (e : testD Γ x = some k) : TruV g.K v H k := by
  unfold testD at e
  obtain ⟨d, e1, e2⟩ := Option.bind_eq_some_iff.mp e
  exact truth_v (h.rdb rs e1) e2
theorem t_val (C : Cok0 g X) (ha : PE X a (tR g fs ia)) (he : ∀ whole, isTrue a X.env whole = (do let v ← whole; standAt a.pos; holding [v] (truthy v))) : PT X a (tT g fs ia) := by
  refine PT.weak (pt_truth ha he) ?_
  rintro σ H Q ⟨Bn, Ow, Γ, r, Γ', t, rs, he, ht, hQ⟩
  exact ⟨Bn, Ow, Γ, r, Γ', rs, he, fun v H1 O1 s1 r1 v1 => ⟨t, by rw [C.K]; exact test_v r1 v1 ht, hQ H1 O1 s1 r1⟩⟩
theorem p_and {rest : List Expr} (C : Cok0 g X) (ha : PE X a (tR g fs ia)) (hb : PE X (.BoolOp .And (b :: rest) pos) (tR g fs ib)) : PE X (.BoolOp .And (a :: b :: rest) pos) (tR g fs (.and ia ib)) := by
  refine PE.weak (pe_andT ha hb) ?_
  rintro σ H Q ⟨Bn, Ow, Γ, r, Γ', rs, he, hQ⟩
  simp only [ev] at he
  obtain ⟨⟨x, Γ1⟩, e1, he⟩ := Option.bind_eq_some_iff.mp he
  obtain ⟨t, et, he⟩ := Option.bind_eq_some_iff.mp he
  refine ⟨Bn, Ow, Γ, x, Γ1, rs, e1, fun v H1 O1 s1 r1 v1 => ⟨t, by rw [C.K]; exact test_v r1 v1 et, ?_⟩⟩
  cases t with
  | false =>
    simp only [Bool.false_eq_true, if_false, Option.some.injEq, Prod.mk.injEq] at he ⊢
    obtain ⟨rfl, rfl⟩ := he
    exact hQ v H1 O1 s1 r1 v1
  | true =>
    simp only [if_true] at he ⊢
    exact ⟨Bn, O1, Γ1, r, Γ', r1, he, fun w H2 O2 s2 r2 w2 => hQ w H2 O2 (s1.trans s2) r2 w2⟩
theorem p_or {rest : List Expr} (C : Cok0 g X) (ha : PE X a (tR g fs ia)) (hb : PE X (.BoolOp .Or (b :: rest) pos) (tR g fs ib)) : PE X (.BoolOp .Or (a :: b :: rest) pos) (tR g fs (.or ia ib)) := by
  refine PE.weak (pe_orT ha hb) ?_
  rintro σ H Q ⟨Bn, Ow, Γ, r, Γ', rs, he, hQ⟩
  simp only [ev] at he
  obtain ⟨⟨x, Γ1⟩, e1, he⟩ := Option.bind_eq_some_iff.mp he
  obtain ⟨t, et, he⟩ := Option.bind_eq_some_iff.mp he
  refine ⟨Bn, Ow, Γ, x, Γ1, rs, e1, fun v H1 O1 s1 r1 v1 => ⟨t, by rw [C.K]; exact test_v r1 v1 et, ?_⟩⟩
  cases t with
  | true =>
    simp only [if_true, Option.some.injEq, Prod.mk.injEq] at he ⊢
    obtain ⟨rfl, rfl⟩ := he
    exact hQ v H1 O1 s1 r1 v1
  | false =>
    simp only [Bool.false_eq_true, if_false] at he ⊢
    exact ⟨Bn, O1, Γ1, r, Γ', r1, he, fun w H2 O2 s2 r2 w2 => hQ w H2 O2 (s1.trans s2) r2 w2⟩
theorem p_one {op} (ha : PE X a (tR g fs ia)) : PE X (.BoolOp op [a] pos) (tR g fs ia) := pe_one ha
theorem w_and1 (ha : PT X a (tT g fs ia)) : PW X (.BoolOp .And [a] pos) (tT g fs ia) := pw_and1 ha
theorem w_or1 (ha : PT X a (tT g fs ia)) : PW X (.BoolOp .Or [a] pos) (tT g fs ia) := pw_or1 ha
theorem PW.weak {e : Expr} {t t' : TT} (h : PW X e t) (k : ∀ σ H Q, t' σ H Q → t σ H Q) : PW X e t' := ⟨fun w pins s σ H Q I q => h.run w pins s σ H Q I (k σ H Q q)⟩
theorem w_and {rest : List Expr} (ha : PT X a (tT g fs ia)) (hb : PW X (.BoolOp .And (b :: rest) pos) (tT g fs ib)) : PW X (.BoolOp .And (a :: b :: rest) pos) (tT g fs (.and ia ib)) := by
  refine PW.weak (pw_and ha hb) ?_
  rintro σ H Q ⟨Bn, Ow, Γ, r, Γ', t', rs, he, ht, hQ⟩
  simp only [ev] at he
  obtain ⟨⟨x, Γ1⟩, e1, he⟩ := Option.bind_eq_some_iff.mp he
  obtain ⟨t, et, he⟩ := Option.bind_eq_some_iff.mp he
  refine ⟨Bn, Ow, Γ, x, Γ1, t, rs, e1, et, fun H1 O1 s1 r1 => ?_⟩
  cases t with
  | false =>
    simp only [Bool.false_eq_true, if_false, Option.some.injEq, Prod.mk.injEq] at he ⊢
    obtain ⟨rfl, rfl⟩ := he
    rw [et] at ht; cases ht
    exact hQ H1 O1 s1 r1
  | true =>
    simp only [if_true] at he ⊢
    exact ⟨Bn, O1, Γ1, r, Γ', t', r1, he, ht, fun H2 O2 s2 r2 => hQ H2 O2 (s1.trans s2) r2⟩
theorem w_or {rest : List Expr} (ha : PT X a (tT g fs ia)) (hb : PW X (.BoolOp .Or (b :: rest) pos) (tT g fs ib)) : PW X (.BoolOp .Or (a :: b :: rest) pos) (tT g fs (.or ia ib)) := by
  refine PW.weak (pw_or ha hb) ?_
  rintro σ H Q ⟨Bn, Ow, Γ, r, Γ', t', rs, he, ht, hQ⟩
  simp only [ev] at he
  obtain ⟨⟨x, Γ1⟩, e1, he⟩ := Option.bind_eq_some_iff.mp he
  obtain ⟨t, et, he⟩ := Option.bind_eq_some_iff.mp he
  refine ⟨Bn, Ow, Γ, x, Γ1, t, rs, e1, et, fun H1 O1 s1 r1 => ?_⟩
  cases t with
  | true =>
    simp only [if_true, Option.some.injEq, Prod.mk.injEq] at he ⊢
    obtain ⟨rfl, rfl⟩ := he
    rw [et] at ht; cases ht
    exact hQ H1 O1 s1 r1
  | false =>
    simp only [Bool.false_eq_true, if_false] at he ⊢
    exact ⟨Bn, O1, Γ1, r, Γ', t', r1, he, ht, fun H2 O2 s2 r2 => hQ H2 O2 (s1.trans s2) r2⟩
theorem p_not (C : Cok0 g X) (ha : PE X a (tR g fs ia)) : PE X (.UnaryOp .Not a pos) (tR g fs (.not ia)) := by
  refine PE.weak (pe_notT ha) ?_
  rintro σ H Q ⟨Bn, Ow, Γ, r, Γ', rs, he, hQ⟩
  simp only [ev] at he
  obtain ⟨⟨x, Γ1⟩, e1, he⟩ := Option.bind_eq_some_iff.mp he
  obtain ⟨t, et, he⟩ := Option.map_eq_some_iff.mp he
  simp only [Prod.mk.injEq] at he
  obtain ⟨rfl, rfl⟩ := he
  exact ⟨Bn, Ow, Γ, x, Γ1, rs, e1, fun v H1 O1 s1 r1 v1 => ⟨t, by rw [C.K]; exact test_v r1 v1 et, hQ _ H1 O1 s1 r1 (by simp only [Val, Rep])⟩⟩
theorem t_not (ha : PT X a (tT g fs ia)) : PT X (.UnaryOp .Not a pos) (tT g fs (.not ia)) := by
  refine PT.weak (pt_not ha) ?_
  rintro σ H Q ⟨Bn, Ow, Γ, r, Γ', t', rs, he, ht, hQ⟩
  simp only [ev] at he
  obtain ⟨⟨x, Γ1⟩, e1, he⟩ := Option.bind_eq_some_iff.mp he
  obtain ⟨t, et, he⟩ := Option.map_eq_some_iff.mp he
  simp only [Prod.mk.injEq] at he
  obtain ⟨rfl, rfl⟩ := he
  simp only [testD, datum, Option.bind_some, truthD, Option.some.injEq] at ht
  subst ht
  exact ⟨Bn, Ow, Γ, x, Γ1, t, rs, e1, et, fun H1 O1 s1 r1 => hQ H1 O1 s1 r1⟩
theorem p_ite (hc : PT X c (tT g fs ic)) (ha : PE X a (tR g fs ia)) (hb : PE X b (tR g fs ib)) : PE X (.IfExp c a b pos) (tR g fs (.ite ic ia ib)) := by
  refine PE.weak (pe_ifExp hc ha hb) ?_
  rintro σ H Q ⟨Bn, Ow, Γ, r, Γ', rs, he, hQ⟩
  simp only [ev] at he
  obtain ⟨⟨x, Γ1⟩, e1, he⟩ := Option.bind_eq_some_iff.mp he
  obtain ⟨t, et, he⟩ := Option.bind_eq_some_iff.mp he
  refine ⟨Bn, Ow, Γ, x, Γ1, t, rs, e1, et, fun H1 O1 s1 r1 => ?_⟩
  cases t with
  | true =>
    simp only [if_true] at he ⊢
    exact ⟨Bn, O1, Γ1, r, Γ', r1, he, fun w H2 O2 s2 r2 w2 => hQ w H2 O2 (s1.trans s2) r2 w2⟩
  | false =>
    simp only [Bool.false_eq_true, if_false] at he ⊢
    exact ⟨Bn, O1, Γ1, r, Γ', r1, he, fun w H2 O2 s2 r2 w2 => hQ w H2 O2 (s1.trans s2) r2 w2⟩

/-! ### argument lists, displays, subscripts -/
theorem a_nil : PA X [] (tAs g fs []) := by
  refine PA.weak pa_nil ?_
  rintro σ H Q ⟨Bn, Ow, Γ, xs, Γ', rs, he, hQ⟩
  simp only [evs, Option.some.injEq, Prod.mk.injEq] at he
  obtain ⟨rfl, rfl⟩ := he
  exact hQ [] H Ow (.refl _ _) rs rfl
theorem a_cons {es : List Expr} {ies : List E} (ha : PE X a (tR g fs ia)) (hr : PA X es (tAs g fs ies)) (hs : starEach (a :: es) X.env = (false, eval a X.env) :: starEach es X.env) : PA X (a :: es) (tAs g fs (ia :: ies)) := by
  refine PA.weak (pa_cons ha hr hs) ?_
  rintro σ H Q ⟨Bn, Ow, Γ, xs, Γ', rs, he, hQ⟩
  simp only [evs] at he
  obtain ⟨⟨x, Γ1⟩, e1, he⟩ := Option.bind_eq_some_iff.mp he
  obtain ⟨⟨ys, Γ2⟩, e2, he⟩ := Option.map_eq_some_iff.mp he
  simp only [Prod.mk.injEq] at he
  obtain ⟨rfl, rfl⟩ := he
  exact tR_one rs e1 fun v H1 O1 s1 r1 v1 => ⟨Bn, O1, Γ1, ys, Γ2, r1, e2, fun vs H2 O2 s2 r2 w2 => hQ (v :: vs) H2 O2 (s1.trans s2) r2 ⟨v, vs, rfl, v1.step s2 r2, w2⟩⟩
theorem p_tup {es : List Expr} {ies : List E} {k : Nat} (C : Cok0 g X) (h : PA X es (tAs g fs ies)) : PE X (.Tuple es k pos) (tR g fs (.tup ies)) := by
  refine PE.weak (PE.kf (pe_tup h)) ?_
  rintro σ H Q ⟨Bn, Ow, Γ, r, Γ', rs, he, hQ⟩
  simp only [ev] at he
  obtain ⟨⟨xs, Γ1⟩, e1, he⟩ := Option.bind_eq_some_iff.mp he
  obtain ⟨⟨ds, Γ2⟩, e2, he⟩ := Option.bind_eq_some_iff.mp he
  simp only [Option.ite_none_right_eq_some, Option.some.injEq, Prod.mk.injEq] at he
  obtain ⟨hz, rfl, rfl⟩ := he
  refine ⟨Bn, Ow, Γ, xs, Γ1, rs, e1, fun vs H1 O1 s1 r1 v1 => ?_⟩
  obtain ⟨O2, s2, r2, p2⟩ := fres_ok r1 v1 e2
  refine ⟨by rw [← p2.len]; exact hz, fun p np kf => ?_⟩
  obtain ⟨O3, s3, r3, val⟩ := (new_tup np r2.trk p2).val r2 (same_new np)
  exact hQ _ _ O3 ((s1.trans s2).trans s3) r3 val
theorem p_lst {es : List Expr} {ies : List E} (C : Cok0 g X) (h : PA X es (tAs g fs ies)) : PE X (.List es pos) (tR g fs (.lst ies)) := by
  refine PE.weak (PE.kf (pe_lst h)) ?_
  rintro σ H Q ⟨Bn, Ow, Γ, r, Γ', rs, he, hQ⟩
  simp only [ev] at he
  obtain ⟨⟨xs, Γ1⟩, e1, he⟩ := Option.bind_eq_some_iff.mp he
  obtain ⟨⟨ds, Γ2⟩, e2, he⟩ := Option.bind_eq_some_iff.mp he
  simp only [Option.ite_none_right_eq_some, Option.some.injEq, Prod.mk.injEq] at he
  obtain ⟨hz, rfl, rfl⟩ := he
  refine ⟨Bn, Ow, Γ, xs, Γ1, rs, e1, fun vs H1 O1 s1 r1 v1 => ?_⟩
  obtain ⟨O2, s2, r2, p2⟩ := fres_ok r1 v1 e2
  refine ⟨by rw [← p2.len]; exact hz, fun p np kf => ?_⟩
  have kf' : g.K.lookup p = none := by rw [← C.K]; exact kf_new kf upd_same
  obtain ⟨O3, s3, r3, val⟩ := (new_lst np kf' p2).val r2 (same_new np)
  exact hQ _ _ O3 ((s1.trans s2).trans s3) r3 val
theorem reps_at {A : Addr → Prop} {ds : List D} {vs : List V} {i : Int} {d : D} (h : Reps g A H ds vs) (e : atI ds i = some d) : ∃ v, atI vs i = some v ∧ Rep g A H d v := by
  unfold atI at e ⊢
  rw [← h.len]
  obtain ⟨j, e1, e2⟩ := Option.bind_eq_some_iff.mp e
  obtain ⟨v, e3, r⟩ := h.get e2
  exact ⟨v, by rw [e1]; exact e3, r⟩
theorem atI_map {α β : Type} {f : α → β} {xs : List α} {i : Int} {x : α} (e : atI xs i = some x) : atI (xs.map f) i = some (f x) := by
  unfold atI at e ⊢
  obtain ⟨j, e1, e2⟩ := Option.bind_eq_some_iff.mp e
  rw [List.length_map, e1]
  show (xs.map f)[j]? = _
  rw [List.getElem?_map, e2]
  rfl
theorem ix_core {A : Addr → Prop} {d e r : D} {v w : V} {Q : VK} (hv : Rdb g A H d v) (hw : Rdb g A H e w) (h : ixD d e = some r) (hQ : ∀ u, Rep g A H r u → Q u H) : rIx g.K v w H Q := by
  cases d <;> cases e <;> simp only [ixD, reduceCtorEq] at h
  · split at h
    · obtain ⟨c, e1, rfl⟩ := Option.map_eq_some_iff.mp h
      rename_i hz
      exact .inr (.inr ⟨_, _, c, rdb_str hv, rdb_int hw, hz, e1, hQ _ (by simp only [Rep])⟩)
    · cases h
  · obtain ⟨a, vs, rfl, e1, r1⟩ := hv
    obtain ⟨u, eu, ru⟩ := reps_at r1 h
    exact .inl ⟨a, vs, _, u, rfl, rdb_int hw, .inl (.inl e1), eu, hQ _ ru⟩
  · obtain ⟨a, vs, rfl, _, e1, r1⟩ := rdb_tup hv
    obtain ⟨u, eu, ru⟩ := reps_at r1 h
    exact .inr (.inl ⟨a, vs, _, u, rfl, rdb_int hw, e1, eu, hQ _ ru⟩)
  · obtain ⟨a, rfl, _, e1⟩ := rdb_scr hv
    obtain ⟨i, e2, rfl⟩ := Option.map_eq_some_iff.mp h
    exact .inl ⟨a, _, _, _, rfl, rdb_int hw, e1, atI_map e2, hQ _ (by simp only [Rep])⟩
theorem p_ix (C : Cok0 g X) (ha : PE X a (tR g fs ia)) (hb : PE X b (tR g fs ib)) (hs : PlainIx b) : PE X (.Subscript a b pos) (tR g fs (.ix ia ib)) := by
  refine PE.weak (pe_ix ix_seq ha hb hs) ?_
  rintro σ H Q ⟨Bn, Ow, Γ, r, Γ', rs, he, hQ⟩
  simp only [ev] at he
  obtain ⟨⟨x, Γ1⟩, e1, he⟩ := Option.bind_eq_some_iff.mp he
  obtain ⟨⟨y, Γ2⟩, e2, he⟩ := Option.bind_eq_some_iff.mp he
  obtain ⟨d, ed, he⟩ := Option.bind_eq_some_iff.mp he
  obtain ⟨e, ee, he⟩ := Option.bind_eq_some_iff.mp he
  obtain ⟨r', hb, he⟩ := Option.map_eq_some_iff.mp he
  simp only [Prod.mk.injEq] at he
  obtain ⟨rfl, rfl⟩ := he
  rw [← datum_dn] at ed ee
  refine tR_two rs e1 e2 fun v w H2 O2 s2 r2 v2 w2 => ?_
  rw [C.K]
  exact ix_core (v2.rdb r2 ed) (w2.rdb r2 ee) hb fun u ru => hQ u H2 O2 s2 r2 ru
theorem reps_cut {A : Addr → Prop} {ds : List D} {vs : List V} (lo hi : Option Int) (h : Reps g A H ds vs) : Reps g A H (cutD ds lo hi) (cutV vs lo hi) := by
  unfold cutD cutV
  rw [h.len]
  exact (h.drop _).take _
theorem reps_ints {A : Addr → Prop} : ∀ ns : List Int, Reps g A H (ns.map D.int) (ns.map V.int)
  | [] => by simp only [List.map_nil, Reps]
  | n :: ns => by
    simp only [List.map_cons, Reps]
    exact ⟨_, _, rfl, by simp only [Rep], reps_ints ns⟩
theorem slc_core {A : Addr → Prop} {d : D} {r : RV} {v : V} {lo hi : Option Int} {Q : VK} (hv : Rdb g A H d v) (tr : ∀ a, A a → H a ≠ none) (h : slcD d lo hi = some r) (hQ : ∀ u H', Same H H' → ((∀ a o, g.K.lookup a = some o → H' a = none) → Res g A H H' r u) → Q u H') :
    rSlL g.K v lo hi H Q ∨ rSlT g.K v lo hi H Q := by
  cases d <;> simp only [slcD, reduceCtorEq, Option.some.injEq, Option.ite_none_left_eq_some] at h
  · subst h
    obtain ⟨a, vs, rfl, e1, r1⟩ := hv
    exact .inl ⟨a, vs, rfl, .inl (.inl e1), fun p np => hQ _ _ (same_new np) fun kf => new_lst np (kf_new kf upd_same) (reps_cut lo hi r1)⟩
  · obtain ⟨hz, rfl⟩ := h
    obtain ⟨a, vs, rfl, _, e1, r1⟩ := rdb_tup hv
    refine .inr ⟨a, vs, rfl, e1, by rw [← r1.len]; exact hz, fun p np => hQ _ _ (same_new np) fun kf => new_tup np tr (reps_cut lo hi r1)⟩
  · subst h
    obtain ⟨a, rfl, _, e1⟩ := rdb_scr hv
    exact .inl ⟨a, _, rfl, e1, fun p np => hQ _ _ (same_new np) fun kf => new_lst np (kf_new kf upd_same) (reps_cut lo hi (reps_ints _))⟩
/-- a part of a slice -/
def partOf : Option Expr → List Expr
  | none => []
  | some e => [e]
structure Part (g : Gx) (fs : List FS) (X : Cx) (e : Option Expr) (ies : List E) : Prop where
  run : (e = none ∧ ies = []) ∨ ∃ a ia, e = some a ∧ ies = [ia] ∧ PE X a (tR g fs ia)
theorem p_slc {lo hi : Option Expr} {il ih : List E} {p2 : Pos} (C : Cok0 g X) (ha : PE X a (tR g fs ia)) (hl : Part g fs X lo il) (hh : Part g fs X hi ih) : PE X (.Subscript a (.Slice lo hi none p2) pos) (tR g fs (.slc ia il ih)) := by
  -- the reading of a part
  have part : ∀ {e : Option Expr} {ies : List E}, Part g fs X e ies → ∃ t, PO X e t ∧ ∀ {Bn Ow Γ xs Γ' ds o σ H} {Q : Option Int → Hp → Prop}, RS g Bn Ow H σ Γ → evs fs ies Γ = some (xs, Γ') → datums Γ' xs = some ds → slO ds = some o →
      (∀ H' Ow', Stp Ow H Ow' H' → RS g Bn Ow' H' σ Γ' → Q o H') → t σ H Q := by
    intro e ies h
    rcases h.run with ⟨rfl, rfl⟩ | ⟨b, ib, rfl, rfl, hb⟩
    · refine ⟨_, po_none, fun {Bn Ow Γ xs Γ' ds o σ H Q} rs e1 e2 e3 k => ?_⟩
      simp only [evs, Option.some.injEq, Prod.mk.injEq] at e1
      obtain ⟨rfl, rfl⟩ := e1
      simp only [datums, Option.some.injEq] at e2
      subst e2
      simp only [slO, Option.some.injEq] at e3
      subst e3
      exact k H Ow (.refl _ _) rs
    · refine ⟨_, po_some hb, fun {Bn Ow Γ xs Γ' ds o σ H Q} rs e1 e2 e3 k => ?_⟩
      simp only [evs] at e1
      obtain ⟨⟨x, Γ1⟩, e4, e1⟩ := Option.bind_eq_some_iff.mp e1
      simp only [Option.map_some, Option.some.injEq, Prod.mk.injEq] at e1
      obtain ⟨rfl, rfl⟩ := e1
      simp only [datums] at e2
      obtain ⟨d, e5, e2⟩ := Option.bind_eq_some_iff.mp e2
      simp only [Option.map_some, Option.some.injEq] at e2
      subst e2
      rw [← datum_dn] at e5
      refine tR_one rs e4 fun v H1 O1 s1 r1 v1 => ?_
      have q := v1.rdb r1 e5
      cases d <;> simp only [slO, reduceCtorEq, Option.some.injEq] at e3
      subst e3
      exact ⟨_, rdb_int q, k H1 O1 s1 r1⟩
  obtain ⟨tl, pl, kl⟩ := part hl
  obtain ⟨th, ph, kh⟩ := part hh
  refine PE.weak (PE.kf (pe_slice (sl_list.or sl_tup) ha pl ph)) ?_
  rintro σ H Q ⟨Bn, Ow, Γ, r, Γ', rs, he, hQ⟩
  simp only [ev] at he
  obtain ⟨⟨x, Γ1⟩, e1, he⟩ := Option.bind_eq_some_iff.mp he
  obtain ⟨⟨ys, Γ2⟩, e2, he⟩ := Option.bind_eq_some_iff.mp he
  obtain ⟨l, el, he⟩ := Option.bind_eq_some_iff.mp he
  obtain ⟨⟨zs, Γ3⟩, e3, he⟩ := Option.bind_eq_some_iff.mp he
  obtain ⟨d, ed, he⟩ := Option.bind_eq_some_iff.mp he
  obtain ⟨h, eh, he⟩ := Option.bind_eq_some_iff.mp he
  obtain ⟨lo', el', he⟩ := Option.bind_eq_some_iff.mp he
  obtain ⟨hi', eh', he⟩ := Option.bind_eq_some_iff.mp he
  obtain ⟨r', hb, he⟩ := Option.map_eq_some_iff.mp he
  simp only [Prod.mk.injEq] at he
  obtain ⟨rfl, rfl⟩ := he
  rw [← datum_dn] at ed
  refine tR_one rs e1 fun v H1 O1 s1 r1 v1 => kl r1 e2 el el' fun H2 O2 s2 r2 => kh r2 e3 eh eh' fun H3 O3 s3 r3 => ?_
  rw [C.K]
  have v3 := ((v1.step s2 r2).step s3 r3).rdb r3 ed
  refine slc_core v3 r3.trk hb fun u H' sm kr kf => ?_
  obtain ⟨O4, s4, r4, val⟩ := (kr kf).val r3 sm
  exact hQ u H' O4 (((s1.trans s2).trans s3).trans s4) r4 val
end
end DV

namespace DV
open PySem L2
/-! ### built-ins on data -/
def rBi (g : Gx) (b : Bi) : List V → Hp → VK → Prop := fun vs H Q => ∃ A ds r, Paired (fun d v => Rdb g A H d v) ds vs ∧ (∀ a, A a → H a ≠ none) ∧ biD b ds = some r ∧ ∀ v H', Same H H' → Res g A H H' r v → Q v H'
theorem maxI_spec : ∀ {ns : List Int} {m : Int}, maxI ns = some m → m ∈ ns ∧ ∀ y ∈ ns, y ≤ m := by
  have go : ∀ (r : List Int) (x : Int), (r.foldl (fun a b => if a < b then b else a) x) ∈ x :: r ∧ ∀ y ∈ x :: r, y ≤ r.foldl (fun a b => if a < b then b else a) x := by
    intro r
    induction r with
    | nil => intro x; exact ⟨List.mem_cons_self, fun y hy => by simp at hy; rw [hy]; exact Int.le_refl _⟩
    | cons z r ih =>
      intro x
      rw [List.foldl_cons]
      have q := ih (if x < z then z else x)
      refine ⟨?_, fun y hy => ?_⟩
      · rcases List.mem_cons.mp q.1 with h | h
        · rw [h]; split
          · simp
          · simp
        · simp [h]
      · have q2 := q.2 _ List.mem_cons_self
        have b1 : x ≤ (if x < z then z else x) := by split <;> omega
        have b2 : z ≤ (if x < z then z else x) := by split <;> omega
        rcases List.mem_cons.mp hy with h | h
        · rw [h]; exact Int.le_trans b1 q2
        · rcases List.mem_cons.mp h with h | h
          · rw [h]; exact Int.le_trans b2 q2
          · exact q.2 y (List.mem_cons_of_mem _ h)
  intro ns m h
  cases ns with
  | nil => simp [maxI] at h
  | cons x r => simp only [maxI, Option.some.injEq] at h; subst h; exact go r x
theorem minI_spec : ∀ {ns : List Int} {m : Int}, minI ns = some m → m ∈ ns ∧ ∀ y ∈ ns, m ≤ y := by
  have go : ∀ (r : List Int) (x : Int), (r.foldl (fun a b => if b < a then b else a) x) ∈ x :: r ∧ ∀ y ∈ x :: r, r.foldl (fun a b => if b < a then b else a) x ≤ y := by
    intro r
    induction r with
    | nil => intro x; exact ⟨List.mem_cons_self, fun y hy => by simp at hy; rw [hy]; exact Int.le_refl _⟩
    | cons z r ih =>
      intro x
      rw [List.foldl_cons]
      have q := ih (if z < x then z else x)
      refine ⟨?_, fun y hy => ?_⟩
      · rcases List.mem_cons.mp q.1 with h | h
        · rw [h]; split
          · simp
          · simp
        · simp [h]
      · have q2 := q.2 _ List.mem_cons_self
        have b1 : (if z < x then z else x) ≤ x := by split <;> omega
        have b2 : (if z < x then z else x) ≤ z := by split <;> omega
        rcases List.mem_cons.mp hy with h | h
        · rw [h]; exact Int.le_trans q2 b1
        · rcases List.mem_cons.mp h with h | h
          · rw [h]; exact Int.le_trans q2 b2
          · exact q.2 y (List.mem_cons_of_mem _ h)
  intro ns m h
  cases ns with
  | nil => simp [minI] at h
  | cons x r => simp only [minI, Option.some.injEq] at h; subst h; exact go r x
section
variable {X : Cx} {g : Gx} {A : Addr → Prop} {H : Hp}
theorem ints_of : ∀ {ds : List D} {vs : List V} {ns : List Int}, Reps g A H ds vs → intsD ds = some ns → vs = ns.map V.int
  | [], _, ns, h, e => by simp only [Reps] at h; simp only [intsD, Option.some.injEq] at e; subst h e; rfl
  | d :: ds, _, ns, h, e => by
    simp only [Reps] at h
    obtain ⟨v, r, rfl, h1, h2⟩ := h
    cases d <;> simp only [intsD, reduceCtorEq] at e
    obtain ⟨ms, e1, rfl⟩ := Option.map_eq_some_iff.mp e
    simp only [Rep] at h1
    rw [List.map_cons, h1, ints_of h2 e1]
theorem bls_of : ∀ {ds : List D} {vs : List V} {ns : List Bool}, Reps g A H ds vs → blsD ds = some ns → vs = ns.map V.bl
  | [], _, ns, h, e => by simp only [Reps] at h; simp only [blsD, Option.some.injEq] at e; subst h e; rfl
  | d :: ds, _, ns, h, e => by
    simp only [Reps] at h
    obtain ⟨v, r, rfl, h1, h2⟩ := h
    cases d <;> simp only [blsD, reduceCtorEq] at e
    obtain ⟨ms, e1, rfl⟩ := Option.map_eq_some_iff.mp e
    simp only [Rep] at h1
    rw [List.map_cons, h1, bls_of h2 e1]
theorem intsD_len : ∀ {ds : List D} {ns : List Int}, intsD ds = some ns → ds.length = ns.length
  | [], ns, e => by simp only [intsD, Option.some.injEq] at e; subst e; rfl
  | d :: ds, ns, e => by
    cases d <;> simp only [intsD, reduceCtorEq] at e
    obtain ⟨ms, e1, rfl⟩ := Option.map_eq_some_iff.mp e
    rw [List.length_cons, List.length_cons, intsD_len e1]
theorem pd1 {ds : List D} {v : V} (h : Paired (fun d v => Rdb g A H d v) ds [v]) : ∃ d, ds = [d] ∧ Rdb g A H d v := by
  cases h with
  | cons a b => cases b; exact ⟨_, rfl, a⟩
theorem bi1 {b : Bi} {f : Value} {r : List V → Hp → VK → Prop} (hK : X.K = g.K) (h : CallR X f r)
    (k : ∀ (A : Addr → Prop) (H : Hp) (ds : List D) (vs : List V) (x : RV) (Q : VK), Paired (fun d v => Rdb g A H d v) ds vs → (∀ a, A a → H a ≠ none) → biD b ds = some x → (∀ v H', Same H H' → ((∀ a o, g.K.lookup a = some o → H' a = none) → Res g A H H' x v) → Q v H') → r vs H Q) : CallR X f (rBi g b) := by
  refine CallR.weak (CallR.kf h) ?_
  rintro vs H Q ⟨A, ds, x, hp, tr, hb, hQ⟩
  exact k A H ds vs x _ hp tr hb fun v H' sm kr kf => hQ v H' sm (kr fun a o e => kf a o (by rw [hK]; exact e))
theorem paired1 {x : D} {vs : List V} (h : Paired (fun d v => Rdb g A H d v) [x] vs) : ∃ v, vs = [v] ∧ Rdb g A H x v := by
  cases h with
  | cons a b => cases b; exact ⟨_, rfl, a⟩
theorem paired2 {x y : D} {vs : List V} (h : Paired (fun d v => Rdb g A H d v) [x, y] vs) : ∃ v w, vs = [v, w] ∧ Rdb g A H x v ∧ Rdb g A H y w := by
  cases h with
  | cons a b =>
    cases b with
    | cons c d => cases d; exact ⟨_, _, rfl, a, c⟩
theorem b_len (hK : X.K = g.K) : CallR X (.builtin "len") (rBi g .len) := by
  refine bi1 hK call_len ?_
  intro A H ds vs x Q hp tr hb hQ
  rw [hK]
  match ds, hb with
  | [.lst xs], hb =>
    simp only [biD, Option.some.injEq] at hb; subst hb
    obtain ⟨v, rfl, q⟩ := paired1 hp
    obtain ⟨a, ws, rfl, e1, r1⟩ := q
    exact ⟨_, ws.length, rfl, .inl ⟨ws, .inl (.inl e1), rfl⟩, hQ _ H (same_rfl H) fun _ => by simp only [Res, Rep, r1.len]⟩
  | [.tup xs], hb =>
    simp only [biD, Option.some.injEq] at hb; subst hb
    obtain ⟨v, rfl, q⟩ := paired1 hp
    obtain ⟨a, ws, rfl, _, e1, r1⟩ := rdb_tup q
    exact ⟨_, ws.length, rfl, .inr ⟨ws, e1, rfl⟩, hQ _ H (same_rfl H) fun _ => by simp only [Res, Rep, r1.len]⟩
  | [.scr ns], hb =>
    simp only [biD, Option.some.injEq] at hb; subst hb
    obtain ⟨v, rfl, q⟩ := paired1 hp
    obtain ⟨a, rfl, _, e1⟩ := rdb_scr q
    exact ⟨_, _, rfl, .inl ⟨_, e1, rfl⟩, hQ _ H (same_rfl H) fun _ => by simp only [Res, Rep, List.length_map]⟩
  | [.str s], hb =>
    simp only [biD, Option.ite_none_right_eq_some, Option.some.injEq] at hb
    obtain ⟨hz, rfl⟩ := hb
    obtain ⟨v, rfl, q⟩ := paired1 hp
    exact ⟨_, s.length, rfl, by rw [rdb_str q]; exact ⟨hz, rfl⟩, hQ _ H (same_rfl H) fun _ => by simp only [Res, Rep]⟩
theorem b_int (hK : X.K = g.K) : CallR X (.type "int") (rBi g .int1) := by
  refine bi1 hK call_int1 ?_
  intro A H ds vs x Q hp tr hb hQ
  match ds, hb with
  | [.int i], hb =>
    simp only [biD, Option.some.injEq] at hb; subst hb
    obtain ⟨v, rfl, q⟩ := paired1 hp
    exact .inl ⟨i, by rw [rdb_int q], hQ _ H (same_rfl H) fun _ => by simp only [Res, Rep]⟩
  | [.bl i], hb =>
    simp only [biD, Option.some.injEq] at hb; subst hb
    obtain ⟨v, rfl, q⟩ := paired1 hp
    exact .inr ⟨i, by rw [rdb_bl q], hQ _ H (same_rfl H) fun _ => by simp only [Res, Rep]⟩
theorem b_abs (hK : X.K = g.K) : CallR X (.builtin "abs") (rBi g .abs) := by
  refine bi1 hK call_abs ?_
  intro A H ds vs x Q hp tr hb hQ
  match ds, hb with
  | [.int i], hb =>
    simp only [biD, Option.some.injEq] at hb; subst hb
    obtain ⟨v, rfl, q⟩ := paired1 hp
    exact ⟨i, by rw [rdb_int q], hQ _ H (same_rfl H) fun _ => by simp only [Res, Rep]⟩
theorem b_max2 (C : Cok g X) : CallR X (.builtin "max") (rBi g .max2) := by
  refine bi1 C.K (call_max2 C.calm) ?_
  intro A H ds vs x Q hp tr hb hQ
  match ds, hb with
  | [.int i, .int j], hb =>
    simp only [biD, Option.some.injEq] at hb; subst hb
    obtain ⟨v, w, rfl, q, q'⟩ := paired2 hp
    exact ⟨i, j, by rw [rdb_int q, rdb_int q'], hQ _ H (same_rfl H) fun _ => by simp only [Res, Rep]⟩
theorem b_min2 (C : Cok g X) : CallR X (.builtin "min") (rBi g .min2) := by
  refine bi1 C.K (call_min2 C.calm) ?_
  intro A H ds vs x Q hp tr hb hQ
  match ds, hb with
  | [.int i, .int j], hb =>
    simp only [biD, Option.some.injEq] at hb; subst hb
    obtain ⟨v, w, rfl, q, q'⟩ := paired2 hp
    exact ⟨i, j, by rw [rdb_int q, rdb_int q'], hQ _ H (same_rfl H) fun _ => by simp only [Res, Rep]⟩
theorem b_maxl (C : Cok g X) : CallR X (.builtin "max") (rBi g .maxl) := by
  refine bi1 C.K (cr_max C.calm) ?_
  intro A H ds vs x Q hp tr hb hQ
  match ds, hb with
  | [.lst xs], hb =>
    simp only [biD] at hb
    obtain ⟨ns, e1, hb⟩ := Option.bind_eq_some_iff.mp hb
    obtain ⟨m, e2, rfl⟩ := Option.map_eq_some_iff.mp hb
    obtain ⟨v, rfl, q⟩ := paired1 hp
    obtain ⟨a, ws, rfl, e3, r1⟩ := q
    rw [ints_of r1 e1] at e3
    have sp := maxI_spec e2
    refine ⟨a, ns, rfl, .inl (.inl e3), List.length_pos_of_mem sp.1, fun m' h1 h2 => hQ _ H (same_rfl H) fun _ => ?_⟩
    simp only [Res, Rep]
    rw [Int.le_antisymm (sp.2 m' h1) (h2 m sp.1)]
theorem b_minl (C : Cok g X) : CallR X (.builtin "min") (rBi g .minl) := by
  refine bi1 C.K (cr_min C.calm) ?_
  intro A H ds vs x Q hp tr hb hQ
  match ds, hb with
  | [.lst xs], hb =>
    simp only [biD] at hb
    obtain ⟨ns, e1, hb⟩ := Option.bind_eq_some_iff.mp hb
    obtain ⟨m, e2, rfl⟩ := Option.map_eq_some_iff.mp hb
    obtain ⟨v, rfl, q⟩ := paired1 hp
    obtain ⟨a, ws, rfl, e3, r1⟩ := q
    rw [ints_of r1 e1] at e3
    have sp := minI_spec e2
    refine ⟨a, ns, rfl, .inl (.inl e3), List.length_pos_of_mem sp.1, fun m' h1 h2 => hQ _ H (same_rfl H) fun _ => ?_⟩
    simp only [Res, Rep]
    rw [Int.le_antisymm (h2 m sp.1) (sp.2 m' h1)]
theorem b_suml (C : Cok g X) : CallR X (.builtin "sum") (rBi g .suml) := by
  refine bi1 C.K (cr_sum C.calm) ?_
  intro A H ds vs x Q hp tr hb hQ
  match ds, hb with
  | [.lst xs], hb =>
    simp only [biD] at hb
    obtain ⟨ns, e1, rfl⟩ := Option.map_eq_some_iff.mp hb
    obtain ⟨v, rfl, q⟩ := paired1 hp
    obtain ⟨a, ws, rfl, e3, r1⟩ := q
    rw [ints_of r1 e1] at e3
    exact ⟨a, ns, rfl, .inl (.inl e3), hQ _ H (same_rfl H) fun _ => by simp only [Res, Rep]⟩
theorem b_alll (C : Cok g X) : CallR X (.builtin "all") (rBi g .alll) := by
  refine bi1 C.K (cr_all C.calm) ?_
  intro A H ds vs x Q hp tr hb hQ
  match ds, hb with
  | [.lst xs], hb =>
    simp only [biD] at hb
    obtain ⟨ns, e1, rfl⟩ := Option.map_eq_some_iff.mp hb
    obtain ⟨v, rfl, q⟩ := paired1 hp
    obtain ⟨a, ws, rfl, e3, r1⟩ := q
    rw [bls_of r1 e1] at e3
    exact ⟨a, ns, rfl, .inl (.inl e3), hQ _ H (same_rfl H) fun _ => by simp only [Res, Rep]⟩
theorem b_anyl (C : Cok g X) : CallR X (.builtin "any") (rBi g .anyl) := by
  refine bi1 C.K (cr_any C.calm) ?_
  intro A H ds vs x Q hp tr hb hQ
  match ds, hb with
  | [.lst xs], hb =>
    simp only [biD] at hb
    obtain ⟨ns, e1, rfl⟩ := Option.map_eq_some_iff.mp hb
    obtain ⟨v, rfl, q⟩ := paired1 hp
    obtain ⟨a, ws, rfl, e3, r1⟩ := q
    rw [bls_of r1 e1] at e3
    exact ⟨a, ns, rfl, .inl (.inl e3), hQ _ H (same_rfl H) fun _ => by simp only [Res, Rep]⟩
theorem b_list (hK : X.K = g.K) : CallR X (.type "list") (rBi g .list) := by
  refine bi1 hK call_list_of ?_
  intro A H ds vs x Q hp tr hb hQ
  rw [hK]
  match ds, hb with
  | [.lst xs], hb =>
    simp only [biD, Option.some.injEq] at hb; subst hb
    obtain ⟨v, rfl, q⟩ := paired1 hp
    obtain ⟨a, ws, rfl, e1, r1⟩ := q
    exact ⟨a, ws, rfl, .inl (.inl (.inl e1)), fun p np => hQ _ _ (same_new np) fun kf => new_lst np (kf_new kf upd_same) r1⟩
  | [.tup xs], hb =>
    simp only [biD, Option.some.injEq] at hb; subst hb
    obtain ⟨v, rfl, q⟩ := paired1 hp
    obtain ⟨a, ws, rfl, _, e1, r1⟩ := rdb_tup q
    exact ⟨a, ws, rfl, .inr e1, fun p np => hQ _ _ (same_new np) fun kf => new_lst np (kf_new kf upd_same) r1⟩
theorem b_tuple (hK : X.K = g.K) : CallR X (.type "tuple") (rBi g .tuple) := by
  refine bi1 hK call_tuple_of ?_
  intro A H ds vs x Q hp tr hb hQ
  rw [hK]
  match ds, hb with
  | [.lst xs], hb =>
    simp only [biD, Option.some.injEq] at hb; subst hb
    obtain ⟨v, rfl, q⟩ := paired1 hp
    obtain ⟨a, ws, rfl, e1, r1⟩ := q
    exact ⟨a, ws, rfl, .inl ⟨.inl (.inl e1), fun p np => hQ _ _ (same_new np) fun kf => new_tup np tr r1⟩⟩
  | [.tup xs], hb =>
    simp only [biD, Option.some.injEq] at hb; subst hb
    obtain ⟨v, rfl, q⟩ := paired1 hp
    have q0 := q
    obtain ⟨a, ws, rfl, _, e1, r1⟩ := rdb_tup q
    exact ⟨a, ws, rfl, .inr ⟨e1, hQ _ H (same_rfl H) fun _ => q0⟩⟩
def tyN : Ty → String
  | .int => "int" | .bool => "bool" | .str => "str" | .list => "list" | .tuple => "tuple"
/-- isinstance(x, T): the reading of the two arguments -/
theorem isi_core {t : Ty} {d : D} {v : V} {Q : VK} (hs : shallow d = true) (h : Rdb g A H d v) (hQ : Q (.bl (isiD t d)) H) : rIsi g.K [v, .ty (tyN t)] H Q := by
  cases d with
  | obj => simp [shallow] at hs
  | exc => simp [shallow] at hs
  | err => simp [shallow] at hs
  | scr => simp [shallow] at hs
  | dct =>
    obtain ⟨a, rfl, _, e1⟩ := rdb_dct h
    exact ⟨_, _, _, _, isiD t .dct, rfl, .ty _, .base (.dK e1), kit_ty (by cases t <;> (simp only [isiD, tyN]; decide +kernel)), hQ⟩
  | dic ks ds =>
    obtain ⟨a, vs, rfl, _, _, e1, _⟩ := rdb_dic h
    exact ⟨_, _, _, _, isiD t (.dic ks ds), rfl, .ty _, .base (.dK e1), kit_ty (by cases t <;> (simp only [isiD, tyN]; decide +kernel)), hQ⟩
  | non => rw [rdb_non h]; exact ⟨_, _, _, _, isiD t .non, rfl, .ty _, .base .non, kit_ty (by cases t <;> decide +kernel), hQ⟩
  | bl b => rw [rdb_bl h]; exact ⟨_, _, _, _, isiD t (.bl b), rfl, .ty _, .base (.bl b), kit_ty (by cases t <;> (simp only [isiD, tyN]; decide +kernel)), hQ⟩
  | int b => rw [rdb_int h]; exact ⟨_, _, _, _, isiD t (.int b), rfl, .ty _, .base (.int b), kit_ty (by cases t <;> (simp only [isiD, tyN]; decide +kernel)), hQ⟩
  | str b => rw [rdb_str h]; exact ⟨_, _, _, _, isiD t (.str b), rfl, .ty _, .base (.str b), kit_ty (by cases t <;> (simp only [isiD, tyN]; decide +kernel)), hQ⟩
  | lst b =>
    obtain ⟨a, ws, rfl, e1, r1⟩ := h
    exact ⟨_, _, _, _, isiD t (.lst b), rfl, .ty _, .base (.lst e1), kit_ty (by cases t <;> (simp only [isiD, tyN]; decide +kernel)), hQ⟩
  | tup b =>
    obtain ⟨a, ws, rfl, _, e1, r1⟩ := rdb_tup h
    have k : PySem.W.kitOne g.K (.type "tuple") (.type (tyN t)) = some (isiD t (.tup b)) := kit_ty (by cases t <;> (simp only [isiD, tyN]; decide +kernel))
    rcases e1 with (e1 | ⟨o, e1⟩) | ⟨o, its, n, e1, e2, _⟩
    · exact ⟨_, _, _, _, _, rfl, .ty _, .base (.tup e1), k, hQ⟩
    · exact ⟨_, _, _, _, _, rfl, .ty _, .fTuple e1, k, hQ⟩
    · exact ⟨_, _, _, _, _, rfl, .ty _, .kTuple e1 e2, k, hQ⟩
end
section
variable {X : Cx} {g : Gx} {fs : List FS} {e : Expr} {es : List Expr} {ies : List E} {x : Str} {id T : String} {b : Bi} {p pos : Pos}
theorem bi_core {Bn : Addr → Prop} {Ow : List Addr} {H : Hp} {σ : St} {Γ Γ' : Ct} {r : RV} {Q : VK} (rs : RS g Bn Ow H σ Γ) (he : ev fs (.bi b ies) Γ = some (r, Γ')) (hQ : ∀ v H' Ow', Stp Ow H Ow' H' → RS g Bn Ow' H' σ Γ' → Val g Bn Ow' H' σ Γ' r v → Q v H') :
    tCB (rBi g b) (tAs g fs ies) σ H Q := by
  simp only [ev] at he
  obtain ⟨⟨xs, Γ1⟩, e1, he⟩ := Option.bind_eq_some_iff.mp he
  obtain ⟨ds, e2, he⟩ := Option.bind_eq_some_iff.mp he
  obtain ⟨r', e3, he⟩ := Option.map_eq_some_iff.mp he
  simp only [Prod.mk.injEq] at he
  obtain ⟨rfl, rfl⟩ := he
  refine ⟨Bn, Ow, Γ, xs, Γ1, rs, e1, fun vs H1 O1 s1 r1 v1 => ?_⟩
  exact ⟨Av Bn O1, ds, _, datums_ok r1 v1 e2, r1.trk, e3, fun v H' sm res => let ⟨O3, s3, r3, val⟩ := res.val r1 sm; hQ v H' O3 (s1.trans s3) r3 val⟩
theorem p_biB (hc : CallR X (.builtin id) (rBi g b)) (hg : Gl X x) (hm : X.mg x = none) (hv : bootBuiltins x = some (.builtin id)) (ha : PA X (e :: es) (tAs g fs ies)) (hn : x ≠ "__name__") (hdb : (x == ("__debug__" : Str)) = false)
    (he : starEach (e :: es) X.env = (false, eval e X.env) :: starEach es X.env) (hpl : (backTo pos (starEach es X.env)).any (·.1) = false) : PE X (.Call (.Name x p) (e :: es) [] pos) (tR g fs (.bi b ies)) := by
  refine PE.weak (pe_callB hc hg hm hv ha hn hdb he hpl) ?_
  rintro σ H Q ⟨Bn, Ow, Γ, r, Γ', rs, he, hQ⟩
  exact bi_core rs he hQ
theorem p_biT (hc : CallR X (.type T) (rBi g b)) (hg : Gl X x) (hm : X.mg x = none) (hv : bootBuiltins x = some (.type T)) (ha : PA X (e :: es) (tAs g fs ies)) (hn : x ≠ "__name__") (hdb : (x == ("__debug__" : Str)) = false)
    (he : starEach (e :: es) X.env = (false, eval e X.env) :: starEach es X.env) (hpl : (backTo pos (starEach es X.env)).any (·.1) = false) : PE X (.Call (.Name x p) (e :: es) [] pos) (tR g fs (.bi b ies)) := by
  refine PE.weak (pe_callTy hc hg hm hv ha hn hdb he hpl) ?_
  rintro σ H Q ⟨Bn, Ow, Γ, r, Γ', rs, he, hQ⟩
  exact bi_core rs he hQ
theorem p_isi {a : Expr} {ia : E} {t : Ty} {y : Str} {p2 : Pos} (C : Cok0 g X) (ha : PE X a (tR g fs ia)) (hy : PE X (.Name y p2) (tC (.ty (tyN t)))) (hg : Gl X "isinstance") (hm : X.mg "isinstance" = none)
    (he : starEach (a :: [.Name y p2]) X.env = (false, eval a X.env) :: starEach [.Name y p2] X.env) (hpl : (backTo pos (starEach [.Name y p2] X.env)).any (·.1) = false) : PE X (.Call (.Name "isinstance" p) [a, .Name y p2] [] pos) (tR g fs (.bi (.isi t) [ia])) := by
  refine PE.weak (pe_callB call_isi hg hm PyProof.Rows.boot_isinstance (pa_cons ha (pa_cons hy pa_nil rfl) he) (by decide) (by decide) he hpl) ?_
  rintro σ H Q ⟨Bn, Ow, Γ, r, Γ', rs, he, hQ⟩
  simp only [ev, evs] at he
  obtain ⟨⟨xs, Γ1⟩, e1, he⟩ := Option.bind_eq_some_iff.mp he
  obtain ⟨⟨x, Γ2⟩, e2, e1⟩ := Option.bind_eq_some_iff.mp e1
  simp only [Option.map_some, Option.some.injEq, Prod.mk.injEq] at e1
  obtain ⟨rfl, rfl⟩ := e1
  obtain ⟨ds, e3, he⟩ := Option.bind_eq_some_iff.mp he
  obtain ⟨r', e4, he⟩ := Option.map_eq_some_iff.mp he
  simp only [Prod.mk.injEq] at he
  obtain ⟨rfl, rfl⟩ := he
  simp only [datums] at e3
  obtain ⟨d, e5, e3⟩ := Option.bind_eq_some_iff.mp e3
  simp only [Option.map_some, Option.some.injEq] at e3
  subst e3
  simp only [biD, Option.ite_none_right_eq_some, Option.some.injEq] at e4
  obtain ⟨hs, rfl⟩ := e4
  rw [← datum_dn] at e5
  refine tR_one rs e2 fun v H1 O1 s1 r1 v1 => ?_
  show rIsi X.K [v, .ty (tyN t)] H1 Q
  rw [C.K]
  exact isi_core hs (v1.rdb r1 e5) (hQ _ H1 O1 s1 r1 (by simp only [Val, Rep]))
end
end DV

namespace DV
open PySem L2
/-- the promise of a def by what it does to data -/
def spF (g : Gx) (n : Nat) (F : FS) : Sp := fun vs H Q _ => vs.length = n ∧ ∃ Bn Ow Γ r os, RS g Bn Ow H (vs.map some) Γ ∧ F Γ = some (r, os) ∧ (∀ i, r ≠ .sl i) ∧
  ∀ v H' Ow', Stp Ow H Ow' H' → RS g Bn Ow' H' (vs.map some) os → Val g Bn Ow' H' (vs.map some) os r v → Q v H'
/-- the same, what is wished told by the result -/
def spG (g : Gx) (n : Nat) (F : FS) (R : RV → VK) (vs : List V) (H : Hp) : Prop := vs.length = n ∧ ∃ Bn Ow Γ r os, RS g Bn Ow H (vs.map some) Γ ∧ F Γ = some (r, os) ∧ (∀ i, r ≠ .sl i) ∧
  ∀ v H' Ow', Stp Ow H Ow' H' → RS g Bn Ow' H' (vs.map some) os → Val g Bn Ow' H' (vs.map some) os r v → R r v H'
def OwS (Γ : Ct) (j : Nat) : Prop := ∃ d, Γ[j]? = some (some (d, true))
theorem ownIx_mem {Γ : Ct} {j : Nat} : ∀ {xs : List RV}, j ∈ ownIx Γ xs ↔ .sl j ∈ xs ∧ OwS Γ j
  | [] => by simp [ownIx]
  | x :: xs => by
    have ih := @ownIx_mem Γ j xs
    cases x with
    | fz d => simp only [ownIx, List.mem_cons, reduceCtorEq, false_or]; exact ih
    | nw d => simp only [ownIx, List.mem_cons, reduceCtorEq, false_or]; exact ih
    | sl i =>
      simp only [ownIx]
      split
      · rename_i d q
        simp only [List.mem_cons, RV.sl.injEq]
        constructor
        · rintro (h | h)
          · subst h; exact ⟨.inl rfl, d, q⟩
          · exact ⟨.inr (ih.mp h).1, (ih.mp h).2⟩
        · rintro ⟨h | h, o⟩
          · exact .inl h
          · exact .inr (ih.mpr ⟨h, o⟩)
      · rename_i q
        simp only [List.mem_cons, RV.sl.injEq]
        rw [ih]
        constructor
        · rintro ⟨h, o⟩; exact ⟨.inr h, o⟩
        · rintro ⟨h | h, o⟩
          · subst h; obtain ⟨d, o⟩ := o; exact absurd o (q d)
          · exact ⟨h, o⟩
theorem nodupB_cons {x : Nat} {xs : List Nat} (h : nodupB (x :: xs) = true) : x ∉ xs ∧ nodupB xs = true := by
  simp only [nodupB, Bool.and_eq_true, Bool.not_eq_true', List.contains_eq_mem, decide_eq_false_iff_not] at h
  exact h
theorem ownIx_tail {Γ : Ct} {x : RV} {xs : List RV} (h : nodupB (ownIx Γ (x :: xs)) = true) : nodupB (ownIx Γ xs) = true := by
  cases x with
  | fz d => exact h
  | nw d => exact h
  | sl i =>
    simp only [ownIx] at h
    split at h
    · exact (nodupB_cons h).2
    · exact h
theorem ownIx_head {Γ : Ct} {j : Nat} {xs : List RV} (h : nodupB (ownIx Γ (.sl j :: xs)) = true) (o : OwS Γ j) : .sl j ∉ xs := fun z => by
  obtain ⟨d, o⟩ := o
  simp only [ownIx, o] at h
  exact (nodupB_cons h).1 (ownIx_mem.mpr ⟨z, d, o⟩)
theorem own_uniq {Γ : Ct} {j : Nat} (o : OwS Γ j) : ∀ {xs : List RV} {i k : Nat}, nodupB (ownIx Γ xs) = true → xs[i]? = some (.sl j) → xs[k]? = some (.sl j) → i = k
  | [], i, k, _, h, _ => by simp at h
  | x :: xs, 0, 0, _, _, _ => rfl
  | x :: xs, 0, k + 1, n, h1, h2 => by
    simp at h1; subst h1
    exact absurd (List.mem_of_getElem? (by simpa using h2)) (ownIx_head n o)
  | x :: xs, i + 1, 0, n, h1, h2 => by
    simp at h2; subst h2
    exact absurd (List.mem_of_getElem? (by simpa using h1)) (ownIx_head n o)
  | x :: xs, i + 1, k + 1, n, h1, h2 => by
    have := own_uniq o (i := i) (k := k) (ownIx_tail n) (by simpa using h1) (by simpa using h2)
    omega
theorem put_len {Γ0 : Ct} : ∀ {xs : List RV} {os Γ : Ct}, (putOuts Γ0 xs os Γ).length = Γ.length
  | [], os, Γ => by cases os <;> simp [putOuts]
  | x :: xs, [], Γ => by cases x <;> simp [putOuts]
  | x :: xs, o :: os, Γ => by
    cases x with
    | fz d => simp only [putOuts]; exact put_len
    | nw d => simp only [putOuts]; exact put_len
    | sl i =>
      simp only [putOuts]
      split
      · rw [put_len, List.length_set]
      · exact put_len
theorem put_miss {Γ0 : Ct} {j : Nat} : ∀ {xs : List RV} {os Γ : Ct}, (∀ i : Nat, xs[i]? = some (.sl j) → ¬ OwS Γ0 j) → (putOuts Γ0 xs os Γ)[j]? = Γ[j]?
  | [], os, Γ, _ => by cases os <;> simp [putOuts]
  | x :: xs, [], Γ, _ => by cases x <;> simp [putOuts]
  | x :: xs, o :: os, Γ, h => by
    have ih : ∀ Γ, (putOuts Γ0 xs os Γ)[j]? = Γ[j]? := fun Γ => put_miss fun i e => h (i + 1) (by simpa using e)
    cases x with
    | fz d => simp only [putOuts]; exact ih Γ
    | nw d => simp only [putOuts]; exact ih Γ
    | sl i =>
      simp only [putOuts]
      split
      · rename_i d q
        rw [ih, List.getElem?_set_ne]
        intro z
        subst z
        exact h 0 rfl ⟨d, q⟩
      · exact ih Γ
theorem put_hit {Γ0 : Ct} {j : Nat} (ow : OwS Γ0 j) : ∀ {xs : List RV} {os Γ : Ct} {i : Nat} {o : Sl}, nodupB (ownIx Γ0 xs) = true → xs[i]? = some (.sl j) → os[i]? = some o → j < Γ.length → (putOuts Γ0 xs os Γ)[j]? = some o
  | [], os, Γ, i, o, _, h, _, _ => by simp at h
  | x :: xs, [], Γ, i, o, _, _, h, _ => by simp at h
  | x :: xs, p :: os, Γ, 0, o, n, h1, h2, hl => by
    simp at h1 h2; subst h1 h2
    have hh := ownIx_head n ow
    obtain ⟨d, q⟩ := ow
    simp only [putOuts, q]
    rw [put_miss fun i e => absurd (List.mem_of_getElem? e) hh, List.getElem?_set_self hl]
  | x :: xs, p :: os, Γ, i + 1, o, n, h1, h2, hl => by
    have n' := ownIx_tail n
    have h1' : xs[i]? = some (.sl j) := by simpa using h1
    have h2' : os[i]? = some o := by simpa using h2
    cases x with
    | fz d => simp only [putOuts]; exact put_hit ow n' h1' h2' hl
    | nw d => simp only [putOuts]; exact put_hit ow n' h1' h2' hl
    | sl k =>
      simp only [putOuts]
      split
      · exact put_hit ow n' h1' h2' (by rw [List.length_set]; exact hl)
      · exact put_hit ow n' h1' h2' hl
theorem argSs_len {Γ : Ct} : ∀ {xs : List RV} {as : List (D × Bool)}, argSs Γ xs = some as → as.length = xs.length
  | [], as, h => by simp only [argSs, Option.some.injEq] at h; subst h; rfl
  | x :: xs, as, h => by
    simp only [argSs] at h
    obtain ⟨d, _, h⟩ := Option.bind_eq_some_iff.mp h
    obtain ⟨r, e, rfl⟩ := Option.map_eq_some_iff.mp h
    rw [List.length_cons, List.length_cons, argSs_len e]
theorem argSs_get {Γ : Ct} : ∀ {xs : List RV} {as : List (D × Bool)} {i : Nat} {p : D × Bool}, argSs Γ xs = some as → as[i]? = some p → ∃ x, xs[i]? = some x ∧ argS Γ x = some p
  | [], as, i, p, h, e => by simp only [argSs, Option.some.injEq] at h; subst h; simp at e
  | x :: xs, as, i, p, h, e => by
    simp only [argSs] at h
    obtain ⟨d, hd, h⟩ := Option.bind_eq_some_iff.mp h
    obtain ⟨r, e1, rfl⟩ := Option.map_eq_some_iff.mp h
    cases i with
    | zero => simp at e; subst e; exact ⟨x, rfl, hd⟩
    | succ i => obtain ⟨y, h1, h2⟩ := argSs_get (i := i) e1 (by simpa using e); exact ⟨y, by simpa using h1, h2⟩
section
variable {g : Gx} {Bn : Addr → Prop} {Ow Ow' : List Addr} {H H' : Hp} {σ : St} {Γ Γ' : Ct}
/-- values by results, new ones owned -/
def VlW (g : Gx) (Bn : Addr → Prop) (Ow : List Addr) (H : Hp) (σ : St) (Γ : Ct) : List RV → List V → Prop
  | [], vs => vs = []
  | x :: xs, vs => ∃ v r, vs = v :: r ∧ Val g Bn Ow H σ Γ x v ∧ (∀ d, x = .nw d → ∀ (j : Nat) (e : D), xs[j]? = some (.nw e) → r[j]? ≠ some v) ∧ VlW g Bn Ow H σ Γ xs r
def tAw (g : Gx) (fs : List FS) (es : List E) : TA := fun σ H Q => ∃ Bn Ow Γ xs Γ', RS g Bn Ow H σ Γ ∧ evs fs es Γ = some (xs, Γ') ∧ ∀ vs H' Ow', Stp Ow H Ow' H' → RS g Bn Ow' H' σ Γ' → VlW g Bn Ow' H' σ Γ' xs vs → Q vs H'
theorem VlW.len : ∀ {xs : List RV} {vs : List V}, VlW g Bn Ow H σ Γ xs vs → xs.length = vs.length
  | [], _, h => by have h : _ = [] := h; subst h; rfl
  | x :: xs, _, ⟨v, r, e, _, _, h2⟩ => by subst e; rw [List.length_cons, List.length_cons, h2.len]
theorem VlW.get : ∀ {xs : List RV} {vs : List V} {i : Nat} {x : RV}, VlW g Bn Ow H σ Γ xs vs → xs[i]? = some x → ∃ v, vs[i]? = some v ∧ Val g Bn Ow H σ Γ x v
  | [], _, i, x, _, e => by simp at e
  | y :: xs, _, 0, x, ⟨v, r, e0, h1, _⟩, e => by simp at e; subst e e0; exact ⟨v, rfl, h1⟩
  | y :: xs, _, i + 1, x, ⟨v, r, e0, _, _, h2⟩, e => by
    subst e0
    obtain ⟨w, h3, h4⟩ := VlW.get (i := i) h2 (by simpa using e)
    exact ⟨w, by simpa using h3, h4⟩
theorem VlW.uniq : ∀ {xs : List RV} {vs : List V} {i k : Nat} {d e : D} {v : V}, VlW g Bn Ow H σ Γ xs vs → xs[i]? = some (.nw d) → xs[k]? = some (.nw e) → vs[i]? = some v → vs[k]? = some v → i = k
  | [], _, i, k, d, e, v, _, h1, _, _, _ => by simp at h1
  | y :: xs, _, 0, 0, d, e, v, _, _, _, _, _ => rfl
  | y :: xs, _, 0, k + 1, d, e, v, ⟨w, r, e0, _, h, _⟩, h1, h2, h3, h4 => by
    subst e0
    simp at h1 h3; subst h1 h3
    exact absurd (by simpa using h4) (h d rfl k e (by simpa using h2))
  | y :: xs, _, i + 1, 0, d, e, v, ⟨w, r, e0, _, h, _⟩, h1, h2, h3, h4 => by
    subst e0
    simp at h2 h4; subst h2 h4
    exact absurd (by simpa using h3) (h e rfl i d (by simpa using h1))
  | y :: xs, _, i + 1, k + 1, d, e, v, ⟨w, r, e0, _, _, hr⟩, h1, h2, h3, h4 => by
    subst e0
    rw [VlW.uniq (i := i) (k := k) hr (by simpa using h1) (by simpa using h2) (by simpa using h3) (by simpa using h4)]
theorem map_some_get {vs : List V} {i : Nat} {v : V} : (vs.map some)[i]? = some (some v) ↔ vs[i]? = some v := by
  rw [List.getElem?_map]
  cases vs[i]? <;> simp
/-- the addresses that are handed over -/
def handed (vs : List V) (as : List (D × Bool)) : List Addr := (vs.zip as).filterMap fun p => match p with
  | (.ref a, (_, true)) => some a
  | _ => none
theorem handed_mem {vs : List V} {as : List (D × Bool)} {a : Addr} : a ∈ handed vs as ↔ ∃ (i : Nat) (d : D), vs[i]? = some (.ref a) ∧ as[i]? = some (d, true) := by
  unfold handed
  rw [List.mem_filterMap]
  constructor
  · rintro ⟨⟨v, d, b⟩, hm, e⟩
    obtain ⟨i, hi⟩ := List.mem_iff_getElem?.mp hm
    rw [List.getElem?_zip_eq_some] at hi
    cases v with
    | ref x =>
      cases b with
      | true => simp only [Option.some.injEq] at e; subst e; exact ⟨i, d, hi.1, hi.2⟩
      | false => cases e
    | _ => cases e
  · rintro ⟨i, d, h1, h2⟩
    exact ⟨(.ref a, (d, true)), List.mem_iff_getElem?.mpr ⟨i, by rw [List.getElem?_zip_eq_some]; exact ⟨h1, h2⟩⟩, rfl⟩
theorem call_coreG {xs : List RV} {vs : List V} {as : List (D × Bool)} {r : RV} {os : Ct} {F : FS} {R : RV → VK} (rs : RS g Bn Ow H σ Γ) (hv : VlW g Bn Ow H σ Γ xs vs) (ea : argSs Γ xs = some as) (nd : nodupB (ownIx Γ xs) = true) (ef : F (as.map some) = some (r, os)) (nr : ∀ i, r ≠ .sl i)
    {n : Nat} (hn : vs.length = n) (hQ : ∀ v H' Ow', Stp Ow H Ow' H' → RS g Bn Ow' H' σ (putOuts Γ xs os Γ) → Val g Bn Ow' H' σ (putOuts Γ xs os Γ) r v → (∀ (i : Nat) d0 d a, xs[i]? = some (.nw d0) → os[i]? = some (some (d, true)) → vs[i]? = some (.ref a) → Val g Bn Ow' H' σ (putOuts Γ xs os Γ) (.nw d) (.ref a)) → R r v H') : spG g n F R vs H := by
  have l1 := argSs_len ea
  have l2 := hv.len
  -- an owned argument
  have ownArg : ∀ {i : Nat} {d : D}, as[i]? = some (d, true) → ∃ a, vs[i]? = some (.ref a) ∧ a ∈ Ow ∧ OwnA g (Av Bn Ow) H d a ∧ ((∃ j, xs[i]? = some (.sl j) ∧ Γ[j]? = some (some (d, true)) ∧ σ[j]? = some (some (.ref a))) ∨ (xs[i]? = some (.nw d) ∧ ∀ (j : Nat) e, Γ[j]? = some (some (e, true)) → σ[j]? ≠ some (some (.ref a)))) := by
    intro i d h
    obtain ⟨x, h1, h2⟩ := argSs_get ea h
    obtain ⟨v, h3, h4⟩ := hv.get h1
    cases x with
    | fz e => simp [argS] at h2
    | nw e =>
      simp only [argS, Option.some.injEq, Prod.mk.injEq, and_true] at h2
      subst h2
      obtain ⟨a, rfl, m, o, no⟩ := h4
      exact ⟨a, h3, m, o, .inr ⟨h1, no⟩⟩
    | sl j =>
      simp only [argS] at h2
      split at h2
      · rename_i p q
        cases h2
        obtain ⟨a, e1, m, o⟩ := rs.own j d q
        have h4 : σ[j]? = some (some v) := h4
        rw [e1] at h4; cases h4
        exact ⟨a, h3, m, o, .inl ⟨j, h1, q, e1⟩⟩
      · cases h2
  let Io := handed vs as
  have ioOw : ∀ a, a ∈ Io → a ∈ Ow := fun a h => by
    obtain ⟨i, d, h1, h2⟩ := handed_mem.mp h
    obtain ⟨b, h3, m, _⟩ := ownArg h2
    rw [h1] at h3; cases h3
    exact m
  let Bn' : Addr → Prop := fun a => Bn a ∨ (a ∈ Ow ∧ a ∉ Io)
  have av1 : ∀ a, Av Bn' Io a → Av Bn Ow a := fun a h => by
    rcases h with (h | h) | h
    · exact .inl h
    · exact .inr h.1
    · exact .inr (ioOw a h)
  refine ⟨hn, Bn', Io, as.map some, r, os, ⟨?_, fun i d h => ?_, fun i d h => ?_, fun i k d e a h1 h2 h3 h4 => ?_, fun a h => rs.trl a (av1 a h), fun a h z => ?_, fun a h => rs.kf a (av1 a h), rs.tabs⟩, ef, nr, fun v H' O' st rs' val => ?_⟩
  · rw [List.length_map, List.length_map]; omega
  · have h : as[i]? = some (d, false) := by
      rw [List.getElem?_map] at h
      cases e : as[i]? with
      | none => rw [e] at h; cases h
      | some p => rw [e] at h; simp only [Option.map_some, Option.some.injEq] at h; rw [h]
    obtain ⟨x, h1, h2⟩ := argSs_get ea h
    obtain ⟨v, h3, h4⟩ := hv.get h1
    refine ⟨v, map_some_get.mpr h3, rep_less av1 ?_⟩
    cases x with
    | fz e => simp only [argS, Option.some.injEq, Prod.mk.injEq, and_true] at h2; subst h2; exact h4
    | nw e => simp [argS] at h2
    | sl j =>
      simp only [argS] at h2
      split at h2
      · rename_i p q
        cases h2
        obtain ⟨w, e1, rp⟩ := rs.slot j d q
        have h4 : σ[j]? = some (some v) := h4
        rw [e1] at h4; cases h4
        exact rp
      · cases h2
  · have h : as[i]? = some (d, true) := by
      rw [List.getElem?_map] at h
      cases e : as[i]? with
      | none => rw [e] at h; cases h
      | some p => rw [e] at h; simp only [Option.map_some, Option.some.injEq] at h; rw [h]
    obtain ⟨a, h3, m, o, _⟩ := ownArg h
    exact ⟨a, map_some_get.mpr h3, handed_mem.mpr ⟨i, d, h3, h⟩, own_less av1 o⟩
  · have h1 : as[i]? = some (d, true) := by
      rw [List.getElem?_map] at h1
      cases e : as[i]? with
      | none => rw [e] at h1; cases h1
      | some p => rw [e] at h1; simp only [Option.map_some, Option.some.injEq] at h1; rw [h1]
    have h2 : as[k]? = some (e, true) := by
      rw [List.getElem?_map] at h2
      cases z : as[k]? with
      | none => rw [z] at h2; cases h2
      | some p => rw [z] at h2; simp only [Option.map_some, Option.some.injEq] at h2; rw [h2]
    obtain ⟨a1, v1, _, _, c1⟩ := ownArg h1
    obtain ⟨a2, v2, _, _, c2⟩ := ownArg h2
    have w1 := map_some_get.mp h3
    have w2 := map_some_get.mp h4
    rw [w1] at v1; cases v1
    rw [w2] at v2; cases v2
    rcases c1 with ⟨j1, x1, q1, e1⟩ | ⟨x1, n1⟩ <;> rcases c2 with ⟨j2, x2, q2, e2⟩ | ⟨x2, n2⟩
    · have := rs.dist j1 j2 _ _ _ q1 q2 e1 e2
      subst this
      exact own_uniq ⟨_, q1⟩ nd x1 x2
    · exact absurd e1 (n2 j1 _ q1)
    · exact absurd e2 (n1 j2 _ q2)
    · exact hv.uniq x1 x2 w1 w2
  · rcases h with h | h
    · exact rs.sep a h (ioOw a z)
    · exact h.2 z
  -- behind the call
  let O2 := Ow.filter (fun a => decide (a ∉ Io)) ++ O'
  have memO2 : ∀ a, a ∈ O2 ↔ (a ∈ Ow ∧ a ∉ Io) ∨ a ∈ O' := fun a => by
    show a ∈ Ow.filter (fun a => decide (a ∉ Io)) ++ O' ↔ _
    rw [List.mem_append, List.mem_filter]
    simp
  have av2 : ∀ a, Av Bn O2 a → Av Bn' O' a := fun a h => by
    rcases h with h | h
    · exact .inl (.inl h)
    · rcases (memO2 a).mp h with h | h
      · exact .inl (.inr h)
      · exact .inr h
  have stO : Stp Ow H O2 H' := ⟨fun a o h t nm => st.keep0 a o h t fun z => nm (ioOw a z), fun a h => by
    rcases (memO2 a).mp h with h | h
    · exact .inl h.1
    · rcases st.grow a h with h | h
      · exact .inl (ioOw a h)
      · exact .inr h⟩
  have vst := step_vst (g := g) (Bn := Bn) stO fun a h => rs'.kf a (av2 a (.inr h))
  have lo : os.length = vs.length := by rw [← rs'.len, List.length_map]
  -- a slot that is not handed over
  have missA : ∀ {j : Nat} {a : Addr} {d : D}, Γ[j]? = some (some (d, true)) → σ[j]? = some (some (.ref a)) → (∀ i : Nat, xs[i]? ≠ some (.sl j)) → a ∉ Io := fun {j a d} h1 h2 h3 z => by
    obtain ⟨i, e, q1, q2⟩ := handed_mem.mp z
    obtain ⟨a2, v2, _, _, c2⟩ := ownArg q2
    rw [q1] at v2; cases v2
    rcases c2 with ⟨j2, x2, g2, s2⟩ | ⟨x2, n2⟩
    · have := rs.dist j j2 _ _ _ h1 g2 h2 s2
      subst this
      exact h3 i x2
    · exact n2 j _ h1 h2
  have cases_ : ∀ (j : Nat), (∃ (i : Nat) (d : D) (a : Addr) (o : Sl), xs[i]? = some (.sl j) ∧ Γ[j]? = some (some (d, true)) ∧ σ[j]? = some (some (.ref a)) ∧ vs[i]? = some (.ref a) ∧ a ∈ Io ∧ os[i]? = some o ∧ (putOuts Γ xs os Γ)[j]? = some o) ∨
      ((putOuts Γ xs os Γ)[j]? = Γ[j]? ∧ ∀ d, Γ[j]? = some (some (d, true)) → ∀ i : Nat, xs[i]? ≠ some (.sl j)) := fun j => by
    by_cases h : ∃ i : Nat, xs[i]? = some (.sl j) ∧ OwS Γ j
    · obtain ⟨i, h1, h2⟩ := h
      obtain ⟨d, q⟩ := h2
      obtain ⟨a, e1, m, o⟩ := rs.own j d q
      obtain ⟨v, h3, h4⟩ := hv.get h1
      have h4 : σ[j]? = some (some v) := h4
      rw [e1] at h4; cases h4
      have ai : as[i]? = some (d, true) := by
        have hi : i < as.length := by rw [l1]; exact (List.getElem?_eq_some_iff.mp h1).1
        obtain ⟨x, q1, q2⟩ := argSs_get ea (List.getElem?_eq_getElem hi)
        rw [h1] at q1; cases q1
        simp only [argS, q, Option.some.injEq] at q2
        rw [List.getElem?_eq_getElem hi, ← q2]
      have hi : i < os.length := by rw [lo]; exact (List.getElem?_eq_some_iff.mp h3).1
      refine .inl ⟨i, d, a, os[i], h1, q, e1, h3, handed_mem.mpr ⟨i, d, h3, ai⟩, List.getElem?_eq_getElem hi, put_hit ⟨d, q⟩ nd h1 (List.getElem?_eq_getElem hi) (List.getElem?_eq_some_iff.mp q).1⟩
    · exact .inr ⟨put_miss fun i e o => h ⟨i, e, o⟩, fun d q i e => h ⟨i, e, d, q⟩⟩
  have hRS : RS g Bn O2 H' σ (putOuts Γ xs os Γ) := by
    refine ⟨by rw [put_len]; exact rs.len, fun j d h => ?_, fun j d h => ?_, fun j k d e a h1 h2 h3 h4 => ?_, fun a h => rs'.trl a (av2 a h), fun a h z => ?_, fun a h => rs'.kf a (av2 a h), rs'.tabs⟩
    · rcases cases_ j with ⟨i, d0, a, o, x1, q1, s1, v1, m1, o1, p1⟩ | ⟨p1, _⟩
      · rw [p1] at h; cases h
        obtain ⟨w, e1, rp⟩ := rs'.slot i d o1
        rw [map_some_get.mp e1] at v1; cases v1
        exact ⟨_, s1, rep_less av2 rp⟩
      · rw [p1] at h
        obtain ⟨w, e1, rp⟩ := rs.slot j d h
        exact ⟨w, e1, rep_mono vst d w rp⟩
    · rcases cases_ j with ⟨i, d0, a, o, x1, q1, s1, v1, m1, o1, p1⟩ | ⟨p1, p2⟩
      · rw [p1] at h; cases h
        obtain ⟨b, e1, m, ow⟩ := rs'.own i d o1
        rw [map_some_get.mp e1] at v1; cases v1
        exact ⟨_, s1, (memO2 _).mpr (.inr m), own_less av2 ow⟩
      · rw [p1] at h
        obtain ⟨b, e1, m, ow⟩ := rs.own j d h
        have nb := missA h e1 (p2 d h)
        refine ⟨b, e1, (memO2 _).mpr (.inl ⟨m, nb⟩), ?_⟩
        cases d with
        | lst ds => obtain ⟨ws, z1, z2⟩ := ow; exact ⟨ws, st.keep b _ z1 nb, reps_mono vst _ _ z2⟩
        | obj c ks ds => obtain ⟨dx, ws, l, z1, z2⟩ := ow; exact ⟨dx, ws, l, st.keep b _ z1 nb, reps_mono vst _ _ z2⟩
        | _ => exact ow
    · rcases cases_ j with ⟨i1, d1, a1, o1, x1, q1, s1, v1, m1, z1, p1⟩ | ⟨p1, p1'⟩ <;> rcases cases_ k with ⟨i2, d2, a2, o2, x2, q2, s2, v2, m2, z2, p2⟩ | ⟨p2, p2'⟩
      · rw [s1] at h3; cases h3
        rw [s2] at h4; cases h4
        exact rs.dist j k _ _ _ q1 q2 s1 s2
      · rw [s1] at h3; cases h3
        rw [p2] at h2
        exact absurd m1 (missA h2 h4 (p2' _ h2))
      · rw [s2] at h4; cases h4
        rw [p1] at h1
        exact absurd m2 (missA h1 h3 (p1' _ h1))
      · rw [p1] at h1; rw [p2] at h2
        exact rs.dist j k _ _ _ h1 h2 h3 h4
    · rcases (memO2 a).mp z with z | z
      · exact rs.sep a h z.1
      · rcases st.grow a z with z | z
        · exact rs.sep a h (ioOw a z)
        · exact rs.trn a (.inl h) z
  refine hQ v H' O2 stO hRS ?_ fun i d0 d a h1 h2 h3 => ?_
  rotate_left
  · obtain ⟨b, e1, m, ow⟩ := rs'.own i d h2
    rw [map_some_get.mp e1] at h3; cases h3
    have hb := map_some_get.mp e1
    obtain ⟨w, q1, q2⟩ := hv.get h1
    rw [hb] at q1; cases q1
    obtain ⟨a', e2, m2, _, no⟩ := q2
    cases e2
    refine ⟨_, rfl, (memO2 _).mpr (.inr m), own_less av2 ow, fun j e g1 g2 => ?_⟩
    rcases cases_ j with ⟨i', d1, a1, o, x1, y1, s1, v1, m1, o1, p1⟩ | ⟨p1, _⟩
    · exact no j _ y1 g2
    · rw [p1] at g1
      exact no j _ g1 g2
  cases r with
  | sl i => exact absurd rfl (nr i)
  | fz d => exact rep_less av2 val
  | nw d =>
    obtain ⟨a, e0, m, ow, no⟩ := val
    refine ⟨a, e0, (memO2 a).mpr (.inr m), own_less av2 ow, fun j d' h1 h2 => ?_⟩
    rcases cases_ j with ⟨i, d0, a', o, x1, q1, s1, v1, m1, o1, p1⟩ | ⟨p1, p2⟩
    · rw [s1] at h2; cases h2
      rw [p1] at h1; cases h1
      exact no i _ o1 (map_some_get.mpr v1)
    · rw [p1] at h1
      obtain ⟨b, e1, mb, _⟩ := rs.own j _ h1
      rw [h2] at e1; cases e1
      have nb := missA h1 h2 (p2 _ h1)
      rcases st.grow a m with z | z
      · exact nb z
      · exact rs.trn a (.inr mb) z
theorem call_core {xs : List RV} {vs : List V} {as : List (D × Bool)} {r : RV} {os : Ct} {F : FS} {Q : VK} (rs : RS g Bn Ow H σ Γ) (hv : VlW g Bn Ow H σ Γ xs vs) (ea : argSs Γ xs = some as) (nd : nodupB (ownIx Γ xs) = true) (ef : F (as.map some) = some (r, os)) (nr : ∀ i, r ≠ .sl i)
    {n : Nat} (hn : vs.length = n) {E : XK} (hQ : ∀ v H' Ow', Stp Ow H Ow' H' → RS g Bn Ow' H' σ (putOuts Γ xs os Γ) → Val g Bn Ow' H' σ (putOuts Γ xs os Γ) r v → (∀ (i : Nat) d0 d a, xs[i]? = some (.nw d0) → os[i]? = some (some (d, true)) → vs[i]? = some (.ref a) → Val g Bn Ow' H' σ (putOuts Γ xs os Γ) (.nw d) (.ref a)) → Q v H') : spF g n F vs H Q E := call_coreG (R := fun _ => Q) rs hv ea nd ef nr hn hQ
end
section
variable {X : Cx} {g : Gx} {fs : List FS} {e : Expr} {es : List Expr} {ies : List E} {x : Str} {p pos : Pos} {k lv n : Nat} {f : Addr} {fd : FuncData} {ps : List Str} {F : FS}
theorem call_core2 {Bn : Addr → Prop} {Ow : List Addr} {H : Hp} {σ : St} {Γ Γ' : Ct} {r : RV} {Q : VK} {Ex : XK} (hF : fs[k]? = some F) (hn : ies.length = n) (rs : RS g Bn Ow H σ Γ) (he : ev fs (.call k ies) Γ = some (r, Γ')) (hQ : ∀ v H' Ow', Stp Ow H Ow' H' → RS g Bn Ow' H' σ Γ' → Val g Bn Ow' H' σ Γ' r v → Q v H') :
    tCall (spF g n F) [] Ex (tAw g fs ies) σ H Q := by
  simp only [ev] at he
  obtain ⟨⟨xs, Γ1⟩, e1, he⟩ := Option.bind_eq_some_iff.mp he
  obtain ⟨F', e2, he⟩ := Option.bind_eq_some_iff.mp he
  rw [hF] at e2; cases e2
  obtain ⟨as, e3, he⟩ := Option.bind_eq_some_iff.mp he
  simp only [Option.ite_none_right_eq_some] at he
  obtain ⟨nd, he⟩ := he
  obtain ⟨⟨r', os⟩, e4, he⟩ := Option.bind_eq_some_iff.mp he
  have evl : ∀ {es : List E} {Γ Γ' : Ct} {xs : List RV}, evs fs es Γ = some (xs, Γ') → es.length = xs.length := by
    intro es
    induction es with
    | nil => intro Γ Γ' xs h; simp only [evs, Option.some.injEq, Prod.mk.injEq] at h; rw [← h.1]; rfl
    | cons a es ih =>
      intro Γ Γ' xs h
      simp only [evs] at h
      obtain ⟨⟨y, G1⟩, _, h⟩ := Option.bind_eq_some_iff.mp h
      obtain ⟨⟨ys, G2⟩, h2, h⟩ := Option.map_eq_some_iff.mp h
      simp only [Prod.mk.injEq] at h
      rw [← h.1, List.length_cons, List.length_cons, ih h2]
  refine ⟨Bn, Ow, Γ, xs, Γ1, rs, e1, fun vs H1 O1 s1 r1 v1 => ?_⟩
  show spF g n F (vs ++ []) H1 Q Ex
  rw [List.append_nil]
  have hl : vs.length = n := by rw [← v1.len, ← evl e1, hn]
  cases r' with
  | sl i => cases he
  | fz d =>
    simp only [Option.some.injEq, Prod.mk.injEq] at he
    obtain ⟨rfl, rfl⟩ := he
    exact call_core r1 v1 e3 nd e4 (fun i z => nomatch z) hl fun v H' O2 s2 r2 val _ => hQ v H' O2 (s1.trans s2) r2 val
  | nw d =>
    simp only [Option.some.injEq, Prod.mk.injEq] at he
    obtain ⟨rfl, rfl⟩ := he
    exact call_core r1 v1 e3 nd e4 (fun i z => nomatch z) hl fun v H' O2 s2 r2 val _ => hQ v H' O2 (s1.trans s2) r2 val
theorem p_call (hF : fs[k]? = some F) (hn : ies.length = n) (G : FnOk X.prog X.w X.K X.mg X.base CX0 lv f fd ps (spF g n F)) (hr : Room lv X.A) (hg : Gl X x) (hm : X.mg x = some (.ref f)) (hk : PySem.W.keepIn X.K (.ref f) = true) (hb : Binds X.K fd ps [])
    (ha : PA X (e :: es) (tAw g fs ies)) (hdb : (x == ("__debug__" : Str)) = false) (he : starEach (e :: es) X.env = (false, eval e X.env) :: starEach es X.env) (hpl : (backTo pos (starEach es X.env)).any (·.1) = false) :
    PE X (.Call (.Name x p) (e :: es) [] pos) (tR g fs (.call k ies)) := by
  refine PE.weak (pe_call G hr hg hm hk hb .nil pass0 ha hdb he hpl) ?_
  rintro σ H Q ⟨Bn, Ow, Γ, r, Γ', rs, he, hQ⟩
  exact call_core2 hF hn rs he hQ
theorem p_call0 (hF : fs[k]? = some F) (G : FnOk X.prog X.w X.K X.mg X.base CX0 lv f fd ps (spF g 0 F)) (hr : Room lv X.A) (hg : Gl X x) (hm : X.mg x = some (.ref f)) (hk : PySem.W.keepIn X.K (.ref f) = true) (hb : Binds X.K fd ps [])
    (hdb : (x == ("__debug__" : Str)) = false) : PE X (.Call (.Name x p) [] [] pos) (tR g fs (.call k [])) := by
  refine PE.weak (pe_call0 G hr hg hm hk hb .nil pass0 hdb) ?_
  rintro σ H Q ⟨Bn, Ow, Γ, r, Γ', rs, he, hQ⟩
  have q := call_core2 (Ex := E0) hF rfl rs he hQ
  obtain ⟨Bn', Ow', G0, xs, G1, rs', e1, k1⟩ := q
  simp only [evs, Option.some.injEq, Prod.mk.injEq] at e1
  obtain ⟨rfl, rfl⟩ := e1
  exact k1 [] H Ow' (.refl _ _) rs' rfl
end
end DV

namespace DV
open PySem L2
/-! ### ranges with a step, also of great ints -/
section
open PySem PySem.Spec PyProof.Rows
theorem turn_longC {P : Program} {w : World} {K : PySem.W.Frag} {tg : Expr} (it : Addr) (lo c : Int) (n : Nat) : Turn P w K tg (Itc lo c n) [it] it (fun i h => IsLongIter h it (lo + (i : Nat) * c) ((n : Int) - (i : Nat)) c) where
  mem := by simp
  obj := fun i h st b hb => by
    have e : b = it := by simpa using hb
    subst e
    exact ⟨_, st, fun v z => nomatch z⟩
  keep := fun i h h' st k => k it (by simp) _ st
  item := by
    intro X hP hw hK hc i pins s σ H E I hf st hg
    subst hP hw hK
    obtain ⟨f0, f1, f2, f3, f4, f5⟩ := hf it (by simp)
    have W := Walks.longrange (prog := X.prog) (w := X.w) (I.ok.hd hc) it lo c n
    refine W.item i s _ _ hg st fun v h' tk hv st' kk => ?_
    obtain ⟨t, rfl⟩ := hv
    have I1 : Inv X pins σ H { s with heap := h', toks := tk } := I.turned (fun b o hb e => kk b o (by simpa using hb) e) f0 f1 f3 f4 f5
    exact ⟨_, rfl, go_of (s := { s with heap := h', toks := tk }) (n := "longrange_iterator") st' rfl rfl (by decide) ⟨.int (lo + (i : Nat) * c), H, I1, ⟨t, rfl⟩, ⟨rfl, rfl⟩, st', fun b hb => (hf b hb).1⟩⟩
  done := by
    intro X hP hw hK hc i pins s σ H E I hf st hg
    subst hP hw hK
    obtain ⟨f0, f1, f2, f3, f4, f5⟩ := hf it (by simp)
    exact wpAny_pyNext_long_end (I.ok.hd hc) st (by have : n ≤ i := hg; omega) fun h' eb => ⟨rfl, I.turned (t' := s.toks) (fun b o hb e => eb b o hb e) f0 f1 f3 f4 f5⟩
  self := fun A i s Q E st h => wpAny_pyIter_longiter st h
def RgG (i j c : Int) (n : Nat) : Prop := c ≠ 0 ∧ c.natAbs.log2 < 9000 ∧ Builtin.Range.rangeSize i j c = n
def iRngG (ta : TA) : TI := fun σ H R => ta σ H fun vs H1 => ∃ (i j c : Int) (n : Nat), vs = [.int i, .int j, .int c] ∧ RgG i j c n ∧ R (Itc i c n) H1
theorem pi_range3G {X : Cx} {tg : Expr} {a b c : Expr} {ta : TA} {p pos : Pos} (hg : Gl X "range") (hm : X.mg "range" = none) (ha : PA X [a, b, c] ta)
    (hs : starEach [a, b, c] X.env = (false, eval a X.env) :: starEach [b, c] X.env := by rfl) (hpl : (backTo pos (starEach [b, c] X.env)).any (·.1) = false := by rfl) :
    PI X tg (.Call (.Name "range" p) [a, b, c] [] pos) (iRngG ta) := by
  refine ⟨fun pins s σ H R I h => ?_⟩
  refine Call_ (ld_blt I hg hm boot_range (PyProof.Rows.callWith_type1 (thn (ha.run pos pins s σ H _ I h) fun us s1 ⟨vs, H1, I1, r1, q1⟩ => ?_) hs hpl))
  obtain ⟨i, j, k, n, e, ⟨c0, c1, c3⟩, q⟩ := q1
  subst e
  cases r1 with
  | cons r rr =>
    cases rr with
    | cons r' rr =>
      cases rr with
      | cons r'' rr =>
        cases rr
        obtain ⟨t, rfl⟩ := r
        obtain ⟨t', rfl⟩ := r'
        obtain ⟨t'', rfl⟩ := r''
        refine call_range_3 c0 ?_ (.inl (PyProof.noPylong_of_log2 c1))
        have I2 : Inv X pins σ H1 { s1 with heap := s1.heap.push { cls := .type "range", data := .fields #[.int i t, .int j t', .int k t''] } } := I1.kept (t' := s1.toks) fun b o e => Heap.get?_push_of_some _ e
        have e1 : i + ((0 : Nat) : Int) * k = i := by simp
        have e2 : (n : Int) - ((0 : Nat) : Int) = Builtin.Range.rangeSize i j k := by rw [c3]; simp
        by_cases hsm : Builtin.Range.small i j k = true
        · refine wpAny_pyIter_range (IsRange.new ..) hsm ?_
          refine pi_one (tk := s1.toks) I2 _ (turn_rangeC _ i k n) ?_ q
          show IsRangeIter _ _ (i + ((0 : Nat) : Int) * k) ((n : Int) - ((0 : Nat) : Int)) k
          rw [e1, e2]
          exact Heap.get?_push_size _ rfl
        · refine wpAny_pyIter_longrange (IsRange.new ..) (by simpa using hsm) ?_
          refine pi_one (tk := s1.toks) I2 _ (turn_longC _ i k n) ?_ q
          show IsLongIter _ _ (i + ((0 : Nat) : Int) * k) ((n : Int) - ((0 : Nat) : Int)) k
          rw [e1, e2]
          exact Heap.get?_push_size _ rfl
end
/-! ### targets -/
def tgT (K : PySem.W.Frag) : Tg → TG
  | .nm i => gName i
  | .tp ts => gTup K ts.length (tgTs K ts)
where tgTs (K : PySem.W.Frag) : List Tg → TGs
  | [] => gNil
  | t :: ts => gCons (tgT K t) (tgTs K ts)
section
variable {g : Gx} {Bn : Addr → Prop} {Ow Ow' : List Addr} {H H' : Hp} {σ : St} {Γ Γ' : Ct}
theorem RS.set {i : Nat} {d : D} {v : V} (rs : RS g Bn Ow H σ Γ) (r : Rep g (Av Bn Ow) H d v) (hi : i < Γ.length) : RS g Bn Ow H (σ.set i (some v)) (Γ.set i (some (d, false))) := by
  have hs : i < σ.length := by rw [rs.len]; exact hi
  refine ⟨by rw [List.length_set, List.length_set]; exact rs.len, fun j e h => ?_, fun j e h => ?_, fun j k e f a h1 h2 h3 h4 => ?_, rs.trl, rs.sep, rs.kf, rs.tabs⟩
  · by_cases hj : i = j
    · subst hj
      rw [List.getElem?_set_self hi] at h; cases h
      exact ⟨v, List.getElem?_set_self hs, r⟩
    · rw [List.getElem?_set_ne hj] at h
      rw [List.getElem?_set_ne hj]
      exact rs.slot j e h
  · by_cases hj : i = j
    · subst hj
      rw [List.getElem?_set_self hi] at h; cases h
    · rw [List.getElem?_set_ne hj] at h
      rw [List.getElem?_set_ne hj]
      exact rs.own j e h
  · have n1 : i ≠ j := fun z => by subst z; rw [List.getElem?_set_self hi] at h1; cases h1
    have n2 : i ≠ k := fun z => by subst z; rw [List.getElem?_set_self hi] at h2; cases h2
    rw [List.getElem?_set_ne n1] at h1 h3
    rw [List.getElem?_set_ne n2] at h2 h4
    exact rs.dist j k _ _ _ h1 h2 h3 h4
theorem RS.setO {i : Nat} {d : D} {v : V} (rs : RS g Bn Ow H σ Γ) (r : Val g Bn Ow H σ Γ (.nw d) v) (hi : i < Γ.length) : RS g Bn Ow H (σ.set i (some v)) (Γ.set i (some (d, true))) := by
  have hs : i < σ.length := by rw [rs.len]; exact hi
  obtain ⟨a, rfl, m, o, no⟩ := r
  refine ⟨by rw [List.length_set, List.length_set]; exact rs.len, fun j e h => ?_, fun j e h => ?_, fun j k e f b h1 h2 h3 h4 => ?_, rs.trl, rs.sep, rs.kf, rs.tabs⟩
  · by_cases hj : i = j
    · subst hj
      rw [List.getElem?_set_self hi] at h; cases h
    · rw [List.getElem?_set_ne hj] at h
      rw [List.getElem?_set_ne hj]
      exact rs.slot j e h
  · by_cases hj : i = j
    · subst hj
      rw [List.getElem?_set_self hi] at h; cases h
      exact ⟨a, List.getElem?_set_self hs, m, o⟩
    · rw [List.getElem?_set_ne hj] at h
      rw [List.getElem?_set_ne hj]
      exact rs.own j e h
  · by_cases n1 : i = j <;> by_cases n2 : i = k
    · omega
    · subst n1
      rw [List.getElem?_set_self hs] at h3; cases h3
      rw [List.getElem?_set_ne n2] at h2 h4
      exact absurd h4 (no k f h2)
    · subst n2
      rw [List.getElem?_set_self hs] at h4; cases h4
      rw [List.getElem?_set_ne n1] at h1 h3
      exact absurd h3 (no j e h1)
    · rw [List.getElem?_set_ne n1] at h1 h3
      rw [List.getElem?_set_ne n2] at h2 h4
      exact rs.dist j k _ _ _ h1 h2 h3 h4
mutual
theorem asgT_ok : ∀ (t : Tg) {d : D} {v : V} {σ : St} {Γ Γ' : Ct} {Q : St → Hp → Prop}, RS g Bn Ow H σ Γ → Rep g (Av Bn Ow) H d v → asgT t d Γ = some Γ' →
    (∀ σ', RS g Bn Ow H σ' Γ' → σ'.length = σ.length → (∀ i, i ∉ tgIx t → σ'[i]? = σ[i]?) → Q σ' H) → tgT g.K t v σ H Q
  | .nm i, d, v, σ, Γ, Γ', Q, rs, r, e, k => by
    simp only [asgT, Option.ite_none_right_eq_some, Option.some.injEq] at e
    obtain ⟨hi, rfl⟩ := e
    refine k _ (rs.set r hi) List.length_set fun j hj => ?_
    rw [List.getElem?_set_ne]
    intro z
    subst z
    simp [tgIx] at hj
  | .tp ts, d, v, σ, Γ, Γ', Q, rs, r, e, k => by
    cases d <;> simp only [asgT, reduceCtorEq] at e
    simp only [Rep] at r
    obtain ⟨a, vs, rfl, _, s, rr⟩ := r
    have hl : ts.length = vs.length := by
      rw [← rr.len]
      have : ∀ (ts : List Tg) (ds : List D) (Γ Γ' : Ct), asgT.asgTs ts ds Γ = some Γ' → ts.length = ds.length := by
        intro ts
        induction ts with
        | nil => intro ds Γ Γ' h; cases ds with
          | nil => rfl
          | cons => simp only [asgT.asgTs, reduceCtorEq] at h
        | cons t ts ih => intro ds Γ Γ' h; cases ds with
          | nil => simp only [asgT.asgTs, reduceCtorEq] at h
          | cons d ds =>
            simp only [asgT.asgTs] at h
            obtain ⟨G1, _, h⟩ := Option.bind_eq_some_iff.mp h
            rw [List.length_cons, List.length_cons, ih _ _ _ h]
      exact this _ _ _ _ e
    exact ⟨a, vs, rfl, s, hl.symm, asgTs_ok ts rs rr e fun σ' q1 q2 q3 => k σ' q1 q2 fun i hi => q3 i (by simpa only [tgIx] using hi)⟩
theorem asgTs_ok : ∀ (ts : List Tg) {ds : List D} {vs : List V} {σ : St} {Γ Γ' : Ct} {Q : St → Hp → Prop}, RS g Bn Ow H σ Γ → Reps g (Av Bn Ow) H ds vs → asgT.asgTs ts ds Γ = some Γ' →
    (∀ σ', RS g Bn Ow H σ' Γ' → σ'.length = σ.length → (∀ i, i ∉ tgIx.tgIxs ts → σ'[i]? = σ[i]?) → Q σ' H) → tgT.tgTs g.K ts vs σ H Q
  | [], ds, vs, σ, Γ, Γ', Q, rs, r, e, k => by
    cases ds <;> simp only [asgT.asgTs, reduceCtorEq, Option.some.injEq] at e
    subst e
    simp only [Reps] at r
    exact ⟨r, k σ rs rfl fun _ _ => rfl⟩
  | t :: ts, ds, vs, σ, Γ, Γ', Q, rs, r, e, k => by
    cases ds with
    | nil => simp only [asgT.asgTs, reduceCtorEq] at e
    | cons d ds =>
      simp only [asgT.asgTs] at e
      obtain ⟨G1, e1, e⟩ := Option.bind_eq_some_iff.mp e
      simp only [Reps] at r
      obtain ⟨v, w, rfl, r1, r2⟩ := r
      refine ⟨v, w, rfl, asgT_ok t rs r1 e1 fun σ1 q1 q2 q3 => asgTs_ok ts q1 r2 e fun σ2 p1 p2 p3 => k σ2 p1 (p2.trans q2) fun i hi => ?_⟩
      simp only [tgIx.tgIxs, List.mem_append, not_or] at hi
      rw [p3 i hi.2, q3 i hi.1]
end

/-! ### what is walked -/
structure WalkD (g : Gx) (Bn : Addr → Prop) (Ow : List Addr) (H : Hp) (J : It) (ds : List D) : Prop where
  go : ∀ i H', i < ds.length → (∀ a o, H a = some o → nT o → a ∉ Ow → H' a = some o) → J.go i H'
  stop : ∀ H', (∀ a o, H a = some o → nT o → a ∉ Ow → H' a = some o) → J.stop ds.length H'
  same : ∀ i H' x H'', J.yld i H' x H'' → Same H' H''
  yld : ∀ (i : Nat) d Bn' Ow' H' σ' Γ' x H'', ds[i]? = some d → (∀ a, Bn a → Bn' a) → (∀ a, Bn' a → Bn a ∨ H a = none) → Stp Ow H Ow' H' → RS g Bn' Ow' H' σ' Γ' → J.yld i H' x H'' → Same H' H'' ∧ Rep g (Av Bn' Ow') H'' d x
theorem vst2 {Bn' : Addr → Prop} (hB : ∀ a, Bn' a → Bn a ∨ H a = none) (s : Stp Ow H Ow' H') (rs : RS g Bn' Ow' H' σ Γ) : ∀ a, Vst g (Av Bn Ow) H a → (∀ o, H a = some o → nT o → H' a = some o) ∧ ¬ Av Bn' Ow' a := fun a ⟨n, t⟩ => by
  refine ⟨fun o h t => s.keep0 a o h t fun z => n (.inr z), fun z => ?_⟩
  rcases t with ⟨o, t, nt⟩ | ⟨o, t⟩
  · rcases z with z | z
    · rcases hB a z with z | z
      · exact n (.inl z)
      · rw [z] at t; cases t
    · rcases s.grow a z with z | z
      · exact n (.inr z)
      · exact z o t nt
  · rw [rs.kf a z] at t; cases t
theorem walk_list {a : Addr} {vs : List V} {ds : List D} (na : a ∉ Ow) (h : H a = some (.lst vs)) (r : Reps g (Av Bn Ow) H ds vs) : WalkD g Bn Ow H (Itl g.K a) ds where
  go := fun i H' hi k => by
    have hi' : i < vs.length := by rw [← r.len]; exact hi
    exact ⟨vs, vs[i], .inl (.inl (k a _ h nofun na)), List.getElem?_eq_getElem hi'⟩
  stop := fun H' k => ⟨vs, .inl (.inl (k a _ h nofun na)), by rw [r.len]; exact Nat.le_refl _⟩
  same := fun i H' x H'' y => by obtain ⟨rfl, _⟩ := y; exact same_rfl _
  yld := fun i d Bn' Ow' H' σ' Γ' x H'' e b1 b2 s rs y => by
    obtain ⟨rfl, y⟩ := y
    obtain ⟨v, e1, r1⟩ := r.get e
    have e2 := y vs (.inl (.inl (s.keep a _ h na)))
    rw [e1] at e2; cases e2
    exact ⟨same_rfl _, rep_mono (vst2 b2 s rs) _ _ r1⟩
theorem walk_tup {a : Addr} {vs : List V} {ds : List D} (na : a ∉ Ow) (h : SqT g.K H a vs) (r : Reps g (Av Bn Ow) H ds vs) : WalkD g Bn Ow H (Itt g.K a) ds where
  go := fun i H' hi k => by
    have hi' : i < vs.length := by rw [← r.len]; exact hi
    exact ⟨vs, vs[i], sqT_mono h fun o e t => k a o e t na, List.getElem?_eq_getElem hi'⟩
  stop := fun H' k => ⟨vs, sqT_mono h fun o e t => k a o e t na, by rw [r.len]; exact Nat.le_refl _⟩
  same := fun i H' x H'' y => by obtain ⟨rfl, _⟩ := y; exact same_rfl _
  yld := fun i d Bn' Ow' H' σ' Γ' x H'' e b1 b2 s rs y => by
    obtain ⟨rfl, y⟩ := y
    obtain ⟨v, e1, r1⟩ := r.get e
    have e2 := y vs (sqT_mono h fun o e t => s.keep0 a o e t na)
    rw [e1] at e2; cases e2
    exact ⟨same_rfl _, rep_mono (vst2 b2 s rs) _ _ r1⟩
theorem enumD_get : ∀ {ds : List D} {n i : Nat} {d : D}, (enumD n ds)[i]? = some d → ∃ e, ds[i]? = some e ∧ d = .tup [.int ((n + i : Nat) : Int), e]
  | [], n, i, d, h => by simp [enumD] at h
  | e :: ds, n, 0, d, h => by simp [enumD] at h; subst h; exact ⟨e, rfl, rfl⟩
  | e :: ds, n, i + 1, d, h => by
    simp only [enumD, List.getElem?_cons_succ] at h
    obtain ⟨f, h1, h2⟩ := enumD_get h
    exact ⟨f, by simpa using h1, by rw [h2, show n + 1 + i = n + (i + 1) by omega]⟩
theorem enumD_len : ∀ (ds : List D) (n : Nat), (enumD n ds).length = ds.length
  | [], _ => rfl
  | _ :: ds, n => by simp only [enumD, List.length_cons]; rw [enumD_len ds (n + 1)]
theorem zipD_get : ∀ {ds es : List D} {i : Nat} {d : D}, (zipD ds es)[i]? = some d → ∃ a b, ds[i]? = some a ∧ es[i]? = some b ∧ d = .tup [a, b]
  | [], es, i, d, h => by simp [zipD] at h
  | a :: ds, [], i, d, h => by simp [zipD] at h
  | a :: ds, b :: es, 0, d, h => by simp [zipD] at h; subst h; exact ⟨a, b, rfl, rfl, rfl⟩
  | a :: ds, b :: es, i + 1, d, h => by
    simp only [zipD, List.getElem?_cons_succ] at h
    obtain ⟨x, y, h1, h2, h3⟩ := zipD_get h
    exact ⟨x, y, by simpa using h1, by simpa using h2, h3⟩
theorem zipD_len : ∀ (ds es : List D), (zipD ds es).length = min ds.length es.length
  | [], es => by simp [zipD]
  | a :: ds, [] => by simp [zipD]
  | a :: ds, b :: es => by simp only [zipD, List.length_cons]; rw [zipD_len ds es]; omega
theorem tup2 {Bn' : Addr → Prop} {T : Addr} {d e : D} {x y : V} {H'' : Hp} (nT : H' T = none) (e0 : H'' = upd H' T (.tup [x, y])) (tr : ∀ a, Av Bn' Ow' a → H' a ≠ none) (r1 : Rep g (Av Bn' Ow') H' d x) (r2 : Rep g (Av Bn' Ow') H' e y) : Same H' H'' ∧ Rep g (Av Bn' Ow') H'' (.tup [d, e]) (.ref T) := by
  subst e0
  refine ⟨same_new nT, ?_⟩
  simp only [Rep]
  refine ⟨T, [x, y], rfl, fun z => tr T z nT, .inl (.inl upd_same), ?_⟩
  simp only [Reps]
  exact ⟨_, _, rfl, r1.same (same_new nT), _, _, rfl, r2.same (same_new nT), rfl⟩
theorem walk_enum {a : Addr} {vs : List V} {ds : List D} (na : a ∉ Ow) (h : H a = some (.lst vs)) (r : Reps g (Av Bn Ow) H ds vs) : WalkD g Bn Ow H (Ite g.K a) (enumD 0 ds) where
  go := fun i H' hi k => by
    rw [enumD_len] at hi
    have hi' : i < vs.length := by rw [← r.len]; exact hi
    exact ⟨vs, vs[i], .inl (.inl (k a _ h nofun na)), List.getElem?_eq_getElem hi'⟩
  stop := fun H' k => ⟨vs, .inl (.inl (k a _ h nofun na)), by rw [enumD_len, r.len]; exact Nat.le_refl _⟩
  same := fun i H' x H'' y => by obtain ⟨T, v, rfl, nT, rfl, _⟩ := y; exact same_new nT
  yld := fun i d Bn' Ow' H' σ' Γ' x H'' e b1 b2 s rs y => by
    obtain ⟨T, v, rfl, nT, e0, y⟩ := y
    obtain ⟨f, e1, rfl⟩ := enumD_get e
    obtain ⟨w, e2, r1⟩ := r.get e1
    have e3 := y vs (.inl (.inl (s.keep a _ h na)))
    rw [e2] at e3; cases e3
    rw [Nat.zero_add]
    exact tup2 nT e0 rs.trk (by simp only [Rep]) (rep_mono (vst2 b2 s rs) _ _ r1)
theorem walk_zip {a b : Addr} {vs ws : List V} {ds es : List D} (na : a ∉ Ow) (nb : b ∉ Ow) (h : H a = some (.lst vs)) (h' : H b = some (.lst ws)) (r : Reps g (Av Bn Ow) H ds vs) (r' : Reps g (Av Bn Ow) H es ws) : WalkD g Bn Ow H (Itz g.K a b) (zipD ds es) where
  go := fun i H' hi k => by
    rw [zipD_len] at hi
    have hi1 : i < vs.length := by rw [← r.len]; omega
    have hi2 : i < ws.length := by rw [← r'.len]; omega
    exact ⟨vs, ws, vs[i], ws[i], .inl (.inl (k a _ h nofun na)), .inl (.inl (k b _ h' nofun nb)), List.getElem?_eq_getElem hi1, List.getElem?_eq_getElem hi2⟩
  stop := fun H' k => ⟨vs, ws, .inl (.inl (k a _ h nofun na)), .inl (.inl (k b _ h' nofun nb)), by
    rw [zipD_len, ← r.len, ← r'.len]
    omega⟩
  same := fun i H' x H'' y => by obtain ⟨T, v, w, rfl, nT, rfl, _⟩ := y; exact same_new nT
  yld := fun i d Bn' Ow' H' σ' Γ' x H'' e b1 b2 s rs y => by
    obtain ⟨T, v, w, rfl, nT, e0, y1, y2⟩ := y
    obtain ⟨p, q, e1, e2, rfl⟩ := zipD_get e
    obtain ⟨v', e3, r1⟩ := r.get e1
    obtain ⟨w', e4, r2⟩ := r'.get e2
    have e5 := y1 vs (.inl (.inl (s.keep a _ h na)))
    have e6 := y2 ws (.inl (.inl (s.keep b _ h' nb)))
    rw [e3] at e5; cases e5
    rw [e4] at e6; cases e6
    exact tup2 nT e0 rs.trk (rep_mono (vst2 b2 s rs) _ _ r1) (rep_mono (vst2 b2 s rs) _ _ r2)
theorem rngD_get : ∀ {n : Nat} {lo c : Int} {i : Nat} {d : D}, (rngD lo c n)[i]? = some d → i < n ∧ d = .int (lo + (i : Nat) * c)
  | 0, lo, c, i, d, h => by simp [rngD] at h
  | n + 1, lo, c, 0, d, h => by simp [rngD] at h; subst h; exact ⟨by omega, by simp⟩
  | n + 1, lo, c, i + 1, d, h => by
    simp only [rngD, List.getElem?_cons_succ] at h
    obtain ⟨h1, h2⟩ := rngD_get h
    refine ⟨by omega, ?_⟩
    rw [h2]
    have : lo + c + (i : Int) * c = lo + ((i + 1 : Nat) : Int) * c := by
      have : ((i + 1 : Nat) : Int) = (i : Int) + 1 := by omega
      rw [this, Int.add_mul]; omega
    rw [this]
theorem rngD_len : ∀ (n : Nat) (lo c : Int), (rngD lo c n).length = n
  | 0, _, _ => rfl
  | n + 1, lo, c => by simp only [rngD, List.length_cons]; rw [rngD_len n]
theorem walk_rng (lo : Int) (n : Nat) : WalkD g Bn Ow H (Itr lo n) (rngD lo 1 n) where
  go := fun i H' hi k => by rw [rngD_len] at hi; exact hi
  stop := fun H' k => by rw [rngD_len]; exact Nat.le_refl _
  same := fun i H' x H'' y => by obtain ⟨rfl, _⟩ := y; exact same_rfl _
  yld := fun i d Bn' Ow' H' σ' Γ' x H'' e b1 b2 s rs y => by
    obtain ⟨rfl, rfl⟩ := y
    obtain ⟨_, rfl⟩ := rngD_get e
    exact ⟨same_rfl _, by simp only [Rep, Int.mul_one]⟩
theorem walk_rngC (lo c : Int) (n : Nat) : WalkD g Bn Ow H (Itc lo c n) (rngD lo c n) where
  go := fun i H' hi k => by rw [rngD_len] at hi; exact hi
  stop := fun H' k => by rw [rngD_len]; exact Nat.le_refl _
  same := fun i H' x H'' y => by obtain ⟨rfl, _⟩ := y; exact same_rfl _
  yld := fun i d Bn' Ow' H' σ' Γ' x H'' e b1 b2 s rs y => by
    obtain ⟨rfl, rfl⟩ := y
    obtain ⟨_, rfl⟩ := rngD_get e
    exact ⟨same_rfl _, by simp only [Rep]⟩
end
def tI (g : Gx) (fs : List FS) (ik : IK) (its : List E) : TI := fun σ H R => ∃ Bn Ow Γ xs Γ1 ds Γ2, RS g Bn Ow H σ Γ ∧ evs fs its Γ = some (xs, Γ1) ∧ iterD ik xs Γ1 = some (ds, Γ2) ∧ ∀ J H' Ow', Stp Ow H Ow' H' → RS g Bn Ow' H' σ Γ2 → WalkD g Bn Ow' H' J ds → R J H'
section
variable {X : Cx} {g : Gx} {fs : List FS} {tg l : Expr} {il : E} {p pos tpos : Pos} {elts : List Expr} {kk : Nat} {es : List Expr} {ies : List E}
theorem PI.weak {it : Expr} {w w' : TI} (h : PI X tg it w) (k : ∀ σ H R, w' σ H R → w σ H R) : PI X tg it w' := ⟨fun pins s σ H R I q => h.run pins s σ H R I (k σ H R q)⟩
theorem PI.or {it : Expr} {w w' : TI} (h : PI X tg it w) (h' : PI X tg it w') : PI X tg it (fun σ H R => w σ H R ∨ w' σ H R) := ⟨fun pins s σ H R I q => q.elim (fun q => h.run pins s σ H R I q) fun q => h'.run pins s σ H R I q⟩
theorem evs_one {Γ Γ1 : Ct} {xs : List RV} (h : evs fs [il] Γ = some (xs, Γ1)) : ∃ x, xs = [x] ∧ ev fs il Γ = some (x, Γ1) := by
  simp only [evs] at h
  obtain ⟨⟨x, G⟩, e1, h⟩ := Option.bind_eq_some_iff.mp h
  simp only [Option.map_some, Option.some.injEq, Prod.mk.injEq] at h
  obtain ⟨rfl, rfl⟩ := h
  exact ⟨x, rfl, e1⟩
/-- by what is walked, on what the value says: a list, a tuple -/
theorem i_seq_or (C : Cok0 g X) (h : PI X tg l (fun σ H R => iList X.K (tR g fs il) σ H R ∨ iTup X.K (tR g fs il) σ H R)) : PI X tg l (tI g fs .seq [il]) := by
  refine PI.weak h ?_
  rintro σ H R ⟨Bn, Ow, Γ, xs, Γ1, ds, Γ2, rs, e1, e2, k⟩
  obtain ⟨x, rfl, e9⟩ := evs_one e1
  simp only [iterD] at e2
  obtain ⟨⟨d, G2⟩, e3, e2⟩ := Option.bind_eq_some_iff.mp e2
  cases d <;> simp only [reduceCtorEq, Option.some.injEq, Prod.mk.injEq] at e2
  · obtain ⟨rfl, rfl⟩ := e2
    refine .inl ⟨Bn, Ow, Γ, x, Γ1, rs, e9, fun v H1 O1 s1 r1 v1 => ?_⟩
    obtain ⟨O2, s2, r2, rp⟩ := fre_ok r1 v1 e3
    simp only [Rep] at rp
    obtain ⟨a, vs, rfl, na, ha, rr⟩ := rp
    refine ⟨a, rfl, ⟨vs, .inl (.inl ha)⟩, ?_⟩
    rw [C.K]
    exact k _ H1 O2 (s1.trans s2) r2 (walk_list (fun z => na (.inr z)) ha rr)
  · obtain ⟨rfl, rfl⟩ := e2
    refine .inr ⟨Bn, Ow, Γ, x, Γ1, rs, e9, fun v H1 O1 s1 r1 v1 => ?_⟩
    obtain ⟨O2, s2, r2, rp⟩ := fre_ok r1 v1 e3
    simp only [Rep] at rp
    obtain ⟨a, vs, rfl, na, ha, rr⟩ := rp
    refine ⟨a, rfl, ⟨vs, by rw [C.K]; exact ha⟩, ?_⟩
    rw [C.K]
    exact k _ H1 O2 (s1.trans s2) r2 (walk_tup (fun z => na (.inr z)) ha rr)
theorem i_seq (C : Cok0 g X) (hl : PE X l (tR g fs il)) : PI X tg l (tI g fs .seq [il]) := i_seq_or C (PI.or (pi_list hl) (pi_tup hl))
theorem i_enum (C : Cok0 g X) (hg : Gl X "enumerate") (hm : X.mg "enumerate" = none) (ha : PA X [l] (tAs g fs [il])) (hs : starEach [l] X.env = [(false, eval l X.env)]) : PI X (.Tuple elts kk tpos) (.Call (.Name "enumerate" p) [l] [] pos) (tI g fs .enum [il]) := by
  refine PI.weak (pi_enum hg hm ha hs) ?_
  rintro σ H R ⟨Bn, Ow, Γ, xs, Γ1, ds, Γ2, rs, e1, e2, k⟩
  refine ⟨Bn, Ow, Γ, xs, Γ1, rs, e1, fun vs H1 O1 s1 r1 v1 => ?_⟩
  obtain ⟨x, rfl, e1⟩ := evs_one e1
  simp only [iterD] at e2
  obtain ⟨⟨d, G2⟩, e3, e2⟩ := Option.bind_eq_some_iff.mp e2
  cases d <;> simp only [reduceCtorEq, Option.some.injEq, Prod.mk.injEq] at e2
  obtain ⟨rfl, rfl⟩ := e2
  obtain ⟨v, w, rfl, v1, z⟩ := v1
  have z : w = [] := z
  subst z
  rw [← fre_dn] at e3
  obtain ⟨O2, s2, r2, rp⟩ := fre_ok r1 v1 e3
  simp only [Rep] at rp
  obtain ⟨a, vs, rfl, na, ha, rr⟩ := rp
  refine ⟨a, vs, rfl, .inl (.inl ha), ?_⟩
  rw [C.K]
  exact k _ H1 O2 (s1.trans s2) r2 (walk_enum (fun z => na (.inr z)) ha rr)
theorem i_zip {l2 : Expr} {il2 : E} (C : Cok0 g X) (hg : Gl X "zip") (hm : X.mg "zip" = none) (ha : PA X [l, l2] (tAs g fs [il, il2])) (hs : starEach [l, l2] X.env = (false, eval l X.env) :: starEach [l2] X.env) (hpl : (backTo pos (starEach [l2] X.env)).any (·.1) = false) :
    PI X (.Tuple elts kk tpos) (.Call (.Name "zip" p) [l, l2] [] pos) (tI g fs .zip [il, il2]) := by
  refine PI.weak (pi_zip hg hm ha hs hpl) ?_
  rintro σ H R ⟨Bn, Ow, Γ, xs, Γ1, ds, Γ2, rs, e1, e2, k⟩
  refine ⟨Bn, Ow, Γ, xs, Γ1, rs, e1, fun vs H1 O1 s1 r1 v1 => ?_⟩
  simp only [evs] at e1
  obtain ⟨⟨x, G1⟩, e3, e1⟩ := Option.bind_eq_some_iff.mp e1
  obtain ⟨⟨ys, G2⟩, e4, e1⟩ := Option.map_eq_some_iff.mp e1
  obtain ⟨⟨y, G3⟩, e5, e4⟩ := Option.bind_eq_some_iff.mp e4
  simp only [Option.map_some, Option.some.injEq, Prod.mk.injEq] at e4 e1
  obtain ⟨rfl, rfl⟩ := e4
  obtain ⟨rfl, rfl⟩ := e1
  simp only [iterD] at e2
  obtain ⟨⟨d, F1⟩, e6, e2⟩ := Option.bind_eq_some_iff.mp e2
  obtain ⟨⟨e, F2⟩, e7, e2⟩ := Option.bind_eq_some_iff.mp e2
  cases d <;> cases e <;> simp only [reduceCtorEq, Option.some.injEq, Prod.mk.injEq] at e2
  obtain ⟨rfl, rfl⟩ := e2
  obtain ⟨v, w, rfl, v1, w', w'', rfl, v2, z⟩ := v1
  have z : w'' = [] := z
  subst z
  rw [← fre_dn] at e6 e7
  obtain ⟨O2, s2, r2, rp⟩ := fre_ok r1 v1 e6
  obtain ⟨O3, s3, r3, rq⟩ := fre_ok r2 (v2.step s2 r2) e7
  have rp := rp.step s3 r3
  simp only [Rep] at rp rq
  obtain ⟨a, vs, rfl, na, ha, rr⟩ := rp
  obtain ⟨b, ws, rfl, nb, hb, rr'⟩ := rq
  refine ⟨a, b, vs, ws, rfl, .inl (.inl ha), .inl (.inl hb), ?_⟩
  rw [C.K]
  exact k _ H1 O3 ((s1.trans s2).trans s3) r3 (walk_zip (fun z => na (.inr z)) (fun z => nb (.inr z)) ha hb rr rr')
theorem in62_of {i : Int} (h : in62 i = true) : -(2 ^ 62) ≤ i ∧ i < 2 ^ 62 := by
  unfold in62 at h
  have h := of_decide_eq_true h
  by_cases h0 : i.natAbs = 0
  · omega
  · rw [Nat.log2_lt h0] at h
    omega
theorem i_rng1 {a : Expr} {ia : E} (C : Cok0 g X) (hg : Gl X "range") (hm : X.mg "range" = none) (ha : PA X [a] (tAs g fs [ia])) (hs : starEach [a] X.env = [(false, eval a X.env)]) : PI X tg (.Call (.Name "range" p) [a] [] pos) (tI g fs .rng [ia]) := by
  refine PI.weak (pi_range1 hg hm ha hs) ?_
  rintro σ H R ⟨Bn, Ow, Γ, xs, Γ1, ds, Γ2, rs, e1, e2, k⟩
  refine ⟨Bn, Ow, Γ, xs, Γ1, rs, e1, fun vs H1 O1 s1 r1 v1 => ?_⟩
  obtain ⟨x, rfl, e1⟩ := evs_one e1
  simp only [iterD] at e2
  obtain ⟨dd, e3, e2⟩ := Option.bind_eq_some_iff.mp e2
  have pd := datums_ok r1 v1 e3
  simp only [datums] at e3
  obtain ⟨d, _, e3⟩ := Option.bind_eq_some_iff.mp e3
  simp only [Option.map_some, Option.some.injEq] at e3
  subst e3
  cases d <;> simp only [reduceCtorEq, Option.ite_none_right_eq_some, Option.some.injEq, Prod.mk.injEq] at e2
  obtain ⟨h6, rfl, rfl⟩ := e2
  obtain ⟨v, rfl, q⟩ := paired1 pd
  rw [rdb_int q]
  exact ⟨_, rfl, (in62_of h6).1, (in62_of h6).2, k _ H1 O1 s1 r1 (walk_rng _ _)⟩
theorem i_rng2 {a b : Expr} {ia ib : E} (C : Cok0 g X) (hg : Gl X "range") (hm : X.mg "range" = none) (ha : PA X [a, b] (tAs g fs [ia, ib])) (hs : starEach [a, b] X.env = [(false, eval a X.env), (false, eval b X.env)]) (hs2 : starEach [b] X.env = [(false, eval b X.env)]) :
    PI X tg (.Call (.Name "range" p) [a, b] [] pos) (tI g fs .rng [ia, ib]) := by
  refine PI.weak (pi_range2 hg hm ha hs hs2) ?_
  rintro σ H R ⟨Bn, Ow, Γ, xs, Γ1, ds, Γ2, rs, e1, e2, k⟩
  refine ⟨Bn, Ow, Γ, xs, Γ1, rs, e1, fun vs H1 O1 s1 r1 v1 => ?_⟩
  simp only [evs] at e1
  obtain ⟨⟨x, G1⟩, _, e1⟩ := Option.bind_eq_some_iff.mp e1
  obtain ⟨⟨ys, G2⟩, e4, e1⟩ := Option.map_eq_some_iff.mp e1
  obtain ⟨⟨y, G3⟩, _, e4⟩ := Option.bind_eq_some_iff.mp e4
  simp only [Option.map_some, Option.some.injEq, Prod.mk.injEq] at e4 e1
  obtain ⟨rfl, rfl⟩ := e4
  obtain ⟨rfl, rfl⟩ := e1
  simp only [iterD] at e2
  obtain ⟨dd, e3, e2⟩ := Option.bind_eq_some_iff.mp e2
  have pd := datums_ok r1 v1 e3
  simp only [datums] at e3
  obtain ⟨d, _, e3⟩ := Option.bind_eq_some_iff.mp e3
  obtain ⟨dr, e5, e3⟩ := Option.map_eq_some_iff.mp e3
  obtain ⟨e, _, e5⟩ := Option.bind_eq_some_iff.mp e5
  simp only [Option.map_some, Option.some.injEq] at e5
  subst e5 e3
  cases d <;> cases e <;> simp only [reduceCtorEq, Option.ite_none_right_eq_some, Option.some.injEq, Prod.mk.injEq, Bool.and_eq_true] at e2
  obtain ⟨⟨h6, h7⟩, rfl, rfl⟩ := e2
  obtain ⟨v, w, rfl, q, q'⟩ := paired2 pd
  rw [rdb_int q, rdb_int q']
  exact ⟨_, _, rfl, ⟨(in62_of h6).1, (in62_of h6).2, (in62_of h7).1, (in62_of h7).2⟩, k _ H1 O1 s1 r1 (walk_rng _ _)⟩
theorem i_rng3 {a b c : Expr} {ia ib ic : E} (C : Cok0 g X) (hg : Gl X "range") (hm : X.mg "range" = none) (ha : PA X [a, b, c] (tAs g fs [ia, ib, ic])) (hs : starEach [a, b, c] X.env = (false, eval a X.env) :: starEach [b, c] X.env) (hpl : (backTo pos (starEach [b, c] X.env)).any (·.1) = false) :
    PI X tg (.Call (.Name "range" p) [a, b, c] [] pos) (tI g fs .rng [ia, ib, ic]) := by
  refine PI.weak (pi_range3G hg hm ha hs hpl) ?_
  rintro σ H R ⟨Bn, Ow, Γ, xs, Γ1, ds, Γ2, rs, e1, e2, k⟩
  refine ⟨Bn, Ow, Γ, xs, Γ1, rs, e1, fun vs H1 O1 s1 r1 v1 => ?_⟩
  simp only [evs] at e1
  obtain ⟨⟨x, G1⟩, _, e1⟩ := Option.bind_eq_some_iff.mp e1
  obtain ⟨⟨ys, G2⟩, e4, e1⟩ := Option.map_eq_some_iff.mp e1
  obtain ⟨⟨y, G3⟩, _, e4⟩ := Option.bind_eq_some_iff.mp e4
  obtain ⟨⟨zs, G4⟩, e5, e4⟩ := Option.map_eq_some_iff.mp e4
  obtain ⟨⟨z, G5⟩, _, e5⟩ := Option.bind_eq_some_iff.mp e5
  simp only [Option.map_some, Option.some.injEq, Prod.mk.injEq] at e5 e4 e1
  obtain ⟨rfl, rfl⟩ := e5
  obtain ⟨rfl, rfl⟩ := e4
  obtain ⟨rfl, rfl⟩ := e1
  simp only [iterD] at e2
  obtain ⟨dd, e3, e2⟩ := Option.bind_eq_some_iff.mp e2
  have pd := datums_ok r1 v1 e3
  simp only [datums] at e3
  obtain ⟨d, _, e3⟩ := Option.bind_eq_some_iff.mp e3
  obtain ⟨dr, e6, e3⟩ := Option.map_eq_some_iff.mp e3
  obtain ⟨e, _, e6⟩ := Option.bind_eq_some_iff.mp e6
  obtain ⟨er, e7, e6⟩ := Option.map_eq_some_iff.mp e6
  obtain ⟨f, _, e7⟩ := Option.bind_eq_some_iff.mp e7
  simp only [Option.map_some, Option.some.injEq] at e7
  subst e7 e6 e3
  cases d <;> cases e <;> cases f <;> simp only [reduceCtorEq, Option.ite_none_right_eq_some, Option.some.injEq, Prod.mk.injEq] at e2
  obtain ⟨⟨h6, h7, h9⟩, rfl, rfl⟩ := e2
  cases pd with
  | cons q1 pd =>
    cases pd with
    | cons q2 pd =>
      cases pd with
      | cons q3 pd =>
        cases pd
        rw [rdb_int q1, rdb_int q2, rdb_int q3]
        exact ⟨_, _, _, _, rfl, ⟨h6, h7, h9⟩, k _ H1 O1 s1 r1 (walk_rngC _ _ _)⟩
end
end DV

namespace DV
open PySem L2
/-! ### slots wiped and restored -/
theorem wipe_nout {σ : St} {i : Nat} : ∀ {vs : List Nat}, i ∉ vs → (wipe σ vs)[i]? = σ[i]?
  | [], _ => rfl
  | v :: vs, h => by
    simp only [List.mem_cons, not_or] at h
    unfold wipe
    rw [List.getElem?_set_ne (fun z => h.1 z.symm)]
    exact wipe_nout h.2
theorem wipe_in {σ : St} {i : Nat} : ∀ {vs : List Nat}, i ∈ vs → i < σ.length → (wipe σ vs)[i]? = some none
  | v :: vs, h, hl => by
    unfold wipe
    by_cases e : v = i
    · subst e
      exact List.getElem?_set_self (by rw [wipe_length]; exact hl)
    · rw [List.getElem?_set_ne e]
      rcases List.mem_cons.mp h with h | h
      · exact absurd h.symm e
      · exact wipe_in h hl
theorem wipeG_len (Γ : Ct) : ∀ vs : List Nat, (wipeG Γ vs).length = Γ.length
  | [] => rfl
  | v :: vs => by unfold wipeG; rw [List.length_set, wipeG_len Γ vs]
theorem wipeG_some {Γ : Ct} {i : Nat} {p : D × Bool} : ∀ {vs : List Nat}, (wipeG Γ vs)[i]? = some (some p) → Γ[i]? = some (some p) ∧ i ∉ vs
  | [], h => ⟨h, by simp⟩
  | v :: vs, h => by
    unfold wipeG at h
    by_cases e : v = i
    · subst e
      by_cases hl : v < (wipeG Γ vs).length
      · rw [List.getElem?_set_self hl] at h; cases h
      · rw [List.getElem?_eq_none (by rw [List.length_set]; omega)] at h; cases h
    · rw [List.getElem?_set_ne e] at h
      obtain ⟨h1, h2⟩ := wipeG_some h
      exact ⟨h1, by simp only [List.mem_cons, not_or]; exact ⟨fun z => e z.symm, h2⟩⟩
theorem restG_len (Γ Γ' : Ct) : ∀ vs : List Nat, (restG Γ Γ' vs).length = Γ'.length
  | [] => rfl
  | v :: vs => by unfold restG; rw [List.length_set, restG_len Γ Γ' vs]
theorem restG_out {Γ Γ' : Ct} {i : Nat} : ∀ {vs : List Nat}, i ∉ vs → (restG Γ Γ' vs)[i]? = Γ'[i]?
  | [], _ => rfl
  | v :: vs, h => by
    simp only [List.mem_cons, not_or] at h
    unfold restG
    rw [List.getElem?_set_ne (fun z => h.1 z.symm)]
    exact restG_out h.2
theorem restG_in {Γ Γ' : Ct} {i : Nat} : ∀ {vs : List Nat}, i ∈ vs → i < Γ'.length → (restG Γ Γ' vs)[i]? = some (Γ.getD i none)
  | v :: vs, h, hl => by
    unfold restG
    by_cases e : v = i
    · subst e
      exact List.getElem?_set_self (by rw [restG_len]; exact hl)
    · rw [List.getElem?_set_ne e]
      rcases List.mem_cons.mp h with h | h
      · exact absurd h.symm e
      · exact restG_in h hl
theorem wipe_same {σ σ' : St} {vs : List Nat} (hl : σ'.length = σ.length) (h : ∀ i, i ∉ vs → σ'[i]? = σ[i]?) : wipe σ' vs = wipe σ vs := by
  apply List.ext_getElem?
  intro i
  by_cases hi : i ∈ vs
  · by_cases hlt : i < σ.length
    · rw [wipe_in hi hlt, wipe_in hi (by omega)]
    · rw [List.getElem?_eq_none (by rw [wipe_length]; omega), List.getElem?_eq_none (by rw [wipe_length]; omega)]
  · rw [wipe_nout hi, wipe_nout hi, h i hi]
theorem wipe_wipe (σ : St) (vs : List Nat) : wipe (wipe σ vs) vs = wipe σ vs := wipe_same (wipe_length σ vs) fun i hi => wipe_nout hi
section
variable {g : Gx} {Bn : Addr → Prop} {Ow Ow' : List Addr} {H H' : Hp} {σ : St} {Γ Γ' : Ct}
theorem RS.wipe (own : List Nat) (rs : RS g Bn Ow H σ Γ) : RS g Bn Ow H (L2.wipe σ own) (wipeG Γ own) := by
  refine ⟨by rw [wipe_length, wipeG_len]; exact rs.len, fun i d h => ?_, fun i d h => ?_, fun i j d e a h1 h2 h3 h4 => ?_, rs.trl, rs.sep, rs.kf, rs.tabs⟩
  · obtain ⟨h1, h2⟩ := wipeG_some h
    rw [wipe_nout h2]
    exact rs.slot i d h1
  · obtain ⟨h1, h2⟩ := wipeG_some h
    rw [wipe_nout h2]
    exact rs.own i d h1
  · obtain ⟨q1, n1⟩ := wipeG_some h1
    obtain ⟨q2, n2⟩ := wipeG_some h2
    rw [wipe_nout n1] at h3
    rw [wipe_nout n2] at h4
    exact rs.dist i j _ _ _ q1 q2 h3 h4
/-- the block is over: its own names are what they were -/
theorem RS.rest {Bn' : Addr → Prop} {own : List Nat} (r0 : RS g Bn Ow H σ Γ) (hp : plainIx Γ own = true) (s : Stp Ow H Ow' H') (hB : ∀ a, Bn' a → Bn a ∨ H a = none) (rs : RS g Bn' Ow' H' (L2.wipe σ own) Γ') : RS g Bn' Ow' H' σ (restG Γ Γ' own) := by
  have hl : σ.length = Γ'.length := by rw [← rs.len, wipe_length]
  have pl : ∀ i, i ∈ own → ∀ d, Γ[i]? ≠ some (some (d, true)) := fun i hi d z => by
    unfold plainIx at hp
    have q := List.all_eq_true.mp hp i hi
    rw [z] at q
    cases q
  have inn : ∀ {i : Nat} {p : D × Bool}, i ∈ own → (restG Γ Γ' own)[i]? = some (some p) → Γ[i]? = some (some p) := fun {i p} hi h => by
    have hlt : i < Γ'.length := by
      rw [← restG_len Γ Γ' own]
      exact (List.getElem?_eq_some_iff.mp h).1
    rw [restG_in hi hlt] at h
    have hlt2 : i < Γ.length := by rw [← r0.len, hl]; exact hlt
    rw [List.getD_eq_getElem?_getD, List.getElem?_eq_getElem hlt2] at h
    rw [List.getElem?_eq_getElem hlt2]
    simpa using h
  refine ⟨by rw [restG_len]; exact hl, fun i d h => ?_, fun i d h => ?_, fun i j d e a h1 h2 h3 h4 => ?_, rs.trl, rs.sep, rs.kf, rs.tabs⟩
  · by_cases hi : i ∈ own
    · obtain ⟨v, e, r⟩ := r0.slot i d (inn hi h)
      exact ⟨v, e, rep_mono (vst2 hB s rs) _ _ r⟩
    · rw [restG_out hi] at h
      obtain ⟨v, e, r⟩ := rs.slot i d h
      rw [wipe_nout hi] at e
      exact ⟨v, e, r⟩
  · by_cases hi : i ∈ own
    · exact absurd (inn hi h) (pl i hi d)
    · rw [restG_out hi] at h
      obtain ⟨v, e, r⟩ := rs.own i d h
      rw [wipe_nout hi] at e
      exact ⟨v, e, r⟩
  · have n1 : i ∉ own := fun z => pl i z d (inn z h1)
    have n2 : j ∉ own := fun z => pl j z e (inn z h2)
    rw [restG_out n1] at h1
    rw [restG_out n2] at h2
    exact rs.dist i j _ _ _ h1 h2 (by rw [wipe_nout n1]; exact h3) (by rw [wipe_nout n2]; exact h4)
abbrev orB (Bn : Addr → Prop) (p : Addr) : Addr → Prop := fun a => Bn a ∨ a = p
theorem RS.addB {p : Addr} (rs : RS g Bn Ow H σ Γ) (s : Same H H') (np : H p = none) (hp : LI H' p) (hk : g.K.lookup p = none) : RS g (orB Bn p) Ow H' σ Γ := by
  have r := rs.add s np hp hk
  have np' : p ∉ Ow := fun z => rs.trk p (.inr z) np
  have av : ∀ a, Av (orB Bn p) Ow a → Av Bn (p :: Ow) a := fun a h => by
    rcases h with (h | h) | h
    · exact .inl h
    · exact .inr (by rw [h]; exact List.mem_cons_self)
    · exact .inr (List.mem_cons_of_mem _ h)
  refine ⟨r.len, fun i d h => ?_, fun i d h => ?_, r.dist, fun a h => r.trl a (av a h), fun a h z => ?_, fun a h => r.kf a (av a h), r.tabs⟩
  · obtain ⟨v, e, q⟩ := r.slot i d h; exact ⟨v, e, rep_less av q⟩
  · obtain ⟨a, e, m, q⟩ := r.own i d h
    obtain ⟨a', e', m', _⟩ := rs.own i d h
    rw [e] at e'; cases e'
    exact ⟨a, e, m', own_less av q⟩
  · rcases h with h | h
    · exact rs.sep a h z
    · rw [h] at z; exact np' z
theorem RS.unB {p : Addr} (rs : RS g (orB Bn p) Ow H σ Γ) (nb : ¬ Bn p) : RS g Bn (p :: Ow) H σ Γ := by
  have av : ∀ a, Av Bn (p :: Ow) a → Av (orB Bn p) Ow a := fun a h => by
    rcases h with h | h
    · exact .inl (.inl h)
    · rcases List.mem_cons.mp h with h | h
      · exact .inl (.inr h)
      · exact .inr h
  refine ⟨rs.len, fun i d h => ?_, fun i d h => ?_, rs.dist, fun a h => rs.trl a (av a h), fun a h z => ?_, fun a h => rs.kf a (av a h), rs.tabs⟩
  · obtain ⟨v, e, q⟩ := rs.slot i d h; exact ⟨v, e, rep_less av q⟩
  · obtain ⟨a, e, m, q⟩ := rs.own i d h
    exact ⟨a, e, List.mem_cons_of_mem _ m, own_less av q⟩
  · rcases List.mem_cons.mp z with z | z
    · subst z; exact nb h
    · exact rs.sep a (.inl h) z
/-- what is banned may change -/
theorem ban_vst {p : Addr} {o : HO} {A : Addr → Prop} (h : A p) : ∀ a, Vst g A H a → (∀ x, H a = some x → nT x → (upd H p o) a = some x) ∧ ¬ A a := fun a ⟨n, _⟩ => ⟨fun x e _ => by
  rw [upd_ne (fun z => n (by rw [z]; exact h))]
  exact e, n⟩
theorem RS.updB {p : Addr} {o : HO} (rs : RS g Bn Ow H σ Γ) (hp : Bn p) (ho : LI (upd H p o) p) : RS g Bn Ow (upd H p o) σ Γ := by
  have v := ban_vst (g := g) (H := H) (o := o) (A := Av Bn Ow) (p := p) (.inl hp)
  refine ⟨rs.len, fun i d h => ?_, fun i d h => ?_, rs.dist, fun a h => ?_, rs.sep, rs.kf, rs.tabs.upd (rs.trl p (.inl hp))⟩
  · obtain ⟨w, e, q⟩ := rs.slot i d h; exact ⟨w, e, rep_mono v _ _ q⟩
  · obtain ⟨a, e, m, q⟩ := rs.own i d h
    have ne : a ≠ p := fun z => by subst z; exact rs.sep a hp m
    refine ⟨a, e, m, ?_⟩
    cases d with
    | lst ds => obtain ⟨ws, z1, z2⟩ := q; exact ⟨ws, by rw [upd_ne ne]; exact z1, reps_mono v _ _ z2⟩
    | obj c ks ds => obtain ⟨dx, ws, l, z1, z2⟩ := q; exact ⟨dx, ws, l, by rw [upd_ne ne]; exact z1, reps_mono v _ _ z2⟩
    | _ => exact q
  · exact (rs.trl a h).upd fun _ => ho
theorem Stp.updN {O O' : List Addr} {p : Addr} {o : HO} (s : Stp O H O' H') (np : H p = none) : Stp O H O' (upd H' p o) where
  keep0 := fun a x h t n => by
    rw [upd_ne (ne_of_none h np)]
    exact s.keep0 a x h t n
  grow := s.grow
end
def tTc (g : Gx) (fs : List FS) (cond : List E) : TT := fun σ H Q => ∃ Bn Ow Γ t Γ', RS g Bn Ow H σ Γ ∧ evc fs cond Γ = some (t, Γ') ∧ ∀ H' Ow', Stp Ow H Ow' H' → RS g Bn Ow' H' σ Γ' → Q t H'
abbrev kfs (K : PySem.W.Frag) (H : Hp) : Prop := ∀ a o, K.lookup a = some o → H a = none
def tgK (K : PySem.W.Frag) (tg : Tg) : TG := fun v σ H Q => kfs K H → tgT K tg v σ H Q
section
variable {g : Gx} {fs : List FS} {Bn : Addr → Prop} {Ow : List Addr} {H : Hp} {σ : St} {Γ Γ' : Ct}
theorem comp_core {own : List Nat} {tg : Tg} {ik : IK} {its cond : List E} {elt : E} {r : RV} {Q : VK} (rs : RS g Bn Ow H σ Γ) (he : ev fs (.comp own tg ik its cond elt) Γ = some (r, Γ'))
    (hQ : ∀ v H' Ow', Stp Ow H Ow' H' → RS g Bn Ow' H' σ Γ' → Val g Bn Ow' H' σ Γ' r v → Q v H') :
    tLc (tI g fs ik its) (tgK g.K tg) (tTc g fs cond) (tR g fs elt) own σ H (fun v H' => kfs g.K H' → Q v H') := by
  simp only [ev] at he
  obtain ⟨⟨xs, Γ1⟩, e1, he⟩ := Option.bind_eq_some_iff.mp he
  obtain ⟨⟨ds, Γ2⟩, e2, he⟩ := Option.bind_eq_some_iff.mp he
  simp only [Option.ite_none_right_eq_some, Bool.and_eq_true, decide_eq_true_eq] at he
  obtain ⟨⟨⟨hp, hz⟩, htg⟩, he⟩ := he
  obtain ⟨⟨acc, Γ3⟩, e3, he⟩ := Option.map_eq_some_iff.mp he
  simp only [Prod.mk.injEq] at he
  obtain ⟨rfl, rfl⟩ := he
  refine ⟨Bn, Ow, Γ, xs, Γ1, ds, Γ2, rs, e1, e2, fun J H1 O1 s1 r1 wk Dl hD => ?_⟩
  have nbD : ¬ Bn Dl := fun z => r1.trk Dl (.inl z) hD
  have tgO : ∀ i, i ∉ own → i ∉ tgIx tg := fun i hi z => by
    have := List.all_eq_true.mp htg i z
    simp only [List.contains_eq_mem, decide_eq_true_eq] at this
    exact hi this
  let Cn : Nat → Hp → Prop := fun i H => g.K.lookup Dl = none → ∃ O Γi acci vs, Stp O1 H1 O H ∧ RS g (orB Bn Dl) O H (L2.wipe σ own) Γi ∧ H Dl = some (.lst vs) ∧ vs.length ≤ i ∧ Reps g (Av (orB Bn Dl) O) H acci vs ∧ compLoop own tg (evc fs cond) (ev fs elt) (ds.drop i) acci Γi = some (acc, Γ3)
  let U : Nat → Hp → Prop := fun i H => (∀ a o, H1 a = some o → nT o → a ∉ O1 → H a = some o) ∧ ∃ vs, H Dl = some (.lst vs)
  refine ⟨fun i m H => m = ds.length - i ∧ i ≤ ds.length ∧ U i H ∧ Cn i H, ⟨ds.length, by simp, Nat.zero_le _, ⟨fun a o h _ _ => by rw [upd_ne (ne_of_none h hD)]; exact h, [], upd_same⟩, fun hk => ?_⟩, ?_⟩
  · exact ⟨O1, _, [], [], (Stp.refl O1 H1).updN hD, (r1.wipe own).addB (same_new hD) hD (.inl ⟨_, upd_same⟩) hk, upd_same, Nat.le_refl _, by simp only [Reps], e3⟩
  rintro i m H ⟨rfl, hi, ⟨hU1, vs0, hU2⟩, hC⟩
  by_cases hlt : i < ds.length
  · refine .inr ⟨wk.go i H hlt hU1, fun H' => U (i + 1) H' ∧ Cn (i + 1) H', fun H' q => ⟨ds.length - (i + 1), by omega, rfl, hlt, q.1, q.2⟩, fun x H' y kf => ?_⟩
    have sm := wk.same i H x H' y
    have hk : g.K.lookup Dl = none := kf_new kf (sm _ _ hU2)
    obtain ⟨O, Γi, acci, vs, st, r2, hDl, hvl, rp, lp⟩ := hC hk
    have ed : ds[i]? = some ds[i] := List.getElem?_eq_getElem hlt
    have edr : ds.drop i = ds[i] :: ds.drop (i + 1) := List.drop_eq_getElem_cons hlt
    rw [edr] at lp
    simp only [compLoop] at lp
    obtain ⟨G1, a1, lp⟩ := Option.bind_eq_some_iff.mp lp
    obtain ⟨⟨b, G2⟩, a2, lp⟩ := Option.bind_eq_some_iff.mp lp
    obtain ⟨_, rx⟩ := wk.yld i _ (orB Bn Dl) O H _ _ x H' ed (fun a z => .inl z) (fun a z => z.elim .inl fun z => .inr (by rw [z]; exact hD)) st r2 y
    have r2' := r2.same sm
    refine asgT_ok tg r2' rx a1 fun σ2 q1 q2 q3 => ?_
    have hw : L2.wipe σ2 own = L2.wipe σ own := by
      rw [← wipe_wipe σ own]
      exact wipe_same q2 fun j hj => q3 j (tgO j hj)
    refine ⟨hw, orB Bn Dl, O, G1, b, G2, q1, a2, fun H3 O3 s3 r3 => ?_⟩
    have st3 : Stp O1 H1 O3 H3 := (st.trans (Stp.same sm)).trans s3
    have dO : Dl ∉ O := r2.sep Dl (.inr rfl)
    have hDl3 : H3 Dl = some (.lst vs) := s3.keep _ _ (sm _ _ hDl) dO
    have rp3 : Reps g (Av (orB Bn Dl) O3) H3 acci vs := (rp.same sm).step s3 r3
    cases b with
    | false =>
      simp only [Bool.false_eq_true, if_false, Option.ite_none_right_eq_some] at lp ⊢
      obtain ⟨_, lp⟩ := lp
      refine ⟨⟨fun a o h t n => st3.keep0 a o h t n, vs, hDl3⟩, fun _ => ⟨O3, _, acci, vs, st3, ?_, hDl3, by omega, rp3, lp⟩⟩
      have := r3.wipe own
      rw [hw] at this
      exact this
    | true =>
      simp only [if_true] at lp ⊢
      obtain ⟨⟨ye, G3⟩, a3, lp⟩ := Option.bind_eq_some_iff.mp lp
      obtain ⟨⟨e, G4⟩, a4, lp⟩ := Option.bind_eq_some_iff.mp lp
      simp only [Option.ite_none_right_eq_some] at lp
      obtain ⟨_, lp⟩ := lp
      refine ⟨orB Bn Dl, O3, G2, ye, G3, r3, a3, fun y4 H4 O4 s4 r4 v4 => ?_⟩
      obtain ⟨O5, s5, r5, p5⟩ := fre_ok r4 v4 a4
      have dO3 : Dl ∉ O3 := r3.sep Dl (.inr rfl)
      have hDl4 : H4 Dl = some (.lst vs) := s4.keep _ _ hDl3 dO3
      have st5 : Stp O1 H1 O5 H4 := (st3.trans s4).trans s5
      have rp5 : Reps g (Av (orB Bn Dl) O5) H4 acci vs := (rp3.step s4 r4).step s5 r5
      have st6 : Stp O1 H1 O5 (upd H4 Dl (.lst (vs ++ [y4]))) := st5.updN hD
      refine ⟨vs, hDl4, by omega, ⟨fun a o h t n => st6.keep0 a o h t n, vs ++ [y4], upd_same⟩, fun _ => ⟨O5, _, acci ++ [e], vs ++ [y4], st6, ?_, upd_same, by rw [List.length_append, List.length_singleton]; omega, ?_, lp⟩⟩
      · have := r5.wipe own
        rw [hw] at this
        exact this.updB (.inr rfl) (.inl ⟨_, upd_same⟩)
      · exact reps_mono (ban_vst (.inl (.inr rfl))) _ _ (rp5.app (Reps.one p5))
  · have e : i = ds.length := by omega
    subst e
    refine .inl ⟨wk.stop H hU1, fun kf => ?_⟩
    have hk : g.K.lookup Dl = none := kf_new kf hU2
    obtain ⟨O, Γi, acci, vs, st, r2, hDl, hvl, rp, lp⟩ := hC hk
    rw [List.drop_length] at lp
    simp only [compLoop, Option.some.injEq, Prod.mk.injEq] at lp
    obtain ⟨rfl, rfl⟩ := lp
    have r3 := r1.rest hp st (fun a z => z.elim .inl fun z => .inr (by rw [z]; exact hD)) r2
    have r4 := r3.unB nbD
    refine hQ _ H (Dl :: O) (s1.trans ⟨st.keep0, fun a h => ?_⟩) r4 ⟨Dl, rfl, List.mem_cons_self, ⟨vs, hDl, ?_⟩, fun j e h1 h2 => ?_⟩
    · rcases List.mem_cons.mp h with h | h
      · rw [h]; exact .inr (nw_none hD)
      · exact st.grow a h
    · refine reps_less (fun a z => ?_) rp
      rcases z with z | z
      · exact .inl (.inl z)
      · rcases List.mem_cons.mp z with z | z
        · exact .inl (.inr z)
        · exact .inr z
    · obtain ⟨a, e2, m2, _⟩ := r3.own j e h1
      rw [h2] at e2; cases e2
      exact r2.sep Dl (.inr rfl) m2
end
section
variable {X : Cx} {g : Gx} {fs : List FS}
theorem PG.kf {tg : Expr} {t : TG} (h : PG X tg t) : PG X tg (fun v σ H Q => kfs X.K H → t v σ H Q) := ⟨fun pins s σ H v u Q I r q => h.run pins s σ H v u Q I r (q (Inv.kf I))⟩
theorem PTs.weak {e : List Expr} {t t' : TT} (h : PTs X e t) (k : ∀ σ H Q, t' σ H Q → t σ H Q) : PTs X e t' := ⟨fun pins s σ H Q I q => h.run pins s σ H Q I (k σ H Q q)⟩
theorem c_nil : PTs X [] (tTc g fs []) := by
  refine PTs.weak pts_nil ?_
  rintro σ H Q ⟨Bn, Ow, Γ, t, Γ', rs, he, hQ⟩
  simp only [evc, Option.some.injEq, Prod.mk.injEq] at he
  obtain ⟨rfl, rfl⟩ := he
  exact hQ H Ow (.refl _ _) rs
theorem c_one {c : Expr} {ic : E} (h : PT X c (tT g fs ic)) : PTs X [c] (tTc g fs [ic]) := by
  refine PTs.weak (pts_one h) ?_
  rintro σ H Q ⟨Bn, Ow, Γ, t, Γ', rs, he, hQ⟩
  simp only [evc] at he
  obtain ⟨⟨x, Γ1⟩, e1, he⟩ := Option.bind_eq_some_iff.mp he
  obtain ⟨t', e2, he⟩ := Option.map_eq_some_iff.mp he
  simp only [Prod.mk.injEq] at he
  obtain ⟨rfl, rfl⟩ := he
  exact ⟨Bn, Ow, Γ, x, Γ1, t', rs, e1, e2, hQ⟩
theorem p_comp {elt tg iter : Expr} {ifs : List Expr} {scope : Scope} {own : List (Str × Nat)} {pos : Pos} {itg : Tg} {ik : IK} {its cond : List E} {ielt : E} (C : Cok g X) (hi : PI X tg iter (tI g fs ik its)) (ok : BlkOk X.N X.env.scope scope own)
    (hg : ∀ (s : Shared) (H : Hp) (C : Addr) (cl : List (Str × Addr)) (fp : List Addr), PG (X.blk s H scope (compEnvC scope cl C X.env) fp) tg (tgT g.K itg)) (ht : ∀ (s : Shared) (H : Hp) (C : Addr) (cl : List (Str × Addr)) (fp : List Addr), PTs (X.blk s H scope (compEnvC scope cl C X.env) fp) ifs (tTc g fs cond))
    (he : ∀ (s : Shared) (H : Hp) (C : Addr) (cl : List (Str × Addr)) (fp : List Addr), PE (X.blk s H scope (compEnvC scope cl C X.env) fp) elt (tR g fs ielt)) (hs : ∀ x, foldedSetIterable iter X.env x = pure x) :
    PE X (.ListComp elt [⟨tg, iter, ifs, 0⟩] scope pos) (tR g fs (.comp (own.map (·.2)) itg ik its cond ielt)) := by
  refine PE.weak (PE.kf (pe_lc (g := tgK g.K itg) C.calm C.nd hi ok (fun s H Ca cl fp => ?_) ht he hs)) ?_
  · have := PG.kf (hg s H Ca cl fp)
    exact ⟨fun pins s σ H v u Q I r q => this.run pins s σ H v u Q I r fun kf => q fun a o e => kf a o (by show X.K.lookup a = some o; rw [C.K]; exact e)⟩
  · rintro σ H Q ⟨Bn, Ow, Γ, r, Γ', rs, he, hQ⟩
    have q := comp_core rs he hQ
    rw [C.K]
    exact q
end
end DV

namespace DV
open PySem L2
variable {Wx : L2.XK}
def Pin (pv : Nat × List (Nat × V)) (σ : St) : Prop := σ.length = pv.1 ∧ ∀ p ∈ pv.2, σ[p.1]? = some (some p.2)
def Post (g : Gx) (Wx : L2.XK) (Dn : Ends) (pv : Nat × List (Nat × V)) (Bn : Addr → Prop) (Ow : List Addr) (H : Hp) : Out → Prop
  | .nx Γ' => ∀ σ' H' Ow', Stp Ow H Ow' H' → RS g Bn Ow' H' σ' Γ' → Pin pv σ' → Dn.nx σ' H'
  | .bk Γ' => ∀ σ' H' Ow', Stp Ow H Ow' H' → RS g Bn Ow' H' σ' Γ' → Pin pv σ' → Dn.bk σ' H'
  | .ct Γ' => ∀ σ' H' Ow', Stp Ow H Ow' H' → RS g Bn Ow' H' σ' Γ' → Pin pv σ' → Dn.ct σ' H'
  | .rt r Γ' => ∀ v σ' H' Ow', Stp Ow H Ow' H' → RS g Bn Ow' H' σ' Γ' → Pin pv σ' → Val g Bn Ow' H' σ' Γ' r v → Dn.rt v H'
  | .xc c ks ds Γ' => ∀ d σ' H' Ow', Stp Ow H Ow' H' → RS g Bn Ow' H' σ' Γ' → Pin pv σ' → Rep g (Av Bn Ow') H' (.exc c ks ds) (.ref d) → Wx (.ref (g.cl c)) (some d) H'
def tSt (g : Gx) (Wx : L2.XK) (fs : List FS) (is : S) : TS := fun Dn σ H => ∃ pv Bn Ow Γ o, RS g Bn Ow H σ Γ ∧ Pin pv σ ∧ ex fs (pv.2.map (·.1)) is Γ = some o ∧ Post g Wx Dn pv Bn Ow H o
def tSs (g : Gx) (Wx : L2.XK) (fs : List FS) (is : List S) : TS := fun Dn σ H => ∃ pv Bn Ow Γ o, RS g Bn Ow H σ Γ ∧ Pin pv σ ∧ exs fs (pv.2.map (·.1)) is Γ = some o ∧ Post g Wx Dn pv Bn Ow H o
section
variable {X : Cx} {g : Gx} {fs : List FS} {st : Stmt} {pos : Pos}
theorem PS.weak {t t' : TS} (h : PS X st t) (k : ∀ Dn σ H, t' Dn σ H → t Dn σ H) : PS X st t' := ⟨fun pins s σ H Dn I q => h.run pins s σ H Dn I (k Dn σ H q)⟩
theorem PSs.weak {ss : List Stmt} {t t' : TS} (h : PSs X ss t) (k : ∀ Dn σ H, t' Dn σ H → t Dn σ H) : PSs X ss t' := ⟨fun pins s σ H Dn I q => h.run pins s σ H Dn I (k Dn σ H q)⟩
theorem PS.kf {t : TS} (h : PS X st t) : PS X st (fun Dn σ H => t { nx := fun σ H => kfs X.K H → Dn.nx σ H, rt := fun v H => kfs X.K H → Dn.rt v H, bk := fun σ H => kfs X.K H → Dn.bk σ H, ct := fun σ H => kfs X.K H → Dn.ct σ H } σ H) := ⟨fun pins s σ H Dn I q => thn (h.run pins s σ H _ I q) fun f s1 r => by
  cases f with
  | next => obtain ⟨a, b, I1, c⟩ := r; exact ⟨a, b, I1, c (Inv.kf I1)⟩
  | brk => obtain ⟨a, b, I1, c⟩ := r; exact ⟨a, b, I1, c (Inv.kf I1)⟩
  | cont => obtain ⟨a, b, I1, c⟩ := r; exact ⟨a, b, I1, c (Inv.kf I1)⟩
  | ret v => obtain ⟨x, a, b, I1, r1, c⟩ := r; exact ⟨x, a, b, I1, r1, c (Inv.kf I1)⟩⟩
section
variable {Bn : Addr → Prop} {Ow Ow' : List Addr} {H H' : Hp} {σ : St} {Γ Γ' : Ct} {Dn : Ends} {pv : Nat × List (Nat × V)}
theorem Post.step {o : Out} (h : Post g Wx Dn pv Bn Ow H o) (s : Stp Ow H Ow' H') : Post g Wx Dn pv Bn Ow' H' o := by
  cases o with
  | nx G => exact fun σ1 H1 O1 s1 r p => h σ1 H1 O1 (s.trans s1) r p
  | bk G => exact fun σ1 H1 O1 s1 r p => h σ1 H1 O1 (s.trans s1) r p
  | ct G => exact fun σ1 H1 O1 s1 r p => h σ1 H1 O1 (s.trans s1) r p
  | rt r G => exact fun v σ1 H1 O1 s1 r p => h v σ1 H1 O1 (s.trans s1) r p
  | xc c ks ds G => exact fun v σ1 H1 O1 s1 r p => h v σ1 H1 O1 (s.trans s1) r p
theorem Pin.set {i : Nat} {v : Option V} (h : Pin pv σ) (d : disjB [i] (pv.2.map (·.1)) = true) : Pin pv (σ.set i v) := ⟨by rw [List.length_set]; exact h.1, fun p hp => by
  rw [List.getElem?_set_ne]
  · exact h.2 p hp
  · intro z
    simp only [disjB, List.all_cons, List.all_nil, Bool.and_true, Bool.not_eq_true', List.contains_eq_mem, decide_eq_false_iff_not] at d
    exact d (by rw [z]; exact List.mem_map.mpr ⟨p, hp, rfl⟩)⟩
theorem Pin.keep {σ' : St} {xs : List Nat} (h : Pin pv σ) (d : disjB xs (pv.2.map (·.1)) = true) (hl : σ'.length = σ.length) (k : ∀ i, i ∉ xs → σ'[i]? = σ[i]?) : Pin pv σ' := ⟨hl.trans h.1, fun p hp => by
  rw [k]
  · exact h.2 p hp
  · intro z
    have := List.all_eq_true.mp d _ z
    simp only [Bool.not_eq_true', List.contains_eq_mem, decide_eq_false_iff_not] at this
    exact this (List.mem_map.mpr ⟨p, hp, rfl⟩)⟩
/-- an owned list is rewritten -/
theorem RS.mut {i : Nat} {c : D} {a : Addr} {ds : List D} {ws : List V} (rs : RS g Bn Ow H σ Γ) (hi : Γ[i]? = some (some (c, true))) (hs : σ[i]? = some (some (.ref a))) (r : Reps g (Av Bn Ow) H ds ws) :
    RS g Bn Ow (upd H a (.lst ws)) σ (Γ.set i (some (.lst ds, true))) ∧ Stp Ow H Ow (upd H a (.lst ws)) := by
  have hil : i < Γ.length := (List.getElem?_eq_some_iff.mp hi).1
  obtain ⟨b, e1, m, _⟩ := rs.own i _ hi
  rw [hs] at e1; cases e1
  have vs := ban_vst (g := g) (H := H) (o := .lst ws) (A := Av Bn Ow) (p := a) (.inr m)
  refine ⟨⟨by rw [List.length_set]; exact rs.len, fun j e h => ?_, fun j e h => ?_, fun j k e f b h1 h2 h3 h4 => ?_, fun b h => ?_, rs.sep, rs.kf, rs.tabs.upd (rs.trl a (.inr m))⟩, ⟨fun b o h _ n => ?_, fun _ h => .inl h⟩⟩
  · have hj : i ≠ j := fun z => by subst z; rw [List.getElem?_set_self hil] at h; cases h
    rw [List.getElem?_set_ne hj] at h
    obtain ⟨v, e1, r1⟩ := rs.slot j e h
    exact ⟨v, e1, rep_mono vs _ _ r1⟩
  · by_cases hj : i = j
    · subst hj
      rw [List.getElem?_set_self hil] at h; cases h
      exact ⟨a, hs, m, ws, upd_same, reps_mono vs _ _ r⟩
    · rw [List.getElem?_set_ne hj] at h
      obtain ⟨b, e1, m1, o1⟩ := rs.own j e h
      have nb : b ≠ a := fun z => hj (by subst z; exact rs.dist i j _ _ _ hi h hs e1)
      refine ⟨b, e1, m1, ?_⟩
      cases e with
      | lst es => obtain ⟨us, e2, r2⟩ := o1; exact ⟨us, by rw [upd_ne nb]; exact e2, reps_mono vs _ _ r2⟩
      | obj c ks es => obtain ⟨dx, us, l, e2, r2⟩ := o1; exact ⟨dx, us, l, by rw [upd_ne nb]; exact e2, reps_mono vs _ _ r2⟩
      | _ => exact o1
  · have ex : ∀ (j : Nat) e, (Γ.set i (some (.lst ds, true)))[j]? = some (some (e, true)) → ∃ e', Γ[j]? = some (some (e', true)) := fun j e h => by
      by_cases hj : i = j
      · subst hj; exact ⟨_, hi⟩
      · rw [List.getElem?_set_ne hj] at h; exact ⟨_, h⟩
    obtain ⟨e', h1⟩ := ex j e h1
    obtain ⟨f', h2⟩ := ex k f h2
    exact rs.dist j k _ _ _ h1 h2 h3 h4
  · exact (rs.trl b h).upd fun _ => .inl ⟨_, upd_same⟩
  · have z : b ≠ a := fun z => n (by rw [z]; exact m)
    rw [upd_ne z]; exact h
end
/-! ### simple statements -/
theorem s_pass : PS X (.Pass pos) (tSt g Wx fs .pass) := by
  refine PS.weak ps_pass ?_
  rintro Dn σ H ⟨pv, Bn, Ow, Γ, o, rs, pn, he, po⟩
  simp only [ex, Option.some.injEq] at he; subst he
  exact po σ H Ow (.refl _ _) rs pn
theorem s_doc {x j pos'} : PS X (.Expr (.Constant (.str x) j pos) pos') (tSt g Wx fs .pass) := by
  refine PS.weak ps_doc ?_
  rintro Dn σ H ⟨pv, Bn, Ow, Γ, o, rs, pn, he, po⟩
  simp only [ex, Option.some.injEq] at he; subst he
  exact po σ H Ow (.refl _ _) rs pn
theorem s_brk : PS X (.Break pos) (tSt g Wx fs .brk) := by
  refine PS.weak ps_break ?_
  rintro Dn σ H ⟨pv, Bn, Ow, Γ, o, rs, pn, he, po⟩
  simp only [ex, Option.some.injEq] at he; subst he
  exact po σ H Ow (.refl _ _) rs pn
theorem s_cont : PS X (.Continue pos) (tSt g Wx fs .cont) := by
  refine PS.weak ps_continue ?_
  rintro Dn σ H ⟨pv, Bn, Ow, Γ, o, rs, pn, he, po⟩
  simp only [ex, Option.some.injEq] at he; subst he
  exact po σ H Ow (.refl _ _) rs pn
theorem s_retN : PS X (.Return none pos) (tSt g Wx fs .retN) := by
  refine PS.weak ps_retN ?_
  rintro Dn σ H ⟨pv, Bn, Ow, Γ, o, rs, pn, he, po⟩
  simp only [ex, Option.some.injEq] at he; subst he
  exact po .non σ H Ow (.refl _ _) rs pn (show Rep g _ _ _ _ by simp only [Rep])
theorem s_stuck : PS X st (tSt g Wx fs .stuck) := by
  refine PS.weak ps_never ?_
  rintro Dn σ H ⟨pv, Bn, Ow, Γ, o, rs, pn, he, po⟩
  simp only [ex, reduceCtorEq] at he
theorem s_expr {e : Expr} {ie : E} (h : PE X e (tR g fs ie)) (hs : swapsWith e none pos.line X.env = pure false) : PS X (.Expr e pos) (tSt g Wx fs (.expr ie)) := by
  refine PS.weak (ps_expr h hs) ?_
  rintro Dn σ H ⟨pv, Bn, Ow, Γ, o, rs, pn, he, po⟩
  simp only [ex] at he
  obtain ⟨⟨x, Γ1⟩, e1, rfl⟩ := Option.map_eq_some_iff.mp he
  exact ⟨Bn, Ow, Γ, x, Γ1, rs, e1, fun v H1 O1 s1 r1 _ => po σ H1 O1 s1 r1 pn⟩
theorem s_ret {e : Expr} {ie : E} (h : PE X e (tR g fs ie)) : PS X (.Return (some e) pos) (tSt g Wx fs (.ret ie)) := by
  refine PS.weak (ps_ret h) ?_
  rintro Dn σ H ⟨pv, Bn, Ow, Γ, o, rs, pn, he, po⟩
  simp only [ex] at he
  obtain ⟨⟨x, Γ1⟩, e1, rfl⟩ := Option.map_eq_some_iff.mp he
  exact ⟨Bn, Ow, Γ, x, Γ1, rs, e1, fun v H1 O1 s1 r1 vl => po v σ H1 O1 s1 r1 pn vl⟩
theorem asg_core {tg : Tg} {ie : E} {Dn : Ends} {σ : St} {H : Hp} (h : tSt g Wx fs (.asg tg ie) Dn σ H) : tAsg (tR g fs ie) (tgT g.K tg) Dn σ H := by
  obtain ⟨pv, Bn, Ow, Γ, o, rs, pn, he, po⟩ := h
  simp only [ex] at he
  obtain ⟨⟨x, Γ1⟩, e1, he⟩ := Option.bind_eq_some_iff.mp he
  obtain ⟨⟨d, Γ2⟩, e2, he⟩ := Option.bind_eq_some_iff.mp he
  simp only [Option.ite_none_right_eq_some] at he
  obtain ⟨dj, he⟩ := he
  obtain ⟨Γ3, e3, rfl⟩ := Option.map_eq_some_iff.mp he
  refine ⟨Bn, Ow, Γ, x, Γ1, rs, e1, fun v H1 O1 s1 r1 vl => ?_⟩
  obtain ⟨O2, s2, r2, p2⟩ := fre_ok r1 vl e2
  exact asgT_ok tg r2 p2 e3 fun σ' q1 q2 q3 => po σ' H1 O2 (s1.trans s2) q1 (pn.keep dj q2 q3)
theorem s_asg {tg e : Expr} {itg : Tg} {ie : E} (h : PE X e (tR g fs ie)) (hg : PG X tg (tgT g.K itg)) (hs : swapsWithSole [tg] e pos.line X.env = pure false) (hw : swappedStores [tg] e X.env = pure none)
    (h1 : (assignEach [tg] X.env).map (·.2) = [assign tg X.env]) : PS X (.Assign [tg] e pos) (tSt g Wx fs (.asg itg ie)) := PS.weak (ps_asg h hg hs hw h1) fun _ _ _ => asg_core
theorem asgO_core {i : Nat} {ie : E} {Dn : Ends} {σ : St} {H : Hp} {te : TE} (hte : ∀ Q, tR g fs ie σ H Q → te σ H Q) (h : tSt g Wx fs (.asgO i ie) Dn σ H) : tAsg te (gName i) Dn σ H := by
  obtain ⟨pv, Bn, Ow, Γ, o, rs, pn, he, po⟩ := h
  simp only [ex] at he
  obtain ⟨⟨x, Γ1⟩, e1, he⟩ := Option.bind_eq_some_iff.mp he
  refine hte _ ⟨Bn, Ow, Γ, x, Γ1, rs, e1, fun v H1 O1 s1 r1 vl => ?_⟩
  have plain : ∀ {o : Out}, ((fre Γ1 x).bind fun (p : D × Ct) => if i < p.2.length ∧ disjB [i] (pv.2.map (·.1)) = true then some (Out.nx (p.2.set i (some (p.1, false)))) else none) = some o → Post g Wx Dn pv Bn Ow H o → gName i v σ H1 Dn.nx := fun {o} he po => by
    obtain ⟨⟨d, Γ2⟩, e2, he⟩ := Option.bind_eq_some_iff.mp he
    simp only [Option.ite_none_right_eq_some, Option.some.injEq] at he
    obtain ⟨⟨hi, dj⟩, rfl⟩ := he
    obtain ⟨O2, s2, r2, p2⟩ := fre_ok r1 vl e2
    exact po _ H1 O2 (s1.trans s2) (r2.set p2 hi) (pn.set dj)
  cases x with
  | nw d =>
    simp only [Option.ite_none_right_eq_some, Option.some.injEq] at he
    obtain ⟨⟨hi, dj⟩, rfl⟩ := he
    exact po _ H1 O1 s1 (r1.setO vl hi) (pn.set dj)
  | fz d => exact plain he po
  | sl j => exact plain he po
theorem s_asgO {i : Nat} {y : Str} {e : Expr} {ie : E} {pos' : Pos} (C : Cok0 g X) (hi : X.N[i]? = some y) (hx : Loc X.env.scope y) (h : PE X e (tR g fs ie)) (hs : swapsWith e (some (.Name y pos')) pos.line X.env = pure false) (hf : X.fn y = true ∨ X.env.scope.names.lookup y = some .local) :
    PS X (.Assign [.Name y pos'] e pos) (tSt g Wx fs (.asgO i ie)) := PS.weak (ps_set C.nd hi hx h hs hf) fun _ _ _ q => asgO_core (fun _ q => q) q
theorem s_setLc {i : Nat} {y : Str} {py : Pos} {elt tg iter : Expr} {ifs : List Expr} {scope : Scope} {own : List (Str × Nat)} {pos spos : Pos} {itg : Tg} {ik : IK} {its cond : List E} {ielt : E} (C : Cok g X) (hy : X.N[i]? = some y) (hyl : X.env.scope.names.lookup y = some .local)
    (hsw : swapsWith (.ListComp elt [⟨tg, iter, ifs, 0⟩] scope pos) (some (.Name y py)) spos.line X.env = pure true) (hi : PI X tg iter (tI g fs ik its)) (ok : BlkOk X.N X.env.scope scope own)
    (hg : ∀ (s : Shared) (H : Hp) (C : Addr) (cl : List (Str × Addr)) (fp : List Addr), PG (X.blk s H scope (compEnvC scope cl C X.env) fp) tg (tgT g.K itg)) (ht : ∀ (s : Shared) (H : Hp) (C : Addr) (cl : List (Str × Addr)) (fp : List Addr), PTs (X.blk s H scope (compEnvC scope cl C X.env) fp) ifs (tTc g fs cond))
    (he : ∀ (s : Shared) (H : Hp) (C : Addr) (cl : List (Str × Addr)) (fp : List Addr), PE (X.blk s H scope (compEnvC scope cl C X.env) fp) elt (tR g fs ielt)) (hs : ∀ x, foldedSetIterable iter X.env x = pure x) :
    PS X (.Assign [.Name y py] (.ListComp elt [⟨tg, iter, ifs, 0⟩] scope pos) spos) (tSt g Wx fs (.asgO i (.comp (own.map (·.2)) itg ik its cond ielt))) := by
  refine PS.weak (PS.kf (ps_setLc (g := tgK g.K itg) C.calm C.nd hy hyl hsw hi ok (fun s H Ca cl fp => ?_) ht he hs)) ?_
  · have := PG.kf (hg s H Ca cl fp)
    exact ⟨fun pins s σ H v u Q I r q => this.run pins s σ H v u Q I r fun kf => q fun a o e => kf a o (by show X.K.lookup a = some o; rw [C.K]; exact e)⟩
  · intro Dn σ H q
    have := asgO_core (te := fun σ H Q => tLc (tI g fs ik its) (tgK g.K itg) (tTc g fs cond) (tR g fs ielt) (own.map (·.2)) σ H (fun v H' => kfs g.K H' → Q v H')) (fun Q ⟨Bn, Ow, Γ, r, Γ', rs, he, hQ⟩ => comp_core rs he hQ) q
    rw [C.K]
    exact this
theorem s_ite {c : Expr} {a b : List Stmt} {ic : E} {ia ib : List S} (hc : PT X c (tT g fs ic)) (ha : PSs X a (tSs g Wx fs ia)) (hb : PSs X b (tSs g Wx fs ib)) : PS X (.If c a b pos) (tSt g Wx fs (.ite ic ia ib)) := by
  refine PS.weak (ps_if hc ha hb) ?_
  rintro Dn σ H ⟨pv, Bn, Ow, Γ, o, rs, pn, he, po⟩
  simp only [ex] at he
  obtain ⟨⟨x, Γ1⟩, e1, he⟩ := Option.bind_eq_some_iff.mp he
  obtain ⟨t, e2, he⟩ := Option.bind_eq_some_iff.mp he
  refine ⟨Bn, Ow, Γ, x, Γ1, t, rs, e1, e2, fun H1 O1 s1 r1 => ?_⟩
  cases t with
  | true => rw [if_pos rfl] at he ⊢; exact ⟨pv, Bn, O1, Γ1, o, r1, pn, he, po.step s1⟩
  | false => rw [if_neg Bool.false_ne_true] at he ⊢; exact ⟨pv, Bn, O1, Γ1, o, r1, pn, he, po.step s1⟩
theorem ss_nil : PSs X [] (tSs g Wx fs []) := by
  refine PSs.weak pss_nil ?_
  rintro Dn σ H ⟨pv, Bn, Ow, Γ, o, rs, pn, he, po⟩
  simp only [exs, Option.some.injEq] at he; subst he
  exact po σ H Ow (.refl _ _) rs pn
theorem ss_cons {rest : List Stmt} {a : S} {b : List S} (h1 : PS X st (tSt g Wx fs a)) (h2 : PSs X rest (tSs g Wx fs b)) : PSs X (st :: rest) (tSs g Wx fs (a :: b)) := by
  refine PSs.weak (pss_cons h1 h2) ?_
  rintro Dn σ H ⟨pv, Bn, Ow, Γ, o, rs, pn, he, po⟩
  simp only [exs] at he
  obtain ⟨o1, e1, he⟩ := Option.bind_eq_some_iff.mp he
  refine ⟨pv, Bn, Ow, Γ, o1, rs, pn, e1, ?_⟩
  cases o1 with
  | nx G => exact fun σ1 H1 O1 s1 r1 p1 => ⟨pv, Bn, O1, G, o, r1, p1, he, po.step s1⟩
  | bk G => simp only [Option.some.injEq] at he; subst he; exact po
  | ct G => simp only [Option.some.injEq] at he; subst he; exact po
  | rt r G => simp only [Option.some.injEq] at he; subst he; exact po
  | xc c ks ds G => simp only [Option.some.injEq] at he; subst he; exact po
theorem s_whl {c : Expr} {b : List Stmt} {ic : E} {ib : List S} (hp : PassesOwn (model X.prog X.w) X.A X.env X.xe) (hc : PT X c (tT g fs ic)) (hb : PSs X b (tSs g Wx fs ib)) : PS X (.While c b [] pos) (tSt g Wx fs (.whl ic ib)) := by
  refine PS.weak (ps_while hp hc hb) ?_
  rintro Dn σ H ⟨pv, Bn, Ow, Γ, o, rs, pn, he, po⟩
  simp only [ex] at he
  let W : Nat → St → Hp → Prop := fun m σ1 H1 => ∃ O1 Γ1, Stp Ow H O1 H1 ∧ RS g Bn O1 H1 σ1 Γ1 ∧ Pin pv σ1 ∧ whlLoop (fun Γ => (ev fs ic Γ).bind fun (x, Γ1) => (testD Γ1 x).map fun t => (t, Γ1)) (exs fs (pv.2.map (·.1)) ib) m Γ1 = some o
  refine ⟨W, ⟨fuel, Ow, Γ, .refl _ _, rs, pn, he⟩, ?_⟩
  rintro m σ1 H1 ⟨O1, Γ1, s1, r1, p1, l1⟩
  cases m with
  | zero => simp only [whlLoop, reduceCtorEq] at l1
  | succ n =>
    simp only [whlLoop] at l1
    obtain ⟨⟨t, Γ2⟩, e2, l1⟩ := Option.bind_eq_some_iff.mp l1
    obtain ⟨⟨x, Γ3⟩, e3, e2⟩ := Option.bind_eq_some_iff.mp e2
    obtain ⟨t', e4, e2⟩ := Option.map_eq_some_iff.mp e2
    simp only [Prod.mk.injEq] at e2
    obtain ⟨rfl, rfl⟩ := e2
    refine ⟨Bn, O1, Γ1, x, Γ3, t', r1, e3, e4, fun H2 O2 s2 r2 => ?_⟩
    cases t' with
    | false =>
      simp only [Bool.false_eq_true, if_false, Option.some.injEq] at l1 ⊢
      subst l1
      exact po σ1 H2 O2 (s1.trans s2) r2 p1
    | true =>
      simp only [if_true] at l1 ⊢
      obtain ⟨o1, e5, l1⟩ := Option.bind_eq_some_iff.mp l1
      refine ⟨fun σ' H' => W n σ' H', fun σ' H' w => ⟨n, Nat.lt_succ_self n, w⟩, pv, Bn, O2, Γ3, o1, r2, p1, e5, ?_⟩
      cases o1 with
      | nx G => exact fun σ4 H4 O4 s4 r4 p4 => ⟨O4, G, (s1.trans s2).trans s4, r4, p4, l1⟩
      | ct G => exact fun σ4 H4 O4 s4 r4 p4 => ⟨O4, G, (s1.trans s2).trans s4, r4, p4, l1⟩
      | bk G =>
        simp only [Option.some.injEq] at l1; subst l1
        exact fun σ4 H4 O4 s4 r4 p4 => po σ4 H4 O4 ((s1.trans s2).trans s4) r4 p4
      | rt r G =>
        simp only [Option.some.injEq] at l1; subst l1
        exact fun v σ4 H4 O4 s4 r4 p4 => po v σ4 H4 O4 ((s1.trans s2).trans s4) r4 p4
      | xc c ks ds G =>
        simp only [Option.some.injEq] at l1; subst l1
        exact fun v σ4 H4 O4 s4 r4 p4 => po v σ4 H4 O4 ((s1.trans s2).trans s4) r4 p4
theorem s_for {tg iter : Expr} {b : List Stmt} {itg : Tg} {ik : IK} {its : List E} {ib : List S} (C : Cok g X) (hp : PassesOwn (model X.prog X.w) X.A X.env X.xe) (hi : PI X tg iter (tI g fs ik its)) (hg : PG X tg (tgT g.K itg)) (hb : PSs X b (tSs g Wx fs ib)) (hs : ∀ x, foldedSetIterable iter X.env x = pure x) :
    PS X (.For tg iter b [] pos) (tSt g Wx fs (.for_ itg ik its ib)) := by
  refine PS.weak (ps_for hp C.calm hi hg hb hs) ?_
  rintro Dn σ H ⟨pv, Bn, Ow, Γ, o, rs, pn, he, po⟩
  simp only [ex] at he
  obtain ⟨⟨xs, Γ1⟩, e1, he⟩ := Option.bind_eq_some_iff.mp he
  obtain ⟨⟨ds, Γ2⟩, e2, he⟩ := Option.bind_eq_some_iff.mp he
  simp only [Option.ite_none_right_eq_some] at he
  obtain ⟨dj, he⟩ := he
  refine ⟨Bn, Ow, Γ, xs, Γ1, ds, Γ2, rs, e1, e2, fun J H1 O1 s1 r1 wk => ?_⟩
  let C1 : Nat → St → Hp → Prop := fun i σ2 H2 => ∃ O2 G2, Stp O1 H1 O2 H2 ∧ RS g Bn O2 H2 σ2 G2 ∧ Pin pv σ2 ∧ forLoop itg (exs fs (pv.2.map (·.1)) ib) (ds.drop i) G2 = some o
  refine ⟨fun i m σ2 H2 => m = ds.length - i ∧ i ≤ ds.length ∧ C1 i σ2 H2, ⟨ds.length, by simp, Nat.zero_le _, O1, Γ2, .refl _ _, r1, pn, he⟩, ?_⟩
  rintro i m σ2 H2 ⟨rfl, hle, O2, G2, s2, r2, p2, l2⟩
  by_cases hlt : i < ds.length
  · refine .inr ⟨wk.go i H2 hlt fun a o h t n => s2.keep0 a o h t n, fun σ' H' => C1 (i + 1) σ' H', fun σ' H' q => ⟨ds.length - (i + 1), by omega, rfl, hlt, q⟩, fun x H3 y => ?_⟩
    have edr : ds.drop i = ds[i] :: ds.drop (i + 1) := List.drop_eq_getElem_cons hlt
    rw [edr] at l2
    simp only [forLoop] at l2
    obtain ⟨G3, a1, l2⟩ := Option.bind_eq_some_iff.mp l2
    obtain ⟨o1, a2, l2⟩ := Option.bind_eq_some_iff.mp l2
    obtain ⟨sm, rx⟩ := wk.yld i _ Bn O2 H2 _ _ x H3 (List.getElem?_eq_getElem hlt) (fun a z => z) (fun a z => .inl z) s2 r2 y
    have s3 : Stp O1 H1 O2 H3 := s2.trans (Stp.same sm)
    refine asgT_ok itg (r2.same sm) rx a1 fun σ3 q1 q2 q3 => ⟨pv, Bn, O2, G3, o1, q1, p2.keep dj q2 q3, a2, ?_⟩
    cases o1 with
    | nx G => exact fun σ4 H4 O4 s4 r4 p4 => ⟨O4, G, s3.trans s4, r4, p4, l2⟩
    | ct G => exact fun σ4 H4 O4 s4 r4 p4 => ⟨O4, G, s3.trans s4, r4, p4, l2⟩
    | bk G =>
      simp only [Option.some.injEq] at l2; subst l2
      exact fun σ4 H4 O4 s4 r4 p4 => po σ4 H4 O4 (s1.trans (s3.trans s4)) r4 p4
    | rt r G =>
      simp only [Option.some.injEq] at l2; subst l2
      exact fun v σ4 H4 O4 s4 r4 p4 => po v σ4 H4 O4 (s1.trans (s3.trans s4)) r4 p4
    | xc c ks ds G =>
      simp only [Option.some.injEq] at l2; subst l2
      exact fun v σ4 H4 O4 s4 r4 p4 => po v σ4 H4 O4 (s1.trans (s3.trans s4)) r4 p4
  · have e : i = ds.length := by omega
    subst e
    rw [List.drop_length] at l2
    simp only [forLoop, Option.some.injEq] at l2
    subst l2
    exact .inl ⟨wk.stop H2 fun a o h t n => s2.keep0 a o h t n, po σ2 H2 O2 (s1.trans s2) r2 p2⟩
end
end DV

namespace DV
open PySem L2
variable {Wx : L2.XK}
section
variable {X : Cx} {g : Gx} {fs : List FS} {st : Stmt} {pos : Pos} {Bn : Addr → Prop} {Ow Ow' : List Addr} {H H' : Hp} {σ : St} {Γ Γ' : Ct}
theorem isLst_ty {i : Nat} (rs : RS g Bn Ow H σ Γ) (h : isLst Γ i = true) : ∃ a, σ[i]? = some (some (.ref a)) ∧ tyV g.K "list" (.ref a) H := by
  unfold isLst at h
  split at h
  · rename_i ds b q
    cases b with
    | false =>
      obtain ⟨v, e1, r1⟩ := rs.slot i _ q
      simp only [Rep] at r1
      obtain ⟨a, vs, rfl, _, s, _⟩ := r1
      exact ⟨a, e1, .inl ⟨rfl, vs, .inl (.inl s)⟩⟩
    | true =>
      obtain ⟨a, e1, _, vs, s, _⟩ := rs.own i _ q
      exact ⟨a, e1, .inl ⟨rfl, vs, .inl (.inl s)⟩⟩
  · cases h
theorem s_app {o e : Expr} {i : Nat} {ie : E} {apos cpos : Pos} (C : Cok0 g X) (ho : PE X o (tVar i)) (he : PE X e (tR g fs ie)) (hbase : attributeBase o "append" X.env (eval o X.env) = eval o X.env)
    (hline : (apos.endLine == cpos.line) = true) (hs : starEach [e] X.env = [(false, eval e X.env)]) (hsw : swapsWith (.Call (.Attribute o "append" apos) [e] [] cpos) none pos.line X.env = pure false) :
    PS X (.Expr (.Call (.Attribute o "append" apos) [e] [] cpos) pos) (tSt g Wx fs (.app i ie)) := by
  refine PS.weak (ps_expr (pe_bm PySem.F.plainAttrs_list PySem.F.slot_list_append PySem.F.type_list_append mt_append ho (pa_cons he pa_nil (by rw [hs]; rfl)) hbase (by rw [hs]; rfl) hline (by rw [hs]; rfl) rfl) hsw) ?_
  rintro Dn σ H ⟨pv, Bn, Ow, Γ, o, rs, pn, he, po⟩
  simp only [ex, Option.ite_none_right_eq_some] at he
  obtain ⟨hl, he⟩ := he
  obtain ⟨⟨x, Γ1⟩, e1, he⟩ := Option.bind_eq_some_iff.mp he
  obtain ⟨⟨d, Γ2⟩, e2, he⟩ := Option.bind_eq_some_iff.mp he
  obtain ⟨a, ea, ty⟩ := isLst_ty rs hl
  refine ⟨_, ea, by rw [C.K]; exact ty, Bn, Ow, Γ, x, Γ1, rs, e1, fun v H1 O1 s1 r1 vl => ?_⟩
  obtain ⟨O2, s2, r2, p2⟩ := fre_ok r1 vl e2
  split at he
  · rename_i c q
    obtain ⟨c', e3, rfl⟩ := Option.map_eq_some_iff.mp he
    obtain ⟨b, eb, m, ow⟩ := r2.own i _ q
    rw [ea] at eb; cases eb
    cases c <;> simp only [appD, reduceCtorEq, Option.ite_none_right_eq_some, Option.some.injEq] at e3
    rename_i xs
    obtain ⟨hz, rfl⟩ := e3
    obtain ⟨vs, hv, rp⟩ := ow
    obtain ⟨r3, s3⟩ := r2.mut q ea (rp.app (Reps.one p2))
    exact ⟨a, vs, v, rfl, rfl, hv, by rw [← rp.len]; exact hz, po _ _ O2 ((s1.trans s2).trans s3) r3 pn⟩
  · cases he
theorem s_ext {o e : Expr} {i : Nat} {ie : E} {apos cpos : Pos} (C : Cok0 g X) (ho : PE X o (tVar i)) (he : PE X e (tR g fs ie)) (hbase : attributeBase o "extend" X.env (eval o X.env) = eval o X.env)
    (hline : (apos.endLine == cpos.line) = true) (hs : starEach [e] X.env = [(false, eval e X.env)]) (hsw : swapsWith (.Call (.Attribute o "extend" apos) [e] [] cpos) none pos.line X.env = pure false) :
    PS X (.Expr (.Call (.Attribute o "extend" apos) [e] [] cpos) pos) (tSt g Wx fs (.ext i ie)) := by
  refine PS.weak (ps_expr (pe_bm PySem.F.plainAttrs_list PySem.F.slot_list_extend PySem.F.type_list_extend mt_extend ho (pa_cons he pa_nil (by rw [hs]; rfl)) hbase (by rw [hs]; rfl) hline (by rw [hs]; rfl) rfl) hsw) ?_
  rintro Dn σ H ⟨pv, Bn, Ow, Γ, o, rs, pn, he, po⟩
  simp only [ex, Option.ite_none_right_eq_some] at he
  obtain ⟨hl, he⟩ := he
  obtain ⟨⟨x, Γ1⟩, e1, he⟩ := Option.bind_eq_some_iff.mp he
  obtain ⟨d, e2, he⟩ := Option.bind_eq_some_iff.mp he
  obtain ⟨a, ea, ty⟩ := isLst_ty rs hl
  refine ⟨_, ea, by rw [C.K]; exact ty, Bn, Ow, Γ, x, Γ1, rs, e1, fun v H1 O1 s1 r1 vl => ?_⟩
  have rd := vl.rdb r1 e2
  split at he
  · rename_i c q
    obtain ⟨c', e3, rfl⟩ := Option.map_eq_some_iff.mp he
    obtain ⟨b, eb, m, ow⟩ := r1.own i _ q
    rw [ea] at eb; cases eb
    cases c <;> simp only [extD, reduceCtorEq] at e3
    cases d <;> simp only [extD, reduceCtorEq, Option.ite_none_right_eq_some, Option.some.injEq] at e3
    obtain ⟨hz, rfl⟩ := e3
    obtain ⟨vs, hv, rp⟩ := ow
    obtain ⟨b, ws, rfl, hw, rq⟩ := rd
    obtain ⟨r3, s3⟩ := r1.mut q ea (rp.app rq)
    exact ⟨a, b, vs, ws, rfl, rfl, hv, hw, by rw [← rp.len, ← rq.len]; exact hz, po _ _ O1 (s1.trans s3) r3 pn⟩
  · cases he
theorem s_seti {o k e : Expr} {i : Nat} {ik ie : E} {tpos : Pos} (C : Cok0 g X) (ho : PE X o (tVar i)) (hk : PE X k (tR g fs ik)) (he : PE X e (tR g fs ie)) (hs : swapsWithSole [.Subscript o k tpos] e pos.line X.env = pure false) (hw : swappedStores [.Subscript o k tpos] e X.env = pure none)
    (h1 : (assignEach [.Subscript o k tpos] X.env).map (·.2) = [assign (.Subscript o k tpos) X.env])
    (ha : ∀ v, assign (.Subscript o k tpos) X.env v = (do
      let ov ← holding [v] (eval o X.env)
      let iv ← holding [v, ov] (eval k X.env)
      standAt tpos
      holding [v, ov, iv] (setItem ov iv v)
      release [v, ov, iv] [])) : PS X (.Assign [.Subscript o k tpos] e pos) (tSt g Wx fs (.seti i ik ie)) := by
  refine PS.weak (ps_asg he (pg_sub ho hk set_list ha) hs hw h1) ?_
  rintro Dn σ H ⟨pv, Bn, Ow, Γ, o, rs, pn, he, po⟩
  simp only [ex] at he
  obtain ⟨⟨x, Γ1⟩, e1, he⟩ := Option.bind_eq_some_iff.mp he
  obtain ⟨⟨d, Γ2⟩, e2, he⟩ := Option.bind_eq_some_iff.mp he
  simp only [Option.ite_none_right_eq_some] at he
  obtain ⟨hil, he⟩ := he
  obtain ⟨⟨y, Γ3⟩, e3, he⟩ := Option.bind_eq_some_iff.mp he
  obtain ⟨kd, e4, he⟩ := Option.bind_eq_some_iff.mp he
  refine ⟨Bn, Ow, Γ, x, Γ1, rs, e1, fun v H1 O1 s1 r1 vl => ?_⟩
  obtain ⟨O2, s2, r2, p2⟩ := fre_ok r1 vl e2
  split at he
  · rename_i c q
    obtain ⟨c', e5, rfl⟩ := Option.map_eq_some_iff.mp he
    obtain ⟨a, ea, _⟩ := isLst_ty r2 hil
    refine ⟨_, ea, Bn, O2, Γ2, y, Γ3, r2, e3, fun w H3 O3 s3 r3 v3 => ?_⟩
    have rd := v3.rdb r3 e4
    obtain ⟨b, eb, m, ow⟩ := r3.own i _ q
    rw [ea] at eb; cases eb
    cases c <;> simp only [setD, reduceCtorEq] at e5
    cases kd <;> simp only [setD, reduceCtorEq] at e5
    rename_i ki
    obtain ⟨j, e6, rfl⟩ := Option.map_eq_some_iff.mp e5
    obtain ⟨vs, hv, rp⟩ := ow
    have rd : w = .int ki := by simpa only [Rdb, Rep] using rd
    obtain ⟨r4, s4⟩ := r3.mut q ea (rp.set (p2.step s3 r3) j)
    exact ⟨a, vs, _, j, rfl, rd, hv, by rw [← rp.len]; exact e6, po _ _ O3 (((s1.trans s2).trans s3).trans s4) r4 pn⟩
  · cases he
/-! ### parallel assignment -/
def VlN (g : Gx) (Bn : Addr → Prop) (Ow : List Addr) (H : Hp) (σ : St) (Γ : Ct) : List RV → List V → Prop
  | [], vs => vs = []
  | x :: xs, vs => ∃ v r, vs = v :: r ∧ Val g Bn Ow H σ Γ x v ∧ (∀ d, x = .nw d → v ∉ r) ∧ (∀ i, x ≠ .sl i) ∧ VlN g Bn Ow H σ Γ xs r
def tAn (g : Gx) (fs : List FS) (is : List (Nat × Bool)) (es : List E) : TA := fun σ H Q => ∃ Bn Ow Γ xs Γ', RS g Bn Ow H σ Γ ∧ evn fs is es Γ = some (xs, Γ') ∧ ∀ vs H' Ow', Stp Ow H Ow' H' → RS g Bn Ow' H' σ Γ' → VlN g Bn Ow' H' σ Γ' xs vs → Q vs H'
theorem evn_nil {σ : St} {H : Hp} {Q : List V → Hp → Prop} : tAn g fs [] [] σ H Q → tNil σ H Q := by
  rintro ⟨Bn, Ow, Γ, xs, Γ', rs, he, hQ⟩
  simp only [evn, Option.some.injEq, Prod.mk.injEq] at he
  obtain ⟨rfl, rfl⟩ := he
  exact hQ [] H Ow (.refl _ _) rs rfl
theorem Rep.nav {A : Addr → Prop} {d : D} {a : Addr} (h0 : g.ea = none) (h : Rep g A H d (.ref a)) : ¬ A a := by
  cases d <;> simp only [Rep, reduceCtorEq] at h
  · obtain ⟨b, vs, e, n, _⟩ := h; cases e; exact n
  · obtain ⟨b, vs, e, n, _⟩ := h; cases e; exact n
  · obtain ⟨b, vs, ws, e, n, _⟩ := h; cases e; exact n
  · obtain ⟨b, e, n, _⟩ := h; cases e; exact n
  · obtain ⟨b, e, n, _⟩ := h; cases e; exact n
  · obtain ⟨b, vs, e, n, _⟩ := h; cases e; exact n
  · obtain ⟨b, vs, e, n, _⟩ := h; cases e; exact n
  · obtain ⟨e0, b, vs, e1, _⟩ := h; rw [h0] at e1; cases e1
theorem OwnA.step {d : D} {p : Addr} (o : OwnA g (Av Bn Ow) H d p) (np : p ∉ Ow) (s : Stp Ow H Ow' H') (rs : RS g Bn Ow' H' σ Γ) : OwnA g (Av Bn Ow') H' d p := by
  cases d with
  | lst es => obtain ⟨us, e2, r2⟩ := o; exact ⟨us, s.keep _ _ e2 np, r2.step s rs⟩
  | obj c ks es => obtain ⟨dx, us, l, e2, r2⟩ := o; exact ⟨dx, us, l, s.keep _ _ e2 np, r2.step s rs⟩
  | _ => exact o
theorem RS.ban {d : D} {p : Addr} (rs : RS g Bn Ow H σ Γ) (m : p ∈ Ow) (no : ∀ (i : Nat) e, Γ[i]? = some (some (e, true)) → σ[i]? ≠ some (some (.ref p))) : RS g (orB Bn p) (Ow.filter (fun x => decide (x ≠ p))) H σ Γ := by
  have k1 : ∀ a, Av (orB Bn p) (Ow.filter (fun x => decide (x ≠ p))) a → Av Bn Ow a := fun a z => by
    rcases z with (z | z) | z
    · exact .inl z
    · rw [z]; exact .inr m
    · exact .inr (mem_ne z).1
  refine ⟨rs.len, fun i d h => ?_, fun i d h => ?_, rs.dist, fun a h => rs.trl a (k1 a h), fun a h z => ?_, fun a h => rs.kf a (k1 a h), rs.tabs⟩
  · obtain ⟨v, e, r⟩ := rs.slot i d h; exact ⟨v, e, rep_less k1 r⟩
  · obtain ⟨a, e, ma, r⟩ := rs.own i d h
    exact ⟨a, e, ne_mem ma fun z => no i d h (by rw [e, z]), own_less k1 r⟩
  · rcases h with h | h
    · exact rs.sep a h (mem_ne z).1
    · exact (mem_ne z).2 h
theorem VlN.unB {p : Addr} : ∀ {xs : List RV} {vs : List V}, VlN g (orB Bn p) Ow H σ Γ xs vs → VlN g Bn (p :: Ow) H σ Γ xs vs
  | [], _, h => h
  | x :: xs, _, ⟨v, r, e, h1, h2, h3, h4⟩ => by
    refine ⟨v, r, e, ?_, h2, h3, VlN.unB h4⟩
    have k1 : ∀ a, Av Bn (p :: Ow) a → Av (orB Bn p) Ow a := fun a z => by
      rcases z with z | z
      · exact .inl (.inl z)
      · rcases List.mem_cons.mp z with z | z
        · exact .inl (.inr z)
        · exact .inr z
    cases x with
    | fz d => exact rep_less k1 h1
    | nw d => obtain ⟨a, e1, m1, o1, n1⟩ := h1; exact ⟨a, e1, List.mem_cons_of_mem _ m1, own_less k1 o1, n1⟩
    | sl i => exact h1
theorem VlN.nin {p : Addr} (h0 : g.ea = none) : ∀ {xs : List RV} {vs : List V}, VlN g Bn Ow H σ Γ xs vs → Bn p → (∀ a, Bn a → a ∉ Ow) → V.ref p ∉ vs
  | [], _, h, _, _ => by have h : _ = [] := h; subst h; simp
  | x :: xs, _, ⟨v, r, e, h1, h2, h3, h4⟩, hp, sp => by
    subst e
    intro z
    rcases List.mem_cons.mp z with z | z
    · subst z
      cases x with
      | fz d => exact Rep.nav h0 h1 (.inl hp)
      | nw d => obtain ⟨a, e1, m1, _⟩ := h1; cases e1; exact sp p hp m1
      | sl i => exact h3 i rfl
    · exact VlN.nin h0 h4 hp sp z
theorem an_nil : PA X [] (tAn g fs [] []) := PA.weak pa_nil fun _ _ _ q => evn_nil q
theorem an_cons {a : Expr} {es : List Expr} {ia : E} {ies : List E} {i : Nat} {b : Bool} {is : List (Nat × Bool)} (C : Cok g X) (ha : PE X a (tR g fs ia)) (hr : PA X es (tAn g fs is ies)) (hs : starEach (a :: es) X.env = (false, eval a X.env) :: starEach es X.env) : PA X (a :: es) (tAn g fs ((i, b) :: is) (ia :: ies)) := by
  refine PA.weak (pa_cons ha hr hs) ?_
  rintro σ H Q ⟨Bn, Ow, Γ, xs, Γ', rs, he, hQ⟩
  simp only [evn] at he
  obtain ⟨⟨x, Γ1⟩, e1, he⟩ := Option.bind_eq_some_iff.mp he
  refine ⟨Bn, Ow, Γ, x, Γ1, rs, e1, fun v H1 O1 s1 r1 vl => ?_⟩
  have plain : ((fre Γ1 x).bind fun (p : D × Ct) => (evn fs is ies p.2).map fun (q : List RV × Ct) => (RV.fz p.1 :: q.1, q.2)) = some (xs, Γ') → tAn g fs is ies σ H1 (fun vs H2 => Q (v :: vs) H2) := fun he => by
    obtain ⟨⟨d, Γ2⟩, e2, he⟩ := Option.bind_eq_some_iff.mp he
    obtain ⟨⟨ys, Γ3⟩, e3, he⟩ := Option.map_eq_some_iff.mp he
    simp only [Prod.mk.injEq] at he
    obtain ⟨rfl, rfl⟩ := he
    obtain ⟨O2, s2, r2, p2⟩ := fre_ok r1 vl e2
    exact ⟨Bn, O2, Γ2, ys, Γ3, r2, e3, fun vs H3 O3 s3 r3 v3 => hQ (v :: vs) H3 O3 ((s1.trans s2).trans s3) r3 ⟨v, vs, rfl, p2.step s3 r3, nofun, nofun, v3⟩⟩
  cases b with
  | false => cases x <;> exact plain he
  | true =>
    cases x with
    | fz d => exact plain he
    | sl i => exact plain he
    | nw d =>
      obtain ⟨⟨ys, Γ3⟩, e3, he⟩ := Option.map_eq_some_iff.mp he
      simp only [Prod.mk.injEq] at he
      obtain ⟨rfl, rfl⟩ := he
      obtain ⟨p, rfl, m, ow, no⟩ := vl
      have r2 := r1.ban (d := d) m no
      have nb : ¬ Bn p := fun z => r1.sep p z m
      have np : p ∉ O1.filter (fun x => decide (x ≠ p)) := fun z => (mem_ne z).2 rfl
      have ow2 : OwnA g (Av (orB Bn p) (O1.filter (fun x => decide (x ≠ p)))) H1 d p := own_less (fun a z => by
        rcases z with (z | z) | z
        · exact .inl z
        · rw [z]; exact .inr m
        · exact .inr (mem_ne z).1) ow
      refine ⟨orB Bn p, _, Γ1, ys, Γ3, r2, e3, fun vs H3 O3 s3 r3 v3 => hQ (.ref p :: vs) H3 (p :: O3) (s1.trans ⟨fun a o h t n => s3.keep0 a o h t fun z => n (mem_ne z).1, fun a h => ?_⟩) (r3.unB nb) ⟨.ref p, vs, rfl, ⟨p, rfl, List.mem_cons_self, ?_, fun j e h1 h2 => ?_⟩, fun _ _ => VlN.nin C.ea v3 (.inr rfl) r3.sep, nofun, v3.unB⟩⟩
      · rcases List.mem_cons.mp h with h | h
        · rw [h]; exact .inl m
        · rcases s3.grow a h with z | z
          · exact .inl (mem_ne z).1
          · exact .inr z
      · exact own_less (fun a z => by
          rcases z with z | z
          · exact .inl (.inl z)
          · rcases List.mem_cons.mp z with z | z
            · exact .inl (.inr z)
            · exact .inr z) (ow2.step np s3 r3)
      · obtain ⟨b, e2, m2, _⟩ := r3.own j e h1
        rw [h2] at e2; cases e2
        exact r3.sep p (.inr rfl) m2
theorem VlW.unB {p : Addr} : ∀ {xs : List RV} {vs : List V}, VlW g (orB Bn p) Ow H σ Γ xs vs → VlW g Bn (p :: Ow) H σ Γ xs vs
  | [], _, h => h
  | x :: xs, _, ⟨v, r, e, h1, h2, h4⟩ => by
    refine ⟨v, r, e, ?_, h2, VlW.unB h4⟩
    have k1 : ∀ a, Av Bn (p :: Ow) a → Av (orB Bn p) Ow a := fun a z => by
      rcases z with z | z
      · exact .inl (.inl z)
      · rcases List.mem_cons.mp z with z | z
        · exact .inl (.inr z)
        · exact .inr z
    cases x with
    | fz d => exact rep_less k1 h1
    | nw d => obtain ⟨a, e1, m1, o1, n1⟩ := h1; exact ⟨a, e1, List.mem_cons_of_mem _ m1, own_less k1 o1, n1⟩
    | sl i => exact h1
theorem aw_nil : PA X [] (tAw g fs []) := by
  refine PA.weak pa_nil ?_
  rintro σ H Q ⟨Bn, Ow, Γ, xs, Γ', rs, he, hQ⟩
  simp only [evs, Option.some.injEq, Prod.mk.injEq] at he
  obtain ⟨rfl, rfl⟩ := he
  exact hQ [] H Ow (.refl _ _) rs rfl
theorem aw_split {ia : E} {ies : List E} {σ : St} {H : Hp} {Q : List V → Hp → Prop} (h : tAw g fs (ia :: ies) σ H Q) : tR g fs ia σ H fun v H1 => tAw g fs ies σ H1 fun vs H2 => Q (v :: vs) H2 := by
  obtain ⟨Bn, Ow, Γ, xs, Γ', rs, he, hQ⟩ := h
  simp only [evs] at he
  obtain ⟨⟨x, Γ1⟩, e1, he⟩ := Option.bind_eq_some_iff.mp he
  obtain ⟨⟨ys, Γ3⟩, e3, he⟩ := Option.map_eq_some_iff.mp he
  simp only [Prod.mk.injEq] at he
  obtain ⟨rfl, rfl⟩ := he
  refine ⟨Bn, Ow, Γ, x, Γ1, rs, e1, fun v H1 O1 s1 r1 vl => ?_⟩
  cases x with
  | fz d => exact ⟨Bn, O1, Γ1, ys, Γ3, r1, e3, fun vs H3 O3 s3 r3 v3 => hQ (v :: vs) H3 O3 (s1.trans s3) r3 ⟨v, vs, rfl, Val.step (r := .fz d) vl s3 r3, nofun, v3⟩⟩
  | sl i => exact ⟨Bn, O1, Γ1, ys, Γ3, r1, e3, fun vs H3 O3 s3 r3 v3 => hQ (v :: vs) H3 O3 (s1.trans s3) r3 ⟨v, vs, rfl, vl, nofun, v3⟩⟩
  | nw d =>
    obtain ⟨p, rfl, m, ow, no⟩ := vl
    have r2 := r1.ban (d := d) m no
    have nb : ¬ Bn p := fun z => r1.sep p z m
    have np : p ∉ O1.filter (fun x => decide (x ≠ p)) := fun z => (mem_ne z).2 rfl
    have ow2 : OwnA g (Av (orB Bn p) (O1.filter (fun x => decide (x ≠ p)))) H1 d p := own_less (fun a z => by
      rcases z with (z | z) | z
      · exact .inl z
      · rw [z]; exact .inr m
      · exact .inr (mem_ne z).1) ow
    refine ⟨orB Bn p, _, Γ1, ys, Γ3, r2, e3, fun vs H3 O3 s3 r3 v3 => hQ (.ref p :: vs) H3 (p :: O3) (s1.trans ⟨fun a o h t n => s3.keep0 a o h t fun z => n (mem_ne z).1, fun a h => ?_⟩) (r3.unB nb) ⟨.ref p, vs, rfl, ⟨p, rfl, List.mem_cons_self, ?_, fun j e h1 h2 => ?_⟩, fun _ _ j e h1 h2 => ?_, v3.unB⟩⟩
    · rcases List.mem_cons.mp h with h | h
      · rw [h]; exact .inl m
      · rcases s3.grow a h with z | z
        · exact .inl (mem_ne z).1
        · exact .inr z
    · exact own_less (fun a z => by
        rcases z with z | z
        · exact .inl (.inl z)
        · rcases List.mem_cons.mp z with z | z
          · exact .inl (.inr z)
          · exact .inr z) (ow2.step np s3 r3)
    · obtain ⟨b, e2, m2, _⟩ := r3.own j e h1
      rw [h2] at e2; cases e2
      exact r3.sep p (.inr rfl) m2
    · obtain ⟨w, h3, h4⟩ := v3.get h1
      rw [h2] at h3; cases h3
      obtain ⟨b, e4, m4, _⟩ := h4
      cases e4
      exact r3.sep p (.inr rfl) m4
theorem aw_cons {a : Expr} {es : List Expr} {ia : E} {ies : List E} (ha : PE X a (tR g fs ia)) (hr : PA X es (tAw g fs ies)) (hs : starEach (a :: es) X.env = (false, eval a X.env) :: starEach es X.env) : PA X (a :: es) (tAw g fs (ia :: ies)) := 
  PA.weak (pa_cons ha hr hs) fun _ _ _ h => aw_split h
def setsV (σ : St) : List (Nat × Bool) → List V → St
  | (i, _) :: is, v :: vs => setsV (σ.set i (some v)) is vs
  | _, _ => σ
theorem VlN.set {i : Nat} {d : D} {b : Bool} {v : V} (hi : i < Γ.length) (hs : i < σ.length) : ∀ {xs : List RV} {vs : List V}, v ∉ vs ∨ b = false → VlN g Bn Ow H σ Γ xs vs → VlN g Bn Ow H (σ.set i (some v)) (Γ.set i (some (d, b))) xs vs
  | [], _, _, h => h
  | x :: xs, _, n, ⟨w, r, e, h1, h2, h3, h4⟩ => by
    subst e
    refine ⟨w, r, rfl, ?_, h2, h3, VlN.set hi hs (n.imp (fun n z => n (List.mem_cons_of_mem _ z)) id) h4⟩
    cases x with
    | fz d => exact h1
    | nw d =>
      obtain ⟨a, e1, m1, o1, n1⟩ := h1
      refine ⟨a, e1, m1, o1, fun j e q1 q2 => ?_⟩
      by_cases hj : i = j
      · subst hj
        rw [List.getElem?_set_self hi] at q1
        rw [List.getElem?_set_self hs] at q2
        cases q1; cases q2; cases e1
        exact n.elim (fun n => n List.mem_cons_self) nofun
      · rw [List.getElem?_set_ne hj] at q1 q2
        exact n1 j e q1 q2
    | sl i => exact (h3 i rfl).elim
theorem parS_ok {pv : Nat × List (Nat × V)} : ∀ {is : List (Nat × Bool)} {xs : List RV} {vs : List V} {σ : St} {Γ Γ' : Ct}, RS g Bn Ow H σ Γ → VlN g Bn Ow H σ Γ xs vs → parS is xs Γ = some Γ' → Pin pv σ → disjB (is.map (·.1)) (pv.2.map (·.1)) = true → RS g Bn Ow H (setsV σ is vs) Γ' ∧ Pin pv (setsV σ is vs)
  | [], [], vs, σ, Γ, Γ', rs, _, e, pn, _ => by
    simp only [parS, Option.some.injEq] at e; subst e
    exact ⟨by unfold setsV; exact rs, by unfold setsV; exact pn⟩
  | [], x :: xs, vs, σ, Γ, Γ', rs, _, e, pn, _ => by simp only [parS, reduceCtorEq] at e
  | (i, b) :: is, [], vs, σ, Γ, Γ', rs, _, e, pn, _ => by simp only [parS, reduceCtorEq] at e
  | (i, b) :: is, x :: xs, _, σ, Γ, Γ', rs, ⟨v, r, rfl, h1, h2, h3, h4⟩, e, pn, dj => by
    have d1 : disjB [i] (pv.2.map (·.1)) = true ∧ disjB (is.map (·.1)) (pv.2.map (·.1)) = true := by
      simp only [disjB, List.map_cons, List.all_cons, Bool.and_eq_true] at dj
      exact ⟨by simp only [disjB, List.all_cons, List.all_nil, Bool.and_true]; exact dj.1, dj.2⟩
    cases x with
    | sl j => exact (h3 j rfl).elim
    | fz d =>
      simp only [parS, Option.ite_none_right_eq_some] at e
      obtain ⟨hi, e⟩ := e
      exact parS_ok (σ := σ.set i (some v)) (rs.set h1 hi) (h4.set hi (by rw [rs.len]; exact hi) (.inr rfl)) e (pn.set d1.1) d1.2
    | nw d =>
      simp only [parS, Option.ite_none_right_eq_some] at e
      obtain ⟨hi, e⟩ := e
      exact parS_ok (σ := σ.set i (some v)) (rs.setO h1 hi) (h4.set hi (by rw [rs.len]; exact hi) (.inl (h2 d rfl))) e (pn.set d1.1) d1.2
theorem parS_len : ∀ {is : List (Nat × Bool)} {xs : List RV} {Γ Γ' : Ct}, parS is xs Γ = some Γ' → is.length = xs.length
  | [], [], _, _, _ => rfl
  | [], x :: xs, Γ, Γ', e => by simp only [parS, reduceCtorEq] at e
  | (i, b) :: is, [], Γ, Γ', e => by simp only [parS, reduceCtorEq] at e
  | (i, b) :: is, .sl j :: xs, Γ, Γ', e => by simp only [parS, reduceCtorEq] at e
  | (i, b) :: is, .fz d :: xs, Γ, Γ', e => by
    simp only [parS, Option.ite_none_right_eq_some] at e
    rw [List.length_cons, List.length_cons, parS_len e.2]
  | (i, b) :: is, .nw d :: xs, Γ, Γ', e => by
    simp only [parS, Option.ite_none_right_eq_some] at e
    rw [List.length_cons, List.length_cons, parS_len e.2]
theorem VlN.len : ∀ {xs : List RV} {vs : List V}, VlN g Bn Ow H σ Γ xs vs → xs.length = vs.length
  | [], _, h => by have h : _ = [] := h; subst h; rfl
  | x :: xs, _, ⟨v, r, e, _, _, _, h2⟩ => by subst e; rw [List.length_cons, List.length_cons, h2.len]
theorem par_core {is : List (Nat × Bool)} {es : List E} {Dn : Ends} {σ : St} {H : Hp} (h : tSt g Wx fs (.par is es) Dn σ H) : tAn g fs is es σ H fun vs H1 => vs.length = is.length ∧ Dn.nx (setsV σ is vs) H1 := by
  obtain ⟨pv, Bn, Ow, Γ, o, rs, pn, he, po⟩ := h
  simp only [ex, Option.ite_none_right_eq_some] at he
  obtain ⟨dj, he⟩ := he
  obtain ⟨⟨ys, Γ2⟩, e1, he⟩ := Option.bind_eq_some_iff.mp he
  obtain ⟨Γ3, e2, rfl⟩ := Option.map_eq_some_iff.mp he
  refine ⟨Bn, Ow, Γ, ys, Γ2, rs, e1, fun vs H1 O1 s1 r1 v1 => ⟨by rw [parS_len e2, v1.len], ?_⟩⟩
  obtain ⟨r2, p2⟩ := parS_ok r1 v1 e2 pn dj
  exact po _ H1 O1 s1 r2 p2
theorem s_par2 {i j : Nat} {bi bj : Bool} {x y : Str} {a b : Expr} {ia ib : E} {px py pt : Pos} {kt k2 pt2} (C : Cok g X) (hi : X.N[i]? = some x) (hj : X.N[j]? = some y) (hij : i ≠ j)
    (hx : X.env.scope.names.lookup x = some .local) (hy : X.env.scope.names.lookup y = some .local) (ha : PA X [a, b] (tAn g fs [(i, bi), (j, bj)] [ia, ib]))
    (hw : swappedStores [.Tuple [.Name x px, .Name y py] kt pt] (.Tuple [a, b] k2 pt2) X.env = pure (some [x, y]))
    (hs : swapsWithSole [.Tuple [.Name x px, .Name y py] kt pt] (.Tuple [a, b] k2 pt2) pos.line X.env = pure false) :
    PS X (.Assign [.Tuple [.Name x px, .Name y py] kt pt] (.Tuple [a, b] k2 pt2) pos) (tSt g Wx fs (.par [(i, bi), (j, bj)] [ia, ib])) := by
  refine PS.weak (ps_par C.calm C.nd hi hj hij hx hy ha hw hs) ?_
  intro Dn σ H q
  obtain ⟨Bn, Ow, Γ, xs, Γ', rs, he, hQ⟩ := par_core q
  refine ⟨Bn, Ow, Γ, xs, Γ', rs, he, fun vs H1 O1 s1 r1 v1 => ?_⟩
  obtain ⟨hl, q⟩ := hQ vs H1 O1 s1 r1 v1
  obtain ⟨v, w, rfl⟩ : ∃ v w, vs = [v, w] := by
    match vs, hl with
    | [v, w], _ => exact ⟨v, w, rfl⟩
  exact ⟨v, w, rfl, q⟩
theorem s_par3 {i j l : Nat} {bi bj bl : Bool} {x y z : Str} {a b c : Expr} {ia ib ic : E} {px py pz pt : Pos} {kt k2 pt2} (C : Cok g X) (hi : X.N[i]? = some x) (hj : X.N[j]? = some y) (hl : X.N[l]? = some z) (hij : i ≠ j) (hil : i ≠ l) (hjl : j ≠ l)
    (hx : X.env.scope.names.lookup x = some .local) (hy : X.env.scope.names.lookup y = some .local) (hz : X.env.scope.names.lookup z = some .local) (ha : PA X [a, b, c] (tAn g fs [(i, bi), (j, bj), (l, bl)] [ia, ib, ic]))
    (hw : swappedStores [.Tuple [.Name x px, .Name y py, .Name z pz] kt pt] (.Tuple [a, b, c] k2 pt2) X.env = pure (some [x, y, z]))
    (hs : swapsWithSole [.Tuple [.Name x px, .Name y py, .Name z pz] kt pt] (.Tuple [a, b, c] k2 pt2) pos.line X.env = pure false) :
    PS X (.Assign [.Tuple [.Name x px, .Name y py, .Name z pz] kt pt] (.Tuple [a, b, c] k2 pt2) pos) (tSt g Wx fs (.par [(i, bi), (j, bj), (l, bl)] [ia, ib, ic])) := by
  refine PS.weak (ps_par3 C.calm C.nd hi hj hl hij hil hjl hx hy hz ha hw hs) ?_
  intro Dn σ H q
  obtain ⟨Bn, Ow, Γ, xs, Γ', rs, he, hQ⟩ := par_core q
  refine ⟨Bn, Ow, Γ, xs, Γ', rs, he, fun vs H1 O1 s1 r1 v1 => ?_⟩
  obtain ⟨hl, q⟩ := hQ vs H1 O1 s1 r1 v1
  obtain ⟨u, v, w, rfl⟩ : ∃ u v w, vs = [u, v, w] := by
    match vs, hl with
    | [u, v, w], _ => exact ⟨u, v, w, rfl⟩
  exact ⟨u, v, w, rfl, q⟩
end
end DV

namespace DV
open PySem L2
variable {Wx : L2.XK}
theorem Cok.blk {g : Gx} {X : Cx} (C : Cok g X) (s : Shared) (H : Hp) (scope : Scope) (ce : Env) (fp : List Addr) : Cok g (X.blk s H scope ce fp) := ⟨C.K, C.calm, C.hu, C.nd, C.ea⟩
theorem part0 {g : Gx} {fs : List FS} {X : Cx} : Part g fs X none [] := ⟨.inl ⟨rfl, rfl⟩⟩
theorem part1 {g : Gx} {fs : List FS} {X : Cx} {a : Expr} {ia : E} (h : PE X a (tR g fs ia)) : Part g fs X (some a) [ia] := ⟨.inr ⟨a, ia, rfl, rfl, h⟩⟩
section
variable {g : Gx} {Bn : Addr → Prop} {Ow Ow' : List Addr} {H H' : Hp} {σ : St} {Γ Γ' : Ct}
theorem ownPs_mem : ∀ {G : Ct} {n i : Nat}, i ∈ ownPs n G ↔ ∃ j d, i = n + j ∧ G[j]? = some (some (d, true))
  | [], n, i => by simp [ownPs]
  | none :: r, n, i => by
    simp only [ownPs]
    rw [ownPs_mem]
    constructor
    · rintro ⟨j, d, rfl, h⟩; exact ⟨j + 1, d, by omega, by simpa using h⟩
    · rintro ⟨j, d, rfl, h⟩
      cases j with
      | zero => simp at h
      | succ j => exact ⟨j, d, by omega, by simpa using h⟩
  | some (c, false) :: r, n, i => by
    simp only [ownPs]
    rw [ownPs_mem]
    constructor
    · rintro ⟨j, d, rfl, h⟩; exact ⟨j + 1, d, by omega, by simpa using h⟩
    · rintro ⟨j, d, rfl, h⟩
      cases j with
      | zero => simp at h
      | succ j => exact ⟨j, d, by omega, by simpa using h⟩
  | some (c, true) :: r, n, i => by
    simp only [ownPs, List.mem_cons]
    rw [ownPs_mem]
    constructor
    · rintro (rfl | ⟨j, d, rfl, h⟩)
      · exact ⟨0, c, rfl, rfl⟩
      · exact ⟨j + 1, d, by omega, by simpa using h⟩
    · rintro ⟨j, d, rfl, h⟩
      cases j with
      | zero => exact .inl rfl
      | succ j => exact .inr ⟨j, d, by omega, by simpa using h⟩
theorem outsOf_len : ∀ {G G' : Ct}, G.length ≤ G'.length → (outsOf G G').length = G.length
  | [], G', _ => by cases G' <;> simp [outsOf]
  | x :: r, [], h => by simp at h
  | x :: r, y :: s, h => by
    have ih := outsOf_len (G := r) (G' := s) (by simpa using h)
    match x with
    | some (_, true) => simp [outsOf, ih]
    | some (_, false) => simp [outsOf, ih]
    | none => simp [outsOf, ih]
theorem outsOf_get : ∀ {G G' : Ct} {i : Nat} {p : D × Bool}, (outsOf G G')[i]? = some (some p) → (OwS G i ∧ G'[i]? = some (some p)) ∨ (¬ OwS G i ∧ G[i]? = some (some p))
  | [], G', i, p, h => by cases G' <;> simp [outsOf] at h
  | x :: r, [], i, p, h => by match x with
    | some (_, true) => simp [outsOf] at h
    | some (_, false) => simp [outsOf] at h
    | none => simp [outsOf] at h
  | x :: r, y :: s, 0, p, h => by
    match x with
    | some (d, true) => simp [outsOf] at h; exact .inl ⟨⟨d, rfl⟩, by simp [h]⟩
    | some (d, false) => simp [outsOf] at h; exact .inr ⟨by rintro ⟨e, he⟩; simp at he, by simp [h]⟩
    | none => simp [outsOf] at h
  | x :: r, y :: s, i + 1, p, h => by
    have h' : (outsOf r s)[i]? = some (some p) := by
      match x with
      | some (d, true) => simpa [outsOf] using h
      | some (d, false) => simpa [outsOf] using h
      | none => simpa [outsOf] using h
    rcases outsOf_get h' with ⟨⟨e, h1⟩, h2⟩ | ⟨h1, h2⟩
    · exact .inl ⟨⟨e, by simpa using h1⟩, by simpa using h2⟩
    · exact .inr ⟨by rintro ⟨e, he⟩; exact h1 ⟨e, by simpa using he⟩, by simpa using h2⟩
/-- what comes back at the parameters -/
theorem outs_ok {vs : List V} {G0 : Ct} (r0 : RS g Bn Ow H (vs.map some) G0) (st : Stp Ow H Ow' H') (r1 : RS g Bn Ow' H' σ Γ) (hl : G0.length ≤ Γ.length) (pn : ∀ i, OwS G0 i → σ[i]? = (vs.map some)[i]?) : RS g Bn Ow' H' (vs.map some) (outsOf G0 Γ) := by
  refine ⟨by rw [outsOf_len hl]; exact r0.len, fun i d h => ?_, fun i d h => ?_, fun i j d e a h1 h2 h3 h4 => ?_, r1.trl, r1.sep, r1.kf, r1.tabs⟩
  · rcases outsOf_get h with ⟨o, h1⟩ | ⟨_, h1⟩
    · obtain ⟨v, e, r⟩ := r1.slot i d h1
      exact ⟨v, by rw [← pn i o]; exact e, r⟩
    · obtain ⟨v, e, r⟩ := r0.slot i d h1
      exact ⟨v, e, r.step st r1⟩
  · rcases outsOf_get h with ⟨o, h1⟩ | ⟨n, h1⟩
    · obtain ⟨v, e, r⟩ := r1.own i d h1
      exact ⟨v, by rw [← pn i o]; exact e, r⟩
    · exact (n ⟨d, h1⟩).elim
  · rcases outsOf_get h1 with ⟨o1, h1⟩ | ⟨n, h1⟩
    · rcases outsOf_get h2 with ⟨o2, h2⟩ | ⟨n, h2⟩
      · exact r1.dist i j d e a h1 h2 (by rw [pn i o1]; exact h3) (by rw [pn j o2]; exact h4)
      · exact (n ⟨e, h2⟩).elim
    · exact (n ⟨d, h1⟩).elim
theorem RS.start {vs : List V} {G0 : Ct} (k : Nat) (r0 : RS g Bn Ow H (vs.map some) G0) : RS g Bn Ow H (vs.map some ++ List.replicate k none) (G0 ++ List.replicate k none) := by
  have low : ∀ {i : Nat} {p : D × Bool}, (G0 ++ List.replicate k none)[i]? = some (some p) → G0[i]? = some (some p) ∧ (vs.map some ++ List.replicate k none)[i]? = (vs.map some)[i]? := fun {i p} h => by
    rw [List.getElem?_append] at h
    split at h
    · rename_i hi
      refine ⟨h, ?_⟩
      rw [List.getElem?_append_left (by rw [r0.len]; exact hi)]
    · rw [List.getElem?_replicate] at h
      split at h <;> cases h
  refine ⟨by rw [List.length_append, List.length_append, r0.len, List.length_replicate, List.length_replicate], fun i d h => ?_, fun i d h => ?_, fun i j d e a h1 h2 h3 h4 => ?_, r0.trl, r0.sep, r0.kf, r0.tabs⟩
  · obtain ⟨h1, h2⟩ := low h
    rw [h2]
    exact r0.slot i d h1
  · obtain ⟨h1, h2⟩ := low h
    rw [h2]
    exact r0.own i d h1
  · obtain ⟨p1, p2⟩ := low h1
    obtain ⟨q1, q2⟩ := low h2
    exact r0.dist i j d e a p1 q1 (by rw [← p2]; exact h3) (by rw [← q2]; exact h4)
theorem finish_ok {vs : List V} {G0 : Ct} {n : Nat} {o : Out} {r : RV} {os : Ct} {Q : VK} (r0 : RS g Bn Ow H (vs.map some) G0) (hn : G0.length ≤ n) (hf : finish G0.length G0 o = some (r, os))
    (hQ : ∀ v H' Ow', Stp Ow H Ow' H' → RS g Bn Ow' H' (vs.map some) os → Val g Bn Ow' H' (vs.map some) os r v → Q v H') :
    Post g Wx { nx := fun _ H' => Q .non H', rt := Q } (n, (ownPs 0 G0).map fun i => (i, vs.getD i .non)) Bn Ow H o := by
  have pin : ∀ {σ' : St}, Pin (n, (ownPs 0 G0).map fun i => (i, vs.getD i .non)) σ' → ∀ i, OwS G0 i → σ'[i]? = (vs.map some)[i]? := fun {σ'} pn i ⟨d, h⟩ => by
    have := pn.2 (i, vs.getD i .non) (List.mem_map.mpr ⟨i, ownPs_mem.mpr ⟨i, d, by omega, h⟩, rfl⟩)
    have hi : i < vs.length := by
      have h1 := (List.getElem?_eq_some_iff.mp h).1
      have h2 := r0.len
      rw [List.length_map] at h2
      omega
    rw [this, List.getElem?_map, List.getElem?_eq_getElem hi, List.getD_eq_getElem?_getD, List.getElem?_eq_getElem hi]
    rfl
  have len : ∀ {σ' : St} {Γ' : Ct} {Ow' : List Addr} {H' : Hp}, RS g Bn Ow' H' σ' Γ' → Pin (n, (ownPs 0 G0).map fun i => (i, vs.getD i .non)) σ' → G0.length ≤ Γ'.length := fun r pn => by
    rw [← r.len, pn.1]; exact hn
  cases o with
  | bk G => simp only [finish, reduceCtorEq] at hf
  | ct G => simp only [finish, reduceCtorEq] at hf
  | xc c ks ds G => simp only [finish, reduceCtorEq] at hf
  | nx G =>
    simp only [finish, Option.some.injEq, Prod.mk.injEq] at hf
    obtain ⟨rfl, rfl⟩ := hf
    exact fun σ' H' O' s' r' p' => hQ .non H' O' s' (outs_ok r0 s' r' (len r' p') (pin p')) (show Rep g _ _ _ _ by simp only [Rep])
  | rt x G =>
    intro v σ' H' O' s' r' p' vl
    have lo := len r' p'
    cases x with
    | fz d =>
      simp only [finish, Option.some.injEq, Prod.mk.injEq] at hf
      obtain ⟨rfl, rfl⟩ := hf
      exact hQ v H' O' s' (outs_ok r0 s' r' lo (pin p')) vl
    | nw d =>
      simp only [finish, Option.some.injEq, Prod.mk.injEq] at hf
      obtain ⟨rfl, rfl⟩ := hf
      obtain ⟨a, e, m, ow, no⟩ := vl
      refine hQ v H' O' s' (outs_ok r0 s' r' lo (pin p')) ⟨a, e, m, ow, fun j f h1 h2 => ?_⟩
      rcases outsOf_get h1 with ⟨o1, h1⟩ | ⟨n1, h1⟩
      · exact no j f h1 (by rw [pin p' j o1]; exact h2)
      · exact n1 ⟨f, h1⟩
    | sl i =>
      have vl' : σ'[i]? = some (some v) := vl
      simp only [finish] at hf
      split at hf
      · rename_i d q
        split at hf
        · rename_i hi
          simp only [Option.some.injEq, Prod.mk.injEq] at hf
          obtain ⟨rfl, rfl⟩ := hf
          have fe : fre G (.sl i) = some (d, G.set i (some (d, false))) := by simp only [fre, q]
          obtain ⟨O2, s2, r2, p2⟩ := fre_ok r' vl fe
          exact hQ v H' O2 (s'.trans s2) (outs_ok r0 (s'.trans s2) r2 (by rw [List.length_set]; exact lo) (pin p')) p2
        · rename_i hi
          simp only [Option.some.injEq, Prod.mk.injEq] at hf
          obtain ⟨rfl, rfl⟩ := hf
          obtain ⟨a, e, m, ow⟩ := r'.own i d q
          rw [vl'] at e; cases e
          refine hQ _ H' O' s' (outs_ok r0 s' r' lo (pin p')) ⟨a, rfl, m, ow, fun j f h1 h2 => ?_⟩
          rcases outsOf_get h1 with ⟨o1, h1⟩ | ⟨n1, h1⟩
          · have e2 := r'.dist i j _ _ a q h1 vl' (by rw [pin p' j o1]; exact h2)
            subst e2
            obtain ⟨d1, h3⟩ := o1
            exact hi (List.getElem?_eq_some_iff.mp h3).1
          · exact n1 ⟨f, h1⟩
      · rename_i d q
        simp only [Option.some.injEq, Prod.mk.injEq] at hf
        obtain ⟨rfl, rfl⟩ := hf
        obtain ⟨w, e, rp⟩ := r'.slot i d q
        rw [vl'] at e; cases e
        exact hQ v H' O' s' (outs_ok r0 s' r' lo (pin p')) rp
      · cases hf
end
/-- a def that can be called -/
structure Cal (P : Program) (w : World) (mg : Str → Option Value) (base : Heap) (g : Gx) (k : Nat) (x : Str) (n : Nat) (F : FS) : Prop where
  ex : ∃ f fd ps, mg x = some (.ref f) ∧ PySem.W.keepIn g.K (.ref f) = true ∧ Binds g.K fd ps [] ∧ FnOk P w g.K mg base CX0 k f fd ps (spF g n F)
section
variable {P : Program} {w : World} {mg : Str → Option Value} {base : Heap} {g : Gx} {fs : List FS}
theorem Cal.mono {j k : Nat} {x : Str} {n : Nat} {F : FS} (h : Cal P w mg base g j x n F) (l : j ≤ k) : Cal P w mg base g k x n F := by
  obtain ⟨f, fd, ps, h1, h2, h3, h4⟩ := h.ex
  exact ⟨f, fd, ps, h1, h2, h3, h4.mono l⟩
theorem def_fn {x qual : Str} {st : Stmt} {f : Addr} {fd : FuncData} {N ps : List Str} {k np n : Nat} {ir : List S} (F : Fun g.K x qual st f fd) (S : FnScope N ps (defScope st)) (hp : ps.length = np) (hN : N.length = n) (ge : g.ea = none)
    (hbody : ∀ (cdv : Value) (A : Around) (outer : List Env) (s : Shared) (H : Hp) (E : XK), Room k (cxOf CX0 P w g.K mg base N qual (defScope st) f cdv A outer s H E).nox.A → Cok g (cxOf CX0 P w g.K mg base N qual (defScope st) f cdv A outer s H E).nox →
      PSs (cxOf CX0 P w g.K mg base N qual (defScope st) f cdv A outer s H E).nox (defBody st) (tSs g (fun _ _ _ => False) fs ir)) : FnOk P w g.K mg base CX0 (k + 1) f fd ps (spF g np (runF fs np n ir)) := by
  refine F.ok S (fun vs H Q E h => by rw [h.1, hp]) fun cdv A outer s H vs Q E hr h => ?_
  refine ⟨_, hbody cdv A outer s H E hr ⟨rfl, rfl, hr.units, S.nd, ge⟩, ?_⟩
  obtain ⟨hl, Bn, Ow, Γ, r, os, rs, ef, nr, hQ⟩ := h
  have hG : Γ.length = np := by rw [← rs.len, List.length_map, hl]
  have hle : np ≤ n := by
    rw [← hN, ← hp]
    have := congrArg List.length S.pre
    rw [List.length_take] at this
    omega
  simp only [runF, hG, if_true] at ef
  obtain ⟨o, e1, e2⟩ := Option.bind_eq_some_iff.mp ef
  have est : L2.start N vs = vs.map some ++ List.replicate (n - np) none := by rw [← hN, ← hl]; rfl
  refine ⟨(n, (ownPs 0 Γ).map fun i => (i, vs.getD i .non)), Bn, Ow, Γ ++ List.replicate (n - np) none, o, ?_, ⟨?_, fun p hp => ?_⟩, ?_, ?_⟩
  · rw [est]; exact rs.start _
  · rw [est, List.length_append, List.length_map, List.length_replicate, hl]; show np + (n - np) = n; omega
  · obtain ⟨i, hi, rfl⟩ := List.mem_map.mp hp
    obtain ⟨j, d, rfl, h⟩ := ownPs_mem.mp hi
    have hj : j < vs.length := by
      have h1 := (List.getElem?_eq_some_iff.mp h).1
      omega
    rw [est]
    show (vs.map some ++ List.replicate (n - np) none)[0 + j]? = some (some (vs.getD (0 + j) .non))
    rw [Nat.zero_add, List.getElem?_append_left (by rw [List.length_map]; exact hj), List.getElem?_map, List.getElem?_eq_getElem hj, List.getD_eq_getElem?_getD, List.getElem?_eq_getElem hj]
    rfl
  · rw [List.map_map]
    show exs fs ((ownPs 0 Γ).map id) ir _ = some o
    rw [List.map_id]
    exact e1
  · rw [← hG] at e2
    exact finish_ok rs (by omega) e2 hQ
theorem def_ok {x qual : Str} {st : Stmt} {f : Addr} {fd : FuncData} {N ps : List Str} {k np n : Nat} {ir : List S} (F : Fun g.K x qual st f fd) (hm : mg x = some (.ref f)) (S : FnScope N ps (defScope st)) (hb : Binds g.K fd ps []) (hp : ps.length = np) (hN : N.length = n) (ge : g.ea = none)
    (hbody : ∀ (cdv : Value) (A : Around) (outer : List Env) (s : Shared) (H : Hp) (E : XK), Room k (cxOf CX0 P w g.K mg base N qual (defScope st) f cdv A outer s H E).nox.A → Cok g (cxOf CX0 P w g.K mg base N qual (defScope st) f cdv A outer s H E).nox →
      PSs (cxOf CX0 P w g.K mg base N qual (defScope st) f cdv A outer s H E).nox (defBody st) (tSs g (fun _ _ _ => False) fs ir)) : Cal P w mg base g (k + 1) x np (runF fs np n ir) :=
  ⟨f, fd, ps, hm, F.kp, hb, def_fn F S hp hN ge hbody⟩
end
section
variable {X : Cx} {g : Gx} {fs : List FS} {e : Expr} {es : List Expr} {ies : List E} {x : Str} {p pos : Pos} {k i n : Nat} {F : FS}
theorem c_call (c : Cal X.prog X.w X.mg X.base g k x n F) (C : Cok0 g X) (hF : fs[i]? = some F) (hn : ies.length = n) (hr : Room k X.A) (hg : Gl X x)
    (ha : PA X (e :: es) (tAw g fs ies)) (hdb : (x == ("__debug__" : Str)) = false) (he : starEach (e :: es) X.env = (false, eval e X.env) :: starEach es X.env) (hpl : (backTo pos (starEach es X.env)).any (·.1) = false) :
    PE X (.Call (.Name x p) (e :: es) [] pos) (tR g fs (.call i ies)) := by
  obtain ⟨f, fd, ps, h1, h2, h3, h4⟩ := c.ex
  rw [← C.K] at h2 h3 h4
  exact p_call hF hn h4 hr hg h1 h2 h3 ha hdb he hpl
theorem c_call0 (c : Cal X.prog X.w X.mg X.base g k x 0 F) (C : Cok0 g X) (hF : fs[i]? = some F) (hr : Room k X.A) (hg : Gl X x) (hdb : (x == ("__debug__" : Str)) = false) :
    PE X (.Call (.Name x p) [] [] pos) (tR g fs (.call i [])) := by
  obtain ⟨f, fd, ps, h1, h2, h3, h4⟩ := c.ex
  rw [← C.K] at h2 h3 h4
  exact p_call0 hF h4 hr hg h1 h2 h3 hdb
end
end DV

namespace DV
open PySem L2
section
variable {X : Cx} {g : Gx} {fs : List FS} {e : Expr} {es : List Expr} {ies : List E} {x : Str} {p pos : Pos}
theorem k_int {i j pos} (C : Cok0 g X) : PE X (.Constant (.int i) j pos) (tR g fs (.cst (.int i))) := p_cst pe_int C.K fun _ _ _ => by simp only [Rep]
theorem k_bl {b j pos} (C : Cok0 g X) : PE X (.Constant (.bool b) j pos) (tR g fs (.cst (.bl b))) := p_cst pe_bl C.K fun _ _ _ => by simp only [Rep]
theorem k_str {b j pos} (C : Cok0 g X) : PE X (.Constant (.str b) j pos) (tR g fs (.cst (.str b))) := p_cst pe_str C.K fun _ _ _ => by simp only [Rep]
theorem k_non {j pos} (C : Cok0 g X) : PE X (.Constant .none j pos) (tR g fs (.cst .non)) := p_cst pe_non C.K fun _ _ _ => by simp only [Rep]
/-- a number that the top has written -/
def GInt (mg : Str → Option Value) (x : Str) (n : Int) : Prop := ∃ t, mg x = some (.int n t)
theorem k_gint {n : Int} (C : Cok0 g X) (h : GInt X.mg x n) (hg : Gl X x) (hd : (x == ("__debug__" : Str)) = false) : PE X (.Name x pos) (tR g fs (.cst (.int n))) := by
  obtain ⟨t, h⟩ := h
  exact p_cst (pe_glob (v := .int n) hg h ⟨t, rfl⟩ hd) C.K fun _ _ _ => by simp only [Rep]
theorem k_var (i : Nat) (hN : X.N[i]? = some x) (hv : Vis X.env.scope x) (hd : (x == ("__debug__" : Str)) = false) (hcd : (x == ("__classdict__" : Str)) = false) : PE X (.Name x pos) (tR g fs (.var i)) := p_var (pe_var hN hv hd hcd)
section
variable (C : Cok g X) (ha : PA X (e :: es) (tAs g fs ies)) (he : starEach (e :: es) X.env = (false, eval e X.env) :: starEach es X.env) (hpl : (backTo pos (starEach es X.env)).any (·.1) = false)
include C ha he hpl
theorem k_len (hm : X.mg "len" = none) (hg : Gl X "len") : PE X (.Call (.Name "len" p) (e :: es) [] pos) (tR g fs (.bi .len ies)) := p_biB (b_len C.K) hg hm (by decide +kernel) ha (by decide) (by decide) he hpl
theorem k_abs (hm : X.mg "abs" = none) (hg : Gl X "abs") : PE X (.Call (.Name "abs" p) (e :: es) [] pos) (tR g fs (.bi .abs ies)) := p_biB (b_abs C.K) hg hm PyProof.Rows.boot_abs ha (by decide) (by decide) he hpl
theorem k_max2 (hm : X.mg "max" = none) (hg : Gl X "max") : PE X (.Call (.Name "max" p) (e :: es) [] pos) (tR g fs (.bi .max2 ies)) := p_biB (b_max2 C) hg hm PyProof.Rows.boot_max ha (by decide) (by decide) he hpl
theorem k_min2 (hm : X.mg "min" = none) (hg : Gl X "min") : PE X (.Call (.Name "min" p) (e :: es) [] pos) (tR g fs (.bi .min2 ies)) := p_biB (b_min2 C) hg hm PyProof.Rows.boot_min ha (by decide) (by decide) he hpl
theorem k_maxl (hm : X.mg "max" = none) (hg : Gl X "max") : PE X (.Call (.Name "max" p) (e :: es) [] pos) (tR g fs (.bi .maxl ies)) := p_biB (b_maxl C) hg hm PyProof.Rows.boot_max ha (by decide) (by decide) he hpl
theorem k_minl (hm : X.mg "min" = none) (hg : Gl X "min") : PE X (.Call (.Name "min" p) (e :: es) [] pos) (tR g fs (.bi .minl ies)) := p_biB (b_minl C) hg hm PyProof.Rows.boot_min ha (by decide) (by decide) he hpl
theorem k_sum (hm : X.mg "sum" = none) (hg : Gl X "sum") : PE X (.Call (.Name "sum" p) (e :: es) [] pos) (tR g fs (.bi .suml ies)) := p_biB (b_suml C) hg hm PyProof.Rows.boot_sum ha (by decide) (by decide) he hpl
theorem k_all (hm : X.mg "all" = none) (hg : Gl X "all") : PE X (.Call (.Name "all" p) (e :: es) [] pos) (tR g fs (.bi .alll ies)) := p_biB (b_alll C) hg hm PyProof.Rows.boot_all ha (by decide) (by decide) he hpl
theorem k_any (hm : X.mg "any" = none) (hg : Gl X "any") : PE X (.Call (.Name "any" p) (e :: es) [] pos) (tR g fs (.bi .anyl ies)) := p_biB (b_anyl C) hg hm PyProof.Rows.boot_any ha (by decide) (by decide) he hpl
theorem k_int1 (hm : X.mg "int" = none) (hg : Gl X "int") : PE X (.Call (.Name "int" p) (e :: es) [] pos) (tR g fs (.bi .int1 ies)) := p_biT (b_int C.K) hg hm PyProof.Rows.boot_int ha (by decide) (by decide) he hpl
theorem k_list (hm : X.mg "list" = none) (hg : Gl X "list") : PE X (.Call (.Name "list" p) (e :: es) [] pos) (tR g fs (.bi .list ies)) := p_biT (b_list C.K) hg hm PyProof.Rows.boot_list ha (by decide) (by decide) he hpl
theorem k_tuple (hm : X.mg "tuple" = none) (hg : Gl X "tuple") : PE X (.Call (.Name "tuple" p) (e :: es) [] pos) (tR g fs (.bi .tuple ies)) := p_biT (b_tuple C.K) hg hm PyProof.Rows.boot_tuple ha (by decide) (by decide) he hpl
end
theorem ty_int {p2 : Pos} (hm : X.mg "int" = none) (hg : Gl X "int") : PE X (.Name "int" p2) (tC (.ty (tyN .int))) := pe_bltn hg hm PyProof.Rows.boot_int rfl
theorem ty_bool {p2 : Pos} (hm : X.mg "bool" = none) (hg : Gl X "bool") : PE X (.Name "bool" p2) (tC (.ty (tyN .bool))) := pe_bltn hg hm PyProof.Rows.boot_bool rfl
theorem ty_str {p2 : Pos} (hm : X.mg "str" = none) (hg : Gl X "str") : PE X (.Name "str" p2) (tC (.ty (tyN .str))) := pe_bltn hg hm PyProof.Rows.boot_str rfl
theorem ty_list {p2 : Pos} (hm : X.mg "list" = none) (hg : Gl X "list") : PE X (.Name "list" p2) (tC (.ty (tyN .list))) := pe_bltn hg hm PyProof.Rows.boot_list rfl
theorem ty_tuple {p2 : Pos} (hm : X.mg "tuple" = none) (hg : Gl X "tuple") : PE X (.Name "tuple" p2) (tC (.ty (tyN .tuple))) := pe_bltn hg hm PyProof.Rows.boot_tuple rfl
theorem tg_nm {i : Nat} (h : PG X e (gName i)) : PG X e (tgT g.K (.nm i)) := by simp only [tgT]; exact h
theorem tgs_nil : PGs X [] (tgT.tgTs g.K []) := by simp only [tgT.tgTs]; exact pgs_nil
theorem tgs_cons {t : Tg} {ts : List Tg} (h1 : PG X e (tgT g.K t)) (h2 : PGs X es (tgT.tgTs g.K ts)) (hs : (assignEach (e :: es) X.env).map (·.2) = assign e X.env :: (assignEach es X.env).map (·.2)) : PGs X (e :: es) (tgT.tgTs g.K (t :: ts)) := by
  simp only [tgT.tgTs]
  exact pgs_cons h1 h2 hs
theorem tgp {ts : List Tg} {k : Nat} (C : Cok g X) (h : PGs X es (tgT.tgTs g.K ts)) (hn : (assignEach es X.env).length = ts.length) (hst : (assignEach es X.env).findIdx? (·.1) = none) : PG X (.Tuple es k pos) (tgT g.K (.tp ts)) := by
  have := pg_tup (pos := pos) (k := k) C.calm h hn hst
  rw [C.K] at this
  simp only [tgT]
  exact this
/-- the law itself: the end -/
theorem law_end {P : Program} {w : World} {mg : Str → Option Value} {base : Heap} {k : Nat} {y : Str} {F : FS} {fa : Addr} (c : Cal P w mg base g k y 1 F) (hm : mg y = some (.ref fa)) :
    ∃ fd ps, Binds g.K fd ps [] ∧ FnOk P w g.K mg base CX0 k fa fd ps (spF g 1 F) := by
  obtain ⟨f, fd, ps, h1, h2, h3, h4⟩ := c.ex
  rw [hm] at h1; cases h1
  exact ⟨fd, ps, h3, h4⟩
theorem sp_law {K : PySem.W.Frag} {cl : Nat → Addr} {T : List (Addr × Str)} {F : FS} {ns : List Int} {a : Addr} {H : Hp} {os : Ct} (hF : F [some (.scr ns, false)] = some (.fz (.bl true), os)) (hS : SqL K H a (ns.map V.int)) (hT : Tb T H) : spF ⟨K, cl, T, none⟩ 1 F [.ref a] H (fun v _ => v = .bl true) fun _ _ _ => False := by
  refine ⟨rfl, fun _ => False, [], [some (.scr ns, false)], _, os, ⟨rfl, fun i d h => ?_, fun i d h => ?_, fun i j d e b h1 => ?_, fun b z => ?_, nofun, fun b z => ?_, hT⟩, hF, nofun, fun v H' O' _ _ vl => ?_⟩
  · cases i with
    | zero => simp at h; subst h; exact ⟨.ref a, rfl, by simp only [Rep]; exact ⟨a, rfl, fun z => z.elim (fun z => z) (fun z => nomatch z), hS⟩⟩
    | succ i => simp at h
  · cases i with
    | zero => simp at h
    | succ i => simp at h
  · cases i with
    | zero => simp at h1
    | succ i => simp at h1
  · rcases z with z | z
    · exact z.elim
    · cases z
  · rcases z with z | z
    · exact z.elim
    · cases z
  · have vl : Rep _ _ _ _ _ := vl
    simpa only [Rep] using vl
end
end DV

namespace DV
open PySem L2
mutual
theorem eqd_refl : ∀ (d : D) (n : Nat), okB n d = true → eqd d d = true
  | .non, _, _ => by simp [eqd]
  | .bl _, _, _ => by simp [eqd]
  | .int _, _, _ => by simp [eqd]
  | .str _, _, _ => by simp [eqd]
  | .lst ds, n, h => by
    obtain ⟨m, rfl, h⟩ := okB_lst h
    simp only [eqd]
    exact eqds_refl ds m h
  | .tup ds, n, h => by
    obtain ⟨m, rfl, h⟩ := okB_tup h
    simp only [eqd]
    exact eqds_refl ds m h
  | .obj _ _ _, n, h => by rw [okB_obj] at h; cases h
  | .scr _, n, h => by rw [okB_scr] at h; cases h
  | .dct, n, h => by rw [okB_dct] at h; cases h
  | .dic _ _, n, h => by rw [okB_dic] at h; cases h
  | .exc _ _ _, n, h => by rw [okB_exc] at h; cases h
  | .err _ _ _, n, h => by rw [okB_err] at h; cases h
theorem eqds_refl : ∀ (ds : List D) (n : Nat), ds.all (okB n) = true → eqds ds ds = true
  | [], _, _ => by simp [eqds]
  | d :: ds, n, h => by
    simp only [List.all_cons, Bool.and_eq_true] at h
    simp only [eqds, Bool.and_eq_true]
    exact ⟨eqd_refl d n h.1, eqds_refl ds n h.2⟩
end
theorem okB_ints (n : Nat) (ts : List Int) : okB (n + 1) (.lst (ts.map D.int)) = true := by
  simp only [okB, List.all_eq_true, List.mem_map]
  rintro d ⟨t, _, rfl⟩
  cases n <;> rfl
theorem cmp_eq_self {d : D} (h : okB 12 d = true) : cmpD .eq d d = some true := by simp only [cmpD, h, eqd_refl d 12 h, Bool.and_self, if_true]
theorem cmp_ne_self {d : D} (h : okB 12 d = true) : cmpD .ne d d = some false := by simp only [cmpD, h, eqd_refl d 12 h, Bool.and_self, if_true, Bool.not_true]
theorem ixN_int (ts : List Int) (j : Nat) {x : Int} (h : ts[j]? = some x) : ixD (.lst (ts.map D.int)) (.int (j : Nat)) = some (.int x) := by
  simp only [ixD]
  exact atI_nat (by rw [List.getElem?_map, h]; rfl)
theorem forLoop_step {tg : Tg} {body : Ct → Option Out} {d : D} {ds : List D} {Γ Γ1 Γ2 : Ct} (h1 : asgT tg d Γ = some Γ1) (h2 : body Γ1 = some (.nx Γ2)) : forLoop tg body (d :: ds) Γ = forLoop tg body ds Γ2 := by
  simp only [forLoop, h1, h2, Option.bind_some]
theorem exs_nx {fs : List FS} {pn : List Nat} {s : S} {ss : List S} {Γ Γ1 : Ct} (h : ex fs pn s Γ = some (.nx Γ1)) : exs fs pn (s :: ss) Γ = exs fs pn ss Γ1 := by
  simp only [exs, h, Option.bind_some]
theorem exs_rt {fs : List FS} {pn : List Nat} {s : S} {ss : List S} {Γ Γ1 : Ct} {r : RV} (h : ex fs pn s Γ = some (.rt r Γ1)) : exs fs pn (s :: ss) Γ = some (.rt r Γ1) := by
  simp only [exs, h, Option.bind_some]
theorem compLoop_map {own : List Nat} {tg : Tg} {ct : Ct → Option (Bool × Ct)} {el : Ct → Option (RV × Ct)} {Γ : Ct} (f : D → D) : ∀ {ds acc : List D}, (∀ d ∈ ds, ∀ acc rest, compLoop own tg ct el (d :: rest) acc Γ = compLoop own tg ct el rest (acc ++ [f d]) Γ) → compLoop own tg ct el ds acc Γ = some (acc ++ ds.map f, Γ)
  | [], acc, _ => by simp only [compLoop, List.map_nil, List.append_nil]
  | d :: ds, acc, h => by
    rw [h d List.mem_cons_self acc ds, compLoop_map f fun e he => h e (List.mem_cons_of_mem _ he)]
    simp
theorem whl_step {c : Ct → Option (Bool × Ct)} {body : Ct → Option Out} {n : Nat} {Γ Γ1 Γ2 : Ct} (h1 : c Γ = some (true, Γ1)) (h2 : body Γ1 = some (.nx Γ2)) : whlLoop c body (n + 1) Γ = whlLoop c body n Γ2 := by
  simp only [whlLoop, h1, h2, Option.bind_some, if_true]
theorem whl_done {c : Ct → Option (Bool × Ct)} {body : Ct → Option Out} {n : Nat} {Γ Γ1 : Ct} (h1 : c Γ = some (false, Γ1)) : whlLoop c body (n + 1) Γ = some (.nx Γ1) := by
  simp only [whlLoop, h1, Option.bind_some, Bool.false_eq_true, if_false]
theorem runF_by {fs : List FS} {np n : Nat} {body : List S} {G0 : Ct} {o : Out} {r : RV × Ct} (hl : G0.length = np) (e : exs fs (ownPs 0 G0) body (G0 ++ List.replicate (n - np) none) = some o) (f : DV.finish np G0 o = some r) : runF fs np n body G0 = some r := by
  simp only [runF, hl, if_true, e, Option.bind_some, f]
theorem ex_for {fs : List FS} {pn : List Nat} {tg : Tg} {ik : IK} {its : List E} {b : List S} {Γ Γ2 : Ct} {ds : List D} {o : Out} (h1 : ((evs fs its Γ).bind fun p => iterD ik p.1 p.2) = some (ds, Γ2)) (h3 : disjB (tgIx tg) pn = true) (h4 : forLoop tg (exs fs pn b) ds Γ2 = some o) : ex fs pn (.for_ tg ik its b) Γ = some o := by
  obtain ⟨⟨xs, Γ1⟩, e1, e2⟩ := Option.bind_eq_some_iff.mp h1
  simp only [ex, e1, e2, Option.bind_some, h3, if_true, h4]
/-- a while's test -/
def tst (fs : List FS) (c : E) (Γ : Ct) : Option (Bool × Ct) := (ev fs c Γ).bind fun (x, Γ1) => (testD Γ1 x).map fun t => (t, Γ1)
theorem ex_whl {fs : List FS} {pn : List Nat} {c : E} {b : List S} {Γ : Ct} {o : Out} (h : whlLoop (tst fs c) (exs fs pn b) fuel Γ = some o) : ex fs pn (.whl c b) Γ = some o := by
  simp only [ex]
  exact h
theorem ex_ite {fs : List FS} {pn : List Nat} {c : E} {a b : List S} {Γ Γ1 : Ct} {x : RV} {t : Bool} {o : Out} (h1 : ev fs c Γ = some (x, Γ1)) (h2 : testD Γ1 x = some t) (h3 : exs fs pn (if t then a else b) Γ1 = some o) : ex fs pn (.ite c a b) Γ = some o := by
  simp only [ex, h1, Option.bind_some, h2]
  cases t <;> simpa using h3
/-- a range's turns -/
@[irreducible] def rngO (Γ : Ct) (ds : List D) : Option (List D × Ct) := iterD .rng (ds.map .fz) Γ
theorem datums_fz (Γ : Ct) : ∀ ds : List D, datums Γ (ds.map .fz) = some ds
  | [] => rfl
  | d :: ds => by simp only [List.map_cons, datums, datum, datums_fz Γ ds, Option.bind_some, Option.map_some]
theorem it_rng (xs : List RV) (Γ : Ct) : iterD .rng xs Γ = (datums Γ xs).bind (rngO Γ) := by
  cases e : datums Γ xs with
  | none => simp only [iterD, e, Option.bind_none]
  | some ds => simp only [iterD, e, Option.bind_some, rngO, datums_fz]
theorem in62_int {n : Int} (h0 : -1000000000 < n) (h : n < 1000000000) : in62 n = true := by
  unfold in62
  refine decide_eq_true ?_
  by_cases z : n.natAbs = 0
  · rw [z]
    decide
  · rw [Nat.log2_lt z]
    omega
theorem in62_nat {n : Nat} (h : n < 1000000000) : in62 (n : Int) = true := in62_int (by omega) (by omega)
theorem rngO1 (Γ : Ct) (b : Int) (h : in62 b = true) : rngO Γ [.int b] = some (rngD 0 1 b.toNat, Γ) := by
  unfold rngO
  simp only [iterD, datums_fz, Option.bind_some]
  rw [if_pos h]
theorem rngN1 (Γ : Ct) (n : Nat) (h : n < 1000000000) : rngO Γ [.int (n : Int)] = some (rngD 0 1 n, Γ) := by
  rw [rngO1 Γ _ (in62_nat h), Int.toNat_natCast]
theorem rngO2 (Γ : Ct) (a b : Int) (h1 : in62 a = true) (h2 : in62 b = true) : rngO Γ [.int a, .int b] = some (rngD a 1 (b - a).toNat, Γ) := by
  unfold rngO
  simp only [iterD, datums_fz, Option.bind_some]
  rw [if_pos (by rw [h1, h2]; rfl)]
theorem mulOk_l {i j : Int} (h1 : -(2 ^ 64) < i) (h2 : i < 2 ^ 64) : mulOk i j = true := by simp only [mulOk, h1, h2, and_self, decide_true, Bool.true_or]
theorem mulOk_r {i j : Int} (h1 : -(2 ^ 64) < j) (h2 : j < 2 ^ 64) : mulOk i j = true := by simp only [mulOk, h1, h2, and_self, decide_true, Bool.true_or, Bool.or_true]
end DV

namespace DV
open PySem L2
variable {Wx : L2.XK}
def plainTy : List String := ["NoneType", "bool", "int", "str", "list", "tuple"]
/-- a class of the text -/
structure ClsX (g : Gx) (c : Nat) : Prop where
  cl : Cls g.K (g.cl c)
  ha : PySem.W.findIn g.K (.ref (g.cl c)) "__class__" = some (some (.builtin "object.__class__"))
  hn : PySem.W.specialIn g.K (.builtin "object.__class__") "__get__" = some (some (.builtin "getset_descriptor.__get__"))
  htk : PySem.W.takesIn g.K (.builtin "object.__class__") = some true
  hm : PySem.W.mroIn g.K (g.cl c) (.type "object") = some true
  nf : ∀ t ∈ plainTy, PySem.W.subIn g.K (.type t) (.ref (g.cl c)) = some false
theorem ClsX.ty {g : Gx} {c : Nat} (x : ClsX g c) {H : Hp} {a dx : Addr} {fl : List (Str × V)} (e : H a = some (.ins (g.cl c) dx fl)) : TyX g.K H (.ref a) (.ref (g.cl c)) := .base (.ins e x.cl x.ha x.hn x.htk x.hm)
def tyS : D → String
  | .non => "NoneType"
  | .bl _ => "bool"
  | .int _ => "int"
  | .str _ => "str"
  | .lst _ => "list"
  | .tup _ => "tuple"
  | .scr _ => "list"
  | .dct => "dict"
  | .dic _ _ => "dict"
  | .obj _ _ _ => ""
  | .exc _ _ _ => ""
  | .err _ _ _ => ""
theorem tyS_mem {d : D} (h : plainB d = true) : tyS d ∈ plainTy := by
  cases d <;> first | (simp only [plainB, Bool.false_eq_true] at h; done) | (simp only [tyS, plainTy]; decide)
theorem tyx_of {g : Gx} {A : Addr → Prop} {H : Hp} {d : D} {v : V} (h : plainB d = true) (r : Rdb g A H d v) : TyX g.K H v (.type (tyS d)) := by
  cases d with
  | obj => simp [plainB] at h
  | scr => simp [plainB] at h
  | dct => simp [plainB] at h
  | exc => simp [plainB] at h
  | err => simp [plainB] at h
  | dic _ _ => simp [plainB] at h
  | non => rw [rdb_non r]; exact .base .non
  | bl b => rw [rdb_bl r]; exact .base (.bl b)
  | int b => rw [rdb_int r]; exact .base (.int b)
  | str b => rw [rdb_str r]; exact .base (.str b)
  | lst b =>
    obtain ⟨a, ws, rfl, e1, r1⟩ := r
    exact .base (.lst e1)
  | tup b =>
    obtain ⟨a, ws, rfl, _, e1, r1⟩ := rdb_tup r
    rcases e1 with (e1 | ⟨o, e1⟩) | ⟨o, its, n, e1, e2, _⟩
    · exact .base (.tup e1)
    · exact .fTuple e1
    · exact .kTuple e1 e2
section
variable {g : Gx} {A : Addr → Prop} {H : Hp}
theorem fldL_ok {nm : Str} : ∀ {ks : List Str} {ds : List D} {vs : List V} {d : D}, ks.length = vs.length → Reps g A H ds vs → fldL nm ks ds = some d → ∃ v, (ks.zip vs).lookup nm = some v ∧ Rep g A H d v
  | [], ds, vs, d, _, _, h => by simp only [fldL, reduceCtorEq] at h
  | k :: ks, [], vs, d, _, _, h => by simp only [fldL, reduceCtorEq] at h
  | k :: ks, e :: ds, vs, d, l, r, h => by
    simp only [Reps] at r
    obtain ⟨v, w, rfl, r1, r2⟩ := r
    simp only [fldL] at h
    rw [List.zip_cons_cons, List.lookup_cons]
    split at h
    · rename_i q
      subst q
      cases h
      exact ⟨v, by simp, r1⟩
    · rename_i q
      obtain ⟨u, h1, h2⟩ := fldL_ok (by simpa using l) r2 h
      have : (nm == k) = false := by simpa using q
      exact ⟨u, by simp only [this]; exact h1, h2⟩
theorem putL_ok {nm : Str} {d : D} {v : V} (rd : Rep g A H d v) : ∀ {ks : List Str} {ds : List D} {vs : List V}, ks.length = vs.length → ks.length = ds.length → Reps g A H ds vs → ∃ ws, (putL nm d ks ds).1.zip ws = putF nm v (ks.zip vs) ∧ (putL nm d ks ds).1.length = ws.length ∧ Reps g A H (putL nm d ks ds).2 ws
  | [], ds, vs, _, l2, r => by
    cases ds with
    | nil => exact ⟨[v], rfl, rfl, Reps.one rd⟩
    | cons => simp at l2
  | k :: ks, [], vs, _, l2, _ => by simp at l2
  | k :: ks, e :: ds, vs, l, l2, r => by
    simp only [Reps] at r
    obtain ⟨u, w, rfl, r1, r2⟩ := r
    simp only [putL, List.zip_cons_cons, putF]
    split
    · exact ⟨v :: w, rfl, by simpa using l, by simp only [Reps]; exact ⟨v, w, rfl, rd, r2⟩⟩
    · obtain ⟨ws, h1, h2, h3⟩ := putL_ok rd (by simpa using l) (by simpa using l2) r2
      exact ⟨u :: ws, by rw [List.zip_cons_cons, h1], by simpa using h2, by simp only [Reps]; exact ⟨u, ws, rfl, r1, h3⟩⟩
end
section
variable {X : Cx} {g : Gx} {fs : List FS} {a : Expr} {ia : E} {nm : Str} {pos : Pos}
theorem p_fld {cs : List Nat} (C : Cok0 g X) (ha : PE X a (tR g fs ia)) (hc : ∀ c ∈ cs, Cls g.K (g.cl c) ∧ NoAttr g.K (g.cl c) nm) (hb : attributeBase a nm X.env (eval a X.env) = eval a X.env) : PE X (.Attribute a nm pos) (tR g fs (.fld cs ia nm)) := by
  refine PE.weak (pe_fld ha hb) ?_
  rintro σ H Q ⟨Bn, Ow, Γ, r, Γ', rs, he, hQ⟩
  simp only [ev] at he
  obtain ⟨⟨x, Γ1⟩, e1, he⟩ := Option.bind_eq_some_iff.mp he
  obtain ⟨d, e2, he⟩ := Option.bind_eq_some_iff.mp he
  obtain ⟨d', e3, he⟩ := Option.map_eq_some_iff.mp he
  simp only [Prod.mk.injEq] at he
  obtain ⟨rfl, rfl⟩ := he
  refine ⟨Bn, Ow, Γ, x, Γ1, rs, e1, fun v H1 O1 s1 r1 v1 => ?_⟩
  have rd := v1.rdb r1 e2
  cases d <;> simp only [fldD, reduceCtorEq] at e3
  rename_i c ks ds
  simp only [Option.ite_none_right_eq_some, List.contains_eq_mem, decide_eq_true_eq] at e3
  obtain ⟨hm, e3⟩ := e3
  obtain ⟨p, dx, vs, rfl, l, hp, rp⟩ := rd
  obtain ⟨v, h1, h2⟩ := fldL_ok l rp e3
  rw [C.K]
  exact ⟨p, g.cl c, dx, _, v, rfl, hp, (hc c hm).1, (hc c hm).2, h1, hQ v H1 O1 s1 r1 h2⟩
/-- an owned object is rewritten -/
theorem RS.mutO {Bn : Addr → Prop} {Ow : List Addr} {H : Hp} {σ : St} {Γ : Ct} {i : Nat} {c : Nat} {d0 : D} {p dx : Addr} {ks : List Str} {ds : List D} {ws : List V} (rs : RS g Bn Ow H σ Γ) (hi : Γ[i]? = some (some (d0, true))) (hs : σ[i]? = some (some (.ref p))) (l : ks.length = ws.length) (r : Reps g (Av Bn Ow) H ds ws) :
    RS g Bn Ow (upd H p (.ins (g.cl c) dx (ks.zip ws))) σ (Γ.set i (some (.obj c ks ds, true))) ∧ Stp Ow H Ow (upd H p (.ins (g.cl c) dx (ks.zip ws))) := by
  have hil : i < Γ.length := (List.getElem?_eq_some_iff.mp hi).1
  obtain ⟨b, e1, m, _⟩ := rs.own i _ hi
  rw [hs] at e1; cases e1
  have vs := ban_vst (g := g) (H := H) (o := .ins (g.cl c) dx (ks.zip ws)) (A := Av Bn Ow) (p := p) (.inr m)
  refine ⟨⟨by rw [List.length_set]; exact rs.len, fun j e h => ?_, fun j e h => ?_, fun j k e f b h1 h2 h3 h4 => ?_, fun b h => ?_, rs.sep, rs.kf, rs.tabs.upd (rs.trl p (.inr m))⟩, ⟨fun b o h _ n => ?_, fun _ h => .inl h⟩⟩
  · have hj : i ≠ j := fun z => by subst z; rw [List.getElem?_set_self hil] at h; cases h
    rw [List.getElem?_set_ne hj] at h
    obtain ⟨v, e1, r1⟩ := rs.slot j e h
    exact ⟨v, e1, rep_mono vs _ _ r1⟩
  · by_cases hj : i = j
    · subst hj
      rw [List.getElem?_set_self hil] at h; cases h
      exact ⟨p, hs, m, dx, ws, l, upd_same, reps_mono vs _ _ r⟩
    · rw [List.getElem?_set_ne hj] at h
      obtain ⟨b, e1, m1, o1⟩ := rs.own j e h
      have nb : b ≠ p := fun z => hj (by subst z; exact rs.dist i j _ _ _ hi h hs e1)
      refine ⟨b, e1, m1, ?_⟩
      cases e with
      | lst es => obtain ⟨us, e2, r2⟩ := o1; exact ⟨us, by rw [upd_ne nb]; exact e2, reps_mono vs _ _ r2⟩
      | obj c ks es => obtain ⟨dx, us, l, e2, r2⟩ := o1; exact ⟨dx, us, l, by rw [upd_ne nb]; exact e2, reps_mono vs _ _ r2⟩
      | _ => exact o1
  · have ex : ∀ (j : Nat) e, (Γ.set i (some (.obj c ks ds, true)))[j]? = some (some (e, true)) → ∃ e', Γ[j]? = some (some (e', true)) := fun j e h => by
      by_cases hj : i = j
      · subst hj; exact ⟨_, hi⟩
      · rw [List.getElem?_set_ne hj] at h; exact ⟨_, h⟩
    obtain ⟨e', h1⟩ := ex j e h1
    obtain ⟨f', h2⟩ := ex k f h2
    exact rs.dist j k _ _ _ h1 h2 h3 h4
  · exact (rs.trl b h).upd fun _ => .inr ⟨_, _, _, upd_same⟩
  · have z : b ≠ p := fun z => n (by rw [z]; exact m)
    rw [upd_ne z]; exact h
theorem s_setf {c i : Nat} {o e : Expr} {ie : E} {tpos : Pos} (C : Cok0 g X) (ho : PE X o (tVar i)) (he : PE X e (tR g fs ie)) (hc : Cls g.K (g.cl c) ∧ NoAttr g.K (g.cl c) nm) (hs : swapsWith e (some (.Attribute o nm tpos)) pos.line X.env = pure false) :
    PS X (.Assign [.Attribute o nm tpos] e pos) (tSt g Wx fs (.setf c i nm ie)) := by
  refine PS.weak (ps_fld ho he hs) ?_
  rintro Dn σ H ⟨pv, Bn, Ow, Γ, o, rs, pn, he, po⟩
  simp only [ex] at he
  obtain ⟨⟨x, Γ1⟩, e1, he⟩ := Option.bind_eq_some_iff.mp he
  obtain ⟨⟨d, Γ2⟩, e2, he⟩ := Option.bind_eq_some_iff.mp he
  refine ⟨Bn, Ow, Γ, x, Γ1, rs, e1, fun v H1 O1 s1 r1 vl => ?_⟩
  obtain ⟨O2, s2, r2, p2⟩ := fre_ok r1 vl e2
  split at he
  · rename_i c0 q
    obtain ⟨c', e3, rfl⟩ := Option.map_eq_some_iff.mp he
    obtain ⟨p, ea, m, ow⟩ := r2.own i _ q
    cases c0 <;> simp only [putD, reduceCtorEq] at e3
    rename_i c1 ks ds
    simp only [Option.ite_none_right_eq_some, Option.some.injEq] at e3
    obtain ⟨⟨rfl, hz, hl⟩, rfl⟩ := e3
    obtain ⟨dx, vs, l, hp, rp⟩ := ow
    obtain ⟨ws, h1, h2, h3⟩ := putL_ok (nm := nm) p2 l hl rp
    have key := r2.mutO (c := c1) (dx := dx) q ea h2 h3
    rw [h1] at key
    rw [C.K]
    exact ⟨_, ea, p, g.cl c1, dx, ks.zip vs, rfl, hp, hc.1, hc.2, by rw [List.length_zip]; omega, po _ _ O2 ((s1.trans s2).trans key.2) key.1 pn⟩
  · cases he
/-! ### calls, by what they do -/
theorem callD_core {F : FS} {xs : List RV} {vs : List V} {Bn : Addr → Prop} {Ow : List Addr} {H : Hp} {σ : St} {Γ Γ' : Ct} {r : RV} {n : Nat} {Q : VK} {E : XK} (rs : RS g Bn Ow H σ Γ) (hv : VlW g Bn Ow H σ Γ xs vs) (he : callD F xs Γ = some (r, Γ')) (hn : vs.length = n)
    (hQ : ∀ v H' Ow', Stp Ow H Ow' H' → RS g Bn Ow' H' σ Γ' → Val g Bn Ow' H' σ Γ' r v → Q v H') : spF g n F vs H Q E := by
  simp only [callD] at he
  obtain ⟨as, e3, he⟩ := Option.bind_eq_some_iff.mp he
  simp only [Option.ite_none_right_eq_some] at he
  obtain ⟨nd, he⟩ := he
  obtain ⟨⟨r', os⟩, e4, he⟩ := Option.bind_eq_some_iff.mp he
  cases r' with
  | sl i => cases he
  | fz d =>
    simp only [Option.some.injEq, Prod.mk.injEq] at he
    obtain ⟨rfl, rfl⟩ := he
    exact call_core rs hv e3 nd e4 (fun i z => nomatch z) hn fun v H' O2 s2 r2 val _ => hQ v H' O2 s2 r2 val
  | nw d =>
    simp only [Option.some.injEq, Prod.mk.injEq] at he
    obtain ⟨rfl, rfl⟩ := he
    exact call_core rs hv e3 nd e4 (fun i z => nomatch z) hn fun v H' O2 s2 r2 val _ => hQ v H' O2 s2 r2 val
theorem evs_len {es : List E} : ∀ {Γ Γ' : Ct} {xs : List RV}, evs fs es Γ = some (xs, Γ') → es.length = xs.length := by
  induction es with
  | nil => intro Γ Γ' xs h; simp only [evs, Option.some.injEq, Prod.mk.injEq] at h; rw [← h.1]; rfl
  | cons a es ih =>
    intro Γ Γ' xs h
    simp only [evs] at h
    obtain ⟨⟨y, G1⟩, _, h⟩ := Option.bind_eq_some_iff.mp h
    obtain ⟨⟨ys, G2⟩, h2, h⟩ := Option.map_eq_some_iff.mp h
    simp only [Prod.mk.injEq] at h
    rw [← h.1, List.length_cons, List.length_cons, ih h2]
theorem lookup_no {nm : Str} : ∀ {ks : List Str} {vs : List V}, ks.contains nm = false → (ks.zip vs).lookup nm = none
  | [], _, _ => by simp
  | k :: ks, [], _ => by simp
  | k :: ks, v :: vs, h => by
    simp only [List.contains_cons, Bool.or_eq_false_iff] at h
    rw [List.zip_cons_cons, List.lookup_cons, h.1]
    exact lookup_no h.2
/-- a method of the class c -/
structure Mtd (P : Program) (w : World) (mg : Str → Option Value) (base : Heap) (g : Gx) (k : Nat) (c : Nat) (x : Str) (n : Nat) (F : FS) : Prop where
  ex : ∃ f fd ps, Cls g.K (g.cl c) ∧ Meth g.K (g.cl c) x f ∧ Binds g.K fd ps [] ∧ FnOk P w g.K mg base CX0 k f fd ps (spF g n F)
theorem Mtd.mono {P : Program} {w : World} {mg : Str → Option Value} {base : Heap} {j k c : Nat} {x : Str} {n : Nat} {F : FS} (h : Mtd P w mg base g j c x n F) (l : j ≤ k) : Mtd P w mg base g k c x n F := by
  obtain ⟨f, fd, ps, h1, h2, h3, h4⟩ := h.ex
  exact ⟨f, fd, ps, h1, h2, h3, h4.mono l⟩
theorem meth_core {c i n : Nat} {io : E} {ies : List E} {F : FS} {m : Str} {σ : St} {H : Hp} {Q : VK} {Ex : XK} (hF : fs[i]? = some F) (hn : ies.length + 1 = n) (h : tR g fs (.meth c m i io ies) σ H Q) : tMeth (g.cl c) m (spF g n F) [] Ex (tR g fs io) (tAw g fs ies) σ H Q := by
  obtain ⟨Bn, Ow, Γ, r, Γ', rs, he, hQ⟩ := h
  simp only [ev] at he
  obtain ⟨⟨x, Γ0⟩, e1, he⟩ := Option.bind_eq_some_iff.mp he
  obtain ⟨⟨d, Γ1⟩, e2, he⟩ := Option.bind_eq_some_iff.mp he
  simp only [Option.ite_none_right_eq_some, Bool.and_eq_true, Bool.not_eq_true'] at he
  obtain ⟨⟨ho, hf⟩, he⟩ := he
  obtain ⟨⟨ys, Γ2⟩, e3, he⟩ := Option.bind_eq_some_iff.mp he
  obtain ⟨F', e4, he⟩ := Option.bind_eq_some_iff.mp he
  rw [hF] at e4; cases e4
  refine ⟨Bn, Ow, Γ, x, Γ0, rs, e1, fun v H1 O1 s1 r1 v1 => ?_⟩
  obtain ⟨O2, s2, r2, p2⟩ := fre_ok r1 v1 e2
  obtain ⟨ks, ds, rfl⟩ : ∃ ks ds, d = .obj c ks ds := by
    cases d <;> simp only [isObj, Bool.false_eq_true, beq_iff_eq] at ho
    exact ⟨_, _, by rw [ho]⟩
  have p3 := p2
  simp only [Rep] at p3
  obtain ⟨p, dx, vs, rfl, _, l, hp, rp⟩ := p3
  refine ⟨p, dx, _, rfl, hp, lookup_no hf, Bn, O2, Γ1, ys, Γ2, r2, e3, fun ws H3 O3 s3 r3 v3 => ?_⟩
  show spF g n F (.ref p :: (ws ++ [])) H3 Q Ex
  rw [List.append_nil]
  have q := p2.step s3 r3
  refine callD_core (xs := .fz (.obj c ks ds) :: ys) r3 ⟨_, ws, rfl, q, nofun, v3⟩ he ?_ fun w H4 O4 s4 r4 v4 => hQ w H4 O4 (((s1.trans s2).trans s3).trans s4) r4 v4
  rw [List.length_cons, ← v3.len, ← evs_len e3]
  exact hn
section
variable {o e : Expr} {es : List Expr} {io : E} {ies : List E} {c k i n : Nat} {F : FS} {m : Str} {apos : Pos}
theorem p_meth {pl : Sem Bool} (M : Mtd X.prog X.w X.mg X.base g k c m n F) (C : Cok0 g X) (hF : fs[i]? = some F) (hn : ies.length + 1 = n) (hr : Room k X.A) (ho : PE X o (tR g fs io)) (ha : PA X (e :: es) (tAw g fs ies))
    (hst : starEach (e :: es) X.env = (false, eval e X.env) :: starEach es X.env) (hpl : (backTo pos (starEach es X.env)).any (·.1) = false)
    (ht : eval (.Call (.Attribute o m apos) (e :: es) [] pos) X.env = (do
      let ov ← eval o X.env
      standAt apos.atName
      let (f, first) ← holding [ov] (getMethod ov m pl)
      callWith pos f first (backTo pos (starEach (e :: es) X.env)) (backToKw pos (keywordEach [] X.env)))) : PE X (.Call (.Attribute o m apos) (e :: es) [] pos) (tR g fs (.meth c m i io ies)) := by
  obtain ⟨f, fd, ps, h1, h2, h3, h4⟩ := M.ex
  rw [← C.K] at h1 h2 h3 h4
  exact PE.weak (pe_meth (pl := pl) ho h1 h2 h4 hr h3 .nil pass0 ha hst hpl ht) fun σ H Q q => meth_core hF hn q
theorem p_meth0 {pl : Sem Bool} (M : Mtd X.prog X.w X.mg X.base g k c m 1 F) (C : Cok0 g X) (hF : fs[i]? = some F) (hr : Room k X.A) (ho : PE X o (tR g fs io))
    (ht : eval (.Call (.Attribute o m apos) [] [] pos) X.env = (do
      let ov ← eval o X.env
      standAt apos.atName
      let (f, first) ← holding [ov] (getMethod ov m pl)
      callWith pos f first (backTo pos (starEach [] X.env)) (backToKw pos (keywordEach [] X.env)))) : PE X (.Call (.Attribute o m apos) [] [] pos) (tR g fs (.meth c m i io [])) := by
  obtain ⟨f, fd, ps, h1, h2, h3, h4⟩ := M.ex
  rw [← C.K] at h1 h2 h3 h4
  refine PE.weak (pe_meth0 (pl := pl) ho h1 h2 h4 hr h3 .nil pass0 ht) fun σ H Q q => ?_
  obtain ⟨Bn, Ow, Γ, x, Γ0, rs, e1, kk⟩ := meth_core (Ex := E0) hF rfl q
  refine ⟨Bn, Ow, Γ, x, Γ0, rs, e1, fun v H1 O1 s1 r1 v1 => ?_⟩
  obtain ⟨p, dx, fl, h5, h6, h7, Bn', Ow', Γ', xs, Γ'', rs', e2, kk2⟩ := kk v H1 O1 s1 r1 v1
  simp only [evs, Option.some.injEq, Prod.mk.injEq] at e2
  obtain ⟨rfl, rfl⟩ := e2
  exact ⟨p, dx, fl, h5, h6, h7, kk2 [] H1 Ow' (.refl _ _) rs' rfl⟩
end
/-! ### a new object -/
theorem FnOk.kf {P : Program} {w : World} {K : PySem.W.Frag} {mg : Str → Option Value} {base : Heap} {CX : CXT} {k : Nat} {f : Addr} {fd : FuncData} {ps : List Str} {sp : Sp} (F : FnOk P w K mg base CX k f fd ps sp) :
    FnOk P w K mg base CX k f fd ps (fun vs H Q E => vs.length = ps.length ∧ (kfs K H → sp vs H Q E)) :=
  ⟨fun vs H Q E q => q.1, fun A outer s H args us vs Q E hr he hb hv hs => F.run A outer s H args us vs Q E hr he hb hv (hs.2 fun a o l => (he.bs a o (he.mod.kin a o l)).2)⟩
structure Mkd (P : Program) (w : World) (mg : Str → Option Value) (base : Heap) (g : Gx) (k : Nat) (c : Nat) (x : Str) (n : Nat) (F : FS) : Prop where
  ex : ∃ f fd ps, mg x = some (.ref (g.cl c)) ∧ Mk g.K (g.cl c) f ∧ Binds g.K fd ps [] ∧ ps.length = n + 1 ∧ FnOk P w g.K mg base CX0 k f fd ps (spF g (n + 1) F)
theorem Mkd.mono {P : Program} {w : World} {mg : Str → Option Value} {base : Heap} {j k c : Nat} {x : Str} {n : Nat} {F : FS} (h : Mkd P w mg base g j c x n F) (l : j ≤ k) : Mkd P w mg base g k c x n F := by
  obtain ⟨f, fd, ps, h1, h2, h3, h5, h4⟩ := h.ex
  exact ⟨f, fd, ps, h1, h2, h3, h5, h4.mono l⟩
theorem mkD_core {c n np : Nat} {F : FS} {ys : List RV} {vs : List V} {Bn : Addr → Prop} {O1 : List Addr} {H1 : Hp} {σ : St} {Γ1 Γ' : Ct} {r : RV} {Q : VK} {Ex : XK} (r1 : RS g Bn O1 H1 σ Γ1) (v1 : VlW g Bn O1 H1 σ Γ1 ys vs) (he : mkD F c ys Γ1 = some (r, Γ')) (hl : vs.length = n) (hp : np = n + 1)
    (hQ : ∀ v H' Ow', Stp O1 H1 Ow' H' → RS g Bn Ow' H' σ Γ' → Val g Bn Ow' H' σ Γ' r v → Q v H') : ∀ x dx, H1 x = none → H1 dx = none → dx ≠ x →
    (V.ref x :: vs).length = np ∧ (kfs g.K (upd (upd H1 dx (.own x)) x (.ins (g.cl c) dx [])) → spF g (n + 1) F (V.ref x :: vs) (upd (upd H1 dx (.own x)) x (.ins (g.cl c) dx [])) (fun v H2 => v = .non ∧ Q (.ref x) H2) Ex) := by
  simp only [mkD] at he
  obtain ⟨as, e2, he⟩ := Option.bind_eq_some_iff.mp he
  simp only [Option.ite_none_right_eq_some] at he
  obtain ⟨nd, he⟩ := he
  obtain ⟨⟨r', os⟩, e3, he⟩ := Option.bind_eq_some_iff.mp he
  intro p dx np0 ndx ne
  refine ⟨by rw [List.length_cons, hl, hp], fun kf => ?_⟩
  have sm : Same H1 (upd (upd H1 dx (.own p)) p (.ins (g.cl c) dx [])) := fun b x e => by
    rw [upd_ne (ne_of_none e np0), upd_ne (ne_of_none e ndx)]; exact e
  have hp' : (upd (upd H1 dx (.own p)) p (.ins (g.cl c) dx [])) p = some (.ins (g.cl c) dx []) := upd_same
  have hk : g.K.lookup p = none := kf_new kf hp'
  have r2 := r1.add sm np0 (.inr ⟨_, _, _, hp'⟩) hk
  have st2 : Stp O1 H1 (p :: O1) _ := stp_add sm np0
  have nin : ∀ (j : Nat) (e : D), Γ1[j]? = some (some (e, true)) → σ[j]? ≠ some (some (.ref p)) := fun j e h1 h2 => by
    obtain ⟨b, e5, m5, _⟩ := r1.own j e h1
    rw [h2] at e5; cases e5
    exact r1.trk p (.inr m5) np0
  have vw : ∀ {xs : List RV} {ws : List V}, VlW g Bn O1 H1 σ Γ1 xs ws → VlW g Bn (p :: O1) (upd (upd H1 dx (.own p)) p (.ins (g.cl c) dx [])) σ Γ1 xs ws ∧ ∀ (j : Nat) (e : D), xs[j]? = some (.nw e) → ws[j]? ≠ some (.ref p) := by
    intro xs
    induction xs with
    | nil => intro ws h; exact ⟨h, fun j e h => by simp at h⟩
    | cons x xs ih =>
      rintro ws ⟨v, w, rfl, q1, q2, q3⟩
      obtain ⟨i1, i2⟩ := ih q3
      have kstep := step_vst (g := g) (Bn := Bn) st2 fun a h => r2.kf a (.inr h)
      refine ⟨⟨v, w, rfl, ?_, q2, i1⟩, fun j e h => ?_⟩
      · cases x with
        | fz d => exact rep_mono kstep _ _ q1
        | sl j => exact q1
        | nw d =>
          obtain ⟨b, rfl, m, ow, no⟩ := q1
          refine ⟨b, rfl, List.mem_cons_of_mem _ m, ?_, no⟩
          cases d with
          | lst ds => obtain ⟨us, f1, f2⟩ := ow; exact ⟨us, sm _ _ f1, reps_mono kstep _ _ f2⟩
          | obj c ks ds => obtain ⟨dx, us, l, f1, f2⟩ := ow; exact ⟨dx, us, l, sm _ _ f1, reps_mono kstep _ _ f2⟩
          | _ => exact ow
      · cases j with
        | zero =>
          simp at h
          subst h
          obtain ⟨b, rfl, m, _⟩ := q1
          intro z
          simp at z
          subst z
          exact r1.trk b (.inr m) np0
        | succ j => exact i2 j e (by simpa using h)
  obtain ⟨v2, n2⟩ := vw v1
  have v3 : VlW g Bn (p :: O1) (upd (upd H1 dx (.own p)) p (.ins (g.cl c) dx [])) σ Γ1 (.nw (.obj c [] []) :: ys) (.ref p :: vs) :=
    ⟨_, vs, rfl, ⟨p, rfl, List.mem_cons_self, ⟨dx, [], rfl, hp', by simp only [Reps]⟩, nin⟩, fun _ _ j e h1 => n2 j e h1, v2⟩
  have ea : argSs Γ1 (.nw (.obj c [] []) :: ys) = some ((.obj c [] [], true) :: as) := by simp only [argSs, argS, Option.bind_some, e2, Option.map_some]
  have nd2 : nodupB (ownIx Γ1 (.nw (.obj c [] []) :: ys)) = true := by simpa only [ownIx] using nd
  match r', os, he, e3 with
  | .fz .non, some (.obj c' ks ds, true) :: os', he, e3 =>
    simp only [Option.some.injEq, Prod.mk.injEq] at he
    obtain ⟨rfl, rfl⟩ := he
    refine call_core r2 v3 ea nd2 (by simpa using e3) (fun i z => by cases z) (by rw [List.length_cons, hl]) fun v H' O2 s2 r3 val nws => ⟨by simpa only [Val, Rep] using val, ?_⟩
    have w1 := nws 0 _ _ p rfl rfl rfl
    exact hQ _ H' O2 (st2.trans s2) (by simpa only [putOuts] using r3) (by simpa only [putOuts] using w1)
theorem make_core {c i n : Nat} {ies : List E} {F : FS} {σ : St} {H : Hp} {Q : VK} {Ex : XK} {np : Nat} (hF : fs[i]? = some F) (hn : ies.length = n) (hp : np = n + 1) (h : tR g fs (.mk c i ies) σ H Q) :
    tMake (g.cl c) (fun vs H Q E => vs.length = np ∧ (kfs g.K H → spF g (n + 1) F vs H Q E)) [] Ex (tAw g fs ies) σ H Q := by
  obtain ⟨Bn, Ow, Γ, r, Γ', rs, he, hQ⟩ := h
  simp only [ev] at he
  obtain ⟨⟨ys, Γ1⟩, e1, he⟩ := Option.bind_eq_some_iff.mp he
  obtain ⟨F', e4, he⟩ := Option.bind_eq_some_iff.mp he
  rw [hF] at e4; cases e4
  refine ⟨Bn, Ow, Γ, ys, Γ1, rs, e1, fun vs H1 O1 s1 r1 v1 => ?_⟩
  intro p dx np0 ndx ne
  show (_ ∧ _)
  rw [List.append_nil]
  exact mkD_core r1 v1 he (by rw [← v1.len, ← evs_len e1, hn]) hp (fun v H' O' st => hQ v H' O' (s1.trans st)) p dx np0 ndx ne
section
variable {e : Expr} {es : List Expr} {ies : List E} {c k i n : Nat} {F : FS} {x : Str} {p : Pos}
theorem p_mk (M : Mkd X.prog X.w X.mg X.base g k c x n F) (C : Cok0 g X) (hF : fs[i]? = some F) (hn : ies.length = n) (hr : Room (k + 1) X.A) (hg : Gl X x) (ha : PA X (e :: es) (tAw g fs ies)) (hdb : (x == ("__debug__" : Str)) = false)
    (he : starEach (e :: es) X.env = (false, eval e X.env) :: starEach es X.env) (hpl : (backTo pos (starEach es X.env)).any (·.1) = false) : PE X (.Call (.Name x p) (e :: es) [] pos) (tR g fs (.mk c i ies)) := by
  obtain ⟨f, fd, ps, h1, h2, h3, h5, h4⟩ := M.ex
  have h6 := FnOk.kf h4
  rw [← C.K] at h2 h3 h6
  refine PE.weak (pe_make h2 h6 hr hg h1 h3 .nil pass0 ha hdb he hpl) fun σ H Q q => ?_
  have := make_core (Ex := E0) hF hn h5 q
  rw [← C.K] at this
  exact this
end
end
end DV

namespace DV
open PySem L2
section
variable {X : Cx} {g : Gx} {k : Nat} {f C : Addr} {fd : FuncData} {ps : List Str} {sp : Sp}
/-- a def called by values, somewhere below -/
theorem run_sub {A : Around} {pins : List (Addr × Obj)} {σ : St} {H : Hp} {s : Shared} {Q : VK} {us : List Value} {vs : List V} (F : FnOk X.prog X.w X.K X.mg X.base CX0 k f fd ps sp) (sb : L2.Sub X k A) (hb : Binds X.K fd ps [])
    (I : Inv X pins σ H s) (r : Vals vs us) (h : sp vs H Q E0) : wpAny (model X.prog X.w) A (call (.ref f) us) (EP X pins σ Q) X.xe s := by
  have e := I.env0
  have e0 : Env0 X.prog X.w X.K X.mg X.base A X.stack s H := { frames := by rw [sb.fr]; exact e.frames, mod := e.mod, bs := e.bs, bsz := e.bsz, funs := e.funs, frf := e.frf, hok := e.hok, bare := e.bare }
  have hl : us.length = ps.length := by rw [← r.length]; exact F.len _ _ _ _ h
  have b0 := hb s us I.kIn (by rw [List.append_nil]; exact hl)
  rw [List.append_nil] at b0
  refine wpAny_call (codeAny_mono (F.run A X.stack s H ⟨us, []⟩ us vs Q E0 sb.room e0 b0 r h) fun fl s' hq => ?_)
  match fl, hq with
  | .ok (.ret u), hq => exact I.after hq
/-- an own operator, by values: the object first -/
def rOwn (C : Addr) (sp : Sp) : R2 := fun x y H Q => ∃ a dx fl, x = .ref a ∧ H a = some (.ins C dx fl) ∧ sp [x, y] H (fun v H' => Q v H') E0
def rOwn2 (K : PySem.W.Frag) (C : Addr) (sp : Sp) (p : Bool → Bool) : R2 := fun x y H Q => ∃ a dx fl tb, x = .ref a ∧ H a = some (.ins C dx fl) ∧ TyX K H y tb ∧ PySem.W.notFirst K C tb = true ∧ sp [x, y] H (fun v H' => ∃ t, v = .bl t ∧ Q (.bl (p t)) H') E0
theorem op_ownEq (F : FnOk X.prog X.w X.K X.mg X.base CX0 k f fd ps sp) (hr : Room k X.A) (hb : Binds X.K fd ps []) (hm : Meth X.K C "__eq__" f) : OpR X (compareOp .Eq) (rOwn2 X.K C sp id) := by
  intro pins s σ H x y v u Q I rx ry h
  obtain ⟨a, dx, fl, tb, rfl, ha, ty, nf, h⟩ := h
  cases rx
  obtain ⟨mA, J, _⟩ := ins_get I.hok ha
  obtain ⟨od, J, _⟩ := J.look
  obtain ⟨m, hF⟩ := I.fr
  obtain ⟨Pk, Z, pk, _⟩ := kit_of I ry ty
  show wpAny (model X.prog X.w) X.A (richCompare .Eq (.ref a) u) (EP X pins σ Q) X.xe s
  refine PySem.W.cmp_K (op := .Eq) (tb := tb) hr.units0 hF I.ok.mod.kin J (Z.ty _ _ I.kIn pk) nf hm.at_ hm.fn ?_
  refine wpAny_mono (run_sub (vs := [.ref a, y]) F ⟨hr, rfl⟩ hb I (.cons rfl (.cons ry .nil)) h) (fun z s' q => ?_) fun _ _ z => z
  obtain ⟨w, H', I', rz, t, rfl, q⟩ := q
  cases (show z = Value.bool t from rz)
  exact ⟨.bl t, H', I', rfl, q⟩
/-- x in o: the object second -/
def rOwnIn (C : Addr) (sp : Sp) (p : Bool → Bool) : R2 := fun x y H Q => ∃ b dy gl, y = .ref b ∧ H b = some (.ins C dy gl) ∧ sp [y, x] H (fun v H' => ∃ t, v = .bl t ∧ Q (.bl (p t)) H') E0
theorem op_ownIn (F : FnOk X.prog X.w X.K X.mg X.base CX0 k f fd ps sp) (hr : Room k X.A) (hb : Binds X.K fd ps []) (hm : Meth X.K C "__contains__" f) : OpR X (compareOp .In) (rOwnIn C sp id) := by
  intro pins s σ H x y v u Q I rx ry h
  obtain ⟨b, dy, gl, rfl, hb', h⟩ := h
  cases ry
  obtain ⟨mB, J', _⟩ := ins_get I.hok hb'
  obtain ⟨od', J', _⟩ := J'.look
  obtain ⟨m, hF⟩ := I.fr
  refine PySem.W.in_K hF I.ok.mod.kin J' hm.at_ hm.fn ?_
  refine wpAny_mono (run_sub (vs := [.ref b, x]) F ⟨hr, rfl⟩ hb I (.cons rfl (.cons rx .nil)) h) (fun z s' q => ?_) fun _ _ z => z
  obtain ⟨w, H', I', rz, t, rfl, q⟩ := q
  cases (show z = Value.bool t from rz)
  exact wpAny_truthy_bool ⟨.bl t, H', I', rfl, q⟩
theorem op_ownNotIn (F : FnOk X.prog X.w X.K X.mg X.base CX0 k f fd ps sp) (hr : Room k X.A) (hb : Binds X.K fd ps []) (hm : Meth X.K C "__contains__" f) : OpR X (compareOp .NotIn) (rOwnIn C sp not) := by
  intro pins s σ H x y v u Q I rx ry h
  obtain ⟨b, dy, gl, rfl, hb', h⟩ := h
  cases ry
  obtain ⟨mB, J', _⟩ := ins_get I.hok hb'
  obtain ⟨od', J', _⟩ := J'.look
  obtain ⟨m, hF⟩ := I.fr
  refine PySem.W.notIn_K hF I.ok.mod.kin J' hm.at_ hm.fn ?_
  refine wpAny_mono (run_sub (vs := [.ref b, x]) F ⟨hr, rfl⟩ hb I (.cons rfl (.cons rx .nil)) h) (fun z s' q => ?_) fun _ _ z => z
  obtain ⟨w, H', I', rz, t, rfl, q⟩ := q
  cases (show z = Value.bool t from rz)
  exact wpAny_truthy_bool ⟨.bl (!t), H', I', rfl, q⟩
end
end DV

namespace DV
open PySem L2
section
variable {X : Cx} {g : Gx} {k : Nat} {f C : Addr} {fd : FuncData} {ps : List Str} {sp : Sp}
theorem op_ownNe (F : FnOk X.prog X.w X.K X.mg X.base CX0 k f fd ps sp) (hr : Room (k + 1) X.A) (hb : Binds X.K fd ps []) (hm : Meth X.K C "__eq__" f) (hne : PySem.W.findIn X.K (.ref C) "__ne__" = some (some (.builtin "object.__ne__"))) (hi : PySem.W.mroIn X.K C (.type "object") = some true) :
    OpR X (compareOp .NotEq) (rOwn2 X.K C sp not) := by
  intro pins s σ H x y v u Q I rx ry h
  obtain ⟨a, dx, fl, tb, rfl, ha, ty, nf, h⟩ := h
  cases rx
  obtain ⟨mA, J, _⟩ := ins_get I.hok ha
  obtain ⟨od, J, _⟩ := J.look
  have KX := I.kIn
  obtain ⟨Pk, Z, pk, _⟩ := kit_of I ry ty
  have tyb : PySem.W.Looks (model X.prog X.w) s.heap (typeOf u) tb := Z.ty _ _ KX pk
  have fin : wpAny (model X.prog X.w) X.A.in1 (call (.ref f) [.ref a, u]) (fun z s' => ∃ t, z = Value.bool t ∧ EP X pins σ Q (.bool (!t)) s') X.xe s := by
    refine wpAny_mono (run_sub (vs := [.ref a, y]) F ⟨hr.in1, rfl⟩ hb I (.cons rfl (.cons ry .nil)) h) (fun z s' q => ?_) fun _ _ z => z
    obtain ⟨w, H', I', rz, t, rfl, q⟩ := q
    exact ⟨t, rz, .bl (!t), H', I', rfl, q⟩
  have sub : PySem.W.Looks (model X.prog X.w) s.heap (isInstance (.ref a) (.type "object")) true := J.type.andThen (PySem.W.looks_mroIn KX hi)
  have body : wpAny (model X.prog X.w) X.A (call (.builtin "object.__ne__") [.ref a, u]) (fun v s' => ∃ t, v = Value.bool t ∧ EP X pins σ Q v s') X.xe s := by
    refine wpAny_call (codeAny_call_builtin PySem.F.cmp_object.ne.plain PySem.F.cmpEntry_ne (PySem.W.check_slot PySem.F.cmpKind_ne PySem.F.cmpSplit_ne sub (PySem.F.cmpArgs_ne _ _) ?_))
    unfold Builtin.«object.__ne__»
    refine wpAny_bind (wpAny_pure ?_)
    refine wpAny_bind (wpAny_cRoomFor hr.in1.units0 ?_)
    refine wpAny_bind (PySem.W.ifBound_K KX J hm.at_ hm.fn (wpAny_mono fin (fun z s' q => ?_) fun _ _ z => z))
    obtain ⟨t, rfl, q⟩ := q
    refine wpAny_bind (wpAny_truthy_bool ?_)
    exact wpAny_pure ⟨!t, rfl, q⟩
  show wpAny (model X.prog X.w) X.A (richCompare .NotEq (.ref a) u) (EP X pins σ Q) X.xe s
  unfold richCompare
  simp only [oneThing_ref]
  refine wpAny_holding (wpAny_bind (wpAny_cRoomFor hr.units0 ?_))
  have one : wpAny (model X.prog X.w) X.A (callSpecialIfBound? (.ref a) "__ne__" [u]) (fun r s' => ∃ t, r = some (Value.bool t) ∧ EP X pins σ Q (.bool t) s') X.xe s := by
    simp only [callSpecialIfBound?, bindSpecialIfBound?]
    refine wpAny_holding (wpAny_bind (wpAny_bind (wpAny_bind (J.type.here ((PySem.W.looks_findIn KX hne).here ?_)))))
    refine wpAny_bind (wpAny_askSetting (wpAny_ite ?_))
    have go : wpAny (model X.prog X.w) X.A (call (.builtin "object.__ne__") ([.ref a] ++ [u]) >>= fun v => pure (some v)) (fun r s' => ∃ t, r = some (Value.bool t) ∧ EP X pins σ Q (.bool t) s') X.xe s := wpAny_bind (wpAny_mono body (fun v s' ⟨t, e, h'⟩ => wpAny_pure ⟨t, by rw [e], by rw [← e]; exact h'⟩) fun _ _ h' => h')
    split
    · rw [PySem.F.cmp_object.ne.bind]
      exact wpAny_bind (wpAny_pure (wpAny_pure go))
    · rw [PySem.F.cmp_object.ne.bind]
      exact wpAny_tryCatch (wpAny_bind (wpAny_pure (wpAny_pure go)))
  have two : wpAny (model X.prog X.w) X.A (tryCompare (.ref a) "__ne__" u) (fun r s' => ∃ t, r = some (Value.bool t) ∧ EP X pins σ Q (.bool t) s') X.xe s := by
    unfold tryCompare
    refine wpAny_bind (wpAny_mono one (fun r s' z => ?_) fun _ _ e => e)
    obtain ⟨t, rfl, q⟩ := z
    exact wpAny_pure ⟨t, rfl, q⟩
  refine wpAny_bind (J.type.here (wpAny_bind (tyb.here ?_)))
  split
  · rename_i q
    have e : PySem.W.subIn X.K tb (.ref C) = some false := by
      rcases Bool.or_eq_true_iff.mp nf with e | e
      · rw [beq_iff_eq.mp e] at q; simp at q
      · exact beq_iff_eq.mp e
    refine wpAny_bind ((PySem.W.looks_subIn KX e).here ?_)
    simp only [Bool.false_eq_true, if_false]
    refine wpAny_bind (wpAny_mono two (fun r s' z => ?_) fun _ _ e => e)
    obtain ⟨t, rfl, q⟩ := z
    exact wpAny_pure q
  · refine wpAny_bind (wpAny_pure ?_)
    simp only [Bool.false_eq_true, if_false]
    refine wpAny_bind (wpAny_mono two (fun r s' z => ?_) fun _ _ e => e)
    obtain ⟨t, rfl, q⟩ := z
    exact wpAny_pure q
end
end DV

namespace DV
open PySem L2
section
variable {X : Cx} {g : Gx} {fs : List FS} {a b : Expr} {ia ib : E} {pos : Pos} {c k i : Nat} {F : FS}
theorem obj_of {d : D} (h : isObj c d = true) : ∃ ks ds, d = .obj c ks ds := by
  cases d <;> simp only [isObj, Bool.false_eq_true, beq_iff_eq] at h
  exact ⟨_, _, by rw [h]⟩
theorem rep_ins {A : Addr → Prop} {H : Hp} {d : D} {v : V} (h : isObj c d = true) (r : Rep g A H d v) : ∃ p dx fl, v = .ref p ∧ H p = some (.ins (g.cl c) dx fl) := by
  obtain ⟨ks, ds, rfl⟩ := obj_of h
  simp only [Rep] at r
  obtain ⟨p, dx, vs, rfl, _, _, hp, _⟩ := r
  exact ⟨p, dx, _, rfl, hp⟩
/-- the two ways of a comparison -/
theorem own_bool {o : OOp} {op : COp} {p : Bool → Bool} {Bn : Addr → Prop} {Ow : List Addr} {H : Hp} {σ : St} {Γ Γ' : Ct} {r : RV} {Q : VK} (hpo : ∀ r5 r, postO o r5 = some r → ∃ t, r5 = .fz (.bl t) ∧ r = .fz (.bl (p t))) (hpl : ∀ d e, plainO o d e = (cmpD op d e).map fun b => .fz (.bl b))
    (hF : fs[i]? = some F) (rs : RS g Bn Ow H σ Γ) (he : ev fs (.own o c i ia ib) Γ = some (r, Γ')) (hQ : ∀ v H' Ow', Stp Ow H Ow' H' → RS g Bn Ow' H' σ Γ' → Val g Bn Ow' H' σ Γ' r v → Q v H') :
    tR g fs ia σ H fun v H1 => tR g fs ib σ H1 fun w H2 => rCmp g op v w H2 Q ∨ ∃ A d e, Rep g A H2 d v ∧ Rep g A H2 e w ∧ isObj c (selfO o d e).1 = true ∧ okO o c (selfO o d e).2 = true ∧
      ∀ sv ov, Rep g A H2 (selfO o d e).1 sv → Rep g A H2 (selfO o d e).2 ov → spF g 2 F [sv, ov] H2 (fun z H' => ∃ t, z = .bl t ∧ Q (.bl (p t)) H') E0 := by
  simp only [ev] at he
  obtain ⟨⟨x, Γ1⟩, e1, he⟩ := Option.bind_eq_some_iff.mp he
  obtain ⟨⟨y, Γ2⟩, e2, he⟩ := Option.bind_eq_some_iff.mp he
  obtain ⟨d, ed, he⟩ := Option.bind_eq_some_iff.mp he
  obtain ⟨e, ee, he⟩ := Option.bind_eq_some_iff.mp he
  simp only at ed ee he
  split at he
  · obtain ⟨⟨d', Γ3⟩, f1, he⟩ := Option.bind_eq_some_iff.mp he
    obtain ⟨⟨e', Γ4⟩, f2, he⟩ := Option.bind_eq_some_iff.mp he
    simp only [Option.ite_none_right_eq_some, Bool.and_eq_true] at he
    obtain ⟨⟨ho1, ho2⟩, he⟩ := he
    obtain ⟨F', hF', he⟩ := Option.bind_eq_some_iff.mp he
    rw [hF] at hF'; cases hF'
    obtain ⟨⟨r5, Γ5⟩, e5, he⟩ := Option.bind_eq_some_iff.mp he
    obtain ⟨r', e6, he⟩ := Option.map_eq_some_iff.mp he
    simp only [Prod.mk.injEq] at he
    obtain ⟨rfl, rfl⟩ := he
    obtain ⟨t, rfl, rfl⟩ := hpo _ _ e6
    rw [← fre_dn] at f1 f2
    refine tR_two rs e1 e2 fun v w H2 O2 s2 r2 v2 w2 => .inr ?_
    obtain ⟨O3, s3, r3, p3⟩ := fre_ok r2 v2 f1
    obtain ⟨O4, s4, r4, p4⟩ := fre_ok r3 (w2.step s3 r3) f2
    refine ⟨Av Bn O4, d', e', p3.step s4 r4, p4, ho1, ho2, fun sv ov q1 q2 => ?_⟩
    refine callD_core (xs := [.fz (selfO o d' e').1, .fz (selfO o d' e').2]) (vs := [sv, ov]) r4 ⟨sv, [ov], rfl, q1, nofun, ov, [], rfl, q2, nofun, rfl⟩ e5 rfl fun z H' O5 s5 r5 v5 => ⟨t, ?_, ?_⟩
    · simpa only [Val, Rep] using v5
    · exact hQ _ H' O5 (((s2.trans s3).trans s4).trans s5) r5 (by simp only [Val, Rep])
  · obtain ⟨r', e6, he⟩ := Option.map_eq_some_iff.mp he
    simp only [Prod.mk.injEq] at he
    obtain ⟨rfl, rfl⟩ := he
    rw [hpl] at e6
    obtain ⟨t, e7, rfl⟩ := Option.map_eq_some_iff.mp e6
    rw [← datum_dn] at ed ee
    exact tR_two rs e1 e2 fun v w H2 O2 s2 r2 v2 w2 => .inl ⟨Av Bn O2, d, e, t, v2.rdb r2 ed, w2.rdb r2 ee, e7, hQ _ H2 O2 s2 r2 (by simp only [Val, Rep])⟩
theorem post_eq (r5 r : RV) (h : postO .eq r5 = some r) : ∃ t, r5 = .fz (.bl t) ∧ r = .fz (.bl (id t)) := by
  cases r5 with
  | fz d =>
    cases d with
    | bl t => simp only [postO, Option.some.injEq] at h; exact ⟨t, rfl, h.symm⟩
    | _ => simp only [postO, reduceCtorEq] at h
  | _ => simp only [postO, reduceCtorEq] at h
theorem post_ne (r5 r : RV) (h : postO .ne r5 = some r) : ∃ t, r5 = .fz (.bl t) ∧ r = .fz (.bl (not t)) := by
  cases r5 with
  | fz d =>
    cases d with
    | bl t => simp only [postO, Option.some.injEq] at h; exact ⟨t, rfl, h.symm⟩
    | _ => simp only [postO, reduceCtorEq] at h
  | _ => simp only [postO, reduceCtorEq] at h
theorem post_inn (r5 r : RV) (h : postO .inn r5 = some r) : ∃ t, r5 = .fz (.bl t) ∧ r = .fz (.bl (id t)) := by
  cases r5 with
  | fz d =>
    cases d with
    | bl t => simp only [postO, Option.some.injEq] at h; exact ⟨t, rfl, h.symm⟩
    | _ => simp only [postO, reduceCtorEq] at h
  | _ => simp only [postO, reduceCtorEq] at h
theorem post_notin (r5 r : RV) (h : postO .notin r5 = some r) : ∃ t, r5 = .fz (.bl t) ∧ r = .fz (.bl (not t)) := by
  cases r5 with
  | fz d =>
    cases d with
    | bl t => simp only [postO, Option.some.injEq] at h; exact ⟨t, rfl, h.symm⟩
    | _ => simp only [postO, reduceCtorEq] at h
  | _ => simp only [postO, reduceCtorEq] at h
section
variable {op : COp} {o : OOp} {p : Bool → Bool}
theorem own2_core {Bn : Addr → Prop} {Ow : List Addr} {H : Hp} {σ : St} {Γ Γ' : Ct} {r : RV} {Q : VK} (hs : ∀ d e, selfO o d e = (d, e)) (hk : ∀ e, okO o c e = (isObj c e || plainB e)) (cx : ClsX g c) (hpo : ∀ r5 r, postO o r5 = some r → ∃ t, r5 = .fz (.bl t) ∧ r = .fz (.bl (p t))) (hpl : ∀ d e, plainO o d e = (cmpD op d e).map fun b => .fz (.bl b))
    (hF : fs[i]? = some F) (rs : RS g Bn Ow H σ Γ) (he : ev fs (.own o c i ia ib) Γ = some (r, Γ')) (hQ : ∀ v H' Ow', Stp Ow H Ow' H' → RS g Bn Ow' H' σ Γ' → Val g Bn Ow' H' σ Γ' r v → Q v H') :
    tOp (fun x y H Q => rCmp g op x y H Q ∨ rOwn2 g.K (g.cl c) (spF g 2 F) p x y H Q) (tR g fs ia) (tR g fs ib) σ H Q := by
  obtain ⟨B, O, G, x, G1, q1, q2, q3⟩ := own_bool hpo hpl hF rs he hQ
  refine ⟨B, O, G, x, G1, q1, q2, fun v H1 O1 s1 r1 v1 => ?_⟩
  obtain ⟨B', O', G', y, G2, t1, t2, t3⟩ := q3 v H1 O1 s1 r1 v1
  refine ⟨B', O', G', y, G2, t1, t2, fun w H2 O2 s2 r2 w2 => ?_⟩
  rcases t3 w H2 O2 s2 r2 w2 with h | ⟨A, d, e, h1, h2, h3, h4, h5⟩
  · exact .inl h
  · rw [hs] at h3 h4 h5
    rw [hk] at h4
    obtain ⟨pa, dx, fl, rfl, e1⟩ := rep_ins h3 h1
    rcases Bool.or_eq_true_iff.mp h4 with h4 | h4
    · obtain ⟨pb, dy, gl, rfl, e2⟩ := rep_ins h4 h2
      exact .inr ⟨pa, dx, fl, _, rfl, e1, cx.ty e2, by simp [PySem.W.notFirst], h5 _ _ h1 h2⟩
    · exact .inr ⟨pa, dx, fl, _, rfl, e1, tyx_of h4 h2.rdb, by simp [PySem.W.notFirst, cx.nf _ (tyS_mem h4)], h5 _ _ h1 h2⟩
theorem ownIn_core {Bn : Addr → Prop} {Ow : List Addr} {H : Hp} {σ : St} {Γ Γ' : Ct} {r : RV} {Q : VK} (hs : ∀ d e, selfO o d e = (e, d)) (hpo : ∀ r5 r, postO o r5 = some r → ∃ t, r5 = .fz (.bl t) ∧ r = .fz (.bl (p t))) (hpl : ∀ d e, plainO o d e = (cmpD op d e).map fun b => .fz (.bl b))
    (hF : fs[i]? = some F) (rs : RS g Bn Ow H σ Γ) (he : ev fs (.own o c i ia ib) Γ = some (r, Γ')) (hQ : ∀ v H' Ow', Stp Ow H Ow' H' → RS g Bn Ow' H' σ Γ' → Val g Bn Ow' H' σ Γ' r v → Q v H') :
    tOp (fun x y H Q => rCmp g op x y H Q ∨ rOwnIn (g.cl c) (spF g 2 F) p x y H Q) (tR g fs ia) (tR g fs ib) σ H Q := by
  obtain ⟨B, O, G, x, G1, q1, q2, q3⟩ := own_bool hpo hpl hF rs he hQ
  refine ⟨B, O, G, x, G1, q1, q2, fun v H1 O1 s1 r1 v1 => ?_⟩
  obtain ⟨B', O', G', y, G2, t1, t2, t3⟩ := q3 v H1 O1 s1 r1 v1
  refine ⟨B', O', G', y, G2, t1, t2, fun w H2 O2 s2 r2 w2 => ?_⟩
  rcases t3 w H2 O2 s2 r2 w2 with h | ⟨A, d, e, h1, h2, h3, h4, h5⟩
  · exact .inl h
  · rw [hs] at h3 h5
    obtain ⟨pb, dy, gl, rfl, e2⟩ := rep_ins h3 h2
    exact .inr ⟨pb, dy, gl, rfl, e2, h5 _ _ h2 h1⟩
end
/-- the facts of an own class with == -/
theorem p_ownEq (cx : ClsX g c) (M : Mtd X.prog X.w X.mg X.base g k c "__eq__" 2 F) (C : Cok0 g X) (hF : fs[i]? = some F) (hr : Room k X.A) (ha : PE X a (tR g fs ia)) (hb : PE X b (tR g fs ib)) (hm : behindInMarks .Eq b = false) : PE X (.Compare a [.Eq] [b] pos) (tR g fs (.own .eq c i ia ib)) := by
  obtain ⟨f, fd, ps, h1, h2, h3, h4⟩ := M.ex
  rw [← C.K] at h1 h2 h3 h4
  refine PE.weak (pe_cmpR ((op_cmp C.K C.hu .eq).or (op_ownEq h4 hr h3 h2)) ha hb hm) ?_
  rintro σ H Q ⟨Bn, Ow, Γ, r, Γ', rs, he, hQ⟩
  rw [C.K]
  exact own2_core (fun _ _ => rfl) (fun _ => rfl) cx post_eq (fun _ _ => rfl) hF rs he hQ
theorem p_ownNe (cx : ClsX g c) (M : Mtd X.prog X.w X.mg X.base g k c "__eq__" 2 F) (hne : PySem.W.findIn g.K (.ref (g.cl c)) "__ne__" = some (some (.builtin "object.__ne__"))) (C : Cok0 g X) (hF : fs[i]? = some F) (hr : Room (k + 1) X.A) (ha : PE X a (tR g fs ia)) (hb : PE X b (tR g fs ib)) (hm : behindInMarks .NotEq b = false) : PE X (.Compare a [.NotEq] [b] pos) (tR g fs (.own .ne c i ia ib)) := by
  obtain ⟨f, fd, ps, h1, h2, h3, h4⟩ := M.ex
  have hi := cx.hm
  rw [← C.K] at h1 h2 h3 h4 hne hi
  refine PE.weak (pe_cmpR ((op_cmp C.K C.hu .ne).or (op_ownNe h4 hr h3 h2 hne hi)) ha hb hm) ?_
  rintro σ H Q ⟨Bn, Ow, Γ, r, Γ', rs, he, hQ⟩
  rw [C.K]
  exact own2_core (fun _ _ => rfl) (fun _ => rfl) cx post_ne (fun _ _ => rfl) hF rs he hQ
theorem p_ownIn (M : Mtd X.prog X.w X.mg X.base g k c "__contains__" 2 F) (C : Cok0 g X) (hF : fs[i]? = some F) (hr : Room k X.A) (ha : PE X a (tR g fs ia)) (hb : PE X b (tR g fs ib)) (hm : behindInMarks .In b = false) : PE X (.Compare a [.In] [b] pos) (tR g fs (.own .inn c i ia ib)) := by
  obtain ⟨f, fd, ps, h1, h2, h3, h4⟩ := M.ex
  rw [← C.K] at h1 h2 h3 h4
  refine PE.weak (pe_cmpR ((op_cmp C.K C.hu .inn).or (op_ownIn h4 hr h3 h2)) ha hb hm) ?_
  rintro σ H Q ⟨Bn, Ow, Γ, r, Γ', rs, he, hQ⟩
  exact ownIn_core (fun _ _ => rfl) post_inn (fun _ _ => rfl) hF rs he hQ
theorem p_ownNotIn (M : Mtd X.prog X.w X.mg X.base g k c "__contains__" 2 F) (C : Cok0 g X) (hF : fs[i]? = some F) (hr : Room k X.A) (ha : PE X a (tR g fs ia)) (hb : PE X b (tR g fs ib)) (hm : behindInMarks .NotIn b = false) : PE X (.Compare a [.NotIn] [b] pos) (tR g fs (.own .notin c i ia ib)) := by
  obtain ⟨f, fd, ps, h1, h2, h3, h4⟩ := M.ex
  rw [← C.K] at h1 h2 h3 h4
  refine PE.weak (pe_cmpR ((op_cmp C.K C.hu .notin).or (op_ownNotIn h4 hr h3 h2)) ha hb hm) ?_
  rintro σ H Q ⟨Bn, Ow, Γ, r, Γ', rs, he, hQ⟩
  exact ownIn_core (fun _ _ => rfl) post_notin (fun _ _ => rfl) hF rs he hQ
end
end DV

namespace DV
open PySem L2
section
variable {X : Cx} {g : Gx} {k : Nat} {f C : Addr} {fd : FuncData} {ps : List Str} {sp : Sp}
/-! ### o + p -/
def rOwnA (C : Addr) (sp : Sp) : R2 := fun x y H Q => ∃ a b dx fl dy gl, x = .ref a ∧ y = .ref b ∧ H a = some (.ins C dx fl) ∧ H b = some (.ins C dy gl) ∧ sp [x, y] H (fun v H' => Q v H') E0
theorem op_ownAdd (F : FnOk X.prog X.w X.K X.mg X.base CX0 k f fd ps sp) (hr : Room k X.A) (hb : Binds X.K fd ps []) (hm : Meth X.K C "__add__" f) (hc : PySem.W.selfFirst X.K C = true) : OpR X (binaryOp .Add) (rOwnA C sp) := by
  intro pins s σ H x y v u Q I rx ry h
  obtain ⟨a, b, dx, fl, dy, gl, rfl, rfl, ha, hb', h⟩ := h
  cases rx
  cases ry
  obtain ⟨mA, J, _⟩ := ins_get I.hok ha
  obtain ⟨mB, J', _⟩ := ins_get I.hok hb'
  obtain ⟨od, J, _⟩ := J.look
  obtain ⟨od', J', _⟩ := J'.look
  obtain ⟨m, hF⟩ := I.fr
  refine PySem.W.binop_K (op := .Add) hF I.ok.mod.kin J J'.type hc hm.at_ hm.fn ?_
  refine wpAny_mono (run_sub (vs := [.ref a, .ref b]) F ⟨hr, rfl⟩ hb I (.cons rfl (.cons rfl .nil)) h) (fun z s' q => ?_) fun _ _ z => z
  obtain ⟨w, H', I', rz, q⟩ := q
  have fin : EP X pins σ Q z s' := ⟨w, H', I', rz, q⟩
  cases w with
  | non => cases (show z = Value.none from rz); exact fin
  | bl b => cases (show z = Value.bool b from rz); exact fin
  | int b => obtain ⟨t, rfl⟩ := (show ∃ t, z = Value.int b t from rz); exact fin
  | str b => obtain ⟨t, rfl⟩ := (show ∃ t, z = Value.str b t from rz); exact fin
  | byt b => obtain ⟨t, rfl⟩ := (show ∃ t, z = Value.bytes b t from rz); exact fin
  | flt b => obtain ⟨t, rfl⟩ := (show ∃ t, z = Value.float b t from rz); exact fin
  | ref b => cases (show z = Value.ref b from rz); exact fin
  | ty b => cases (show z = Value.type b from rz); exact fin
/-! ### o[i] -/
def IxO (X : Cx) (r : R2) : Prop :=
  ∀ (value slice : Expr) (pins : List (Addr × Obj)) (s : Shared) (σ : St) (H : Hp) (x y : V) (v u : Value) (Q : VK), Inv X pins σ H s → RelV x v → RelV y u → r x y H Q →
    subscripted slice true v u = runValue (.builtin "lifetime.subscript" ⟨[v, u], []⟩) → wpAny (model X.prog X.w) X.A (PyProof.Rows.subscriptTail value slice v u) (EP X pins σ Q) X.xe s
theorem pe_ixO {a b : Expr} {ta tb : TE} {pos : Pos} {r r' : R2} (hr : IxR X r) (hr' : IxO X r') (ha : PE X a ta) (hb : PE X b tb) (hs : PlainIx b) (hs' : ∀ o i, subscripted b true o i = runValue (.builtin "lifetime.subscript" ⟨[o, i], []⟩)) : PE X (.Subscript a b pos) (tOp (fun x y H Q => r x y H Q ∨ r' x y H Q) ta tb) := by
  refine ⟨fun pins s σ H Q I h => ?_⟩
  refine PyProof.Rows.Subscript_ (binT ha hb I h fun v u s2 x y H2 I2 rx ry q => ?_)
  rcases q with q | q
  · exact hr a b pins s2 σ H2 x y v u Q I2 rx ry q (hs _ _)
  · exact hr' a b pins s2 σ H2 x y v u Q I2 rx ry q (hs' _ _)
theorem ix_own (F : FnOk X.prog X.w X.K X.mg X.base CX0 k f fd ps sp) (hr : Room (k + 1) X.A) (hb : Binds X.K fd ps []) (hm : Meth X.K C "__getitem__" f) (hf : PySem.W.fnIn X.K f = true) : IxO X (rOwn C sp) := by
  intro value slice pins s σ H x y v u Q I rx ry h hs
  obtain ⟨a, dx, fl, rfl, ha, h⟩ := h
  cases rx
  obtain ⟨mA, J, _⟩ := ins_get I.hok ha
  obtain ⟨od, J, _⟩ := J.look
  obtain ⟨m, hF⟩ := I.fr
  refine PySem.W.sub_K hF I.ok.mod.kin J hm.at_ hf hm.fn ?_ hs
  exact run_sub (vs := [.ref a, y]) F ⟨hr.in1, rfl⟩ hb I (.cons rfl (.cons ry .nil)) h
/-! ### len(o) -/
def rOwnL (C : Addr) (sp : Sp) : List V → Hp → VK → Prop := fun xs H Q => ∃ a dx fl, xs = [.ref a] ∧ H a = some (.ins C dx fl) ∧ sp [.ref a] H (fun v H' => ∃ n, v = .int n ∧ 0 ≤ n ∧ n < 1000000000 ∧ Q (.int n) H') E0
theorem call_ownLen (F : FnOk X.prog X.w X.K X.mg X.base CX0 k f fd ps sp) (hr : Room (k + 1) X.A) (hb : Binds X.K fd ps []) (hm : Meth X.K C "__len__" f) : CallR X (.builtin "len") (rOwnL C sp) := by
  intro pins s σ H xs us Q I r h
  obtain ⟨a, dx, fl, rfl, ha, h⟩ := h
  obtain ⟨u, rfl, r1⟩ := vals1 r
  cases r1
  obtain ⟨mA, J, _⟩ := ins_get I.hok ha
  obtain ⟨od, J, _⟩ := J.look
  obtain ⟨m, hF⟩ := I.fr
  refine PySem.W.len_K hF I.ok.mod.kin J hm.at_ hm.fn ?_
  refine wpAny_mono (run_sub (vs := [.ref a]) F ⟨hr.in1, rfl⟩ hb I (.cons rfl .nil) h) (fun z s' q => ?_) fun _ _ z => z
  obtain ⟨w, H', I', rz, n, rfl, h0, h1, q⟩ := q
  obtain ⟨t, rfl⟩ := (show ∃ t, z = Value.int n t from rz)
  exact ⟨⟨h0, by omega⟩, .int n, H', I'.tok _, ⟨_, rfl⟩, q⟩
end
section
variable {X : Cx} {g : Gx} {fs : List FS} {a b : Expr} {ia ib : E} {pos : Pos} {c k i : Nat} {F : FS}
/-- the two ways of an operator whose answer is a value -/
theorem own_val {o : OOp} {Bn : Addr → Prop} {Ow : List Addr} {H : Hp} {σ : St} {Γ Γ' : Ct} {r : RV} {Q : VK} {R : V → V → Hp → Prop} (hs : ∀ d e, selfO o d e = (d, e)) (hpo : ∀ r5, postO o r5 = some r5)
    (hF : fs[i]? = some F) (rs : RS g Bn Ow H σ Γ) (he : ev fs (.own o c i ia ib) Γ = some (r, Γ')) (hQ : ∀ v H' Ow', Stp Ow H Ow' H' → RS g Bn Ow' H' σ Γ' → Val g Bn Ow' H' σ Γ' r v → Q v H')
    (k1 : ∀ A d e v w H2, Rdb g A H2 d v → Rdb g A H2 e w → (∀ a, A a → H2 a ≠ none) → (∀ u H', Same H2 H' → Res g A H2 H' r u → Q u H') → plainO o d e = some r → R v w H2)
    (k2 : ∀ A d e v w H2, Rep g A H2 d v → Rep g A H2 e w → isObj c d = true → okO o c e = true → spF g 2 F [v, w] H2 Q E0 → R v w H2) :
    tR g fs ia σ H fun v H1 => tR g fs ib σ H1 fun w H2 => R v w H2 := by
  simp only [ev] at he
  obtain ⟨⟨x, Γ1⟩, e1, he⟩ := Option.bind_eq_some_iff.mp he
  obtain ⟨⟨y, Γ2⟩, e2, he⟩ := Option.bind_eq_some_iff.mp he
  obtain ⟨d, ed, he⟩ := Option.bind_eq_some_iff.mp he
  obtain ⟨e, ee, he⟩ := Option.bind_eq_some_iff.mp he
  simp only at ed ee he
  split at he
  · obtain ⟨⟨d', Γ3⟩, f1, he⟩ := Option.bind_eq_some_iff.mp he
    obtain ⟨⟨e', Γ4⟩, f2, he⟩ := Option.bind_eq_some_iff.mp he
    simp only [Option.ite_none_right_eq_some, Bool.and_eq_true] at he
    obtain ⟨⟨ho1, ho2⟩, he⟩ := he
    obtain ⟨F', hF', he⟩ := Option.bind_eq_some_iff.mp he
    rw [hF] at hF'; cases hF'
    obtain ⟨⟨r5, Γ5⟩, e5, he⟩ := Option.bind_eq_some_iff.mp he
    obtain ⟨r', e6, he⟩ := Option.map_eq_some_iff.mp he
    simp only [Prod.mk.injEq] at he
    obtain ⟨rfl, rfl⟩ := he
    rw [hpo] at e6; cases e6
    rw [← fre_dn] at f1 f2
    refine tR_two rs e1 e2 fun v w H2 O2 s2 r2 v2 w2 => ?_
    obtain ⟨O3, s3, r3, p3⟩ := fre_ok r2 v2 f1
    obtain ⟨O4, s4, r4, p4⟩ := fre_ok r3 (w2.step s3 r3) f2
    rw [hs] at ho1 ho2 e5
    have p3' := p3.step s4 r4
    refine k2 (Av Bn O4) d' e' v w H2 p3' p4 ho1 ho2 ?_
    exact callD_core (xs := [.fz d', .fz e']) (vs := [v, w]) r4 ⟨v, [w], rfl, p3', nofun, w, [], rfl, p4, nofun, rfl⟩ e5 rfl fun z H' O5 s5 r5 v5 => hQ _ H' O5 (((s2.trans s3).trans s4).trans s5) r5 v5
  · obtain ⟨r', e6, he⟩ := Option.map_eq_some_iff.mp he
    simp only [Prod.mk.injEq] at he
    obtain ⟨rfl, rfl⟩ := he
    rw [← datum_dn] at ed ee
    exact tR_two rs e1 e2 fun v w H2 O2 s2 r2 v2 w2 => k1 (Av Bn O2) d e v w H2 (v2.rdb r2 ed) (w2.rdb r2 ee) r2.trk (fun u H' sm res => let ⟨O3, s3, r3, val⟩ := res.val r2 sm; hQ u H' O3 (s2.trans s3) r3 val) e6
theorem p_ownIx (M : Mtd X.prog X.w X.mg X.base g k c "__getitem__" 2 F) (hfn : ∀ f, Meth g.K (g.cl c) "__getitem__" f → PySem.W.fnIn g.K f = true) (C : Cok0 g X) (hF : fs[i]? = some F) (hr : Room (k + 1) X.A) (ha : PE X a (tR g fs ia)) (hb : PE X b (tR g fs ib)) (hs : PlainIx b) (hs' : ∀ o i, subscripted b true o i = runValue (.builtin "lifetime.subscript" ⟨[o, i], []⟩)) : PE X (.Subscript a b pos) (tR g fs (.own .ix c i ia ib)) := by
  obtain ⟨f, fd, ps, h1, h2, h3, h4⟩ := M.ex
  have hf := hfn f h2
  rw [← C.K] at h1 h2 h3 h4 hf
  refine PE.weak (pe_ixO ix_seq (ix_own h4 hr h3 h2 hf) ha hb hs hs') ?_
  rintro σ H Q ⟨Bn, Ow, Γ, r, Γ', rs, he, hQ⟩
  refine own_val (fun _ _ => rfl) (fun _ => rfl) hF rs he hQ (fun A d e v w H2 q1 q2 tr q3 q4 => .inl ?_) fun A d e v w H2 q1 q2 q3 q4 q5 => .inr ?_
  · rw [C.K]
    simp only [plainO] at q4
    obtain ⟨z, q6, rfl⟩ := Option.map_eq_some_iff.mp q4
    exact ix_core q1 q2 q6 fun u ru => q3 u H2 (same_rfl H2) ru
  · obtain ⟨pa, dx, fl, rfl, e1⟩ := rep_ins q3 q1
    exact ⟨pa, dx, fl, rfl, e1, q5⟩
theorem p_ownAdd (M : Mtd X.prog X.w X.mg X.base g k c "__add__" 2 F) (hsf : PySem.W.selfFirst g.K (g.cl c) = true) (C : Cok0 g X) (hF : fs[i]? = some F) (hr : Room k X.A) (ha : PE X a (tR g fs ia)) (hb : PE X b (tR g fs ib)) : PE X (.BinOp a .Add b pos) (tR g fs (.own .add c i ia ib)) := by
  obtain ⟨f, fd, ps, h1, h2, h3, h4⟩ := M.ex
  rw [← C.K] at h1 h2 h3 h4 hsf
  refine PE.weak (pe_op ((op_bin C.K .add).or (op_ownAdd h4 hr h3 h2 hsf)) ha hb) ?_
  rintro σ H Q ⟨Bn, Ow, Γ, r, Γ', rs, he, hQ⟩
  refine own_val (fun _ _ => rfl) (fun _ => rfl) hF rs he hQ (fun A d e v w H2 q1 q2 tr q3 q4 => .inl ?_) fun A d e v w H2 q1 q2 q3 q4 q5 => .inr ?_
  · simp only [plainO] at q4
    exact ⟨A, d, e, r, q1, q2, tr, q4, q3⟩
  · obtain ⟨pa, dx, fl, rfl, e1⟩ := rep_ins q3 q1
    obtain ⟨pb, dy, gl, rfl, e2⟩ := rep_ins (g := g) (c := c) q4 q2
    exact ⟨pa, pb, dx, fl, dy, gl, rfl, rfl, e1, e2, q5⟩
theorem p_lenO {p : Pos} (M : Mtd X.prog X.w X.mg X.base g k c "__len__" 1 F) (C : Cok0 g X) (hF : fs[i]? = some F) (hr : Room (k + 1) X.A) (ha : PE X a (tR g fs ia)) (hg : Gl X "len") (hm : X.mg "len" = none)
    (he : starEach (a :: []) X.env = (false, eval a X.env) :: starEach [] X.env) (hpl : (backTo pos (starEach [] X.env)).any (·.1) = false) : PE X (.Call (.Name "len" p) [a] [] pos) (tR g fs (.lenO c i ia)) := by
  obtain ⟨f, fd, ps, h1, h2, h3, h4⟩ := M.ex
  rw [← C.K] at h1 h2 h3 h4
  have cr : CallR X (.builtin "len") (fun xs H Q => rBi g .len xs H Q ∨ rOwnL (g.cl c) (spF g 1 F) xs H Q) := by
    intro pins s σ H x v Q I rx q
    rcases q with q | q
    · exact b_len C.K pins s σ H x v Q I rx q
    · exact call_ownLen h4 hr h3 h2 pins s σ H x v Q I rx q
  refine PE.weak (pe_callB cr hg hm (by decide +kernel) (pa_cons ha pa_nil he) (by decide) (by decide) he hpl) ?_
  rintro σ H Q ⟨Bn, Ow, Γ, r, Γ', rs, he, hQ⟩
  simp only [ev] at he
  obtain ⟨⟨x, Γ1⟩, e1, he⟩ := Option.bind_eq_some_iff.mp he
  obtain ⟨d, ed, he⟩ := Option.bind_eq_some_iff.mp he
  simp only at ed he
  split at he
  · rename_i ho
    obtain ⟨⟨d', Γ2⟩, f1, he⟩ := Option.bind_eq_some_iff.mp he
    obtain ⟨F', hF', he⟩ := Option.bind_eq_some_iff.mp he
    rw [hF] at hF'; cases hF'
    obtain ⟨⟨r5, Γ5⟩, e5, he6⟩ := Option.bind_eq_some_iff.mp he
    refine ⟨Bn, Ow, Γ, x, Γ1, rs, e1, fun v H1 O1 s1 r1 v1 => .inr ?_⟩
    obtain ⟨O2, s2, r2, p2⟩ := fre_ok r1 v1 f1
    have dd : d' = d := by
      cases x with
      | fz z => simp only [fre, datum, Option.some.injEq, Prod.mk.injEq] at f1 ed; rw [← f1.1, ← ed]
      | nw z => simp only [fre, datum, Option.some.injEq, Prod.mk.injEq] at f1 ed; rw [← f1.1, ← ed]
      | sl j =>
        simp only [fre, datum] at f1 ed
        split at ed
        · rename_i y bb q
          rw [q] at f1
          cases bb <;> (simp only [Option.some.injEq, Prod.mk.injEq] at f1 ed; rw [← f1.1, ← ed])
        · cases ed
    subst dd
    obtain ⟨pa, dx, fl, rfl, e2⟩ := rep_ins ho p2
    refine ⟨pa, dx, fl, rfl, e2, ?_⟩
    refine callD_core (xs := [.fz d']) (vs := [.ref pa]) r2 ⟨_, [], rfl, p2, nofun, rfl⟩ e5 rfl fun z H' O5 s5 r5' v5 => ?_
    split at he6
    · rename_i n e7
      simp only at e7
      subst e7
      simp only [Option.ite_none_right_eq_some, Option.some.injEq, Prod.mk.injEq] at he6
      obtain ⟨hb, rfl, rfl⟩ := he6
      have hb := lenOk_iff.mp hb
      exact ⟨n, by simpa only [Val, Rep] using v5, hb.1, hb.2, hQ _ H' O5 ((s1.trans s2).trans s5) r5' (by simp only [Val, Rep])⟩
    · cases he6
  · obtain ⟨r', e6, he⟩ := Option.map_eq_some_iff.mp he
    simp only [Prod.mk.injEq] at he
    obtain ⟨rfl, rfl⟩ := he
    rw [← datum_dn] at ed
    exact tR_one rs e1 fun v H1 O1 s1 r1 v1 => .inl ⟨Av Bn O1, [d], r', .cons (v1.rdb r1 ed) .nil, r1.trk, e6, fun v H' sm res => let ⟨O3, s3, r3, val⟩ := res.val r1 sm; hQ v H' O3 (s1.trans s3) r3 val⟩
theorem p_isc {cs : List Nat} {y : Str} {p p2 : Pos} (hcs : ∀ c' ∈ cs, ClsX g c' ∧ PySem.W.kitOne g.K (.ref (g.cl c')) (.ref (g.cl c)) = some (c == c')) (hpl' : ∀ t ∈ plainTy, PySem.W.kitOne g.K (.type t) (.ref (g.cl c)) = some false) (C : Cok0 g X) (ha : PE X a (tR g fs ia)) (hgy : Gl X y) (hmy : X.mg y = some (.ref (g.cl c))) (hdy : (y == ("__debug__" : Str)) = false) (hg : Gl X "isinstance") (hm : X.mg "isinstance" = none)
    (he : starEach (a :: [.Name y p2]) X.env = (false, eval a X.env) :: starEach [.Name y p2] X.env) (hpl : (backTo pos (starEach [.Name y p2] X.env)).any (·.1) = false) : PE X (.Call (.Name "isinstance" p) [a, .Name y p2] [] pos) (tR g fs (.isc cs c ia)) := by
  have hy : PE X (.Name y p2) (tC (.ref (g.cl c))) := pe_glob (v := .ref (g.cl c)) hgy hmy rfl hdy
  refine PE.weak (pe_callB call_isi hg hm PyProof.Rows.boot_isinstance (pa_cons ha (pa_cons hy pa_nil rfl) he) (by decide) (by decide) he hpl) ?_
  rintro σ H Q ⟨Bn, Ow, Γ, r, Γ', rs, he, hQ⟩
  simp only [ev] at he
  obtain ⟨⟨x, Γ1⟩, e1, he⟩ := Option.bind_eq_some_iff.mp he
  obtain ⟨d, ed, he⟩ := Option.bind_eq_some_iff.mp he
  obtain ⟨bb, eb, he⟩ := Option.map_eq_some_iff.mp he
  simp only [Prod.mk.injEq] at he
  obtain ⟨rfl, rfl⟩ := he
  rw [← datum_dn] at ed
  refine tR_one rs e1 fun v H1 O1 s1 r1 v1 => ?_
  show rIsi X.K [v, .ref (g.cl c)] H1 Q
  rw [C.K]
  have rd := v1.rdb r1 ed
  have q := hQ _ H1 O1 s1 r1 (show Val g Bn O1 H1 σ Γ1 (.fz (.bl bb)) (.bl bb) by simp only [Val, Rep])
  by_cases hp : plainB d = true
  · have : bb = false := by cases d <;> simp only [iscD, Option.some.injEq, plainB, Bool.false_eq_true] at eb hp <;> exact eb.symm
    subst this
    exact ⟨v, _, _, _, false, rfl, .own _, tyx_of hp rd, hpl' _ (tyS_mem hp), q⟩
  · cases d <;> simp only [iscD, plainB, not_true_eq_false, reduceCtorEq] at eb hp
    rename_i c' ks ds
    simp only [Option.ite_none_right_eq_some, List.contains_eq_mem, decide_eq_true_eq, Option.some.injEq] at eb
    obtain ⟨hm', rfl⟩ := eb
    obtain ⟨pa, dx, vs, rfl, _, e2, _⟩ := rd
    exact ⟨_, _, _, _, _, rfl, .own _, (hcs c' hm').1.ty e2, (hcs c' hm').2, q⟩
end
end DV

namespace DV
open PySem L2
section
variable {g : Gx} {Bn : Addr → Prop} {Ow : List Addr} {H : Hp} {σ : St} {Γ : Ct}
theorem VlW.of : ∀ {xs : List RV} {vs : List V}, xs.length = vs.length → (∀ (i : Nat) x, xs[i]? = some x → ∃ v, vs[i]? = some v ∧ Val g Bn Ow H σ Γ x v) → (∀ (i k : Nat) d e v, xs[i]? = some (.nw d) → xs[k]? = some (.nw e) → vs[i]? = some v → vs[k]? = some v → i = k) → VlW g Bn Ow H σ Γ xs vs
  | [], vs, l, _, _ => by
    have : vs = [] := List.length_eq_zero_iff.mp l.symm
    exact this
  | x :: xs, [], l, _, _ => by simp at l
  | x :: xs, v :: vs, l, h, u => by
    refine ⟨v, vs, rfl, ?_, ?_, VlW.of (by simpa using l) (fun i y e => ?_) fun i k d e w h1 h2 h3 h4 => ?_⟩
    · obtain ⟨w, e1, e2⟩ := h 0 x rfl
      simp at e1; subst e1
      exact e2
    · intro d e j e' h1 h2
      have := u 0 (j + 1) d e' v (by simp [e]) (by simpa using h1) rfl (by simpa using h2)
      omega
    · obtain ⟨w, e1, e2⟩ := h (i + 1) y (by simpa using e)
      exact ⟨w, by simpa using e1, e2⟩
    · have := u (i + 1) (k + 1) d e w (by simpa using h1) (by simpa using h2) (by simpa using h3) (by simpa using h4)
      omega
theorem permL_get {α : Type} : ∀ {p : List Nat} {xs : List α}, (∀ i ∈ p, i < xs.length) → ∀ j : Nat, (permL p xs)[j]? = (p[j]?).bind fun i => xs[i]?
  | [], xs, _, j => by simp [permL]
  | i :: p, xs, h, j => by
    have hi := h i List.mem_cons_self
    have e : permL (i :: p) xs = xs[i] :: permL p xs := by simp [permL, List.getElem?_eq_getElem hi]
    rw [e]
    cases j with
    | zero => simp [List.getElem?_eq_getElem hi]
    | succ j => simpa using permL_get (fun k hk => h k (List.mem_cons_of_mem _ hk)) j
theorem permL_len {α : Type} {p : List Nat} {xs : List α} (h : ∀ i ∈ p, i < xs.length) : (permL p xs).length = p.length := by
  induction p with
  | nil => simp [permL]
  | cons i p ih =>
    have hi := h i List.mem_cons_self
    have e : permL (i :: p) xs = xs[i] :: permL p xs := by simp [permL, List.getElem?_eq_getElem hi]
    rw [e, List.length_cons, List.length_cons, ih fun k hk => h k (List.mem_cons_of_mem _ hk)]
theorem nodupB_iff : ∀ {p : List Nat}, nodupB p = true → p.Nodup
  | [], _ => List.nodup_nil
  | x :: p, h => by
    obtain ⟨h1, h2⟩ := nodupB_cons h
    exact List.nodup_cons.mpr ⟨h1, nodupB_iff h2⟩
theorem VlW.perm {p : List Nat} {xs : List RV} {vs : List V} (h : VlW g Bn Ow H σ Γ xs vs) (hp : permOk p xs.length = true) : VlW g Bn Ow H σ Γ (permL p xs) (permL p vs) := by
  simp only [permOk, Bool.and_eq_true, List.all_eq_true, decide_eq_true_eq] at hp
  obtain ⟨nd, hr⟩ := hp
  have hr' : ∀ i ∈ p, i < vs.length := fun i m => by rw [← h.len]; exact hr i m
  refine VlW.of (by rw [permL_len hr, permL_len hr']) (fun i x e => ?_) fun i k d e v h1 h2 h3 h4 => ?_
  · rw [permL_get hr] at e
    obtain ⟨j, e1, e2⟩ := Option.bind_eq_some_iff.mp e
    obtain ⟨v, e3, e4⟩ := h.get e2
    exact ⟨v, by rw [permL_get hr', e1]; exact e3, e4⟩
  · rw [permL_get hr] at h1 h2
    rw [permL_get hr'] at h3 h4
    obtain ⟨j1, a1, a2⟩ := Option.bind_eq_some_iff.mp h1
    obtain ⟨j2, b1, b2⟩ := Option.bind_eq_some_iff.mp h2
    rw [a1] at h3
    rw [b1] at h4
    have := h.uniq a2 b2 h3 h4
    subst this
    exact ((List.getElem?_inj (List.getElem?_eq_some_iff.mp a1).1 (nodupB_iff nd)).mp (a1.trans b1.symm))
end
section
variable {X : Cx} {g : Gx} {fs : List FS}
/-- one behind another -/
def tFold (g : Gx) (fs : List FS) : List E → TA
  | [] => tNil
  | ie :: ies => tCons (tR g fs ie) (tFold g fs ies)
theorem fold_mono : ∀ {is : List E} {σ : St} {H : Hp} {Q Q' : List V → Hp → Prop}, (∀ vs H', Q vs H' → Q' vs H') → tFold g fs is σ H Q → tFold g fs is σ H Q'
  | [], _, _, _, _, k, h => k _ _ h
  | i :: is, σ, H, Q, Q', k, h => by
    obtain ⟨Bn, Ow, Γ, x, Γ1, rs, e1, kk⟩ := h
    exact ⟨Bn, Ow, Γ, x, Γ1, rs, e1, fun v H1 O1 s1 r1 v1 => fold_mono (fun vs H' q => k _ _ q) (kk v H1 O1 s1 r1 v1)⟩
theorem pf_nil : PA X [] (tFold g fs []) := pa_nil
theorem pf_cons {a : Expr} {es : List Expr} {ia : E} {ies : List E} (ha : PE X a (tR g fs ia)) (hr : PA X es (tFold g fs ies)) (hs : starEach (a :: es) X.env = (false, eval a X.env) :: starEach es X.env) : PA X (a :: es) (tFold g fs (ia :: ies)) := pa_cons ha hr hs
theorem kf_nil : PK X [] (tFold g fs []) := pk_nil
theorem kf_cons {a : Expr} {kws : List Keyword} {nm : Option Str} {kpos : Pos} {ia : E} {ies : List E} (ha : PE X a (tR g fs ia)) (hr : PK X kws (tFold g fs ies)) : PK X (⟨nm, a, kpos⟩ :: kws) (tFold g fs (ia :: ies)) := pk_cons ha hr
theorem fold_one {ies : List E} : ∀ {jes : List E} {σ : St} {H : Hp} {Q : List V → Hp → Prop}, tAw g fs (jes ++ ies) σ H Q → tFold g fs jes σ H fun vs H1 => tAw g fs ies σ H1 fun zs H2 => Q (vs ++ zs) H2
  | [], _, _, _, h => h
  | j :: jes, σ, H, Q, h => by
    obtain ⟨Bn, Ow, Γ, x, Γ1, rs, e1, kk⟩ := aw_split h
    exact ⟨Bn, Ow, Γ, x, Γ1, rs, e1, fun v H1 O1 s1 r1 v1 => fold_one (kk v H1 O1 s1 r1 v1)⟩
theorem aw_done {σ : St} {H : Hp} {Q : List V → Hp → Prop} (h : tAw g fs [] σ H Q) : Q [] H := by
  obtain ⟨Bn, Ow, Γ, xs, Γ', rs, he, hQ⟩ := h
  simp only [evs, Option.some.injEq, Prod.mk.injEq] at he
  obtain ⟨rfl, rfl⟩ := he
  exact hQ [] H Ow (.refl _ _) rs rfl
def dfl (ns : List Int) : List E := ns.map fun n => .cst (.int n)
theorem aw_dfl : ∀ {ns : List Int} {σ : St} {H : Hp} {Q : List V → Hp → Prop}, tAw g fs (dfl ns) σ H Q → Q (ns.map .int) H
  | [], _, _, _, h => aw_done h
  | n :: ns, σ, H, Q, h => by
    obtain ⟨Bn, Ow, Γ, x, Γ1, rs, e1, kk⟩ := aw_split h
    simp only [ev, Option.some.injEq, Prod.mk.injEq] at e1
    obtain ⟨rfl, rfl⟩ := e1
    exact aw_dfl (Q := fun vs H2 => Q (.int n :: vs) H2) (kk (.int n) H Ow (.refl _ _) rs (by simp only [Val, Rep]))
theorem fold_all {ies jes : List E} {ns : List Int} {σ : St} {H : Hp} {Q : List V → Hp → Prop} (h : tAw g fs (ies ++ (jes ++ dfl ns)) σ H Q) : tFold g fs ies σ H fun vs H1 => tFold g fs jes σ H1 fun zs H2 => Q (vs ++ (zs ++ ns.map .int)) H2 := by
  exact fold_mono (fun vs H1 q => fold_mono (fun zs H2 q => aw_dfl q) (fold_one q)) (fold_one h)
theorem fold_len : ∀ {ies : List E} {σ : St} {H : Hp} {Q : List V → Hp → Prop}, tFold g fs ies σ H Q → tFold g fs ies σ H fun vs H1 => vs.length = ies.length ∧ Q vs H1
  | [], _, _, _, h => ⟨rfl, h⟩
  | i :: is, σ, H, Q, h => by
    obtain ⟨Bn, Ow, Γ, x, Γ1, rs, e1, kk⟩ := h
    refine ⟨Bn, Ow, Γ, x, Γ1, rs, e1, fun v H1 O1 s1 r1 v1 => ?_⟩
    have q := fold_len (kk v H1 O1 s1 r1 v1)
    exact fold_mono (fun vs H' q => ⟨by rw [List.length_cons, List.length_cons, q.1], q.2⟩) q
theorem fold_len2 {ies jes : List E} {σ : St} {H : Hp} {Q : List V → List V → Hp → Prop} (h : tFold g fs ies σ H fun vs H1 => tFold g fs jes σ H1 fun zs H2 => Q vs zs H2) : tFold g fs ies σ H fun vs H1 => tFold g fs jes σ H1 fun zs H2 => vs.length = ies.length ∧ zs.length = jes.length ∧ Q vs zs H2 := by
  exact fold_mono (fun vs H1 q => fold_mono (fun zs H2 q2 => ⟨q.1, q2.1, q2.2⟩) (fold_len q.2)) (fold_len h)
/-- a def called with n values and keywords ks; p: where each parameter stands -/
structure CalK (P : Program) (w : World) (mg : Str → Option Value) (base : Heap) (g : Gx) (k : Nat) (x : Str) (n : Nat) (ks : List Str) (p : List Nat) (F : FS) : Prop where
  ex : ∃ f fd ps gg gV, mg x = some (.ref f) ∧ PySem.W.keepIn g.K (.ref f) = true ∧ KBn g.K fd ps n ks gg gV ∧ (∀ vs zs : List V, vs.length = n → zs.length = ks.length → gV vs zs = permL p (vs ++ zs)) ∧ FnOk P w g.K mg base CX0 k f fd ps (spF g p.length F)
theorem CalK.mono {P : Program} {w : World} {mg : Str → Option Value} {base : Heap} {j k n : Nat} {x : Str} {ks : List Str} {p : List Nat} {F : FS} (h : CalK P w mg base g j x n ks p F) (l : j ≤ k) : CalK P w mg base g k x n ks p F := by
  obtain ⟨f, fd, ps, gg, gV, h1, h2, h3, h5, h4⟩ := h.ex
  exact ⟨f, fd, ps, gg, gV, h1, h2, h3, h5, h4.mono l⟩
theorem callp_core {i : Nat} {ies jes : List E} {p : List Nat} {F : FS} {σ : St} {H : Hp} {Q : VK} {Ex : XK} (hF : fs[i]? = some F) (h : tR g fs (.callp i p (ies ++ jes)) σ H Q) :
    tFold g fs ies σ H fun vs H1 => tFold g fs jes σ H1 fun zs H2 => vs.length = ies.length ∧ zs.length = jes.length ∧ spF g p.length F (permL p (vs ++ zs)) H2 Q Ex := by
  obtain ⟨Bn, Ow, Γ, r, Γ', rs, he, hQ⟩ := h
  simp only [ev] at he
  obtain ⟨⟨xs, Γ1⟩, e1, he⟩ := Option.bind_eq_some_iff.mp he
  obtain ⟨F', e4, he⟩ := Option.bind_eq_some_iff.mp he
  rw [hF] at e4; cases e4
  simp only [Option.ite_none_right_eq_some] at he
  obtain ⟨hp, he⟩ := he
  have key : tAw g fs (ies ++ (jes ++ dfl [])) σ H fun ws H2 => spF g p.length F (permL p ws) H2 Q Ex := by
    rw [show dfl [] = ([] : List E) from rfl, List.append_nil]
    refine ⟨Bn, Ow, Γ, xs, Γ1, rs, e1, fun ws H1 O1 s1 r1 v1 => ?_⟩
    have hr : ∀ i ∈ p, i < ws.length := by
      simp only [permOk, Bool.and_eq_true, List.all_eq_true, decide_eq_true_eq] at hp
      rw [← v1.len]; exact hp.2
    exact callD_core r1 (v1.perm hp) he (permL_len hr) fun v H' O' st => hQ v H' O' (s1.trans st)
  have := fold_len2 (fold_all key)
  simpa only [List.map_nil, List.append_nil] using this
section
variable {e : Expr} {es : List Expr} {kws : List Keyword} {ies jes : List E} {c k i n : Nat} {ks : List Str} {F : FS} {x : Str} {p : List Nat} {q pos : Pos} {ns : List Int}
theorem c_callK (c : CalK X.prog X.w X.mg X.base g k x n ks p F) (C : Cok0 g X) (hF : fs[i]? = some F) (hn : ies.length = n) (hj : jes.length = ks.length) (hr : Room k X.A) (hg : Gl X x) (ha : PA X (e :: es) (tFold g fs ies)) (hkw : PK X kws (tFold g fs jes))
    (hall : (backToKw pos (keywordEach kws X.env)).all (·.1.isSome) = true) (hks : (backToKw pos (keywordEach kws X.env)).filterMap (·.1) = ks) (hdb : (x == ("__debug__" : Str)) = false) (he : starEach (e :: es) X.env = (false, eval e X.env) :: starEach es X.env)
    (hpl : ((backTo pos (starEach (e :: es) X.env)).any (·.1) || (backToKw pos (keywordEach kws X.env)).any (·.1.isNone)) = false) :
    PE X (.Call (.Name x q) (e :: es) kws pos) (tR g fs (.callp i p (ies ++ jes))) := by
  obtain ⟨f, fd, ps, gg, gV, h1, h2, h3, h5, h4⟩ := c.ex
  rw [← C.K] at h2 h3 h4
  refine PE.weak (pe_callN h4 hr hg h1 h2 h3 pass0 ha hkw hall hks hdb he hpl) fun σ H Q h => ?_
  have core := callp_core (Ex := E0) hF h
  exact fold_mono (fun vs H1 q => fold_mono (fun zs H2 q => ⟨q.1.trans hn, q.2.1.trans hj, by rw [h5 vs zs (q.1.trans hn) (q.2.1.trans hj)]; exact q.2.2⟩) q) core
theorem c_callK0 (c : CalK X.prog X.w X.mg X.base g k x 0 ks p F) (C : Cok0 g X) (hF : fs[i]? = some F) (hj : jes.length = ks.length) (hr : Room k X.A) (hg : Gl X x) (hkw : PK X kws (tFold g fs jes))
    (hall : (backToKw pos (keywordEach kws X.env)).all (·.1.isSome) = true) (hks : (backToKw pos (keywordEach kws X.env)).filterMap (·.1) = ks) (hdb : (x == ("__debug__" : Str)) = false)
    (hpl : ((backTo pos (starEach [] X.env)).any (·.1) || (backToKw pos (keywordEach kws X.env)).any (·.1.isNone)) = false) :
    PE X (.Call (.Name x q) [] kws pos) (tR g fs (.callp i p jes)) := by
  obtain ⟨f, fd, ps, gg, gV, h1, h2, h3, h5, h4⟩ := c.ex
  rw [← C.K] at h2 h3 h4
  refine ⟨fun pins s σ H Q I h => ?_⟩
  have core : tFold g fs jes σ H fun zs H2 => zs.length = jes.length ∧ spF g p.length F (permL p zs) H2 Q E0 := by
    have := callp_core (Ex := E0) (ies := []) hF h
    exact fold_mono (fun vs H1 q => ⟨q.2.1, by simpa using q.2.2⟩) this
  refine wpAny_Call_Name_kw (ld_glob I hg h1 ?_ hdb)
  refine PySem.W.callWith_KW0 (h₀ := X.base) I.ok.mod.kin h2 hall ?_ hpl
  refine thn (hkw.run pos pins s σ H _ I core) fun ws s2 ⟨zs, H2, I2, rz, l1, q2⟩ => ⟨I2.kIn, ?_⟩
  rw [hks]
  exact run_fnN (us := []) (vs := []) h4 hr h3 pass0 I2 .nil rz rfl (l1.trans hj) (by rw [h5 [] zs rfl (l1.trans hj)]; exact q2)
/-- a new object, called with n values and keywords ks; ns: the numbers that lack -/
structure MkdK (P : Program) (w : World) (mg : Str → Option Value) (base : Heap) (g : Gx) (k : Nat) (c : Nat) (x : Str) (n : Nat) (ks : List Str) (p : List Nat) (ns : List Int) (F : FS) : Prop where
  ex : ∃ f fd ps gg gV, mg x = some (.ref (g.cl c)) ∧ Mk g.K (g.cl c) f ∧ KBn g.K fd ps (n + 1) ks gg gV ∧ (∀ (s : V) (vs zs : List V), vs.length = n → zs.length = ks.length → gV (s :: vs) zs = s :: permL p (vs ++ (zs ++ ns.map .int))) ∧ ps.length = p.length + 1 ∧ FnOk P w g.K mg base CX0 k f fd ps (spF g (p.length + 1) F)
theorem MkdK.mono {P : Program} {w : World} {mg : Str → Option Value} {base : Heap} {j k c n : Nat} {x : Str} {ks : List Str} {p : List Nat} {ns : List Int} {F : FS} (h : MkdK P w mg base g j c x n ks p ns F) (l : j ≤ k) : MkdK P w mg base g k c x n ks p ns F := by
  obtain ⟨f, fd, ps, gg, gV, h1, h2, h3, h5, h6, h4⟩ := h.ex
  exact ⟨f, fd, ps, gg, gV, h1, h2, h3, h5, h6, h4.mono l⟩
theorem mkp_core {i c np : Nat} {ies jes : List E} {p : List Nat} {F : FS} {σ : St} {H : Hp} {Q : VK} {Ex : XK} (hF : fs[i]? = some F) (hp : np = p.length + 1) (h : tR g fs (.mkp c i p (ies ++ (jes ++ dfl ns))) σ H Q) :
    tFold g fs ies σ H fun vs H1 => tFold g fs jes σ H1 fun zs H2 => vs.length = ies.length ∧ zs.length = jes.length ∧ ∀ x dx, H2 x = none → H2 dx = none → dx ≠ x →
    (V.ref x :: permL p (vs ++ (zs ++ ns.map .int))).length = np ∧ (kfs g.K (upd (upd H2 dx (.own x)) x (.ins (g.cl c) dx [])) → spF g (p.length + 1) F (V.ref x :: permL p (vs ++ (zs ++ ns.map .int))) (upd (upd H2 dx (.own x)) x (.ins (g.cl c) dx [])) (fun v H2 => v = .non ∧ Q (.ref x) H2) Ex) := by
  obtain ⟨Bn, Ow, Γ, r, Γ', rs, he, hQ⟩ := h
  simp only [ev] at he
  obtain ⟨⟨xs, Γ1⟩, e1, he⟩ := Option.bind_eq_some_iff.mp he
  obtain ⟨F', e4, he⟩ := Option.bind_eq_some_iff.mp he
  rw [hF] at e4; cases e4
  simp only [Option.ite_none_right_eq_some] at he
  obtain ⟨hpk, he⟩ := he
  refine fold_len2 (fold_all (Q := fun ws H2 => ∀ x dx, H2 x = none → H2 dx = none → dx ≠ x →
    (V.ref x :: permL p ws).length = np ∧ (kfs g.K (upd (upd H2 dx (.own x)) x (.ins (g.cl c) dx [])) → spF g (p.length + 1) F (V.ref x :: permL p ws) (upd (upd H2 dx (.own x)) x (.ins (g.cl c) dx [])) (fun v H2 => v = .non ∧ Q (.ref x) H2) Ex)) ⟨Bn, Ow, Γ, xs, Γ1, rs, e1, fun ws H1 O1 s1 r1 v1 => ?_⟩)
  have hr : ∀ i ∈ p, i < ws.length := by
    simp only [permOk, Bool.and_eq_true, List.all_eq_true, decide_eq_true_eq] at hpk
    rw [← v1.len]; exact hpk.2
  exact mkD_core r1 (v1.perm hpk) he (permL_len hr) hp fun v H' O' st => hQ v H' O' (s1.trans st)
theorem p_mkK (M : MkdK X.prog X.w X.mg X.base g k c x n ks p ns F) (C : Cok0 g X) (hF : fs[i]? = some F) (hn : ies.length = n) (hj : jes.length = ks.length) (hr : Room (k + 1) X.A) (hg : Gl X x) (ha : PA X (e :: es) (tFold g fs ies)) (hkw : PK X kws (tFold g fs jes))
    (hall : (backToKw pos (keywordEach kws X.env)).all (·.1.isSome) = true) (hks : (backToKw pos (keywordEach kws X.env)).filterMap (·.1) = ks) (hdb : (x == ("__debug__" : Str)) = false) (he : starEach (e :: es) X.env = (false, eval e X.env) :: starEach es X.env)
    (hpl : ((backTo pos (starEach (e :: es) X.env)).any (·.1) || (backToKw pos (keywordEach kws X.env)).any (·.1.isNone)) = false) :
    PE X (.Call (.Name x q) (e :: es) kws pos) (tR g fs (.mkp c i p (ies ++ (jes ++ dfl ns)))) := by
  obtain ⟨f, fd, ps, gg, gV, h1, h2, h3, h5, h6, h4⟩ := M.ex
  have h7 := FnOk.kf h4
  rw [← C.K] at h2 h3 h7
  refine PE.weak (pe_makeK h2 h7 hr hg h1 h3 pass0 ha hkw hall hks hdb he hpl) fun σ H Q h => ?_
  have core := mkp_core (Ex := E0) hF h6 h
  rw [← C.K] at core
  exact fold_mono (fun vs H1 q => fold_mono (fun zs H2 q => ⟨q.1.trans hn, q.2.1.trans hj, fun x dx a1 a2 a3 => by rw [h5 _ vs zs (q.1.trans hn) (q.2.1.trans hj)]; exact q.2.2 x dx a1 a2 a3⟩) q) core
theorem p_mkK0 (M : MkdK X.prog X.w X.mg X.base g k c x 0 ks p ns F) (C : Cok0 g X) (hF : fs[i]? = some F) (hj : jes.length = ks.length) (hr : Room (k + 1) X.A) (hg : Gl X x) (hkw : PK X kws (tFold g fs jes))
    (hall : (backToKw pos (keywordEach kws X.env)).all (·.1.isSome) = true) (hks : (backToKw pos (keywordEach kws X.env)).filterMap (·.1) = ks) (hdb : (x == ("__debug__" : Str)) = false)
    (hpl : ((backTo pos (starEach [] X.env)).any (·.1) || (backToKw pos (keywordEach kws X.env)).any (·.1.isNone)) = false) :
    PE X (.Call (.Name x q) [] kws pos) (tR g fs (.mkp c i p (jes ++ dfl ns))) := by
  obtain ⟨f, fd, ps, gg, gV, h1, h2, h3, h5, h6, h4⟩ := M.ex
  have h7 := FnOk.kf h4
  rw [← C.K] at h2 h3 h7
  refine PE.weak (pe_makeK0 h2 h7 hr hg h1 h3 pass0 hkw hall hks hdb hpl) fun σ H Q h => ?_
  have core := mkp_core (Ex := E0) (ies := []) hF h6 h
  rw [← C.K] at core
  exact fold_mono (fun zs H2 q => ⟨rfl, q.2.1.trans hj, fun x dx a1 a2 a3 => by rw [h5 _ [] zs rfl (q.2.1.trans hj)]; exact q.2.2 x dx a1 a2 a3⟩) core
/-- positional values alone, with numbers that lack -/
theorem p_mkD (M : MkdK X.prog X.w X.mg X.base g k c x n [] p ns F) (C : Cok0 g X) (hF : fs[i]? = some F) (hn : ies.length = n) (hr : Room (k + 1) X.A) (hg : Gl X x) (ha : PA X (e :: es) (tFold g fs ies)) (hdb : (x == ("__debug__" : Str)) = false) (he : starEach (e :: es) X.env = (false, eval e X.env) :: starEach es X.env)
    (hpl : (backTo pos (starEach es X.env)).any (·.1) = false) :
    PE X (.Call (.Name x q) (e :: es) [] pos) (tR g fs (.mkp c i p (ies ++ ([] ++ dfl ns)))) := by
  obtain ⟨f, fd, ps, gg, gV, h1, h2, h3, h5, h6, h4⟩ := M.ex
  have h7 := FnOk.kf h4
  rw [← C.K] at h2 h3 h7
  refine ⟨fun pins s σ H Q I h => ?_⟩
  have core := mkp_core (Ex := E0) (jes := []) hF h6 h
  rw [← C.K] at core
  refine wpAny_Call_Name_kw (ld_glob I hg h1 ?_ hdb)
  refine PySem.W.callWith_K (h₀ := X.base) I.ok.mod.kin h2.kp (thn (ha.run pos pins s σ H _ I core) fun us s1 ⟨vs, H1, I1, r, q⟩ => ⟨I1.kIn, ?_⟩) he hpl
  exact run_makeK (us := us) (vs := vs) (ws := []) (zs := []) h2 h7 hr h3 pass0 I1 r .nil (q.1.trans hn) rfl (fun x dx a1 a2 a3 => by rw [h5 _ vs [] (q.1.trans hn) rfl]; exact q.2.2 x dx a1 a2 a3)
end
end
end DV

namespace DV
open PySem L2
variable {Wx : L2.XK}
section
variable {P : Program} {w : World} {mg : Str → Option Value} {base : Heap} {g : Gx} {fs : List FS}
theorem def_fnD {x qual : Str} {params : Arguments} {body : List Stmt} {scope : Scope} {dvs : List V} {kws : List (Str × V)} {f : Addr} {fd : FuncData} {N ps : List Str} {k np n : Nat} {ir : List S} (F : FunD g.K x qual params body scope dvs kws f fd) (S : FnScope N ps scope) (hp : ps.length = np) (hN : N.length = n) (ge : g.ea = none)
    (hbody : ∀ (cdv : Value) (A : Around) (outer : List Env) (s : Shared) (H : Hp) (E : XK), Room k (cxOf CX0 P w g.K mg base N qual scope f cdv A outer s H E).nox.A → Cok g (cxOf CX0 P w g.K mg base N qual scope f cdv A outer s H E).nox →
      PSs (cxOf CX0 P w g.K mg base N qual scope f cdv A outer s H E).nox body (tSs g Wx fs ir)) : FnOk P w g.K mg base CX0 (k + 1) f fd ps (spF g np (runF fs np n ir)) := by
  refine F.ok S (fun vs H Q E h => by rw [h.1, hp]) fun cdv A outer s H vs Q E hr h => ?_
  refine ⟨_, (hbody cdv A outer s H E hr ⟨rfl, rfl, hr.units, S.nd, ge⟩).nox, ?_⟩
  obtain ⟨hl, Bn, Ow, Γ, r, os, rs, ef, nr, hQ⟩ := h
  have hG : Γ.length = np := by rw [← rs.len, List.length_map, hl]
  have hle : np ≤ n := by
    rw [← hN, ← hp]
    have := congrArg List.length S.pre
    rw [List.length_take] at this
    omega
  simp only [runF, hG, if_true] at ef
  obtain ⟨o, e1, e2⟩ := Option.bind_eq_some_iff.mp ef
  have est : L2.start N vs = vs.map some ++ List.replicate (n - np) none := by rw [← hN, ← hl]; rfl
  refine ⟨(n, (ownPs 0 Γ).map fun i => (i, vs.getD i .non)), Bn, Ow, Γ ++ List.replicate (n - np) none, o, ?_, ⟨?_, fun p hp => ?_⟩, ?_, ?_⟩
  · rw [est]; exact rs.start _
  · rw [est, List.length_append, List.length_map, List.length_replicate, hl]; show np + (n - np) = n; omega
  · obtain ⟨i, hi, rfl⟩ := List.mem_map.mp hp
    obtain ⟨j, d, rfl, h⟩ := ownPs_mem.mp hi
    have hj : j < vs.length := by
      have h1 := (List.getElem?_eq_some_iff.mp h).1
      omega
    rw [est]
    show (vs.map some ++ List.replicate (n - np) none)[0 + j]? = some (some (vs.getD (0 + j) .non))
    rw [Nat.zero_add, List.getElem?_append_left (by rw [List.length_map]; exact hj), List.getElem?_map, List.getElem?_eq_getElem hj, List.getD_eq_getElem?_getD, List.getElem?_eq_getElem hj]
    rfl
  · rw [List.map_map]
    show exs fs ((ownPs 0 Γ).map id) ir _ = some o
    rw [List.map_id]
    exact e1
  · rw [← hG] at e2
    exact finish_ok rs (by omega) e2 hQ
theorem paired_get {α β : Type} {R : α → β → Prop} : ∀ {xs : List α} {ys : List β}, Paired R xs ys → ∀ i : Nat, (∃ x y, xs[i]? = some x ∧ ys[i]? = some y ∧ R x y) ∨ (xs[i]? = none ∧ ys[i]? = none)
  | _, _, .nil, i => .inr ⟨by simp, by simp⟩
  | _, _, .cons r t, 0 => .inl ⟨_, _, rfl, rfl, r⟩
  | _, _, .cons r t, i + 1 => by simpa using paired_get t i
theorem paired_perm {α β : Type} {R : α → β → Prop} {xs : List α} {ys : List β} (h : Paired R xs ys) : ∀ p : List Nat, Paired R (permL p xs) (permL p ys)
  | [] => .nil
  | i :: p => by
    have ih := paired_perm h p
    rcases paired_get h i with ⟨x, y, e1, e2, r⟩ | ⟨e1, e2⟩
    · have a1 : permL (i :: p) xs = x :: permL p xs := by simp [permL, e1]
      have a2 : permL (i :: p) ys = y :: permL p ys := by simp [permL, e2]
      rw [a1, a2]
      exact .cons r ih
    · have a1 : permL (i :: p) xs = permL p xs := by simp [permL, e1]
      have a2 : permL (i :: p) ys = permL p ys := by simp [permL, e2]
      rw [a1, a2]
      exact ih
/-- keywords of a def without defaults -/
theorem fun_kbn {K : PySem.W.Frag} {x qual : Str} {st : Stmt} {f : Addr} {fd : FuncData} {ps : List Str} (F : Fun K x qual st f fd) {n : Nat} {ks : List Str} {p : List Nat}
    (h : ∀ (kV doc pm : Value) (an : Option Addr) (cdv ct : Value) (us ws : List Value), us.length = n → ws.length = ks.length → bindArgs (PySem.W.fnOf x qual (defArgs st) (defBody st) (defScope st) .none kV doc pm an cdv ct) ⟨us, ks.zip ws⟩ = pure (ps.zip (permL p (us ++ ws)))) :
    KBn K fd ps n ks (fun us ws => permL p (us ++ ws)) (fun vs zs => permL p (vs ++ zs)) := by
  obtain ⟨oc, od, kV, doc, pm, an, cdv, ct, osl, rfl, lk, hcd⟩ := F.ex
  exact ⟨fun s us ws _ l1 l2 => .of_eq (h kV doc pm an cdv ct us ws l1 l2), fun r1 r2 => paired_perm (r1.append r2) p⟩
theorem calk_of {x qual : Str} {st : Stmt} {f : Addr} {fd : FuncData} {ps : List Str} {n np k : Nat} {ks : List Str} {p : List Nat} {F : FS} (Fu : Fun g.K x qual st f fd) (hm : mg x = some (.ref f)) (hp : p.length = np) (G : FnOk P w g.K mg base CX0 k f fd ps (spF g np F))
    (h : ∀ (kV doc pm : Value) (an : Option Addr) (cdv ct : Value) (us ws : List Value), us.length = n → ws.length = ks.length → bindArgs (PySem.W.fnOf x qual (defArgs st) (defBody st) (defScope st) .none kV doc pm an cdv ct) ⟨us, ks.zip ws⟩ = pure (ps.zip (permL p (us ++ ws)))) : CalK P w mg base g k x n ks p F := by
  subst hp
  exact ⟨f, fd, ps, _, _, hm, Fu.kp, fun_kbn Fu h, fun vs zs _ _ => rfl, G⟩
/-- the order of an __init__: the object, then p -/
def gI {α : Type} (p : List Nat) (us mv ws : List α) : List α := match us with
  | [] => []
  | s :: r => s :: permL p (r ++ (ws ++ mv))
theorem gI_rel (p : List Nat) {vs mz zs : List V} {us mv ws : List Value} (h1 : Vals vs us) (h2 : Vals mz mv) (h3 : Vals zs ws) : Vals (gI p vs mz zs) (gI p us mv ws) := by
  cases h1 with
  | nil => exact .nil
  | cons r t => exact .cons r (paired_perm (Vals.append t (h3.append h2)) p)
theorem mkdk_of {c k n np : Nat} {x qual : Str} {params : Arguments} {body : List Stmt} {scope : Scope} {kws : List (Str × V)} {f : Addr} {fd : FuncData} {ps ks : List Str} {p : List Nat} {ms : List (Str × V)} {ns : List Int} {F : FS} {y : Str} (Fu : FunD g.K y qual params body scope [] kws f fd) (hk : kws ≠ []) (hms : ∀ q ∈ ms, q ∈ kws) (hns : ms.map (·.2) = ns.map V.int)
    (hm : mg x = some (.ref (g.cl c))) (M : Mk g.K (g.cl c) f) (hp : p.length = np) (hps : ps.length = np + 1) (G : FnOk P w g.K mg base CX0 k f fd ps (spF g (np + 1) F))
    (h : ∀ (D : Addr) (doc pm : Value) (an : Option Addr) (cdv ct : Value) (us mv ws : List Value), us.length = n + 1 → mv.length = ms.length → ws.length = ks.length →
      KwChain D ((ms.map (·.1)).zip mv) (bindArgs (PySem.W.fnOf y qual params body scope .none (.ref D) doc pm an cdv ct) ⟨us, ks.zip ws⟩) (ps.zip (gI p us mv ws))) : MkdK P w mg base g k c x n ks p ns F := by
  subst hp
  obtain ⟨mv, kb⟩ := Fu.kbinds0 (n + 1) ks ms (fun us mv ws => gI p us mv ws) hk hms (fun h1 h2 h3 => gI_rel p h1 h2 h3) h
  refine ⟨f, fd, ps, _, _, hm, M, kb, fun s vs zs _ _ => ?_, hps, G⟩
  show s :: permL p (vs ++ (zs ++ ms.map (·.2))) = _
  rw [hns]
theorem mkdk_of0 {c k n np : Nat} {x qual : Str} {st : Stmt} {f : Addr} {fd : FuncData} {ps ks : List Str} {p : List Nat} {F : FS} {y : Str} (Fu : Fun g.K y qual st f fd)
    (hm : mg x = some (.ref (g.cl c))) (M : Mk g.K (g.cl c) f) (hp : p.length = np) (hps : ps.length = np + 1) (G : FnOk P w g.K mg base CX0 k f fd ps (spF g (np + 1) F))
    (h : ∀ (kV doc pm : Value) (an : Option Addr) (cdv ct : Value) (us ws : List Value), us.length = n + 1 → ws.length = ks.length → bindArgs (PySem.W.fnOf y qual (defArgs st) (defBody st) (defScope st) .none kV doc pm an cdv ct) ⟨us, ks.zip ws⟩ = pure (ps.zip (gI p us [] ws))) : MkdK P w mg base g k c x n ks p [] F := by
  subst hp
  obtain ⟨oc, od, kV, doc, pm, an, cdv, ct, osl, rfl, lk, hcd⟩ := Fu.ex
  exact ⟨f, _, ps, fun us ws => gI p us [] ws, fun vs zs => gI p vs [] zs, hm, M, ⟨fun s us ws _ l1 l2 => .of_eq (h kV doc pm an cdv ct us ws l1 l2), fun r1 r2 => gI_rel p r1 .nil r2⟩, fun s vs zs _ _ => by simp [gI], hps, G⟩
/-- an __init__ with keyword-only numbers -/
theorem fund_mk {K : PySem.W.Frag} {x qual : Str} {st : Stmt} {f D : Addr} {oc : Value} {od an : Option Addr} {osl : Array (Option Value)} {doc pm cdv ct : Value} {y : Str} {n : Int} {t : Tok} (l : K.lookup f = some ⟨oc, od, .func (PySem.W.fnOf x qual (defArgs st) (defBody st) (defScope st) .none (.ref D) doc pm an cdv ct), osl⟩)
    (c : PySem.W.codeIn K cdv qual = true) (k : PySem.W.keepIn K (.ref f) = true) (d : PySem.W.nsIn K D y = some (some (.int n t))) : FunD K x qual (defArgs st) (defBody st) (defScope st) [] [(y, .int n)] f (PySem.W.fnOf x qual (defArgs st) (defBody st) (defScope st) .none (.ref D) doc pm an cdv ct) :=
  ⟨⟨oc, od, .none, .ref D, doc, pm, an, cdv, ct, osl, rfl, l, c, .inl ⟨rfl, rfl⟩, .inr ⟨D, rfl, fun q hq => by
    rcases List.mem_cons.mp hq with rfl | hq
    · exact ⟨_, d, t, rfl⟩
    · cases hq⟩⟩, k⟩
end
section
variable {X : Cx} {g : Gx} {fs : List FS} {x : Str} {pos : Pos}
/-- a text that the top has written -/
def GStr (mg : Str → Option Value) (x : Str) (z : Str) : Prop := ∃ t, mg x = some (.str z t)
theorem k_gstr {z : Str} (C : Cok0 g X) (h : GStr X.mg x z) (hg : Gl X x) (hd : (x == ("__debug__" : Str)) = false) : PE X (.Name x pos) (tR g fs (.cst (.str z))) := by
  obtain ⟨t, h⟩ := h
  exact p_cst (pe_glob (v := .str z) hg h ⟨t, rfl⟩ hd) C.K fun _ _ _ => by simp only [Rep]
/-- a tuple that the top has written -/
def GTup (K : PySem.W.Frag) (mg : Str → Option Value) (x : Str) (ds : List D) (vs : List V) : Prop := ∃ a o its n, mg x = some (.ref a) ∧ K.lookup a = some o ∧ o.cls = .type "tuple" ∧ o.data = .seq its n ∧ its.size ≤ sizeLine ∧ Vals vs its.toList
theorem k_gtup {ds : List D} {vs : List V} (C : Cok0 g X) (h : GTup g.K X.mg x ds vs) (hr : ∀ A H, Reps g A H ds vs) (hg : Gl X x) (hd : (x == ("__debug__" : Str)) = false) : PE X (.Name x pos) (tR g fs (.cst (.tup ds))) := by
  obtain ⟨a, o, its, n, h1, h2, h3, h4, h5, h6⟩ := h
  refine p_cst (pe_glob (v := .ref a) hg h1 rfl hd) C.K fun A H ka => ?_
  simp only [Rep]
  exact ⟨a, vs, rfl, (fun z => by rw [ka a z] at h2; simp at h2), .inr ⟨o, its, n, h2, h3, h4, h5, h6⟩, hr A H⟩
end
end DV

namespace DV
open PySem L2
theorem all_nil {α : Type} (P : α → Prop) : ∀ c ∈ ([] : List α), P c := fun _ h => nomatch h
theorem all_cons {α : Type} {P : α → Prop} {c : α} {cs : List α} (h : P c) (t : ∀ c ∈ cs, P c) : ∀ d ∈ c :: cs, P d := fun d m => by
  rcases List.mem_cons.mp m with rfl | m
  · exact h
  · exact t d m
theorem kit_pl {K : PySem.W.Frag} {C : Addr} {t : Value} {b : Bool} (h1 : PySem.W.isClsIn K C = true) (h2 : PySem.W.typeIn K (.ref C) = some (.type "type")) (h4 : (t == .ref C) = false) (h3 : PySem.W.subIn K t (.ref C) = some b) : PySem.W.kitOne K t (.ref C) = some b := by
  unfold PySem.W.kitOne PySem.W.kitCls
  unfold PySem.W.isClsIn at h1
  simp only [h4, h1, h2, Bool.false_eq_true, if_false, beq_self_eq_true, Bool.and_self, if_true]
  exact h3
theorem kit_me {K : PySem.W.Frag} {C : Addr} : PySem.W.kitOne K (.ref C) (.ref C) = some true := by
  unfold PySem.W.kitOne
  simp
theorem so_eq (d e : D) : selfO .eq d e = (d, e) := rfl
theorem so_ne (d e : D) : selfO .ne d e = (d, e) := rfl
theorem so_in (d e : D) : selfO .inn d e = (e, d) := rfl
theorem so_ni (d e : D) : selfO .notin d e = (e, d) := rfl
theorem so_ix (d e : D) : selfO .ix d e = (d, e) := rfl
theorem so_ad (d e : D) : selfO .add d e = (d, e) := rfl
theorem oo_eq (c : Nat) (e : D) : okO .eq c e = (isObj c e || plainB e) := rfl
theorem oo_ne (c : Nat) (e : D) : okO .ne c e = (isObj c e || plainB e) := rfl
theorem oo_in (c : Nat) (e : D) : okO .inn c e = true := rfl
theorem oo_ni (c : Nat) (e : D) : okO .notin c e = true := rfl
theorem oo_ix (c : Nat) (e : D) : okO .ix c e = true := rfl
theorem oo_ad (c : Nat) (e : D) : okO .add c e = isObj c e := rfl
theorem pb_non : plainB .non = true := rfl
theorem pb_int (i : Int) : plainB (.int i) = true := rfl
theorem pb_bl (i : Bool) : plainB (.bl i) = true := rfl
theorem pb_str (i : Str) : plainB (.str i) = true := rfl
theorem pb_lst (i : List D) : plainB (.lst i) = true := rfl
theorem pb_tup (i : List D) : plainB (.tup i) = true := rfl
theorem ic_non (cs : List Nat) (c : Nat) : iscD cs c .non = some false := rfl
theorem ic_int (cs : List Nat) (c : Nat) (i : Int) : iscD cs c (.int i) = some false := rfl
theorem ic_bl (cs : List Nat) (c : Nat) (i : Bool) : iscD cs c (.bl i) = some false := rfl
theorem ic_str (cs : List Nat) (c : Nat) (i : Str) : iscD cs c (.str i) = some false := rfl
theorem ic_lst (cs : List Nat) (c : Nat) (i : List D) : iscD cs c (.lst i) = some false := rfl
theorem ic_tup (cs : List Nat) (c : Nat) (i : List D) : iscD cs c (.tup i) = some false := rfl
theorem io_non (c : Nat) : isObj c .non = false := rfl
theorem io_int (c : Nat) (i : Int) : isObj c (.int i) = false := rfl
theorem io_bl (c : Nat) (i : Bool) : isObj c (.bl i) = false := rfl
theorem io_str (c : Nat) (i : Str) : isObj c (.str i) = false := rfl
theorem io_lst (c : Nat) (i : List D) : isObj c (.lst i) = false := rfl
theorem io_tup (c : Nat) (i : List D) : isObj c (.tup i) = false := rfl
def clOf (cs : List Addr) : Nat → Addr := fun c => cs.getD c 0
/-- the law's promise, the classes left open -/
def spN (K : PySem.W.Frag) (F : FS) : Sp := fun vs H Q E => vs.length = 1 ∧ ∀ cl, spF ⟨K, cl, [], none⟩ 1 F vs H Q E
theorem spN_of {P : Program} {w : World} {K : PySem.W.Frag} {mg : Str → Option Value} {base : Heap} {k : Nat} {f : Addr} {fd : FuncData} {ps : List Str} {F : FS} {cl : Nat → Addr} (h : FnOk P w K mg base CX0 k f fd ps (spF ⟨K, cl, [], none⟩ 1 F)) : FnOk P w K mg base CX0 k f fd ps (spN K F) :=
  ⟨fun vs H Q E q => h.len vs H Q E (q.2 cl), fun A outer s H args us vs Q E hr he hb hv hs => h.run A outer s H args us vs Q E hr he hb hv (hs.2 cl)⟩
theorem sp_lawN {K : PySem.W.Frag} {F : FS} {ns : List Int} {a : Addr} {H : Hp} {os : Ct} (hF : F [some (.scr ns, false)] = some (.fz (.bl true), os)) (hS : SqL K H a (ns.map V.int)) : spN K F [.ref a] H (fun v _ => v = .bl true) fun _ _ _ => False := ⟨rfl, fun cl => sp_law hF hS nofun⟩
section
variable {X : Cx} {g : Gx} {fs : List FS} {a b : Expr} {ia ib : E} {pos : Pos} {c k i : Nat} {F : FS}
theorem own_isb {o : OOp} {op : COp} {p : Bool → Bool} {Γ Γ' : Ct} {r : RV} (hpo : ∀ r5 r, postO o r5 = some r → ∃ t, r5 = .fz (.bl t) ∧ r = .fz (.bl (p t))) (hpl : ∀ d e, plainO o d e = (cmpD op d e).map fun b => .fz (.bl b)) (he : ev fs (.own o c i ia ib) Γ = some (r, Γ')) : ∃ b, r = .fz (.bl b) := by
  simp only [ev] at he
  obtain ⟨⟨x, Γ1⟩, e1, he⟩ := Option.bind_eq_some_iff.mp he
  obtain ⟨⟨y, Γ2⟩, e2, he⟩ := Option.bind_eq_some_iff.mp he
  obtain ⟨d, ed, he⟩ := Option.bind_eq_some_iff.mp he
  obtain ⟨e, ee, he⟩ := Option.bind_eq_some_iff.mp he
  simp only at ed ee he
  split at he
  · obtain ⟨⟨d', Γ3⟩, f1, he⟩ := Option.bind_eq_some_iff.mp he
    obtain ⟨⟨e', Γ4⟩, f2, he⟩ := Option.bind_eq_some_iff.mp he
    simp only [Option.ite_none_right_eq_some, Bool.and_eq_true] at he
    obtain ⟨⟨ho1, ho2⟩, he⟩ := he
    obtain ⟨F', hF', he⟩ := Option.bind_eq_some_iff.mp he
    obtain ⟨⟨r5, Γ5⟩, e5, he⟩ := Option.bind_eq_some_iff.mp he
    obtain ⟨r', e6, he⟩ := Option.map_eq_some_iff.mp he
    simp only [Prod.mk.injEq] at he
    obtain ⟨rfl, rfl⟩ := he
    obtain ⟨t, rfl, rfl⟩ := hpo _ _ e6
    exact ⟨_, rfl⟩
  · obtain ⟨r', e6, he⟩ := Option.map_eq_some_iff.mp he
    simp only [Prod.mk.injEq] at he
    obtain ⟨rfl, rfl⟩ := he
    rw [hpl] at e6
    obtain ⟨t, e7, rfl⟩ := Option.map_eq_some_iff.mp e6
    exact ⟨_, rfl⟩
theorem test_of {Bn : Addr → Prop} {Ow : List Addr} {H : Hp} {σ : St} {Γ' : Ct} {r : RV} {t : Bool} {Q : Bool → Hp → Prop} (hr : ∃ b, r = .fz (.bl b)) (ht : testD Γ' r = some t) (hQ : ∀ H' Ow', Stp Ow H Ow' H' → RS g Bn Ow' H' σ Γ' → Q t H') :
    ∀ v H' Ow', Stp Ow H Ow' H' → RS g Bn Ow' H' σ Γ' → Val g Bn Ow' H' σ Γ' r v → ∃ k, v = .bl k ∧ Q k H' := by
  obtain ⟨b, rfl⟩ := hr
  simp only [testD, datum, Option.bind_some, truthD, Option.some.injEq] at ht
  subst ht
  intro v H' O' s1 r1 v1
  simp only [Val, Rep] at v1
  exact ⟨b, v1, hQ H' O' s1 r1⟩
theorem t_ownEq (cx : ClsX g c) (M : Mtd X.prog X.w X.mg X.base g k c "__eq__" 2 F) (C : Cok0 g X) (hF : fs[i]? = some F) (hr : Room k X.A) (ha : PE X a (tR g fs ia)) (hb : PE X b (tR g fs ib)) (hm : behindInMarks .Eq b = false) : PT X (.Compare a [.Eq] [b] pos) (tT g fs (.own .eq c i ia ib)) := by
  obtain ⟨f, fd, ps, h1, h2, h3, h4⟩ := M.ex
  rw [← C.K] at h1 h2 h3 h4
  refine PT.weak (pt_cmpR ((op_cmp C.K C.hu .eq).or (op_ownEq h4 hr h3 h2)) ha hb hm) ?_
  rintro σ H Q ⟨Bn, Ow, Γ, r, Γ', t, rs, he, ht, hQ⟩
  rw [C.K]
  exact own2_core (fun _ _ => rfl) (fun _ => rfl) cx post_eq (fun _ _ => rfl) hF rs he (test_of (own_isb post_eq (op := .eq) (fun _ _ => rfl) he) ht hQ)
theorem t_ownNe (cx : ClsX g c) (M : Mtd X.prog X.w X.mg X.base g k c "__eq__" 2 F) (hne : PySem.W.findIn g.K (.ref (g.cl c)) "__ne__" = some (some (.builtin "object.__ne__"))) (C : Cok0 g X) (hF : fs[i]? = some F) (hr : Room (k + 1) X.A) (ha : PE X a (tR g fs ia)) (hb : PE X b (tR g fs ib)) (hm : behindInMarks .NotEq b = false) : PT X (.Compare a [.NotEq] [b] pos) (tT g fs (.own .ne c i ia ib)) := by
  obtain ⟨f, fd, ps, h1, h2, h3, h4⟩ := M.ex
  have hi := cx.hm
  rw [← C.K] at h1 h2 h3 h4 hne hi
  refine PT.weak (pt_cmpR ((op_cmp C.K C.hu .ne).or (op_ownNe h4 hr h3 h2 hne hi)) ha hb hm) ?_
  rintro σ H Q ⟨Bn, Ow, Γ, r, Γ', t, rs, he, ht, hQ⟩
  rw [C.K]
  exact own2_core (fun _ _ => rfl) (fun _ => rfl) cx post_ne (fun _ _ => rfl) hF rs he (test_of (own_isb post_ne (op := .ne) (fun _ _ => rfl) he) ht hQ)
theorem t_ownIn (M : Mtd X.prog X.w X.mg X.base g k c "__contains__" 2 F) (C : Cok0 g X) (hF : fs[i]? = some F) (hr : Room k X.A) (ha : PE X a (tR g fs ia)) (hb : PE X b (tR g fs ib)) (hm : behindInMarks .In b = false) : PT X (.Compare a [.In] [b] pos) (tT g fs (.own .inn c i ia ib)) := by
  obtain ⟨f, fd, ps, h1, h2, h3, h4⟩ := M.ex
  rw [← C.K] at h1 h2 h3 h4
  refine PT.weak (pt_cmpR ((op_cmp C.K C.hu .inn).or (op_ownIn h4 hr h3 h2)) ha hb hm) ?_
  rintro σ H Q ⟨Bn, Ow, Γ, r, Γ', t, rs, he, ht, hQ⟩
  exact ownIn_core (fun _ _ => rfl) post_inn (fun _ _ => rfl) hF rs he (test_of (own_isb post_inn (op := .inn) (fun _ _ => rfl) he) ht hQ)
theorem t_ownNotIn (M : Mtd X.prog X.w X.mg X.base g k c "__contains__" 2 F) (C : Cok0 g X) (hF : fs[i]? = some F) (hr : Room k X.A) (ha : PE X a (tR g fs ia)) (hb : PE X b (tR g fs ib)) (hm : behindInMarks .NotIn b = false) : PT X (.Compare a [.NotIn] [b] pos) (tT g fs (.own .notin c i ia ib)) := by
  obtain ⟨f, fd, ps, h1, h2, h3, h4⟩ := M.ex
  rw [← C.K] at h1 h2 h3 h4
  refine PT.weak (pt_cmpR ((op_cmp C.K C.hu .notin).or (op_ownNotIn h4 hr h3 h2)) ha hb hm) ?_
  rintro σ H Q ⟨Bn, Ow, Γ, r, Γ', t, rs, he, ht, hQ⟩
  exact ownIn_core (fun _ _ => rfl) post_notin (fun _ _ => rfl) hF rs he (test_of (own_isb post_notin (op := .notin) (fun _ _ => rfl) he) ht hQ)
end
end DV

namespace DV
open PySem L2
/-! ### single steps of the evaluation -/
section
variable {fs : List FS} {a b c : E} {es : List E} {Γ Γ1 Γ2 Γ3 Γ4 Γ5 : Ct} {x y r r' : RV} {xs : List RV} {d e d' e' : D} {F : FS} {k i : Nat} {t : Bool}
theorem ev_mk (h1 : evs fs es Γ = some (xs, Γ1)) (h2 : fs[k]? = some F) (h3 : mkD F i xs Γ1 = some (r, Γ2)) : ev fs (.mk i k es) Γ = some (r, Γ2) := by
  rw [DV.ev.eq_21]
  simp only [h1, h2, Option.bind_some, h3]
theorem ev_call (h1 : evs fs es Γ = some (xs, Γ1)) (h2 : fs[k]? = some F) (h3 : callD F xs Γ1 = some (r, Γ2)) : ev fs (.call k es) Γ = some (r, Γ2) := by
  rw [DV.ev.eq_16]
  simp only [h1, h2, Option.bind_some]
  unfold callD at h3
  exact h3
theorem evs_1 (h : ev fs a Γ = some (x, Γ1)) : evs fs [a] Γ = some ([x], Γ1) := by
  simp only [DV.evs.eq_2, DV.evs.eq_1, h, Option.bind_some, Option.map_some]
theorem evs_c (h : ev fs a Γ = some (x, Γ1)) (h2 : evs fs es Γ1 = some (xs, Γ2)) : evs fs (a :: es) Γ = some (x :: xs, Γ2) := by
  simp only [DV.evs.eq_2, h, h2, Option.bind_some, Option.map_some]
theorem ev_own {o : OOp} (h1 : ev fs a Γ = some (x, Γ1)) (h2 : ev fs b Γ1 = some (y, Γ2)) (h3 : datum Γ2 x = some d) (h4 : datum Γ2 y = some e) (h5 : isObj i (selfO o d e).1 = true) (h6 : fre Γ2 x = some (d', Γ3)) (h7 : fre Γ3 y = some (e', Γ4)) (h8 : isObj i (selfO o d' e').1 = true) (h9 : okO o i (selfO o d' e').2 = true)
    (h10 : fs[k]? = some F) (h11 : callD F [.fz (selfO o d' e').1, .fz (selfO o d' e').2] Γ4 = some (r, Γ5)) (h12 : postO o r = some r') : ev fs (.own o i k a b) Γ = some (r', Γ5) := by
  rw [DV.ev.eq_22]
  simp only [h1, h2, Option.bind_some, h3, h4, h5, if_true, h6, h7, h8, h9, Bool.and_self, h10, h11, h12, Option.map_some]
theorem ev_or_f (h1 : ev fs a Γ = some (x, Γ1)) (h2 : testD Γ1 x = some false) (h3 : ev fs b Γ1 = some (y, Γ2)) : ev fs (.or a b) Γ = some (y, Γ2) := by
  rw [DV.ev.eq_9]
  simp only [h1, Option.bind_some, h2, Bool.false_eq_true, if_false, h3]
theorem ev_or_t (h1 : ev fs a Γ = some (x, Γ1)) (h2 : testD Γ1 x = some true) : ev fs (.or a b) Γ = some (x, Γ1) := by
  rw [DV.ev.eq_9]
  simp only [h1, Option.bind_some, h2, if_true]
theorem ev_and_t (h1 : ev fs a Γ = some (x, Γ1)) (h2 : testD Γ1 x = some true) (h3 : ev fs b Γ1 = some (y, Γ2)) : ev fs (.and a b) Γ = some (y, Γ2) := by
  rw [DV.ev.eq_8]
  simp only [h1, Option.bind_some, h2, if_true, h3]
theorem ev_and_f (h1 : ev fs a Γ = some (x, Γ1)) (h2 : testD Γ1 x = some false) : ev fs (.and a b) Γ = some (x, Γ1) := by
  rw [DV.ev.eq_8]
  simp only [h1, Option.bind_some, h2, Bool.false_eq_true, if_false]
theorem ev_not (h1 : ev fs a Γ = some (x, Γ1)) (h2 : testD Γ1 x = some t) : ev fs (.not a) Γ = some (.fz (.bl (!t)), Γ1) := by
  rw [DV.ev.eq_10]
  simp only [h1, Option.bind_some, h2, Option.map_some]
theorem ev_cmp {o : COp} (h1 : ev fs a Γ = some (x, Γ1)) (h2 : ev fs b Γ1 = some (y, Γ2)) (h3 : datum Γ2 x = some d) (h4 : datum Γ2 y = some e) (h5 : cmpD o d e = some t) : ev fs (.cmp o a b) Γ = some (.fz (.bl t), Γ2) := by
  rw [DV.ev.eq_6]
  simp only [h1, h2, Option.bind_some, h3, h4, h5, Option.map_some]
theorem ev_bin {o : BOp} (h1 : ev fs a Γ = some (x, Γ1)) (h2 : ev fs b Γ1 = some (y, Γ2)) (h3 : datum Γ2 x = some d) (h4 : datum Γ2 y = some e) (h5 : binD o d e = some r) : ev fs (.bin o a b) Γ = some (r, Γ2) := by
  rw [DV.ev.eq_4]
  simp only [h1, h2, Option.bind_some, h3, h4, h5, Option.map_some]
theorem ev_ite {z : RV} (h1 : ev fs a Γ = some (x, Γ1)) (h2 : testD Γ1 x = some t) (h3 : ev fs (if t then b else c) Γ1 = some (z, Γ2)) : ev fs (.ite a b c) Γ = some (z, Γ2) := by
  rw [DV.ev.eq_11]
  simp only [h1, Option.bind_some, h2]
  cases t <;> simpa using h3
theorem test_b (Γ : Ct) (b : Bool) : testD Γ (.fz (.bl b)) = some b := by simp only [testD, datum, Option.bind_some, truthD]
end
end DV

namespace DV
/-- the evaluation equations, as one fact -/
def SC := And.intro (And.intro (And.intro (And.intro (And.intro (And.intro (And.intro (@DV.runF.eq_1) (And.intro (@DV.exs.eq_1) (@DV.exs.eq_2))) (And.intro (And.intro (@DV.ex.eq_1) (@DV.ex.eq_2)) (And.intro (@DV.ex.eq_3) (@DV.ex.eq_4)))) (And.intro (And.intro (And.intro (@DV.ex.eq_5) (@DV.ex.eq_6)) (And.intro (@DV.ex.eq_7) (@DV.ex.eq_8))) (And.intro (And.intro (@DV.ex.eq_9) (@DV.ex.eq_10)) (And.intro (@DV.ex.eq_11) (@DV.ex.eq_12))))) (And.intro (And.intro (And.intro (@DV.ex.eq_13) (And.intro (@DV.ex.eq_14) (@DV.ex.eq_15))) (And.intro (And.intro (@DV.ex.eq_16) (@DV.ev.eq_1)) (And.intro (@DV.ev.eq_2) (@DV.ev.eq_3)))) (And.intro (And.intro (And.intro (@DV.ev.eq_4) (@DV.ev.eq_5)) (And.intro (@DV.ev.eq_6) (@DV.ev.eq_7))) (And.intro (And.intro (@DV.ev.eq_8) (@DV.ev.eq_9)) (And.intro (@DV.ev.eq_10) (@DV.ev.eq_11)))))) (And.intro (And.intro (And.intro (And.intro (@DV.ev.eq_12) (And.intro (@DV.ev.eq_13) (@DV.ev.eq_14))) (And.intro (And.intro (@DV.ev.eq_15) (@DV.ev.eq_16)) (And.intro (@DV.ev.eq_17) (@DV.ev.eq_18)))) (And.intro (And.intro (And.intro (@DV.evs.eq_1) (@DV.evs.eq_2)) (And.intro (@DV.evc.eq_1) (@DV.evc.eq_2))) (And.intro (And.intro (@DV.evn.eq_1) (@DV.evn.eq_2)) (And.intro (@DV.parS.eq_1) (@DV.parS.eq_2))))) (And.intro (And.intro (And.intro (And.intro (@DV.parS.eq_3) (@DV.datums.eq_1)) (And.intro (@DV.datums.eq_2) (@DV.datum.eq_1))) (And.intro (And.intro (@DV.datum.eq_2) (@DV.datum.eq_3)) (And.intro (@DV.fre.eq_1) (@DV.fre.eq_2)))) (And.intro (And.intro (And.intro (@DV.fre.eq_3) (@DV.fres.eq_1)) (And.intro (@DV.fres.eq_2) (@DV.argSs.eq_1))) (And.intro (And.intro (@DV.argSs.eq_2) (@DV.argS.eq_1)) (And.intro (@DV.argS.eq_2) (@DV.argS.eq_3))))))) (And.intro (And.intro (And.intro (And.intro (And.intro (@DV.nodupB.eq_1) (And.intro (@DV.nodupB.eq_2) (@DV.ownIx.eq_1))) (And.intro (And.intro (@DV.ownIx.eq_2) (@DV.ownIx.eq_3)) (And.intro (@DV.putOuts.eq_1) (@DV.putOuts.eq_2)))) (And.intro (And.intro (And.intro (@DV.putOuts.eq_3) (@DV.biD.eq_1)) (And.intro (@DV.biD.eq_2) (@DV.biD.eq_3))) (And.intro (And.intro (@DV.biD.eq_4) (@DV.biD.eq_5)) (And.intro (@DV.biD.eq_6) (@DV.biD.eq_7))))) (And.intro (And.intro (And.intro (And.intro (@DV.biD.eq_8) (@DV.biD.eq_9)) (And.intro (@DV.biD.eq_10) (@DV.biD.eq_11))) (And.intro (And.intro (@DV.biD.eq_12) (@DV.biD.eq_13)) (And.intro (@DV.biD.eq_14) (@DV.biD.eq_15)))) (And.intro (And.intro (And.intro (@DV.biD.eq_16) (@DV.biD.eq_17)) (And.intro (@DV.biD.eq_18) (@DV.biD.eq_19))) (And.intro (And.intro (@DV.isiD.eq_1) (@DV.isiD.eq_2)) (And.intro (@DV.isiD.eq_3) (@DV.isiD.eq_4)))))) (And.intro (And.intro (And.intro (And.intro (@DV.isiD.eq_5) (And.intro (@DV.isiD.eq_6) (@DV.isiD.eq_7))) (And.intro (And.intro (@DV.shallow.eq_1) (@DV.shallow.eq_4)) (And.intro (@DV.shallow.eq_5) (@DV.testD.eq_1)))) (And.intro (And.intro (And.intro (@DV.truthD.eq_1) (@DV.truthD.eq_2)) (And.intro (@DV.truthD.eq_3) (@DV.truthD.eq_4))) (And.intro (And.intro (@DV.truthD.eq_5) (@DV.truthD.eq_6)) (And.intro (@DV.truthD.eq_7) (@DV.truthD.eq_8))))) (And.intro (And.intro (And.intro (And.intro (@DV.finish.eq_1) (@DV.finish.eq_2)) (And.intro (@DV.finish.eq_3) (@DV.finish.eq_4))) (And.intro (And.intro (@DV.finish.eq_5) (@DV.outsOf.eq_1)) (And.intro (@DV.outsOf.eq_2) (@DV.outsOf.eq_3)))) (And.intro (And.intro (And.intro (@DV.ownPs.eq_1) (@DV.ownPs.eq_2)) (And.intro (@DV.ownPs.eq_3) (@DV.disjB.eq_1))) (And.intro (And.intro (@DV.isLst.eq_1) (@DV.appD.eq_1)) (And.intro (@DV.extD.eq_1) (@DV.setD.eq_1)))))))) (And.intro (And.intro (And.intro (And.intro (And.intro (And.intro (@DV.asgT.eq_1) (And.intro (@DV.asgT.eq_2) (@DV.asgT.asgTs.eq_1))) (And.intro (And.intro (@DV.asgT.asgTs.eq_2) (@DV.tgIx.eq_1)) (And.intro (@DV.tgIx.eq_2) (@DV.tgIx.tgIxs.eq_1)))) (And.intro (And.intro (And.intro (@DV.tgIx.tgIxs.eq_2) (@DV.iterD.eq_1)) (And.intro (@DV.iterD.eq_2) (@DV.iterD.eq_3))) (And.intro (And.intro (@DV.it_rng) (@DV.binD.eq_1)) (And.intro (@DV.binD.eq_2) (@DV.binD.eq_3))))) (And.intro (And.intro (And.intro (And.intro (@DV.binD.eq_4) (@DV.binD.eq_5)) (And.intro (@DV.binD.eq_6) (@DV.binD.eq_7))) (And.intro (And.intro (@DV.binD.eq_8) (@DV.binD.eq_9)) (And.intro (@DV.binD.eq_10) (@DV.cmpD.eq_3)))) (And.intro (And.intro (And.intro (@DV.cmpD.eq_4) (@DV.cmpD.eq_5)) (And.intro (@DV.cmpD.eq_6) (@DV.cmpD.eq_7))) (And.intro (And.intro (@DV.cmpD.eq_8) (@DV.cmpD.eq_9)) (And.intro (@DV.cmpD.eq_10) (@DV.cmpD.eq_11)))))) (And.intro (And.intro (And.intro (And.intro (@DV.cmpD.eq_12) (And.intro (@DV.isNonD.eq_1) (@DV.isNonD.eq_2))) (And.intro (And.intro (@DV.ixD.eq_1) (@DV.ixD.eq_2)) (And.intro (@DV.ixD.eq_3) (@DV.ixD.eq_4)))) (And.intro (And.intro (And.intro (@DV.slcD.eq_1) (@DV.slcD.eq_2)) (And.intro (@DV.slcD.eq_3) (@DV.slO.eq_1))) (And.intro (And.intro (@DV.slO.eq_2) (@DV.plainIx.eq_1)) (And.intro (@DV.wipeG.eq_1) (@DV.wipeG.eq_2))))) (And.intro (And.intro (And.intro (And.intro (@DV.restG.eq_1) (@DV.restG.eq_2)) (And.intro (@DV.flatD.eq_1) (@DV.flatD.eq_2))) (And.intro (And.intro (@DV.flatD.eq_3) (@DV.flatD.eq_4)) (And.intro (@DV.flatD.eq_5) (@DV.ex.eq_17)))) (And.intro (And.intro (And.intro (@DV.ev.eq_19) (@DV.ev.eq_20)) (And.intro (@DV.ev.eq_21) (@DV.ev.eq_22))) (And.intro (And.intro (@DV.ev.eq_23) (@DV.ev.eq_24)) (And.intro (@DV.ev.eq_25) (@DV.ev.eq_26))))))) (And.intro (And.intro (And.intro (And.intro (And.intro (@DV.callD.eq_1) (And.intro (@DV.mkD.eq_1) (@DV.fldL.eq_1))) (And.intro (And.intro (@DV.fldL.eq_2) (@DV.fldD.eq_1)) (And.intro (@DV.fldD.eq_2) (@DV.isObj.eq_1)))) (And.intro (And.intro (And.intro (@DV.hasF.eq_1) (@DV.hasF.eq_2)) (And.intro (@DV.postO.eq_1) (@DV.postO.eq_2))) (And.intro (And.intro (@DV.postO.eq_3) (@DV.postO.eq_4)) (And.intro (@DV.postO.eq_5) (@DV.postO.eq_6))))) (And.intro (And.intro (And.intro (And.intro (@DV.plainO.eq_1) (@DV.plainO.eq_2)) (And.intro (@DV.plainO.eq_3) (@DV.plainO.eq_4))) (And.intro (And.intro (@DV.plainO.eq_5) (@DV.plainO.eq_6)) (And.intro (@DV.so_eq) (@DV.so_ne)))) (And.intro (And.intro (And.intro (@DV.so_in) (@DV.so_ni)) (And.intro (@DV.so_ix) (@DV.so_ad))) (And.intro (And.intro (@DV.oo_eq) (@DV.oo_ne)) (And.intro (@DV.oo_in) (@DV.oo_ni)))))) (And.intro (And.intro (And.intro (And.intro (@DV.oo_ix) (And.intro (@DV.oo_ad) (@DV.pb_non))) (And.intro (And.intro (@DV.pb_int) (@DV.pb_bl)) (And.intro (@DV.pb_str) (@DV.pb_lst)))) (And.intro (And.intro (And.intro (@DV.pb_tup) (@DV.ic_non)) (And.intro (@DV.ic_int) (@DV.ic_bl))) (And.intro (And.intro (@DV.ic_str) (@DV.ic_lst)) (And.intro (@DV.ic_tup) (@DV.io_non))))) (And.intro (And.intro (And.intro (And.intro (@DV.io_int) (@DV.io_bl)) (And.intro (@DV.io_str) (@DV.io_lst))) (And.intro (And.intro (@DV.io_tup) (@DV.putL.eq_1)) (And.intro (@DV.putL.eq_2) (@DV.putD.eq_1)))) (And.intro (And.intro (And.intro (@DV.putD.eq_2) (@DV.iscD.eq_1)) (And.intro (@DV.iscD.eq_2) (@DV.plainB.eq_1))) (And.intro (And.intro (@DV.plainB.eq_2) (@DV.permL.eq_1)) (And.intro (@DV.permOk.eq_1) (@DV.dfl.eq_1))))))))
/-- those of == -/
def SE := And.intro (And.intro (And.intro (And.intro (@DV.cmpD.eq_1) (@DV.cmpD.eq_2)) (And.intro (@DV.okB.eq_1) (@DV.okB.eq_2))) (And.intro (And.intro (@DV.okB.eq_3) (@DV.okB.eq_4)) (And.intro (@DV.okB.eq_5) (And.intro (@DV.okB.eq_6) (@DV.eqd.eq_1))))) (And.intro (And.intro (And.intro (@DV.eqd.eq_2) (@DV.eqd.eq_3)) (And.intro (@DV.eqd.eq_4) (And.intro (@DV.eqd.eq_5) (@DV.eqd.eq_6)))) (And.intro (And.intro (@DV.eqd.eq_7) (@DV.eqd.eq_8)) (And.intro (@DV.eqds.eq_1) (And.intro (@DV.eqds.eq_2) (@DV.eqds.eq_3)))))
end DV

namespace DV
open PySem L2
/-! ### what is pinned matters only where it is stored -/
mutual
def asgOf : S → List Nat
  | .asg tg _ => tgIx tg
  | .asgO i _ => [i]
  | .par is _ => is.map (·.1)
  | .ite _ a b => asgOfs a ++ asgOfs b
  | .whl _ b => asgOfs b
  | .for_ tg _ _ b => tgIx tg ++ asgOfs b
  | .grow _ _ _ _ tg _ _ _ _ => tgIx tg
  | .xex _ (.asg tg) => tgIx tg
  | .xex _ (.asgO i) => [i]
  | .try_ _ _ i b => [i] ++ asgOfs b
  | _ => []
def asgOfs : List S → List Nat
  | [] => []
  | s :: ss => asgOf s ++ asgOfs ss
end
theorem disjB_app {a b c : List Nat} (h : disjB (a ++ b) c = true) : disjB a c = true ∧ disjB b c = true := by
  simp only [disjB, List.all_append, Bool.and_eq_true] at h
  exact h
theorem forLoop_imp {tg : Tg} {f g : Ct → Option Out} (h : ∀ Γ o, f Γ = some o → g Γ = some o) : ∀ (ds : List D) (Γ : Ct) (o : Out), forLoop tg f ds Γ = some o → forLoop tg g ds Γ = some o
  | [], Γ, o, e => e
  | d :: ds, Γ, o, e => by
    simp only [forLoop] at e ⊢
    obtain ⟨Γ1, e1, e⟩ := Option.bind_eq_some_iff.mp e
    obtain ⟨o1, e2, e⟩ := Option.bind_eq_some_iff.mp e
    rw [e1]
    simp only [Option.bind_some]
    rw [h Γ1 o1 e2]
    simp only [Option.bind_some]
    cases o1 with
    | nx Γ2 => exact forLoop_imp h ds Γ2 o e
    | ct Γ2 => exact forLoop_imp h ds Γ2 o e
    | bk Γ2 => exact e
    | rt r Γ2 => exact e
    | xc c ks ds Γ2 => exact e
theorem whlLoop_imp {c : Ct → Option (Bool × Ct)} {f g : Ct → Option Out} (h : ∀ Γ o, f Γ = some o → g Γ = some o) : ∀ (n : Nat) (Γ : Ct) (o : Out), whlLoop c f n Γ = some o → whlLoop c g n Γ = some o
  | 0, Γ, o, e => e
  | n + 1, Γ, o, e => by
    simp only [whlLoop] at e ⊢
    obtain ⟨⟨b, Γ1⟩, e1, e⟩ := Option.bind_eq_some_iff.mp e
    rw [e1]
    simp only [Option.bind_some] at e ⊢
    cases b with
    | false => exact e
    | true =>
      simp only [if_true] at e ⊢
      obtain ⟨o1, e2, e⟩ := Option.bind_eq_some_iff.mp e
      rw [h Γ1 o1 e2]
      simp only [Option.bind_some]
      cases o1 with
      | nx Γ2 => exact whlLoop_imp h n Γ2 o e
      | ct Γ2 => exact whlLoop_imp h n Γ2 o e
      | bk Γ2 => exact e
      | rt r Γ2 => exact e
      | xc c ks ds Γ2 => exact e
mutual
theorem ex_pn {fs : List FS} {pn pn' : List Nat} : ∀ (s : S), disjB (asgOf s) pn' = true → ∀ (Γ : Ct) (o : Out), ex fs pn s Γ = some o → ex fs pn' s Γ = some o
  | .stuck, _, Γ, o, e => by simp only [ex, reduceCtorEq] at e
  | .pass, _, Γ, o, e => e
  | .brk, _, Γ, o, e => e
  | .cont, _, Γ, o, e => e
  | .retN, _, Γ, o, e => e
  | .asg tg a, h, Γ, o, e => by
    simp only [asgOf] at h
    simp only [ex] at e ⊢
    obtain ⟨⟨x, Γ1⟩, e1, e⟩ := Option.bind_eq_some_iff.mp e
    obtain ⟨⟨d, Γ2⟩, e2, e⟩ := Option.bind_eq_some_iff.mp e
    simp only [Option.ite_none_right_eq_some] at e
    simp only [e1, Option.bind_some, e2, h, if_true]
    exact e.2
  | .asgO i a, h, Γ, o, e => by
    simp only [asgOf] at h
    simp only [ex] at e ⊢
    obtain ⟨⟨x, Γ1⟩, e1, e⟩ := Option.bind_eq_some_iff.mp e
    simp only [e1, Option.bind_some]
    simp only at e
    cases x with
    | nw d =>
      simp only [Option.ite_none_right_eq_some] at e ⊢
      exact ⟨⟨e.1.1, h⟩, e.2⟩
    | fz d =>
      simp only at e ⊢
      obtain ⟨⟨d, Γ2⟩, e2, e⟩ := Option.bind_eq_some_iff.mp e
      simp only [e2, Option.bind_some, Option.ite_none_right_eq_some] at e ⊢
      exact ⟨⟨e.1.1, h⟩, e.2⟩
    | sl j =>
      simp only at e ⊢
      obtain ⟨⟨d, Γ2⟩, e2, e⟩ := Option.bind_eq_some_iff.mp e
      simp only [e2, Option.bind_some, Option.ite_none_right_eq_some] at e ⊢
      exact ⟨⟨e.1.1, h⟩, e.2⟩
  | .par is es, h, Γ, o, e => by
    simp only [asgOf] at h
    simp only [ex, Option.ite_none_right_eq_some] at e ⊢
    exact ⟨h, e.2⟩
  | .expr a, _, Γ, o, e => e
  | .app i a, _, Γ, o, e => e
  | .ext i a, _, Γ, o, e => e
  | .seti i k a, _, Γ, o, e => e
  | .ret a, _, Γ, o, e => e
  | .ite c a b, h, Γ, o, e => by
    simp only [asgOf] at h
    obtain ⟨h1, h2⟩ := disjB_app h
    simp only [ex] at e ⊢
    obtain ⟨⟨x, Γ1⟩, e1, e⟩ := Option.bind_eq_some_iff.mp e
    obtain ⟨t, e2, e⟩ := Option.bind_eq_some_iff.mp e
    simp only [e1, Option.bind_some, e2]
    simp only at e
    cases t with
    | true => exact exs_pn a h1 _ _ e
    | false => exact exs_pn b h2 _ _ e
  | .whl c b, h, Γ, o, e => by
    simp only [asgOf] at h
    simp only [ex] at e ⊢
    exact whlLoop_imp (fun Γ o => exs_pn b h Γ o) _ _ _ e
  | .for_ tg ik its b, h, Γ, o, e => by
    simp only [asgOf] at h
    obtain ⟨h1, h2⟩ := disjB_app h
    simp only [ex] at e ⊢
    obtain ⟨⟨xs, Γ1⟩, e1, e⟩ := Option.bind_eq_some_iff.mp e
    obtain ⟨⟨ds, Γ2⟩, e2, e⟩ := Option.bind_eq_some_iff.mp e
    simp only [Option.ite_none_right_eq_some] at e
    simp only [e1, Option.bind_some, e2, h1, if_true]
    exact forLoop_imp (fun Γ o => exs_pn b h2 Γ o) _ _ _ e.2
  | .setf c i nm a, _, Γ, o, e => e
  | .xapp a d, _, Γ, o, e => e
  | .grow c i nm e0 tg e1 e2 k a, h, Γ, o, e => by
    simp only [asgOf] at h
    simp only [ex] at e ⊢
    obtain ⟨⟨x, Γ1⟩, q1, e⟩ := Option.bind_eq_some_iff.mp e
    rw [q1]
    simp only [Option.bind_some] at e ⊢
    split at e
    · rename_i L0 c1 ks ds z
      simp only [Option.ite_none_right_eq_some] at e ⊢
      refine ⟨⟨e.1.1, e.1.2.1, e.1.2.2.1, e.1.2.2.2.1, ?_⟩, e.2⟩
      have h2 := e.1.2.2.2.2
      simp only [disjB, List.all_eq_true] at h h2 ⊢
      intro y hy
      have q2 := h y hy
      have q3 := h2 y hy
      simp only [List.contains_cons, Bool.not_or, Bool.and_eq_true] at q3 ⊢
      exact ⟨q3.1, q2⟩
    · cases e
  | .rse c ks es, _, Γ, o, e => e
  | .xex a .drop, _, Γ, o, e => e
  | .xex a .ret, _, Γ, o, e => e
  | .xex a (.asg tg), h, Γ, o, e => by
    simp only [asgOf] at h
    simp only [ex] at e ⊢
    obtain ⟨⟨x, Γ1⟩, e1, e⟩ := Option.bind_eq_some_iff.mp e
    rw [e1]
    simp only [Option.bind_some] at e ⊢
    split at e
    · exact e
    · obtain ⟨⟨d, Γ2⟩, e2, e⟩ := Option.bind_eq_some_iff.mp e
      simp only [Option.ite_none_right_eq_some] at e
      simp only [e2, Option.bind_some, h, if_true]
      exact e.2
  | .xex a (.asgO i), h, Γ, o, e => by
    simp only [asgOf] at h
    simp only [ex] at e ⊢
    obtain ⟨⟨x, Γ1⟩, e1, e⟩ := Option.bind_eq_some_iff.mp e
    rw [e1]
    simp only [Option.bind_some] at e ⊢
    split at e
    · exact e
    · split at e
      · simp only [Option.ite_none_right_eq_some] at e ⊢
        exact ⟨⟨e.1.1, h⟩, e.2⟩
      · obtain ⟨⟨d, Γ2⟩, e2, e⟩ := Option.bind_eq_some_iff.mp e
        simp only [e2, Option.bind_some, Option.ite_none_right_eq_some] at e ⊢
        exact ⟨⟨e.1.1, h⟩, e.2⟩
  | .try_ a all i b, h, Γ, o, e => by
    simp only [asgOf] at h
    obtain ⟨h1, h2⟩ := disjB_app h
    simp only [ex] at e ⊢
    obtain ⟨⟨x, Γ1⟩, e1, e⟩ := Option.bind_eq_some_iff.mp e
    rw [e1]
    simp only [Option.bind_some] at e ⊢
    split at e
    · simp only [Option.ite_none_right_eq_some] at e ⊢
      obtain ⟨⟨h3, _, h4⟩, e⟩ := e
      obtain ⟨o1, e2, e⟩ := Option.bind_eq_some_iff.mp e
      exact ⟨⟨h3, h1, h4⟩, by rw [exs_pn b h2 _ _ e2]; exact e⟩
    · exact e
theorem exs_pn {fs : List FS} {pn pn' : List Nat} : ∀ (ss : List S), disjB (asgOfs ss) pn' = true → ∀ (Γ : Ct) (o : Out), exs fs pn ss Γ = some o → exs fs pn' ss Γ = some o
  | [], _, Γ, o, e => e
  | s :: ss, h, Γ, o, e => by
    simp only [asgOfs] at h
    obtain ⟨h1, h2⟩ := disjB_app h
    simp only [exs] at e ⊢
    obtain ⟨o1, e1, e⟩ := Option.bind_eq_some_iff.mp e
    rw [ex_pn s h1 Γ o1 e1]
    simp only [Option.bind_some]
    cases o1 with
    | nx Γ1 => exact exs_pn ss h2 Γ1 o e
    | ct Γ2 => exact e
    | bk Γ2 => exact e
    | rt r Γ2 => exact e
    | xc c ks ds Γ2 => exact e
end
theorem exs_app {fs : List FS} {pn : List Nat} : ∀ {l1 l2 : List S} {Γ Γ1 : Ct}, exs fs pn l1 Γ = some (.nx Γ1) → exs fs pn (l1 ++ l2) Γ = exs fs pn l2 Γ1
  | [], l2, Γ, Γ1, h => by simp only [DV.exs.eq_1, Option.some.injEq, Out.nx.injEq] at h; rw [h]; rfl
  | s :: l1, l2, Γ, Γ1, h => by
    rw [List.cons_append]
    simp only [DV.exs.eq_2] at h ⊢
    obtain ⟨o, e1, h⟩ := Option.bind_eq_some_iff.mp h
    rw [e1]
    cases o with
    | nx Γ2 => exact exs_app h
    | bk _ => cases h
    | ct _ => cases h
    | rt _ _ => cases h
    | xc _ _ _ _ => cases h
/-- a def, whatever of its arguments is owned -/
theorem runF_pn {fs : List FS} {np n : Nat} {body : List S} {G0 : Ct} {o : Out} {r : RV × Ct} {pn : List Nat} (hl : G0.length = np) (hd : disjB (asgOfs body) (ownPs 0 G0) = true) (e : exs fs pn body (G0 ++ List.replicate (n - np) none) = some o) (f : DV.finish np G0 o = some r) : runF fs np n body G0 = some r :=
  runF_by hl (exs_pn body hd _ _ e) f
end DV

namespace DV
open PySem L2 PySem.Spec
/-! ### a op b op c op d -/
section
open PyProof.Rows
variable {X : Cx} {a b c d : Expr} {ta tb tc td : TE} {pos : Pos}
def tChain3 (r r' r'' : R2) (ta tb tc td : TE) : TE := fun σ H Q => ta σ H fun x H1 => tb σ H1 fun y H2 => r x y H2 fun z H3 => ∃ k, z = .bl k ∧
  (if k = true then tc σ H3 fun w' H4 => r' y w' H4 fun z' H5 => ∃ k', z' = .bl k' ∧ (if k' = true then td σ H5 fun u H6 => r'' w' u H6 Q else Q (.bl false) H5) else Q (.bl false) H3)
theorem pe_chain3 {op op' op'' : CmpOp} {r r' r'' : R2} (ho : OpR X (compareOp op) r) (ho' : OpR X (compareOp op') r') (ho'' : OpR X (compareOp op'') r'') (ha : PE X a ta) (hb : PE X b tb) (hc : PE X c tc) (hd : PE X d td)
    (hm : lastMarks [op, op', op''] [b, c, d] = false) : PE X (.Compare a [op, op', op''] [b, c, d] pos) (tChain3 r r' r'' ta tb tc td) := by
  refine ⟨fun pins s σ H Q I h => ?_⟩
  refine Compare_chain (thn (ha.run pins s σ H _ I h) fun v s1 ⟨x, H1, I1, r1, q1⟩ => chain_link (thn (hb.run pins s1 σ H1 _ I1 q1) fun u s2 ⟨y, H2, I2, r2, q2⟩ =>
    thn (ho pins s2 σ H2 x y v u _ I2 r1 r2 q2) fun d s3 ⟨z, H3, I3, r3, k, e, q3⟩ => ?_)) hm
  subst e
  cases r3
  refine wpAny_truthy_bool ?_
  cases k with
  | false => exact ite_ff ⟨.bl false, H3, I3, rfl, q3⟩
  | true =>
    refine ite_tt (chain_link (thn (hc.run pins s3 σ H3 _ I3 q3) fun w' s4 ⟨z', H4, I4, r4, q4⟩ => thn (ho' pins s4 σ H4 y z' u w' _ I4 r2 r4 q4) fun d' s5 ⟨z2, H5, I5, r5, k2, e2, q5⟩ => ?_))
    subst e2
    cases r5
    refine wpAny_truthy_bool ?_
    cases k2 with
    | false => exact ite_ff ⟨.bl false, H5, I5, rfl, q5⟩
    | true => exact ite_tt (chain_last (thn (hd.run pins s5 σ H5 _ I5 q5) fun w3 s6 ⟨z3, H6, I6, r6, q6⟩ => ho'' pins s6 σ H6 z' z3 w' w3 Q I6 r4 r6 q6))
end
section
variable {X : Cx} {g : Gx} {fs : List FS} {a b c d : Expr} {ia ib ic id' : E} {pos : Pos} {Bn : Addr → Prop} {Ow : List Addr} {H : Hp} {σ : St} {Γ Γ' : Ct}
theorem chain3_core {o1 o2 o3 : COp} {Q : VK} (rs : RS g Bn Ow H σ Γ) {r : RV} (he : ev fs (.chain3 o1 o2 o3 ia ib ic id') Γ = some (r, Γ')) (hQ : ∀ v H' Ow' (k : Bool), Stp Ow H Ow' H' → RS g Bn Ow' H' σ Γ' → v = .bl k → r = .fz (.bl k) → Q v H') :
    tChain3 (rCmp g o1) (rCmp g o2) (rCmp g o3) (tR g fs ia) (tR g fs ib) (tR g fs ic) (tR g fs id') σ H Q := by
  simp only [ev] at he
  obtain ⟨⟨x, Γ1⟩, e1, he⟩ := Option.bind_eq_some_iff.mp he
  obtain ⟨⟨y, Γ2⟩, e2, he⟩ := Option.bind_eq_some_iff.mp he
  obtain ⟨d, ed, he⟩ := Option.bind_eq_some_iff.mp he
  obtain ⟨e, ee, he⟩ := Option.bind_eq_some_iff.mp he
  obtain ⟨k, hb, he⟩ := Option.bind_eq_some_iff.mp he
  rw [← datum_dn] at ed ee
  refine tR_two rs e1 e2 fun v w H2 O2 s2 r2 v2 w2 => ⟨Av Bn O2, d, e, k, v2.rdb r2 ed, w2.rdb r2 ee, hb, k, rfl, ?_⟩
  cases k with
  | false =>
    simp only [Bool.false_eq_true, if_false, Option.some.injEq, Prod.mk.injEq] at he ⊢
    obtain ⟨rfl, rfl⟩ := he
    exact hQ _ H2 O2 false s2 r2 rfl rfl
  | true =>
    simp only [if_true] at he ⊢
    obtain ⟨⟨z, Γ3⟩, e3, he⟩ := Option.bind_eq_some_iff.mp he
    obtain ⟨e', ee', he⟩ := Option.bind_eq_some_iff.mp he
    obtain ⟨f, ef, he⟩ := Option.bind_eq_some_iff.mp he
    obtain ⟨k', hb', he⟩ := Option.bind_eq_some_iff.mp he
    rw [← datum_dn] at ee' ef
    refine tR_one r2 e3 fun u H3 O3 s3 r3 u3 => ⟨Av Bn O3, e', f, k', (w2.step s3 r3).rdb r3 ee', u3.rdb r3 ef, hb', k', rfl, ?_⟩
    cases k' with
    | false =>
      simp only [Bool.false_eq_true, if_false, Option.some.injEq, Prod.mk.injEq] at he ⊢
      obtain ⟨rfl, rfl⟩ := he
      exact hQ _ H3 O3 false (s2.trans s3) r3 rfl rfl
    | true =>
      simp only [if_true] at he ⊢
      obtain ⟨⟨u4, Γ4⟩, e4, he⟩ := Option.bind_eq_some_iff.mp he
      obtain ⟨f', ef', he⟩ := Option.bind_eq_some_iff.mp he
      obtain ⟨h, eh, he⟩ := Option.bind_eq_some_iff.mp he
      obtain ⟨k4, hb4, he⟩ := Option.map_eq_some_iff.mp he
      simp only [Prod.mk.injEq] at he
      obtain ⟨rfl, rfl⟩ := he
      rw [← datum_dn] at ef' eh
      exact tR_one r3 e4 fun v5 H5 O5 s5 r5 v6 => ⟨Av Bn O5, f', h, k4, (u3.step s5 r5).rdb r5 ef', v6.rdb r5 eh, hb4, hQ _ H5 O5 k4 ((s2.trans s3).trans s5) r5 rfl rfl⟩
theorem p_chain3 {o1 o2 o3 : COp} (C : Cok0 g X) (ha : PE X a (tR g fs ia)) (hb : PE X b (tR g fs ib)) (hc : PE X c (tR g fs ic)) (hd : PE X d (tR g fs id')) (hm : lastMarks [cmpOf o1, cmpOf o2, cmpOf o3] [b, c, d] = false) :
    PE X (.Compare a [cmpOf o1, cmpOf o2, cmpOf o3] [b, c, d] pos) (tR g fs (.chain3 o1 o2 o3 ia ib ic id')) := by
  refine PE.weak (pe_chain3 (op_cmp C.K C.hu o1) (op_cmp C.K C.hu o2) (op_cmp C.K C.hu o3) ha hb hc hd hm) ?_
  rintro σ H Q ⟨Bn, Ow, Γ, r, Γ', rs, he, hQ⟩
  exact chain3_core rs he fun v H1 O1 k s1 r1 e1 e2 => hQ v H1 O1 s1 r1 (by subst e1 e2; simp only [Val, Rep])
/-! ### xs[::-1] -/
theorem p_rev {k : Nat} {p1 p2 p3 : Pos} (C : Cok0 g X) (ha : PE X a (tR g fs ia)) : PE X (.Subscript a (.Slice none none (some (.UnaryOp .USub (.Constant (.int 1) k p1) p2)) p3) pos) (tR g fs (.rev ia)) := by
  refine PE.weak (PE.kf (pe_revL ha)) ?_
  rintro σ H Q ⟨Bn, Ow, Γ, r, Γ', rs, he, hQ⟩
  simp only [ev] at he
  obtain ⟨⟨x, Γ1⟩, e1, he⟩ := Option.bind_eq_some_iff.mp he
  obtain ⟨d, e2, he⟩ := Option.bind_eq_some_iff.mp he
  obtain ⟨d', e3, he⟩ := Option.map_eq_some_iff.mp he
  simp only [Prod.mk.injEq] at he
  obtain ⟨rfl, rfl⟩ := he
  refine ⟨Bn, Ow, Γ, x, Γ1, rs, e1, fun v H1 O1 s1 r1 v1 => ?_⟩
  have rd := v1.rdb r1 e2
  cases d <;> simp only [revD, reduceCtorEq, Option.some.injEq] at e3
  rename_i xs
  subst e3
  obtain ⟨p, vs, rfl, hp, rp⟩ := rd
  rw [C.K]
  refine ⟨p, vs, rfl, .inl (.inl hp), fun q hq kf => ?_⟩
  have sm : Same H1 (upd H1 q (.lst vs.reverse)) := same_new hq
  obtain ⟨O2, s2, r2, v2⟩ := Res.val (r := .nw (.lst xs.reverse)) r1 sm (new_lst hq (kf_new kf upd_same) rp.rev)
  exact hQ _ _ O2 (s1.trans s2) r2 v2
end
end DV

namespace DV
open PySem L2 PySem.Spec
/-! ### sorted pairs of ints -/
theorem insP_perm (p : Int × Int) : ∀ l, (insP p l).Perm (p :: l)
  | [] => .refl _
  | q :: r => by
    unfold insP
    split
    · exact .refl _
    · exact ((insP_perm p r).cons q).trans (.swap p q r)
theorem sortP_perm : ∀ l, (sortP l).Perm l
  | [] => .refl _
  | p :: r => (insP_perm p _).trans ((sortP_perm r).cons p)
theorem pLe_total (p q : Int × Int) (h : pLe p q = false) : pLe q p = true := by
  unfold pLe at *
  simp only [decide_eq_false_iff_not, decide_eq_true_eq] at *
  omega
theorem pLe_trans {p q r : Int × Int} (h1 : pLe p q = true) (h2 : pLe q r = true) : pLe p r = true := by
  unfold pLe at *
  simp only [decide_eq_true_eq] at *
  omega
theorem insP_sorted {p : Int × Int} : ∀ {l}, l.Pairwise (fun a b => pLe a b = true) → (insP p l).Pairwise (fun a b => pLe a b = true)
  | [], _ => by simp [insP]
  | q :: r, h => by
    obtain ⟨h1, h2⟩ := List.pairwise_cons.mp h
    unfold insP
    split
    · rename_i c
      refine List.pairwise_cons.mpr ⟨fun x m => ?_, h⟩
      rcases List.mem_cons.mp m with rfl | m
      · exact c
      · exact pLe_trans c (h1 x m)
    · rename_i c
      have c' := pLe_total p q (by simpa using c)
      refine List.pairwise_cons.mpr ⟨fun x m => ?_, insP_sorted h2⟩
      rcases List.mem_cons.mp ((insP_perm p r).mem_iff.mp m) with rfl | m
      · exact c'
      · exact h1 x m
theorem sortP_sorted : ∀ l, (sortP l).Pairwise (fun a b => pLe a b = true)
  | [] => by simp [sortP]
  | p :: r => insP_sorted (sortP_sorted r)
theorem sorted_uniq : ∀ {l m : List (Int × Int)}, l.Perm m → l.Pairwise (fun a b => pLe a b = true) → m.Pairwise (fun a b => pLe a b = true) → l = m
  | [], m, h, _, _ => h.symm.eq_nil.symm
  | x :: l, [], h, _, _ => absurd h.length_eq (by simp)
  | x :: l, y :: m, h, h1, h2 => by
    obtain ⟨a1, a2⟩ := List.pairwise_cons.mp h1
    obtain ⟨b1, b2⟩ := List.pairwise_cons.mp h2
    have e : x = y := by
      rcases List.mem_cons.mp (h.mem_iff.mp List.mem_cons_self) with e | m1
      · exact e
      · rcases List.mem_cons.mp (h.symm.mem_iff.mp List.mem_cons_self) with e | m2
        · exact e.symm
        · have q1 := b1 x m1
          have q2 := a1 y m2
          unfold pLe at q1 q2
          simp only [decide_eq_true_eq] at q1 q2
          exact Prod.ext (by omega) (by omega)
    subst e
    rw [sorted_uniq h.cons_inv a2 b2]
theorem pairs_reps {g : Gx} {A : Addr → Prop} {H : Hp} : ∀ {ds : List D} {vs : List V} {ps : List (Int × Int)}, Reps g A H ds vs → pairsD ds = some ps → Paired (fun p v => ∃ t, v = V.ref t ∧ ¬ A t ∧ SqT g.K H t [.int p.1, .int p.2]) ps vs
  | [], vs, ps, h, e => by
    simp only [pairsD, Option.some.injEq] at e
    simp only [Reps] at h
    subst e h
    exact .nil
  | d :: ds, vs, ps, h, e => by
    simp only [Reps] at h
    obtain ⟨v, r, rfl, h1, h2⟩ := h
    match d, e with
    | .tup [.int i, .int j], e =>
      simp only [pairsD] at e
      obtain ⟨ps', e1, rfl⟩ := Option.map_eq_some_iff.mp e
      simp only [Rep, Reps] at h1
      obtain ⟨a, ws, rfl, na, sq, w1, r1, rfl, rfl, w2, r2, rfl, rfl, rfl⟩ := h1
      exact .cons ⟨a, rfl, na, sq⟩ (pairs_reps h2 e1)
theorem paired_map {α β : Type} {R : α → β → Prop} {f : β → α} (h : ∀ p v, R p v → f v = p) : ∀ {ps : List α} {vs : List β}, Paired R ps vs → vs.map f = ps
  | _, _, .nil => rfl
  | _, _, .cons q r => by rw [List.map_cons, h _ _ q, paired_map h r]
theorem paired_mem {α β : Type} {R : α → β → Prop} : ∀ {ps : List α} {vs : List β}, Paired R ps vs → ∀ v ∈ vs, ∃ p, R p v
  | _, _, .nil, v, m => by cases m
  | p :: _, _, .cons q r, v, m => by
    rcases List.mem_cons.mp m with rfl | m
    · exact ⟨p, q⟩
    · exact paired_mem r v m
theorem paired_map' {α β : Type} {R : α → β → Prop} {f : β → α} : ∀ {ps : List α} {vs : List β}, Paired R ps vs → (∀ v ∈ vs, ∀ p, R p v → f v = p) → vs.map f = ps
  | _, _, .nil, _ => rfl
  | _, _, .cons q r, h => by rw [List.map_cons, h _ List.mem_cons_self _ q, paired_map' r fun v m => h v (List.mem_cons_of_mem _ m)]
theorem reps_pairs {g : Gx} {A : Addr → Prop} {H : Hp} (k : V → Int × Int) : ∀ {ys : List V}, (∀ y ∈ ys, ∃ t, y = V.ref t ∧ ¬ A t ∧ SqT g.K H t [.int (k y).1, .int (k y).2]) → Reps g A H ((ys.map k).map fun p => .tup [.int p.1, .int p.2]) ys
  | [], _ => by simp [Reps]
  | y :: ys, h => by
    obtain ⟨t, e, na, sq⟩ := h y List.mem_cons_self
    simp only [List.map_cons, Reps]
    refine ⟨y, ys, rfl, ?_, reps_pairs k fun z m => h z (List.mem_cons_of_mem _ m)⟩
    simp only [Rep, Reps]
    exact ⟨t, _, e, na, sq, _, _, rfl, rfl, _, _, rfl, rfl, rfl⟩
section
variable {X : Cx} {g : Gx}
open Classical in
theorem b_sortp (hK : X.K = g.K) : CallR X (.builtin "sorted") (rBi g .sortp) := by
  intro pins s σ H vs us Q I r h
  obtain ⟨A, ds, r0, hp, tr, hb, hQ⟩ := h
  match ds, hb with
  | [d], hb =>
    obtain ⟨v, rfl, q⟩ := paired1 hp
    simp only [biD] at hb
    obtain ⟨d', hb1, rfl⟩ := Option.map_eq_some_iff.mp hb
    obtain ⟨xs, rfl⟩ : ∃ xs, d = .lst xs := by
      cases d with
      | lst xs => exact ⟨xs, rfl⟩
      | _ => simp [sortD] at hb1
    simp only [sortD] at hb1
    obtain ⟨ps, e1, rfl⟩ := Option.map_eq_some_iff.mp hb1
    obtain ⟨a, ws, rfl, ha, rp⟩ := q
    have pr := pairs_reps rp e1
    rw [← hK] at pr
    have hs : SqL X.K H a ws := .inl (.inl ha)
    let k : V → Int × Int := fun w => if h : ∃ p : Int × Int, ∃ t, w = V.ref t ∧ ¬ A t ∧ SqT X.K H t [.int p.1, .int p.2] then h.choose else (0, 0)
    have hk : ∀ w ∈ ws, ∃ t, w = V.ref t ∧ ¬ A t ∧ SqT X.K H t [.int (k w).1, .int (k w).2] := by
      intro w hw
      have ex := paired_mem pr w hw
      have e : k w = ex.choose := dif_pos ex
      rw [e]
      exact ex.choose_spec
    have ek : ws.map k = ps := paired_map' pr fun w hw p ⟨t, e, _, sq⟩ => by
      obtain ⟨t', e', _, sq'⟩ := hk w hw
      rw [e] at e'; cases e'
      have := I.tuple_inj sq' sq
      simp only [List.cons.injEq, V.int.injEq, and_true] at this
      exact Prod.ext this.1 this.2
    obtain ⟨its, rv, hl, hz⟩ := I.list hs
    obtain ⟨u, rfl, ru⟩ := vals1 r
    obtain rfl : u = Value.ref a := ru
    obtain ⟨f1, f2⟩ := refs_back rv fun x m => by
      obtain ⟨t, e, _⟩ := hk x m
      exact ⟨t, e⟩
    refine SrtO.sorted_pairsO (k := fun u => k (backV u)) hl.isList (by rw [← rv.length]; exact hz) (fun v hv => ?_) fun h' d out h1 h2 kp hd hn => ?_
    · obtain ⟨t, rfl⟩ := f2 v hv
      have hm : V.ref t ∈ ws := by rw [f1]; exact List.mem_map.mpr ⟨_, hv, rfl⟩
      obtain ⟨t', e, _, ht⟩ := hk _ hm
      cases e
      obtain ⟨its2, r2, ⟨o, ho, hc, n, hd⟩, _⟩ := I.tuple ht
      obtain ⟨u1, u2, rfl, ri, rj⟩ := vals2 r2
      obtain ⟨t1, rfl⟩ := ri
      obtain ⟨t2, rfl⟩ := rj
      exact ⟨t, o, t1, t2, n, rfl, ho, hc, hd⟩
    · have h3 : ∀ u ∈ out, ∃ a, u = Value.ref a := fun u hu => f2 u (h2.perm.mem_iff.mp hu)
      obtain ⟨n, hn⟩ := hn
      have hb : SrtO.Stb (ltP k) (out.map backV) ws := by
        rw [f1]
        exact SrtO.Stb.map (ltP_swo k) backV h2
      have I' := I.laid (t' := s.toks) kp hd (o := .lst (out.map backV)) ⟨by rw [hb.len]; exact hz, out, n, vals_back h3, hn⟩
      have hsr : SrtO.Srtd (ltP k) (out.map backV) := SrtO.srtd_map h1
      have nd := I.hok.fresh hd
      refine ⟨.ref d, upd H d (.lst (out.map backV)), I', rfl, hQ _ _ (same_new nd) ?_⟩
      have kf : g.K.lookup d = none := by rw [← hK]; exact kf_new (Inv.kf I') upd_same
      have es : sortP ps = (out.map backV).map k := by
        refine sorted_uniq ((sortP_perm ps).trans (by rw [← ek]; exact (hb.perm.map k).symm)) (sortP_sorted ps) ?_
        rw [List.pairwise_map]
        refine hsr.imp fun {x y} h => ?_
        have := SrtO.lexB_no.mp h
        unfold pLe
        rw [decide_eq_true_eq]
        omega
      rw [es]
      refine new_lst nd kf (reps_pairs k fun y hy => ?_)
      rw [← hK]
      exact hk y (hb.perm.mem_iff.mp hy)
variable {fs : List FS} {e : Expr} {es : List Expr} {ies : List E} {p pos : Pos}
theorem k_sortp (C : Cok0 g X) (ha : PA X (e :: es) (tAs g fs ies)) (he : starEach (e :: es) X.env = (false, eval e X.env) :: starEach es X.env) (hpl : (backTo pos (starEach es X.env)).any (·.1) = false) (hm : X.mg "sorted" = none) (hg : Gl X "sorted") : PE X (.Call (.Name "sorted" p) (e :: es) [] pos) (tR g fs (.bi .sortp ies)) :=
  p_biB (b_sortp C.K) hg hm PyProof.Rows.boot_sorted ha (by decide) (by decide) he hpl
/-! ### X.append(constant), X new -/
theorem RS.updO {Bn : Addr → Prop} {Ow : List Addr} {H : Hp} {σ : St} {Γ : Ct} {p : Addr} {o : HO} (rs : RS g Bn Ow H σ Γ) (hp : p ∈ Ow) (no : ∀ (i : Nat) e, Γ[i]? = some (some (e, true)) → σ[i]? ≠ some (some (.ref p))) (ho : LI (upd H p o) p) : RS g Bn Ow (upd H p o) σ Γ ∧ Stp Ow H Ow (upd H p o) := by
  have v := ban_vst (g := g) (H := H) (o := o) (A := Av Bn Ow) (p := p) (.inr hp)
  refine ⟨⟨rs.len, fun i d h => ?_, fun i d h => ?_, rs.dist, fun a h => ?_, rs.sep, rs.kf, rs.tabs.upd (rs.trl p (.inr hp))⟩, ⟨fun b x h _ n => ?_, fun _ h => .inl h⟩⟩
  · obtain ⟨w, e, q⟩ := rs.slot i d h; exact ⟨w, e, rep_mono v _ _ q⟩
  · obtain ⟨a, e, m, q⟩ := rs.own i d h
    have ne : a ≠ p := fun z => by subst z; exact no i d h e
    refine ⟨a, e, m, ?_⟩
    cases d with
    | lst ds => obtain ⟨ws, z1, z2⟩ := q; exact ⟨ws, by rw [upd_ne ne]; exact z1, reps_mono v _ _ z2⟩
    | obj c ks ds => obtain ⟨dx, ws, l, z1, z2⟩ := q; exact ⟨dx, ws, l, by rw [upd_ne ne]; exact z1, reps_mono v _ _ z2⟩
    | _ => exact q
  · exact (rs.trl a h).upd fun _ => ho
  · have z : b ≠ p := fun z => n (by rw [z]; exact hp)
    rw [upd_ne z]; exact h
theorem s_xapp {o e : Expr} {io : E} {d : D} {v : V} {apos cpos : Pos} (C : Cok0 g X) (ho : PE X o (tR g fs io)) (he : PE X e (tC v)) (hbase : attributeBase o "append" X.env (eval o X.env) = eval o X.env)
    (hline : (apos.endLine == cpos.line) = true) (hs : starEach [e] X.env = [(false, eval e X.env)]) (hsw : swapsWith (.Call (.Attribute o "append" apos) [e] [] cpos) none pos.line X.env = pure false) :
    PS X (.Expr (.Call (.Attribute o "append" apos) [e] [] cpos) pos) (tSt g Wx fs (.xapp io d)) := by
  refine PS.weak (ps_expr (pe_bm PySem.F.plainAttrs_list PySem.F.slot_list_append PySem.F.type_list_append mt_append ho (pa_cons he pa_nil (by rw [hs]; rfl)) hbase (by rw [hs]; rfl) hline (by rw [hs]; rfl) rfl) hsw) ?_
  rintro Dn σ H ⟨pv, Bn, Ow, Γ, o, rs, pn, he, po⟩
  simp only [ex] at he
  obtain ⟨⟨x, Γ1⟩, e1, he⟩ := Option.bind_eq_some_iff.mp he
  match x, he, e1 with
  | .nw (.lst xs), he, e1 =>
    simp only [Option.ite_none_right_eq_some, Option.some.injEq] at he
    obtain ⟨⟨hz, hf⟩, rfl⟩ := he
    refine ⟨Bn, Ow, Γ, _, Γ1, rs, e1, fun w H1 O1 s1 r1 vl => ?_⟩
    obtain ⟨a, rfl, m, ⟨ws, ha, rp⟩, no⟩ := vl
    refine ⟨by rw [C.K]; exact .inl ⟨rfl, ws, .inl (.inl ha)⟩, ?_⟩
    obtain ⟨r2, s2⟩ := r1.updO (o := .lst (ws ++ [v])) m no (.inl ⟨_, upd_same⟩)
    exact ⟨a, ws, v, rfl, rfl, ha, by rw [← rp.len]; exact hz, po _ _ O1 (s1.trans s2) r2 pn⟩
end
/-! ### an empty dict, as a datum that says nothing -/
theorem p_dct {X : Cx} {g : Gx} {fs : List FS} {pos : Pos} : PE X (.Dict [] [] pos) (tR g fs .dct) := by
  refine PE.weak pe_dnewK ?_
  rintro σ H Q ⟨Bn, Ow, Γ, r, Γ', rs, he, hQ⟩
  simp only [ev, Option.some.injEq, Prod.mk.injEq] at he
  obtain ⟨rfl, rfl⟩ := he
  intro p hp
  have sm : Same H (upd H p (.dK [])) := same_new hp
  refine hQ _ _ Ow (.same sm) (rs.same sm) ?_
  simp only [Val, Rep]
  exact ⟨p, rfl, fun z => rs.trk p z hp, upd_same⟩
end DV

namespace DV
open PySem L2
/-! ### an argument that was only read comes back as it was handed over -/
mutual
/-- no list and no object inside -/
def noL : D → Bool
  | .lst _ => false
  | .obj _ _ _ => false
  | .scr _ => false
  | .dct => false
  | .dic _ _ => false
  | .exc _ _ _ => false
  | .err _ _ _ => false
  | .tup ds => noLs ds
  | _ => true
def noLs : List D → Bool
  | [] => true
  | d :: ds => noL d && noLs ds
end
section
variable {g : Gx} {A : Addr → Prop} {H : Hp} {a : Addr} {ws : List V}
theorem sqT_ne {t : Addr} {vs : List V} (ha : H a = some (.lst ws)) (hk : g.K.lookup a = none) (h : SqT g.K H t vs) : t ≠ a := by
  intro z
  subst z
  rcases h with (h | ⟨o, h⟩) | ⟨o, _, _, h, _⟩
  · rw [ha] at h; cases h
  · rw [ha] at h; cases h
  · rw [hk] at h; cases h
mutual
theorem noL_rep (ha : H a = some (.lst ws)) (hk : g.K.lookup a = none) : ∀ (d : D) (v : V), noL d = true → Rep g A H d v → Rep g (fun x => A x ∨ x = a) H d v
  | .non, _, _, h => by simpa [Rep] using h
  | .bl _, _, _, h => by simpa [Rep] using h
  | .int _, _, _, h => by simpa [Rep] using h
  | .str _, _, _, h => by simpa [Rep] using h
  | .lst ds, v, n, h => by simp [noL] at n
  | .scr ns, v, n, h => by simp [noL] at n
  | .dct, v, n, h => by simp [noL] at n
  | .dic _ _, v, n, h => by simp [noL] at n
  | .exc _ _ _, v, n, h => by simp [noL] at n
  | .err _ _ _, v, n, h => by simp [noL] at n
  | .obj c ks ds, v, n, h => by simp [noL] at n
  | .tup ds, v, n, h => by
    simp only [Rep] at h ⊢
    simp only [noL] at n
    obtain ⟨t, vs, e, na, s, r⟩ := h
    exact ⟨t, vs, e, fun z => z.elim na (sqT_ne ha hk s), s, noLs_reps ha hk ds vs n r⟩
theorem noLs_reps (ha : H a = some (.lst ws)) (hk : g.K.lookup a = none) : ∀ (ds : List D) (vs : List V), noLs ds = true → Reps g A H ds vs → Reps g (fun x => A x ∨ x = a) H ds vs
  | [], _, _, h => by simpa [Reps] using h
  | d :: ds, _, n, h => by
    simp only [Reps] at h ⊢
    simp only [noLs, Bool.and_eq_true] at n
    obtain ⟨v, r, e, h1, h2⟩ := h
    exact ⟨v, r, e, noL_rep ha hk d v n.1 h1, noLs_reps ha hk ds r n.2 h2⟩
end
end
def resOk : RV → Bool
  | .fz d => noL d
  | .nw (.lst ds) => noLs ds
  | _ => false
/-- the other slots: owned ones hold lists of plain items and come back owned -/
def othOk (i : Nat) : Nat → Ct → Ct → Bool
  | _, [], [] => true
  | j, x :: xs, y :: ys => (match x, y with
    | some (_, true), some (.lst ds, true) => decide (j = i) || noLs ds
    | some (_, true), _ => decide (j = i)
    | some (_, false), some _ => true
    | _, _ => false) && othOk i (j + 1) xs ys
  | _, _, _ => false
def putBack (i : Nat) (ds : List D) : Nat → Ct → Ct → Ct
  | j, x :: xs, y :: ys => (if j = i then some (.lst ds, true) else match x with
    | some (_, true) => y
    | _ => x) :: putBack i ds (j + 1) xs ys
  | _, _, _ => []
def reown (i : Nat) (F : FS) : FS := fun G => (F G).bind fun (r, os) => match G[i]?, os[i]? with
  | some (some (_, true)), some (some (.lst ds, false)) => if resOk r && noLs ds && othOk i 0 G os then some (r, putBack i ds 0 G os) else some (r, os)
  | _, _ => some (r, os)
theorem putBack_get (i : Nat) (ds : List D) : ∀ {n j : Nat} {G os : Ct} {p : D × Bool}, othOk i n G os = true → (putBack i ds n G os)[j]? = some (some p) → (n + j = i ∧ p = (.lst ds, true)) ∨ (n + j ≠ i ∧ ((∃ c es, G[j]? = some (some (c, true)) ∧ os[j]? = some (some (.lst es, true)) ∧ noLs es = true ∧ p = (.lst es, true)) ∨ (∃ c, G[j]? = some (some (c, false)) ∧ p = (c, false))))
  | n, j, [], [], p, _, h => by simp [putBack] at h
  | n, j, [], y :: ys, p, q, h => by simp [othOk] at q
  | n, j, x :: xs, [], p, q, h => by simp [othOk] at q
  | n, 0, x :: xs, y :: ys, p, q, h => by
    simp only [putBack, List.getElem?_cons_zero, Option.some.injEq] at h
    by_cases e : n = i
    · rw [if_pos e] at h
      simp only [Option.some.injEq] at h
      exact .inl ⟨by omega, h.symm⟩
    · rw [if_neg e] at h
      simp only [othOk, Bool.and_eq_true] at q
      refine .inr ⟨by omega, ?_⟩
      match x, y, q.1, h with
      | some (c, true), some (.lst es, true), q1, h =>
        simp only [Bool.or_eq_true, decide_eq_true_eq] at q1
        simp only [Option.some.injEq] at h
        exact .inl ⟨c, es, rfl, rfl, q1.resolve_left e, h.symm⟩
      | some (c, false), some y', q1, h =>
        simp only [Option.some.injEq] at h
        exact .inr ⟨c, rfl, h.symm⟩
      | some (c, true), none, q1, h => simp at q1; exact absurd q1 e
      | some (c, true), some (.non, _), q1, h => simp at q1; exact absurd q1 e
      | some (c, true), some (.bl _, _), q1, h => simp at q1; exact absurd q1 e
      | some (c, true), some (.int _, _), q1, h => simp at q1; exact absurd q1 e
      | some (c, true), some (.str _, _), q1, h => simp at q1; exact absurd q1 e
      | some (c, true), some (.tup _, _), q1, h => simp at q1; exact absurd q1 e
      | some (c, true), some (.obj _ _ _, _), q1, h => simp at q1; exact absurd q1 e
      | some (c, true), some (.scr _, _), q1, h => simp at q1; exact absurd q1 e
      | some (c, true), some (.dct, _), q1, h => simp at q1; exact absurd q1 e
      | some (c, true), some (.dic _ _, _), q1, h => simp at q1; exact absurd q1 e
      | some (c, true), some (.exc _ _ _, _), q1, h => simp at q1; exact absurd q1 e
      | some (c, true), some (.err _ _ _, _), q1, h => simp at q1; exact absurd q1 e
      | some (c, true), some (.lst _, false), q1, h => simp at q1; exact absurd q1 e
      | some (c, false), none, q1, h => simp at q1
      | none, _, q1, h => simp at q1
  | n, j + 1, x :: xs, y :: ys, p, q, h => by
    simp only [putBack, List.getElem?_cons_succ] at h
    simp only [othOk, Bool.and_eq_true] at q
    have := putBack_get i ds (n := n + 1) (j := j) q.2 h
    simp only [List.getElem?_cons_succ]
    rw [show n + (j + 1) = n + 1 + j by omega]
    exact this
theorem putBack_len (i : Nat) (ds : List D) : ∀ {n : Nat} {G os : Ct}, othOk i n G os = true → (putBack i ds n G os).length = G.length
  | n, [], [], _ => rfl
  | n, [], y :: ys, q => by simp [othOk] at q
  | n, x :: xs, [], q => by simp [othOk] at q
  | n, x :: xs, y :: ys, q => by
    simp only [othOk, Bool.and_eq_true] at q
    simp only [putBack, List.length_cons, putBack_len i ds q.2]
theorem spF_reown {g : Gx} {n i : Nat} {F : FS} {vs : List V} {H : Hp} {Q : VK} {E : XK} (h : spF g n (reown i F) vs H Q E) : spF g n F vs H Q E := by
  obtain ⟨hl, Bn, Ow, Γ, r, os, rs, ef, nr, hQ⟩ := h
  simp only [reown] at ef
  obtain ⟨⟨r1, os1⟩, e1, ef⟩ := Option.bind_eq_some_iff.mp ef
  have plain : some (r1, os1) = some (r, os) → spF g n F vs H Q E := fun z => by
    simp only [Option.some.injEq, Prod.mk.injEq] at z
    obtain ⟨rfl, rfl⟩ := z
    exact ⟨hl, Bn, Ow, Γ, _, _, rs, e1, nr, hQ⟩
  simp only at ef
  split at ef
  · rename_i c ds hG hO
    split at ef
    · rename_i cond
      simp only [Bool.and_eq_true] at cond
      obtain ⟨⟨c1, c2⟩, c3⟩ := cond
      simp only [Option.some.injEq, Prod.mk.injEq] at ef
      obtain ⟨rfl, rfl⟩ := ef
      refine ⟨hl, Bn, Ow, Γ, _, _, rs, e1, nr, fun v H' O' st ro vl => ?_⟩
      obtain ⟨a, ea, ma, _⟩ := rs.own i _ hG
      obtain ⟨v', ev', rp⟩ := ro.slot i _ hO
      rw [ea] at ev'
      cases ev'
      simp only [Rep] at rp
      obtain ⟨a', ws, e2, na, ha, rp⟩ := rp
      cases e2
      have hk : g.K.lookup a = none := rs.kf a (.inr ma)
      have naO : a ∉ O' := fun z => na (.inr z)
      have naB : ¬ Bn a := fun z => na (.inl z)
      have av : ∀ x, Av Bn (a :: O') x → Av Bn O' x ∨ x = a := fun x z => by
        rcases z with z | z
        · exact .inl (.inl z)
        · rcases List.mem_cons.mp z with z | z
          · exact .inr z
          · exact .inl (.inr z)
      have inner : ∀ {ds : List D} {us : List V}, noLs ds = true → Reps g (Av Bn O') H' ds us → Reps g (Av Bn (a :: O')) H' ds us := fun n r => reps_less av (noLs_reps ha hk _ _ n r)
      have stp : Stp Ow H (a :: O') H' := ⟨st.keep0, fun x z => (List.mem_cons.mp z).elim (fun z => .inl (by rw [z]; exact ma)) (st.grow x)⟩
      have kf2 : ∀ x, x ∈ a :: O' → g.K.lookup x = none := fun x z => (List.mem_cons.mp z).elim (fun z => by rw [z]; exact hk) fun z => ro.kf x (.inr z)
      refine hQ v H' (a :: O') stp ⟨?_, fun j d h => ?_, fun j d h => ?_, fun j k d e x h1 h2 h3 h4 => ?_, fun x z => ?_, fun x z w => ?_, fun x z => ?_, ro.tabs⟩ ?_
      · rw [putBack_len i ds c3]; exact rs.len
      · rcases putBack_get i ds c3 h with ⟨_, z⟩ | ⟨_, ⟨_, _, _, _, _, z⟩ | ⟨c', z1, z2⟩⟩
        · cases z
        · cases z
        · cases z2
          obtain ⟨w, e3, rp3⟩ := rs.slot j _ z1
          exact ⟨w, e3, rep_mono (step_vst stp kf2) _ _ rp3⟩
      · rcases putBack_get i ds c3 h with ⟨z0, z⟩ | ⟨z0, ⟨c', es, z1, z2, z3, z⟩ | ⟨c', z1, z2⟩⟩
        · cases z
          obtain rfl : j = i := by omega
          exact ⟨a, ea, List.mem_cons_self, ws, ha, inner c2 rp⟩
        · cases z
          obtain ⟨b, e3, m3, us, hb, rb⟩ := ro.own j _ z2
          exact ⟨b, e3, List.mem_cons_of_mem _ m3, us, hb, inner z3 rb⟩
        · cases z2
      · have one : ∀ {j : Nat} {d : D}, (putBack i ds 0 Γ os1)[j]? = some (some (d, true)) → (vs.map some)[j]? = some (some (.ref x)) → (j = i ∧ x = a) ∨ (x ∈ O' ∧ ∃ d', os1[j]? = some (some (d', true))) := fun {j d} h1 h3 => by
          rcases putBack_get i ds c3 h1 with ⟨z0, z⟩ | ⟨z0, ⟨c', es, z1, z2, z3, z⟩ | ⟨c', z1, z2⟩⟩
          · obtain rfl : j = i := by omega
            rw [ea] at h3; cases h3
            exact .inl ⟨rfl, rfl⟩
          · obtain ⟨b, e3, m3, _⟩ := ro.own j _ z2
            rw [h3] at e3; cases e3
            exact .inr ⟨m3, _, z2⟩
          · cases z2
        rcases one h1 h3 with ⟨q1, q2⟩ | ⟨q1, d1, q2⟩
        · rcases one h2 h4 with ⟨q3, q4⟩ | ⟨q3, d2, q4⟩
          · omega
          · rw [q2] at q3; exact absurd q3 naO
        · rcases one h2 h4 with ⟨q3, q4⟩ | ⟨q3, d2, q4⟩
          · rw [q4] at q1; exact absurd q1 naO
          · exact ro.dist j k _ _ x q2 q4 h3 h4
      · rcases z with z | z
        · exact ro.trl x (.inl z)
        · rcases List.mem_cons.mp z with z | z
          · rw [z]; exact .inl ⟨_, ha⟩
          · exact ro.trl x (.inr z)
      · rcases List.mem_cons.mp w with w | w
        · rw [w] at z; exact naB z
        · exact ro.sep x z w
      · rcases z with z | z
        · exact ro.kf x (.inl z)
        · exact kf2 x z
      · match r1, c1, vl with
        | .fz d, c1, vl => exact rep_less av (noL_rep ha hk _ _ c1 vl)
        | .nw (.lst es), c1, vl =>
          obtain ⟨p, e3, m3, ⟨us, hb, rb⟩, no⟩ := vl
          refine ⟨p, e3, List.mem_cons_of_mem _ m3, ⟨us, hb, inner c1 rb⟩, fun j d h1 h2 => ?_⟩
          rcases putBack_get i ds c3 h1 with ⟨z0, z⟩ | ⟨z0, ⟨c', es', z1, z2, z3, z⟩ | ⟨c', z1, z2⟩⟩
          · obtain rfl : j = i := by omega
            rw [ea] at h2; cases h2
            exact naO m3
          · exact no j _ z2 h2
          · cases z2
    · exact plain ef
  · exact plain ef
theorem fnok_reown {P : Program} {w : World} {g : Gx} {mg : Str → Option Value} {base : Heap} {k n : Nat} {f : Addr} {fd : FuncData} {ps : List Str} {F : FS} (i : Nat) (h : FnOk P w g.K mg base CX0 k f fd ps (spF g n F)) : FnOk P w g.K mg base CX0 k f fd ps (spF g n (reown i F)) :=
  ⟨fun vs H Q E q => h.len vs H Q E (spF_reown q), fun A outer s H args us vs Q E hr he hb hv hs => h.run A outer s H args us vs Q E hr he hb hv (spF_reown hs)⟩
end DV

namespace DV
/-- further evaluation equations -/
def SX := And.intro (@DV.tupGt.eq_1) <| And.intro (@DV.cmpD.eq_13) <| And.intro (@DV.ev.eq_36) <| And.intro (@DV.ev.eq_37) <| And.intro (@DV.ev.eq_38) <| And.intro (@DV.ev.eq_39) <| And.intro (@DV.biD.eq_23) <| And.intro (@DV.biD.eq_24) <| And.intro (@DV.lstOf.eq_1) <| And.intro (@DV.ev.eq_35) <| And.intro (@DV.isLD.eq_1) <| And.intro (@DV.idxD.eq_1) <| And.intro (@DV.ev.eq_32) <| And.intro (@DV.ev.eq_33) <| And.intro (@DV.ev.eq_34) <| And.intro (@DV.mxdD.eq_1) <| And.intro (@DV.cntD.eq_1) <| And.intro (@DV.ev.eq_27) (And.intro (@DV.ev.eq_28) (And.intro (@DV.ev.eq_29) (And.intro (@DV.ev.eq_30) (And.intro (@DV.ev.eq_31) (And.intro (@DV.rnglD.eq_1) (And.intro (@DV.tupOf.eq_1) (And.intro (@DV.tneD.eq_1) (And.intro (@DV.tneD.eq_2) (And.intro (@DV.trueR.eq_1) (And.intro (@DV.ex.eq_18) (And.intro (@DV.revD.eq_1) (And.intro (@DV.biD.eq_20) (@DV.sortD.eq_1)))))))))))))
end DV


namespace DV
open PySem L2 PySem.Spec
section
variable {X : Cx} {g : Gx} {fs : List FS} {a b : Expr} {ia ib : E} {pos p p2 pos2 : Pos}
theorem reps_rg {A : Addr → Prop} {H : Hp} : ∀ (n : Nat) (lo : Int) (f : Nat → V), (∀ i, f i = .int (lo + (i : Nat))) → Reps g A H (rngD lo 1 n) ((List.range n).map f)
  | 0, lo, f, _ => by simp [rngD, Reps]
  | n + 1, lo, f, h => by
    rw [List.range_succ_eq_map, List.map_cons, List.map_map, rngD]
    simp only [Reps]
    refine ⟨_, _, rfl, ?_, reps_rg n (lo + 1) _ fun i => ?_⟩
    · rw [h 0]; simp [Rep]
    · show f (i + 1) = _
      rw [h (i + 1)]
      congr 1
      omega
/-- list(range(a, b)) -/
theorem p_rngl (C : Cok g X) (hg : Gl X "list") (hm : X.mg "list" = none) (hg2 : Gl X "range") (hm2 : X.mg "range" = none) (ha : PE X a (tR g fs ia)) (hb : PE X b (tR g fs ib)) (na : starEach [a, b] X.env = (false, eval a X.env) :: starEach [b] X.env)
    (nb : starEach [b] X.env = (false, eval b X.env) :: starEach [] X.env) (hp : (backTo pos2 (starEach [b] X.env)).any (·.1) = false)
    (nc : starEach [.Call (.Name "range" p2) [a, b] [] pos2] X.env = (false, eval (.Call (.Name "range" p2) [a, b] [] pos2) X.env) :: starEach [] X.env) : PE X (.Call (.Name "list" p) [.Call (.Name "range" p2) [a, b] [] pos2] [] pos) (tR g fs (.rngl ia ib)) := by
  refine PE.weak (PE.kf (pe_listRg C.calm hg hm (prg_2 hg2 hm2 ha hb na nb hp) nc)) ?_
  rintro σ H Q ⟨Bn, Ow, Γ, r, Γ', rs, he, hQ⟩
  simp only [ev] at he
  obtain ⟨⟨x, Γ1⟩, e1, he⟩ := Option.bind_eq_some_iff.mp he
  obtain ⟨⟨y, Γ2⟩, e2, he⟩ := Option.bind_eq_some_iff.mp he
  obtain ⟨d, ed, he⟩ := Option.bind_eq_some_iff.mp he
  obtain ⟨e, ee, he⟩ := Option.bind_eq_some_iff.mp he
  obtain ⟨ds, h6, he⟩ := Option.map_eq_some_iff.mp he
  simp only [Prod.mk.injEq] at he
  obtain ⟨rfl, rfl⟩ := he
  rw [← datum_dn] at ed ee
  rw [C.K]
  refine tR_two rs e1 e2 fun v w H2 O2 s2 r2 v2 w2 => ?_
  have q1 := v2.rdb r2 ed
  have q2 := w2.rdb r2 ee
  cases d with
  | int i =>
    cases e with
    | int j =>
      simp only [rnglD] at h6
      split at h6
      · rename_i hc
        simp only [Bool.and_eq_true, decide_eq_true_eq] at hc
        cases h6
        have t1 := in62_of hc.1.1
        have t2 := in62_of hc.1.2
        refine ⟨i, j, rdb_int q1, rdb_int q2, ⟨t1.1, t1.2, t2.1, t2.2, by have := hc.2; omega⟩, fun q hq kf => ?_⟩
        have sm : Same H2 (upd H2 q (.lst (rgV i j))) := same_new hq
        obtain ⟨O3, s3, r3, v3⟩ := Res.val (r := .nw (.lst (rngD i 1 (j - i).toNat))) r2 sm (new_lst hq (kf_new kf upd_same) (reps_rg _ i _ fun _ => rfl))
        exact hQ _ _ O3 (s2.trans s3) r3 v3
      · cases h6
    | _ => simp only [rnglD, reduceCtorEq] at h6
  | _ => simp only [rnglD, reduceCtorEq] at h6
end
end DV

namespace DV
open PySem L2 PySem.Spec
section
variable {X : Cx} {g : Gx} {fs : List FS} {pos : Pos}
theorem VlN.same {Bn : Addr → Prop} {Ow : List Addr} {H H' : Hp} {σ : St} {Γ : Ct} (s : Same H H') : ∀ {xs : List RV} {vs : List V}, VlN g Bn Ow H σ Γ xs vs → VlN g Bn Ow H' σ Γ xs vs
  | [], _, h => h
  | x :: xs, _, ⟨v, r, e, h1, h2, h3, h4⟩ => by
    refine ⟨v, r, e, ?_, h2, h3, VlN.same s h4⟩
    cases x with
    | fz d => exact Rep.same h1 s
    | nw d => obtain ⟨a, e1, m1, o1, n1⟩ := h1; exact ⟨a, e1, m1, o1.same s, n1⟩
    | sl i => exact (h3 i rfl).elim
/-- x, y = a, b over a new tuple: new lists stay owned -/
theorem s_parT2 {i j : Nat} {bi bj : Bool} {x y : Str} {a b : Expr} {ia ib : E} {px py pt : Pos} {kt k2 pt2} (C : Cok0 g X) (ha : PA X [a, b] (tAn g fs [(i, bi), (j, bj)] [ia, ib])) (hg : PG X (.Tuple [.Name x px, .Name y py] kt pt) (tgT g.K (.tp [.nm i, .nm j])))
    (hs : swapsWithSole [.Tuple [.Name x px, .Name y py] kt pt] (.Tuple [a, b] k2 pt2) pos.line X.env = pure false) (hw : swappedStores [.Tuple [.Name x px, .Name y py] kt pt] (.Tuple [a, b] k2 pt2) X.env = pure none)
    (h1 : (assignEach [.Tuple [.Name x px, .Name y py] kt pt] X.env).map (·.2) = [assign (.Tuple [.Name x px, .Name y py] kt pt) X.env]) :
    PS X (.Assign [.Tuple [.Name x px, .Name y py] kt pt] (.Tuple [a, b] k2 pt2) pos) (tSt g Wx fs (.par [(i, bi), (j, bj)] [ia, ib])) := by
  refine PS.weak (ps_asg (pe_tup ha) hg hs hw h1) ?_
  intro Dn σ H q
  obtain ⟨pv, Bn, Ow, Γ, o, rs, pn, he, po⟩ := q
  simp only [ex, Option.ite_none_right_eq_some] at he
  obtain ⟨dj, he⟩ := he
  obtain ⟨⟨ys, Γ2⟩, e1, he⟩ := Option.bind_eq_some_iff.mp he
  obtain ⟨Γ3, e2, rfl⟩ := Option.map_eq_some_iff.mp he
  refine ⟨Bn, Ow, Γ, ys, Γ2, rs, e1, fun vs H1 O1 s1 r1 v1 => ?_⟩
  have hl : vs.length = 2 := by rw [← v1.len, ← parS_len e2]; rfl
  refine ⟨by rw [hl, sizeLine_eq]; decide, fun p hp => ?_⟩
  have sm : Same H1 (upd H1 p (.tup vs)) := same_new hp
  obtain ⟨v, w, rfl⟩ : ∃ v w, vs = [v, w] := by
    match vs, hl with
    | [v, w], _ => exact ⟨v, w, rfl⟩
  obtain ⟨r2, p2⟩ := parS_ok (r1.same sm) (v1.same sm) e2 pn dj
  simp only [tgT, tgT.tgTs]
  refine ⟨p, [v, w], rfl, .inl (.inl upd_same), rfl, v, [w], rfl, w, [], rfl, rfl, ?_⟩
  exact po _ _ O1 (s1.trans (.same sm)) r2 p2
end
end DV

namespace DV
open PySem L2 PySem.Spec
/-! ### a list in a field of a new object grows -/
theorem putF_new {nm : Str} {v : V} : ∀ {ks : List Str} {vs : List V}, ks.length = vs.length → ks.contains nm = false → putF nm v (ks.zip vs) = (ks ++ [nm]).zip (vs ++ [v])
  | [], vs, l, _ => by
    have : vs = [] := by cases vs with | nil => rfl | cons _ _ => simp at l
    subst this; rfl
  | k :: ks, [], l, _ => by simp at l
  | k :: ks, u :: vs, l, h => by
    simp only [List.contains_cons, Bool.or_eq_false_iff] at h
    have hk : ¬ k = nm := fun z => by rw [z] at h; simp at h
    simp only [List.zip_cons_cons, putF, List.cons_append]
    rw [if_neg (by first | exact hk | simpa using hk), putF_new (by simpa using l) h.2]
theorem lookup_newF {nm : Str} {v : V} {ks : List Str} {vs : List V} (l : ks.length = vs.length) (h : ks.contains nm = false) : ((ks ++ [nm]).zip (vs ++ [v])).lookup nm = some v := by
  rw [List.zip_append l, List.lookup_append, lookup_no h]
  simp
theorem Stp.cons {O O' : List Addr} {H H' : Hp} (s : Stp O H O' H') (p : Addr) : Stp (p :: O) H (p :: O') H' where
  keep0 := fun a o h t n => s.keep0 a o h t fun z => n (List.mem_cons_of_mem _ z)
  grow := fun a h => by
    rcases List.mem_cons.mp h with h | h
    · exact .inl (by rw [h]; exact List.mem_cons_self)
    · rcases s.grow a h with z | z
      · exact .inl (List.mem_cons_of_mem _ z)
      · exact .inr z
theorem stp_upd {O : List Addr} {H : Hp} {p : Addr} {o : HO} (h : p ∈ O) : Stp O H O (upd H p o) where
  keep0 := fun a x e _ n => by rw [upd_ne (fun z => n (by rw [z]; exact h))]; exact e
  grow := fun _ h => .inl h
section
variable {g : Gx} {Bn : Addr → Prop} {Ow Ow' : List Addr} {H H' : Hp} {σ : St} {Γ Γ' : Ct}
theorem RS.drop (rs : RS g Bn Ow H σ Γ) (i : Nat) : RS g Bn Ow H σ (Γ.set i none) := by
  have low : ∀ {j : Nat} {p : D × Bool}, (Γ.set i none)[j]? = some (some p) → Γ[j]? = some (some p) := fun {j p} h => by
    by_cases hj : i = j
    · subst hj
      by_cases hl : i < Γ.length
      · rw [List.getElem?_set_self hl] at h; cases h
      · rw [List.getElem?_eq_none (by rw [List.length_set]; omega)] at h; cases h
    · rw [List.getElem?_set_ne hj] at h; exact h
  exact ⟨by rw [List.length_set]; exact rs.len, fun j d h => rs.slot j d (low h), fun j d h => rs.own j d (low h), fun j k d e a h1 h2 => rs.dist j k d e a (low h1) (low h2), rs.trl, rs.sep, rs.kf, rs.tabs⟩
/-- what stands while the list grows -/
structure GrowS (g : Gx) (B : Addr → Prop) (p L dx : Addr) (c : Nat) (ks : List Str) (ds : List D) (nm : Str) (O : List Addr) (H : Hp) (Ls : List D) : Prop where
  bp : B p
  bL : B L
  ne : L ≠ p
  self : ∃ vs, ks.length = vs.length ∧ H p = some (.ins (g.cl c) dx ((ks ++ [nm]).zip (vs ++ [.ref L]))) ∧ Reps g (Av B O) H ds vs
  list : ∃ ws, H L = some (.lst ws) ∧ Reps g (Av B O) H Ls ws
theorem GrowS.step {B : Addr → Prop} {p L dx : Addr} {c : Nat} {ks : List Str} {ds : List D} {nm : Str} {Ls : List D} (G : GrowS g B p L dx c ks ds nm Ow H Ls) (sp : ∀ a, B a → a ∉ Ow) (s : Stp Ow H Ow' H') (rs : RS g B Ow' H' σ Γ) : GrowS g B p L dx c ks ds nm Ow' H' Ls := by
  obtain ⟨vs, l, h, r⟩ := G.self
  obtain ⟨ws, h2, r2⟩ := G.list
  exact ⟨G.bp, G.bL, G.ne, ⟨vs, l, s.keep _ _ h (sp _ G.bp), r.step s rs⟩, ⟨ws, s.keep _ _ h2 (sp _ G.bL), r2.step s rs⟩⟩
theorem GrowS.app {B : Addr → Prop} {p L dx : Addr} {c : Nat} {ks : List Str} {ds : List D} {nm : Str} {Ls : List D} {d : D} {v : V} {ws : List V} (G : GrowS g B p L dx c ks ds nm Ow H Ls) (hw : H L = some (.lst ws)) (r : Rep g (Av B Ow) H d v) : GrowS g B p L dx c ks ds nm Ow (upd H L (.lst (ws ++ [v]))) (Ls ++ [d]) := by
  obtain ⟨vs, l, h, r1⟩ := G.self
  obtain ⟨ws', h2, r2⟩ := G.list
  rw [hw] at h2; cases h2
  have vst := ban_vst (g := g) (H := H) (o := .lst (ws ++ [v])) (A := Av B Ow) (p := L) (.inl G.bL)
  exact ⟨G.bp, G.bL, G.ne, ⟨vs, l, by rw [upd_ne (fun z => G.ne z.symm)]; exact h, reps_mono vst _ _ r1⟩, ⟨_, upd_same, reps_mono vst _ _ (r2.app (Reps.one r))⟩⟩
end
section
variable {X : Cx} {g : Gx} {fs : List FS}
theorem ss_grow {c i k n lv : Nat} {nm : Str} {o0 o1 o2 e0 l l2 : Expr} {es elts : List Expr} {rest : List Stmt} {ie0 ie1 ie2 : E} {ies : List E} {ir : List S} {itg : Tg} {F : FS} {x : Str} {j1} {kk} {tpos0 pos0 tpos pz posz pa1 apos px pa2 pc1 pu1 psb cpos cpos2 spos pos : Pos}
    (C : Cok g X) (ho0 : PE X o0 (tVar i)) (he0 : PE X e0 (tR g fs ie0)) (hc : Cls g.K (g.cl c) ∧ NoAttr g.K (g.cl c) nm) (hs0 : swapsWith e0 (some (.Attribute o0 nm tpos0)) pos0.line X.env = pure false)
    (hp : PassesOwn (model X.prog X.w) X.A X.env X.xe) (hg1 : Gl X "zip") (hm1 : X.mg "zip" = none) (hz : PA X [l, l2] (tAs g fs [ie1, ie2])) (hz1 : starEach [l, l2] X.env = (false, eval l X.env) :: starEach [l2] X.env) (hz2 : (backTo posz (starEach [l2] X.env)).any (·.1) = false)
    (hg : PG X (.Tuple elts kk tpos) (tgT g.K itg)) (hfs : ∀ x, foldedSetIterable (.Call (.Name "zip" pz) [l, l2] [] posz) X.env x = pure x)
    (ho1 : PE X o1 (tVar i)) (hb1 : attributeBase o1 nm X.env (eval o1 X.env) = eval o1 X.env) (ho2 : PE X o2 (tVar i)) (hb2 : attributeBase o2 nm X.env (eval o2 X.env) = eval o2 X.env)
    (cal : Cal X.prog X.w X.mg X.base g lv x n F) (hF : fs[k]? = some F) (hn : ies.length + 1 = n) (hr : Room lv X.A) (hgx : Gl X x) (ha : PA X es (tAw g fs ies))
    (hdb : (x == ("__debug__" : Str)) = false) (hplx : PlainIx (.UnaryOp .USub (.Constant (.int 1) j1 pc1) pu1))
    (hst : starEach (.Subscript (.Attribute o2 nm pa2) (.UnaryOp .USub (.Constant (.int 1) j1 pc1) pu1) psb :: es) X.env = (false, eval (.Subscript (.Attribute o2 nm pa2) (.UnaryOp .USub (.Constant (.int 1) j1 pc1) pu1) psb) X.env) :: starEach es X.env) (hpl : (backTo cpos (starEach es X.env)).any (·.1) = false)
    (hbase : attributeBase (.Attribute o1 nm pa1) "append" X.env (eval (.Attribute o1 nm pa1) X.env) = eval (.Attribute o1 nm pa1) X.env) (hline : (apos.endLine == cpos2.line) = true)
    (hs : starEach [.Call (.Name x px) (.Subscript (.Attribute o2 nm pa2) (.UnaryOp .USub (.Constant (.int 1) j1 pc1) pu1) psb :: es) [] cpos] X.env = [(false, eval (.Call (.Name x px) (.Subscript (.Attribute o2 nm pa2) (.UnaryOp .USub (.Constant (.int 1) j1 pc1) pu1) psb :: es) [] cpos) X.env)])
    (hsw : swapsWith (.Call (.Attribute (.Attribute o1 nm pa1) "append" apos) [.Call (.Name x px) (.Subscript (.Attribute o2 nm pa2) (.UnaryOp .USub (.Constant (.int 1) j1 pc1) pu1) psb :: es) [] cpos] [] cpos2) none spos.line X.env = pure false)
    (hrest : PSs X rest (tSs g Wx fs ir)) :
    PSs X (.Assign [.Attribute o0 nm tpos0] e0 pos0 :: .For (.Tuple elts kk tpos) (.Call (.Name "zip" pz) [l, l2] [] posz) [.Expr (.Call (.Attribute (.Attribute o1 nm pa1) "append" apos) [.Call (.Name x px) (.Subscript (.Attribute o2 nm pa2) (.UnaryOp .USub (.Constant (.int 1) j1 pc1) pu1) psb :: es) [] cpos] [] cpos2) spos] [] pos :: rest)
      (tSs g Wx fs (.grow c i nm ie0 itg ie1 ie2 k ies :: ir)) := by
  obtain ⟨f, fd, ps, c1, c2, c3, c4⟩ := cal.ex
  rw [← C.K] at c2 c3 c4
  refine PSs.weak (pss_cons (ps_fld ho0 he0 hs0) (pss_cons (ps_for hp C.calm (pi_zip hg1 hm1 hz hz1 hz2) hg
    (pss_one (ps_expr (pe_bm PySem.F.plainAttrs_list PySem.F.slot_list_append PySem.F.type_list_append mt_append (pe_fld ho1 hb1)
      (pa_cons (pe_call c4 hr hgx c1 c2 c3 .nil pass0 (pa_cons (pe_ix ix_list (pe_fld ho2 hb2) (pe_un un_neg pe_int) hplx) ha hst) hdb hst hpl) pa_nil (by rw [hs]; rfl)) hbase (by rw [hs]; rfl) hline (by rw [hs]; rfl) rfl) hsw)) hfs) hrest)) ?_
  rintro Dn σ H ⟨pv, Bn, Ow, Γ, o, rs, pn, he, po⟩
  simp only [exs, ex] at he
  obtain ⟨oo, e0', he⟩ := Option.bind_eq_some_iff.mp he
  obtain ⟨⟨x0, Γ1⟩, e1, e0'⟩ := Option.bind_eq_some_iff.mp e0'
  simp only at e0'
  split at e0'
  rotate_left
  · cases e0'
  rename_i L0 cc ks ds hΓi
  simp only [Option.ite_none_right_eq_some] at e0'
  obtain ⟨⟨hcc, kl, kd, kn, dj⟩, e0'⟩ := e0'
  subst hcc
  obtain ⟨⟨xs, Γ2⟩, e2, e0'⟩ := Option.bind_eq_some_iff.mp e0'
  obtain ⟨⟨zs, Γ3⟩, e3, e0'⟩ := Option.bind_eq_some_iff.mp e0'
  obtain ⟨F', e4, e0'⟩ := Option.bind_eq_some_iff.mp e0'
  rw [hF] at e4; cases e4
  obtain ⟨⟨Lf, Γ4⟩, e5, e0'⟩ := Option.map_eq_some_iff.mp e0'
  subst e0'
  simp only at he e2 e3 e5
  refine ⟨Bn, Ow, Γ, _, Γ1, rs, e1, fun v H1 O1 s1 r1 vl => ?_⟩
  obtain ⟨L, rfl, mL, ⟨ws0, hL0, rL0⟩, noL⟩ := vl
  obtain ⟨p, ep, mp, dx, vs0, lv0, hp0, rp0⟩ := r1.own i _ hΓi
  rw [C.K]
  refine ⟨_, ep, p, g.cl cc, dx, ks.zip vs0, rfl, hp0, hc.1, hc.2, by rw [List.length_zip]; omega, ?_⟩
  rw [putF_new lv0 kn]
  have neL : L ≠ p := fun z => by subst z; rw [hL0] at hp0; cases hp0
  have hil : i < Γ1.length := (List.getElem?_eq_some_iff.mp hΓi).1
  have low : ∀ {j : Nat} {q : D × Bool}, (Γ1.set i none)[j]? = some (some q) → i ≠ j ∧ Γ1[j]? = some (some q) := fun {j q} h => by
    by_cases hj : i = j
    · subst hj; rw [List.getElem?_set_self hil] at h; cases h
    · rw [List.getElem?_set_ne hj] at h; exact ⟨hj, h⟩
  have r2 := (r1.drop i).ban (d := .non) mp fun j e h1 h2 => (low h1).1 (r1.dist i j _ _ p hΓi (low h1).2 ep h2)
  have r3 := r2.ban (d := .non) (p := L) (ne_mem mL neL) fun j e h1 h2 => noL j e (low h1).2 h2
  have r4 := r3.updB (p := p) (o := .ins (g.cl cc) dx ((ks ++ [nm]).zip (vs0 ++ [.ref L]))) (.inl (.inr rfl)) (.inr ⟨_, _, _, upd_same⟩)
  generalize hB : orB (orB Bn p) L = B at r3 r4
  generalize hO : (O1.filter (fun x => decide (x ≠ p))).filter (fun x => decide (x ≠ L)) = O3 at r3 r4
  have bp : B p := by rw [← hB]; exact .inl (.inr rfl)
  have bL : B L := by rw [← hB]; exact .inr rfl
  have kB : ∀ a, Av B O3 a → Av Bn O1 a := fun a z => by
    rw [← hB, ← hO] at z
    rcases z with ((z | z) | z) | z
    · exact .inl z
    · rw [z]; exact .inr mp
    · rw [z]; exact .inr mL
    · exact .inr (mem_ne (mem_ne z).1).1
  have vst := ban_vst (g := g) (H := H1) (o := .ins (g.cl cc) dx ((ks ++ [nm]).zip (vs0 ++ [.ref L]))) (A := Av B O3) (p := p) (.inl bp)
  have G0 : GrowS g B p L dx cc ks ds nm O3 (upd H1 p (.ins (g.cl cc) dx ((ks ++ [nm]).zip (vs0 ++ [.ref L])))) L0 :=
    ⟨bp, bL, neL, ⟨vs0, lv0, upd_same, reps_mono vst _ _ (reps_less kB rp0)⟩, ⟨ws0, by rw [upd_ne neL]; exact hL0, reps_mono vst _ _ (reps_less kB rL0)⟩⟩
  have s4 : Stp O1 H1 (p :: L :: O3) (upd H1 p (.ins (g.cl cc) dx ((ks ++ [nm]).zip (vs0 ++ [.ref L])))) := ⟨fun a o h _ n => by rw [upd_ne (fun z => n (by rw [z]; exact mp))]; exact h, fun a h => .inl (by
    rcases List.mem_cons.mp h with h | h
    · rw [h]; exact mp
    · rcases List.mem_cons.mp h with h | h
      · rw [h]; exact mL
      · rw [← hO] at h; exact (mem_ne (mem_ne h).1).1)⟩
  refine ⟨B, O3, Γ1.set i none, xs, Γ2, r4, e2, fun vs H5 O5 s5 r5 v5 => ?_⟩
  simp only [evs] at e2
  obtain ⟨⟨x1, G1⟩, e6, e2⟩ := Option.bind_eq_some_iff.mp e2
  obtain ⟨⟨ys, G2⟩, e7, e2⟩ := Option.map_eq_some_iff.mp e2
  obtain ⟨⟨x2, G3⟩, e8, e7⟩ := Option.bind_eq_some_iff.mp e7
  simp only [Option.map_some, Option.some.injEq, Prod.mk.injEq] at e7 e2
  obtain ⟨rfl, rfl⟩ := e7
  obtain ⟨rfl, rfl⟩ := e2
  simp only [iterD] at e3
  obtain ⟨⟨d, F1⟩, e9, e3⟩ := Option.bind_eq_some_iff.mp e3
  obtain ⟨⟨e, F2⟩, e10, e3⟩ := Option.bind_eq_some_iff.mp e3
  cases d <;> cases e <;> simp only [reduceCtorEq, Option.some.injEq, Prod.mk.injEq] at e3
  rename_i D1 _ D2
  obtain ⟨rfl, rfl⟩ := e3
  obtain ⟨v, w, rfl, v1, w', w'', rfl, v2, z⟩ := v5
  have z : w'' = [] := z
  subst z
  rw [← fre_dn] at e9 e10
  obtain ⟨O6, s6, r6, rp⟩ := fre_ok r5 v1 e9
  obtain ⟨O7, s7, r7, rq⟩ := fre_ok r6 (v2.step s6 r6) e10
  have rp := rp.step s7 r7
  have G7 := G0.step r4.sep ((s5.trans s6).trans s7) r7
  have ra := rp
  have rb := rq
  simp only [Rep] at ra rb
  obtain ⟨a, va, rfl, na, hva, rra⟩ := ra
  obtain ⟨b, vb, rfl, nb, hvb, rrb⟩ := rb
  refine ⟨a, b, va, vb, rfl, .inl (.inl hva), .inl (.inl hvb), ?_⟩
  have S7 : Stp Ow H (p :: L :: O7) H5 := (s1.trans s4).trans ((((s5.trans s6).trans s7).cons L).cons p)
  have hip : i ∉ tgIx itg := fun z => by
    have := List.all_eq_true.mp dj _ z
    simp at this
  have djp : disjB (tgIx itg) (pv.2.map (·.1)) = true := List.all_eq_true.mpr fun y hy => by
    have := List.all_eq_true.mp dj y hy
    simp only [List.contains_cons, Bool.not_or, Bool.and_eq_true] at this
    exact this.2
  let C1 : Nat → St → Hp → Prop := fun m σ2 H2 => ∃ O2 G2 Ls, Stp (p :: L :: O7) H5 (p :: L :: O2) H2 ∧ RS g B O2 H2 σ2 G2 ∧ Pin pv σ2 ∧ σ2[i]? = some (some (.ref p)) ∧ GrowS g B p L dx cc ks ds nm O2 H2 Ls ∧ Rep g (Av B O2) H2 (.lst D1) (.ref a) ∧ Rep g (Av B O2) H2 (.lst D2) (.ref b) ∧ growLoop itg F (evs fs ies) ((zipD D1 D2).drop m) Ls G2 = some (Lf, Γ4)
  refine ⟨fun m r σ2 H2 => r = (zipD D1 D2).length - m ∧ m ≤ (zipD D1 D2).length ∧ C1 m σ2 H2, ⟨(zipD D1 D2).length, by simp, Nat.zero_le _, O7, _, L0, .refl _ _, r7, pn, ep, G7, rp, rq, e5⟩, ?_⟩
  rintro m r σ2 H2 ⟨rfl, hle, O2, G2, Ls, s2', r2', p2', ei, GS, qa, qb, l2'⟩
  have qa' := qa
  have qb' := qb
  simp only [Rep] at qa' qb'
  obtain ⟨a', wa, ea', nwa, hwa, rwa⟩ := qa'
  obtain ⟨b', wb, eb', nwb, hwb, rwb⟩ := qb'
  cases ea'; cases eb'
  by_cases hlt : m < (zipD D1 D2).length
  · have hlt2 := hlt
    rw [zipD_len] at hlt2
    have hm1 : m < wa.length := by rw [← rwa.len]; omega
    have hm2 : m < wb.length := by rw [← rwb.len]; omega
    refine .inr ⟨⟨wa, wb, wa[m], wb[m], .inl (.inl hwa), .inl (.inl hwb), List.getElem?_eq_getElem hm1, List.getElem?_eq_getElem hm2⟩, fun σ' H' => C1 (m + 1) σ' H', fun σ' H' q => ⟨(zipD D1 D2).length - (m + 1), by omega, rfl, hlt, q⟩, fun x' H3 y' => ?_⟩
    have edr : (zipD D1 D2).drop m = (zipD D1 D2)[m] :: (zipD D1 D2).drop (m + 1) := List.drop_eq_getElem_cons hlt
    rw [edr] at l2'
    simp only [growLoop] at l2'
    obtain ⟨G3', a1, l2'⟩ := Option.bind_eq_some_iff.mp l2'
    obtain ⟨ll, a2, l2'⟩ := Option.bind_eq_some_iff.mp l2'
    obtain ⟨⟨ys, G4'⟩, a3, l2'⟩ := Option.bind_eq_some_iff.mp l2'
    obtain ⟨⟨rr, G5'⟩, a4, l2'⟩ := Option.bind_eq_some_iff.mp l2'
    obtain ⟨⟨yd, G6'⟩, a5, l2'⟩ := Option.bind_eq_some_iff.mp l2'
    simp only [Option.ite_none_right_eq_some] at l2'
    obtain ⟨hsz, l2'⟩ := l2'
    obtain ⟨T, v', w', rfl, nT, e0, y1, y2⟩ := y'
    obtain ⟨p1, q1', e1', e2', ez⟩ := zipD_get (List.getElem?_eq_getElem hlt)
    obtain ⟨u1, e3', rr1⟩ := rwa.get e1'
    obtain ⟨u2, e4', rr2⟩ := rwb.get e2'
    have e5' := y1 wa (.inl (.inl hwa))
    have e6' := y2 wb (.inl (.inl hwb))
    rw [e3'] at e5'; cases e5'
    rw [e4'] at e6'; cases e6'
    obtain ⟨sm, rx⟩ := tup2 nT e0 r2'.trk rr1 rr2
    rw [← ez] at rx
    have r3' := r2'.same sm
    have GS3 := GS.step r2'.sep (Stp.same sm) r3'
    refine asgT_ok itg r3' rx a1 fun σ3 q1 q2 q3 => ?_
    have ei3 : σ3[i]? = some (some (.ref p)) := by rw [q3 i hip]; exact ei
    obtain ⟨fv, lfv, hp3, rfv⟩ := GS3.self
    obtain ⟨lw, hL3, rlw⟩ := GS3.list
    refine ⟨_, ei3, p, g.cl cc, dx, _, .ref L, rfl, hp3, hc.1, hc.2, lookup_newF lfv kn, ?_⟩
    refine ⟨.inl ⟨rfl, lw, .inl (.inl hL3)⟩, ?_⟩
    have hll : atI lw (-1) = some (lw.getLast?.getD .non) ∧ Rep g (Av B O2) H3 ll (lw.getLast?.getD .non) := by
      have hne : Ls ≠ [] := fun z => by rw [z] at a2; cases a2
      obtain ⟨Li, rfl⟩ : ∃ Li, Ls = Li ++ [ll] := ⟨Ls.dropLast, by rw [List.getLast?_eq_getLast hne, Option.some.injEq] at a2; rw [← a2, List.dropLast_concat_getLast]⟩
      obtain ⟨vl, g1, g2⟩ := rlw.get (i := Li.length) (d := ll) (by simp)
      have hlen := rlw.len
      rw [List.length_append, List.length_singleton] at hlen
      have : lw = lw.take Li.length ++ [vl] := by
        apply List.ext_getElem?
        intro q
        by_cases hq : q < Li.length
        · rw [List.getElem?_append_left (by rw [List.length_take]; omega), List.getElem?_take_of_lt hq]
        · by_cases hq2 : q = Li.length
          · subst hq2
            rw [g1, List.getElem?_append_right (by rw [List.length_take]; omega), List.length_take]
            rw [show Li.length - min Li.length lw.length = 0 by omega]; rfl
          · rw [List.getElem?_eq_none (by omega), List.getElem?_eq_none (by simp; omega)]
      rw [this, List.getLast?_concat]
      exact ⟨atI_last _ _, g2⟩
    refine ⟨_, ei3, p, g.cl cc, dx, _, .ref L, rfl, hp3, hc.1, hc.2, lookup_newF lfv kn, 1, rfl, L, lw, _, _, rfl, rfl, .inl (.inl hL3), hll.1, ?_⟩
    refine ⟨B, O2, G3', ys, G4', q1, a3, fun vs H6 O6 s6' r6' v6 => ?_⟩
    have rl6 := hll.2.step s6' r6'
    have GS6 := GS3.step q1.sep s6' r6'
    show spF g n F (_ ++ []) H6 _ _
    rw [List.append_nil]
    refine callD_core (xs := .fz ll :: ys) r6' ⟨_, vs, rfl, rl6, nofun, v6⟩ a4 ?_ fun u H7 O7' s7' r7' v7 => ?_
    · rw [List.length_cons, ← v6.len, ← evs_len a3]; exact hn
    obtain ⟨O8, s8, r8, rp8⟩ := fre_ok r7' v7 a5
    have GS8 := GS6.step r6'.sep (s7'.trans s8) r8
    obtain ⟨lw8, hL8, rlw8⟩ := GS8.list
    refine ⟨L, lw8, u, rfl, rfl, hL8, by rw [← rlw8.len]; exact hsz, ?_⟩
    have st8 : Stp O2 H2 O8 H7 := (Stp.same sm).trans (s6'.trans (s7'.trans s8))
    have vst8 := ban_vst (g := g) (H := H7) (o := .lst (lw8 ++ [u])) (A := Av B O8) (p := L) (.inl bL)
    refine ⟨O8, G6', Ls ++ [yd], s2'.trans (((st8.cons L).cons p).trans (stp_upd (List.mem_cons_of_mem _ List.mem_cons_self))), r8.updB bL (.inl ⟨_, upd_same⟩), p2'.keep djp q2 q3, ei3, GS8.app hL8 rp8, rep_mono vst8 _ _ (qa.step st8 r8), rep_mono vst8 _ _ (qb.step st8 r8), l2'⟩
  · have e : m = (zipD D1 D2).length := by omega
    subst e
    rw [List.drop_length] at l2'
    simp only [growLoop, Option.some.injEq, Prod.mk.injEq] at l2'
    obtain ⟨rfl, rfl⟩ := l2'
    refine .inl ⟨⟨wa, wb, .inl (.inl hwa), .inl (.inl hwb), by rw [zipD_len, ← rwa.len, ← rwb.len]; omega⟩, ?_⟩
    have nbp : ¬ Bn p := fun z => r1.sep p z mp
    have nbL : ¬ Bn L := fun z => r1.sep L z mL
    obtain ⟨fv, lfv, hp3, rfv⟩ := GS.self
    obtain ⟨lw, hL3, rlw⟩ := GS.list
    have npO : p ∉ O2 := r2'.sep p bp
    have nLO : L ∉ O2 := r2'.sep L bL
    have kA : ∀ a, Av Bn (p :: O2) a → Av B O2 a := fun a z => by
      rcases z with z | z
      · exact .inl (by rw [← hB]; exact .inl (.inl z))
      · rcases List.mem_cons.mp z with z | z
        · rw [z]; exact .inl bp
        · exact .inr z
    have nAL : ¬ Av Bn (p :: O2) L := fun z => by
      rcases z with z | z
      · exact nbL z
      · rcases List.mem_cons.mp z with z | z
        · exact neL z
        · exact nLO z
    have rLf : Rep g (Av Bn (p :: O2)) H2 (.lst Ls) (.ref L) := by
      simp only [Rep]
      exact ⟨L, lw, rfl, nAL, hL3, reps_less kA rlw⟩
    have own : OwnA g (Av Bn (p :: O2)) H2 (.obj cc (ks ++ [nm]) (ds ++ [.lst Ls])) p := ⟨dx, fv ++ [.ref L], by rw [List.length_append, List.length_append, lfv]; rfl, hp3, (reps_less kA rfv).app (Reps.one rLf)⟩
    have hiG : i < G2.length := by rw [← r2'.len]; exact (List.getElem?_eq_some_iff.mp ei).1
    have rfin : RS g Bn (p :: O2) H2 σ2 (G2.set i (some (.obj cc (ks ++ [nm]) (ds ++ [.lst Ls]), true))) := by
      refine ⟨by rw [List.length_set]; exact r2'.len, fun j d h => ?_, fun j d h => ?_, fun j k d e a h1 h2 h3 h4 => ?_, fun a h => r2'.trl a (kA a h), fun a h z => ?_, fun a h => r2'.kf a (kA a h), r2'.tabs⟩
      · have hj : i ≠ j := fun z => by subst z; rw [List.getElem?_set_self hiG] at h; cases h
        rw [List.getElem?_set_ne hj] at h
        obtain ⟨u, h1, h2⟩ := r2'.slot j d h
        exact ⟨u, h1, rep_less kA h2⟩
      · by_cases hj : i = j
        · subst hj
          rw [List.getElem?_set_self hiG] at h; cases h
          exact ⟨p, ei, List.mem_cons_self, own⟩
        · rw [List.getElem?_set_ne hj] at h
          obtain ⟨u, h1, h2, h3⟩ := r2'.own j d h
          exact ⟨u, h1, List.mem_cons_of_mem _ h2, own_less kA h3⟩
      · by_cases hj : i = j
        · by_cases hk : i = k
          · rw [← hj, ← hk]
          · subst hj
            rw [List.getElem?_set_ne hk] at h2
            rw [ei] at h3; cases h3
            obtain ⟨u, q1, q2, _⟩ := r2'.own k e h2
            rw [h4] at q1; cases q1
            exact absurd q2 npO
        · by_cases hk : i = k
          · subst hk
            rw [List.getElem?_set_ne hj] at h1
            rw [ei] at h4; cases h4
            obtain ⟨u, q1, q2, _⟩ := r2'.own j d h1
            rw [h3] at q1; cases q1
            exact absurd q2 npO
          · rw [List.getElem?_set_ne hj] at h1
            rw [List.getElem?_set_ne hk] at h2
            exact r2'.dist j k d e a h1 h2 h3 h4
      · rcases List.mem_cons.mp z with z | z
        · rw [z] at h; exact nbp h
        · exact r2'.sep a (by rw [← hB]; exact .inl (.inl h)) z
    have sfin : Stp Ow H (p :: O2) H2 := ⟨(S7.trans s2').keep0, fun a h => (S7.trans s2').grow a (by
      rcases List.mem_cons.mp h with h | h
      · rw [h]; exact List.mem_cons_self
      · exact List.mem_cons_of_mem _ (List.mem_cons_of_mem _ h))⟩
    exact ⟨pv, Bn, p :: O2, _, o, rfin, p2', he, po.step sfin⟩
end
end DV

namespace DV
open PySem L2 PySem.Spec PyProof.Rows
/-! ### max, min with default= -/
theorem depth_ints : ∀ ns : List Int, PyData.depthAll (ns.map PyData.int) ≤ 1
  | [] => Nat.zero_le _
  | n :: ns => Nat.max_le.mpr ⟨by simp [PyData.depth], depth_ints ns⟩
theorem alike_ints' (ns : List Int) : PySem.W.AlikeAll (ns.map PyData.int) := by
  constructor
  · intro x hx y hy
    obtain ⟨i, _, rfl⟩ := List.mem_map.mp hx
    obtain ⟨j, _, rfl⟩ := List.mem_map.mp hy
    rfl
  · intro x hx
    obtain ⟨i, _, rfl⟩ := List.mem_map.mp hx
    exact fun z => nomatch z
theorem foldMax : ∀ (ns : List Int) (n : Int), ns.foldl max n ∈ n :: ns ∧ ∀ y ∈ n :: ns, y ≤ ns.foldl max n
  | [], n => ⟨List.mem_cons_self, fun y hy => by simp at hy; rw [hy]; exact Int.le_refl _⟩
  | k :: ns, n => by
    have ih := foldMax ns (max n k)
    rw [List.foldl_cons]
    constructor
    · rcases List.mem_cons.mp ih.1 with e | e
      · rw [e]
        rcases Int.le_total n k with h | h
        · rw [Int.max_eq_right h]; simp
        · rw [Int.max_eq_left h]; simp
      · exact List.mem_cons_of_mem _ (List.mem_cons_of_mem _ e)
    · intro y hy
      have a := ih.2 _ List.mem_cons_self
      rcases List.mem_cons.mp hy with rfl | hy
      · omega
      · rcases List.mem_cons.mp hy with rfl | hy
        · omega
        · exact ih.2 y (List.mem_cons_of_mem _ hy)
theorem foldMin : ∀ (ns : List Int) (n : Int), ns.foldl min n ∈ n :: ns ∧ ∀ y ∈ n :: ns, ns.foldl min n ≤ y
  | [], n => ⟨List.mem_cons_self, fun y hy => by simp at hy; rw [hy]; exact Int.le_refl _⟩
  | k :: ns, n => by
    have ih := foldMin ns (min n k)
    rw [List.foldl_cons]
    constructor
    · rcases List.mem_cons.mp ih.1 with e | e
      · rw [e]
        rcases Int.le_total n k with h | h
        · rw [Int.min_eq_left h]; simp
        · rw [Int.min_eq_right h]; simp
      · exact List.mem_cons_of_mem _ (List.mem_cons_of_mem _ e)
    · intro y hy
      have a := ih.2 _ List.mem_cons_self
      rcases List.mem_cons.mp hy with rfl | hy
      · omega
      · rcases List.mem_cons.mp hy with rfl | hy
        · omega
        · exact ih.2 y (List.mem_cons_of_mem _ hy)
def rMxd (K : PySem.W.Frag) (m : Bool) : List V → List V → Hp → VK → Prop := fun vs zs H Q => ∃ (a : Addr) (ns : List Int) (z : V), vs = [V.ref a] ∧ zs = [z] ∧ SqL K H a (ns.map V.int) ∧ (ns = [] → Q z H) ∧ ∀ M, M ∈ ns → (∀ y, y ∈ ns → if m then y ≤ M else M ≤ y) → Q (.int M) H
section
variable {X : Cx}
theorem cr_maxDef (hc : X.calm = true) (hu : X.A.units + 64 < cLine) : CallRK X (.builtin "max") [Str.ofString "default"] (rMxd X.K true) := by
  intro pins s σ H vs zs us ws Q I r rz h
  obtain ⟨a, ns, z, rfl, rfl, hs, h0, q⟩ := h
  obtain ⟨its, rv, hl, _⟩ := I.list hs
  rw [Vals.ref1 r]
  obtain ⟨u, rfl, ru⟩ := rz.one
  have hd := depth_ints ns
  refine PySem.W.max_list_default (I.ok.hd hc) hl.isList (ints_readAll s.heap rv.ints) (alike_ints' ns) (by omega) (fun e h' tk hk => ?_) (fun y ys i v h' tk bs e hv hr hk => ?_)
  · have e : ns = [] := by cases ns with
      | nil => rfl
      | cons x l => simp at e
    exact ⟨z, H, I.kept hk, ru, h0 e⟩
  · cases ns with
    | nil => simp at e
    | cons x l =>
      simp only [List.map_cons, List.cons.injEq] at e
      obtain ⟨rfl, rfl⟩ := e
      rw [PySem.W.maxD_ints] at hr
      obtain ⟨t, rfl, _⟩ := reads_int_inv hr
      have f := foldMax l x
      exact ⟨.int _, H, I.kept hk, ⟨_, rfl⟩, q _ f.1 (fun y hy => by simpa using f.2 y hy)⟩
theorem cr_minDef (hc : X.calm = true) (hu : X.A.units + 64 < cLine) : CallRK X (.builtin "min") [Str.ofString "default"] (rMxd X.K false) := by
  intro pins s σ H vs zs us ws Q I r rz h
  obtain ⟨a, ns, z, rfl, rfl, hs, h0, q⟩ := h
  obtain ⟨its, rv, hl, _⟩ := I.list hs
  rw [Vals.ref1 r]
  obtain ⟨u, rfl, ru⟩ := rz.one
  have hd := depth_ints ns
  refine PySem.W.min_list_default (I.ok.hd hc) hl.isList (ints_readAll s.heap rv.ints) (alike_ints' ns) (by omega) (fun e h' tk hk => ?_) (fun y ys i v h' tk bs e hv hr hk => ?_)
  · have e : ns = [] := by cases ns with
      | nil => rfl
      | cons x l => simp at e
    exact ⟨z, H, I.kept hk, ru, h0 e⟩
  · cases ns with
    | nil => simp at e
    | cons x l =>
      simp only [List.map_cons, List.cons.injEq] at e
      obtain ⟨rfl, rfl⟩ := e
      rw [PySem.W.minD_ints] at hr
      obtain ⟨t, rfl, _⟩ := reads_int_inv hr
      have f := foldMin l x
      exact ⟨.int _, H, I.kept hk, ⟨_, rfl⟩, q _ f.1 (fun y hy => by simpa using f.2 y hy)⟩
end
section
variable {X : Cx} {g : Gx} {fs : List FS} {a b : Expr} {ia ib : E} {pos p kp : Pos} {es : List Expr}
theorem maxI_nil {ns : List Int} (h : maxI ns = none) : ns = [] := by cases ns <;> simp_all [maxI]
theorem minI_nil {ns : List Int} (h : minI ns = none) : ns = [] := by cases ns <;> simp_all [minI]
theorem mxd_core {m : Bool} {Q : VK} {σ : L2.St} {H : Hp} (hK : X.K = g.K) (h : tR g fs (.mxd m ia ib) σ H Q) : tCKw (rMxd X.K m) (tCons (tR g fs ia) tNil) (tCons (tR g fs ib) tNil) σ H Q := by
  obtain ⟨Bn, Ow, Γ, r, Γ', rs, he, hQ⟩ := h
  simp only [ev] at he
  obtain ⟨⟨x, Γ1⟩, e1, he⟩ := Option.bind_eq_some_iff.mp he
  obtain ⟨⟨y, Γ2⟩, e2, he⟩ := Option.bind_eq_some_iff.mp he
  obtain ⟨d, ed, he⟩ := Option.bind_eq_some_iff.mp he
  obtain ⟨e, ee, he⟩ := Option.bind_eq_some_iff.mp he
  obtain ⟨d', h6, he⟩ := Option.map_eq_some_iff.mp he
  simp only [Prod.mk.injEq] at he
  obtain ⟨rfl, rfl⟩ := he
  rw [← datum_dn] at ed ee
  rw [hK]
  show tR g fs ia σ H fun v H1 => tR g fs ib σ H1 fun w H2 => rMxd g.K m [v] [w] H2 Q
  refine tR_two rs e1 e2 fun v w H2 O2 s2 r2 v2 w2 => ?_
  have q1 := v2.rdb r2 ed
  have q2 := w2.rdb r2 ee
  cases d with
  | lst xs =>
    simp only [mxdD] at h6
    obtain ⟨ns, e3, h6⟩ := Option.bind_eq_some_iff.mp h6
    obtain ⟨l, ws, rfl, e4, r1⟩ := q1
    rw [ints_of r1 e3] at e4
    refine ⟨l, ns, w, rfl, rfl, .inl (.inl e4), fun hn => ?_, fun M hM hy => ?_⟩
    · subst hn
      have h7 : (if flatD e then some e else none) = some d' := by
        cases m
        · simpa only [Bool.false_eq_true, if_false, minI] using h6
        · simpa only [if_true, maxI] using h6
      simp only [Option.ite_none_right_eq_some, Option.some.injEq] at h7
      obtain ⟨hf, rfl⟩ := h7
      refine hQ w H2 O2 s2 r2 ?_
      show Rep g (Av Bn O2) H2 e w
      cases e <;> first | exact q2 | (simp [flatD] at hf)
    · have : d' = .int M := by
        cases m with
        | true =>
          simp only [if_true] at h6 hy
          cases hm : maxI ns with
          | none => have := maxI_nil hm; subst this; cases hM
          | some k =>
            rw [hm] at h6
            have sp := maxI_spec hm
            simp only [Option.some.injEq] at h6
            rw [← h6, Int.le_antisymm (hy k sp.1) (sp.2 M hM)]
        | false =>
          simp only [Bool.false_eq_true, if_false] at h6 hy
          cases hm : minI ns with
          | none => have := minI_nil hm; subst this; cases hM
          | some k =>
            rw [hm] at h6
            have sp := minI_spec hm
            simp only [Option.some.injEq] at h6
            rw [← h6, Int.le_antisymm (sp.2 M hM) (hy k sp.1)]
      subst this
      exact hQ _ H2 O2 s2 r2 (show Rep g (Av Bn O2) H2 (.int M) (.int M) by simp only [Rep])
  | _ => simp only [mxdD, reduceCtorEq] at h6
theorem p_maxd (C : Cok g X) (hg : Gl X "max") (hm : X.mg "max" = none) (ha : PE X a (tR g fs ia)) (hb : PE X b (tR g fs ib))
    (na : starEach [a] X.env = (false, eval a X.env) :: starEach [] X.env)
    (he : backTo pos (starEach [a] X.env) = (false, eval a X.env) :: backTo pos (starEach [] X.env)) (hpl : (backTo pos (starEach [a] X.env)).any (·.1) = false)
    (hall : (backToKw pos (keywordEach [⟨some "default", b, kp⟩] X.env)).all (·.1.isSome) = true) (hnone : (backToKw pos (keywordEach [⟨some "default", b, kp⟩] X.env)).any (·.1.isNone) = false) (hks : (backToKw pos (keywordEach [⟨some "default", b, kp⟩] X.env)).filterMap (·.1) = [Str.ofString "default"]) :
    PE X (.Call (.Name "max" p) [a] [⟨some "default", b, kp⟩] pos) (tR g fs (.mxd true ia ib)) :=
  PE.weak (pe_callBK (cr_maxDef C.calm C.hu) hg hm PyProof.Rows.boot_max (pa_cons ha pa_nil na) (pk_cons hb pk_nil) (by decide) (by decide) he hpl hall hnone hks) fun σ H Q h => mxd_core C.K h
theorem p_mind (C : Cok g X) (hg : Gl X "min") (hm : X.mg "min" = none) (ha : PE X a (tR g fs ia)) (hb : PE X b (tR g fs ib))
    (na : starEach [a] X.env = (false, eval a X.env) :: starEach [] X.env)
    (he : backTo pos (starEach [a] X.env) = (false, eval a X.env) :: backTo pos (starEach [] X.env)) (hpl : (backTo pos (starEach [a] X.env)).any (·.1) = false)
    (hall : (backToKw pos (keywordEach [⟨some "default", b, kp⟩] X.env)).all (·.1.isSome) = true) (hnone : (backToKw pos (keywordEach [⟨some "default", b, kp⟩] X.env)).any (·.1.isNone) = false) (hks : (backToKw pos (keywordEach [⟨some "default", b, kp⟩] X.env)).filterMap (·.1) = [Str.ofString "default"]) :
    PE X (.Call (.Name "min" p) [a] [⟨some "default", b, kp⟩] pos) (tR g fs (.mxd false ia ib)) :=
  PE.weak (pe_callBK (cr_minDef C.calm C.hu) hg hm PyProof.Rows.boot_min (pa_cons ha pa_nil na) (pk_cons hb pk_nil) (by decide) (by decide) he hpl hall hnone hks) fun σ H Q h => mxd_core C.K h
end

/-! ### list.count, list.index of flat items; list.pop() -/
def rCntV (K : PySem.W.Frag) : V → List V → Hp → VK → Prop := fun x xs H Q => ∃ (a : Addr) (ys : List V) (y : V), x = V.ref a ∧ xs = [y] ∧ SqL K H a ys ∧ flatV y = true ∧ ys.all flatV = true ∧ Q (.int ((ys.countP fun z => eqV z y : Nat) : Int)) H
theorem countP_eqU (y : V) : ∀ {ys : List V} {us : List Value}, Vals ys us → ys.all flatV = true → us.countP (eqU y) = ys.countP fun z => eqV z y
  | _, _, .nil, _ => rfl
  | z :: ys, u :: us, .cons r t, f => by
    rw [List.all_cons, Bool.and_eq_true] at f
    rw [List.countP_cons, List.countP_cons, countP_eqU y t f.2, eqU_of r f.1]
theorem mt_countV {X : Cx} : MtR X "list.count" (rCntV X.K) := by
  intro pins s σ H x xs v us Q I rx rxs h
  obtain ⟨a, ys, y, rfl, rfl, hs, fy, fys, q⟩ := h
  cases rx
  obtain ⟨u, rfl, ru⟩ := rxs.one
  obtain ⟨its, rv, ⟨⟨cls, dd, data, sl⟩, n, ho, hc, hdn, hd⟩, hlen⟩ := I.list hs
  simp only at hc hd
  subst hc hd
  refine call_meets PySem.F.slot_list_count ⟨_, ho, rfl⟩ PySem.F.entry_list_count (PySem.F.args_list_count_2 _ _)
    (SeqAt.list_countAt a its.toArray n dd sl u (eqU y)) ⟨ho, fun u' hu' => mem_eqAt ru fy rv fys u' (by simpa using hu'), ?_⟩
  refine ⟨.int ((ys.countP fun z => eqV z y : Nat) : Int), H, I.tok _, ⟨s.toks, ?_⟩, q⟩
  show Value.int ((its.toArray.toList.countP (eqU y) : Nat) : Int) s.toks = _
  rw [show its.toArray.toList = its from rfl, countP_eqU y rv fys]
section
variable {X : Cx} {g : Gx} {fs : List FS} {a b : Expr} {ia ib : E} {apos cpos : Pos}
theorem isLD_lst {d : D} (h : isLD d = true) : ∃ xs, d = .lst xs := by
  cases d <;> first | exact ⟨_, rfl⟩ | (simp [isLD] at h)
theorem cnt_eq {A : Addr → Prop} {H : Hp} {y : D} {w : V} (hy : flatD y = true) (hw : Rep g A H y w) : ∀ {ds : List D} {vs : List V}, ds.all flatD = true → Reps g A H ds vs → (vs.countP fun z => eqV z w) = (ds.filter fun d => eqd d y).length
  | [], _, _, h => by simp only [Reps] at h; subst h; rfl
  | d :: ds, _, k, h => by
    rw [List.all_cons, Bool.and_eq_true] at k
    simp only [Reps] at h
    obtain ⟨v, r, rfl, h1, h2⟩ := h
    rw [List.countP_cons, cnt_eq hy hw k.2 h2, (flat_rep k.1 h1).2 hy hw, List.filter_cons]
    cases eqd d y <;> simp
theorem idx_eq {A : Addr → Prop} {H : Hp} {y : D} {w : V} (hy : flatD y = true) (hw : Rep g A H y w) : ∀ {ds : List D} {vs : List V}, ds.all flatD = true → Reps g A H ds vs → ∀ (j : Nat), (ds.findIdx? fun d => eqd d y) = some j → ∃ z, vs[j]? = some z ∧ eqV z w = true ∧ ∀ (m : Nat) (z' : V), m < j → vs[m]? = some z' → eqV z' w = false
  | [], _, _, h, j, hj => by simp at hj
  | d :: ds, _, k, h, j, hj => by
    rw [List.all_cons, Bool.and_eq_true] at k
    simp only [Reps] at h
    obtain ⟨v, r, rfl, h1, h2⟩ := h
    have e := (flat_rep k.1 h1).2 hy hw
    rw [List.findIdx?_cons] at hj
    cases hc : eqd d y with
    | true =>
      rw [hc] at hj
      simp only [if_true, Option.some.injEq] at hj
      subst hj
      exact ⟨v, rfl, by rw [e, hc], fun m z' hm => absurd hm (Nat.not_lt_zero _)⟩
    | false =>
      rw [hc] at hj
      simp only [Bool.false_eq_true, if_false] at hj
      obtain ⟨i, hi, rfl⟩ := Option.map_eq_some_iff.mp hj
      obtain ⟨z, q1, q2, q3⟩ := idx_eq hy hw k.2 h2 i hi
      refine ⟨z, by simpa using q1, q2, fun m z' hm hz => ?_⟩
      cases m with
      | zero => simp at hz; subst hz; rw [e, hc]
      | succ m => exact q3 m z' (by omega) (by simpa using hz)
theorem cnt_flat {xs : List D} {d r : D} (h : cntD (.lst xs) d = some r) : flatD d = true ∧ xs.all flatD = true ∧ r = .int ((xs.filter fun y => eqd y d).length : Int) := by
  simp only [cntD, Option.ite_none_right_eq_some, Bool.and_eq_true, Option.some.injEq] at h
  exact ⟨h.1.1, h.1.2, h.2.symm⟩
theorem p_cnt (C : Cok0 g X) (ho : PE X a (tR g fs ia)) (he : PE X b (tR g fs ib)) (hbase : attributeBase a "count" X.env (eval a X.env) = eval a X.env)
    (hline : (apos.endLine == cpos.line) = true) (hs : starEach [b] X.env = [(false, eval b X.env)]) :
    PE X (.Call (.Attribute a "count" apos) [b] [] cpos) (tR g fs (.cnt ia ib)) := by
  refine PE.weak (pe_bm PySem.F.plainAttrs_list PySem.F.slot_list_count PySem.F.type_list_count mt_countV ho (pa_cons he pa_nil (by rw [hs]; rfl)) hbase (by rw [hs]; rfl) hline (by rw [hs]; rfl) rfl) ?_
  rintro σ H Q ⟨Bn, Ow, Γ, r, Γ', rs, he, hQ⟩
  simp only [ev] at he
  obtain ⟨⟨x, Γ1⟩, e1, he⟩ := Option.bind_eq_some_iff.mp he
  obtain ⟨d0, e0, he⟩ := Option.bind_eq_some_iff.mp he
  simp only [Option.ite_none_right_eq_some] at he
  obtain ⟨hl, he⟩ := he
  obtain ⟨⟨y, Γ2⟩, e2, he⟩ := Option.bind_eq_some_iff.mp he
  obtain ⟨d, ed, he⟩ := Option.bind_eq_some_iff.mp he
  obtain ⟨e, ee, he⟩ := Option.bind_eq_some_iff.mp he
  obtain ⟨r', h6, he⟩ := Option.map_eq_some_iff.mp he
  simp only [Prod.mk.injEq] at he
  obtain ⟨rfl, rfl⟩ := he
  rw [← datum_dn] at e0 ed ee
  obtain ⟨xs0, rfl⟩ := isLD_lst hl
  refine tR_one rs e1 fun v H1 O1 s1 r1 v1 => ?_
  obtain ⟨l, ws, rfl, e3, _⟩ := v1.rdb r1 e0
  refine ⟨.inl ⟨rfl, ws, .inl (.inl e3)⟩, tR_one r1 e2 fun w H2 O2 s2 r2 w2 => ?_⟩
  have q1 := (v1.step s2 r2).rdb r2 ed
  have q2 := w2.rdb r2 ee
  cases d with
  | lst xs =>
    obtain ⟨fe, fx, rfl⟩ := cnt_flat h6
    obtain ⟨l', ws', el, e4, rp⟩ := q1
    cases el
    have hw := rdb_flat fe q2
    refine ⟨_, ws', w, rfl, rfl, ?_, (flat_rep fe hw).1, (flat_reps fx rp fe hw).1, ?_⟩
    · exact .inl (.inl e4)
    · rw [cnt_eq fe hw fx rp]
      exact hQ _ _ O2 (s1.trans s2) r2 (show Rep g (Av Bn O2) H2 _ _ by simp only [Rep])
  | _ => simp only [cntD, reduceCtorEq] at h6
theorem p_idx (C : Cok0 g X) (ho : PE X a (tR g fs ia)) (he : PE X b (tR g fs ib)) (hbase : attributeBase a "index" X.env (eval a X.env) = eval a X.env)
    (hline : (apos.endLine == cpos.line) = true) (hs : starEach [b] X.env = [(false, eval b X.env)]) :
    PE X (.Call (.Attribute a "index" apos) [b] [] cpos) (tR g fs (.idx ia ib)) := by
  refine PE.weak (pe_bm PySem.F.plainAttrs_list PySem.F.slot_list_index PySem.F.type_list_index mt_index ho (pa_cons he pa_nil (by rw [hs]; rfl)) hbase (by rw [hs]; rfl) hline (by rw [hs]; rfl) rfl) ?_
  rintro σ H Q ⟨Bn, Ow, Γ, r, Γ', rs, he, hQ⟩
  simp only [ev] at he
  obtain ⟨⟨x, Γ1⟩, e1, he⟩ := Option.bind_eq_some_iff.mp he
  obtain ⟨d0, e0, he⟩ := Option.bind_eq_some_iff.mp he
  simp only [Option.ite_none_right_eq_some] at he
  obtain ⟨hl, he⟩ := he
  obtain ⟨⟨y, Γ2⟩, e2, he⟩ := Option.bind_eq_some_iff.mp he
  obtain ⟨d, ed, he⟩ := Option.bind_eq_some_iff.mp he
  obtain ⟨e, ee, he⟩ := Option.bind_eq_some_iff.mp he
  obtain ⟨r', h6, he⟩ := Option.map_eq_some_iff.mp he
  simp only [Prod.mk.injEq] at he
  obtain ⟨rfl, rfl⟩ := he
  rw [← datum_dn] at e0 ed ee
  obtain ⟨xs0, rfl⟩ := isLD_lst hl
  refine tR_one rs e1 fun v H1 O1 s1 r1 v1 => ?_
  obtain ⟨l, ws, rfl, e3, _⟩ := v1.rdb r1 e0
  refine ⟨.inl ⟨rfl, ws, .inl (.inl e3)⟩, tR_one r1 e2 fun w H2 O2 s2 r2 w2 => ?_⟩
  have q1 := (v1.step s2 r2).rdb r2 ed
  have q2 := w2.rdb r2 ee
  cases d with
  | lst xs =>
    simp only [idxD, Option.ite_none_right_eq_some, Bool.and_eq_true] at h6
    obtain ⟨⟨fe, fx⟩, h6⟩ := h6
    obtain ⟨j, hj, rfl⟩ := Option.map_eq_some_iff.mp h6
    obtain ⟨l', ws', el, e4, rp⟩ := q1
    cases el
    have hw := rdb_flat fe q2
    obtain ⟨z, k1, k2, k3⟩ := idx_eq fe hw fx rp j hj
    exact ⟨_, ws', w, j, z, rfl, rfl, .inl (.inl e4), (flat_rep fe hw).1, (flat_reps fx rp fe hw).1, k1, k2, k3, hQ _ _ O2 (s1.trans s2) r2 (show Rep g (Av Bn O2) H2 _ _ by simp only [Rep])⟩
  | _ => simp only [idxD, reduceCtorEq] at h6
theorem Reps.dropLast {A : Addr → Prop} {H : Hp} {ds : List D} {vs : List V} (h : Reps g A H ds vs) : Reps g A H ds.dropLast vs.dropLast := by
  rw [List.dropLast_eq_take, List.dropLast_eq_take, ← h.len]
  exact h.take _
theorem p_pop {i : Nat} (C : Cok0 g X) (ho : PE X a (tVar i)) (hbase : attributeBase a "pop" X.env (eval a X.env) = eval a X.env) (hline : (apos.endLine == cpos.line) = true) :
    PE X (.Call (.Attribute a "pop" apos) [] [] cpos) (tR g fs (.pop i)) := by
  refine PE.weak (pe_bm0 PySem.F.plainAttrs_list PySem.F.slot_list_pop PySem.F.type_list_pop mt_pop ho hbase hline) ?_
  rintro σ H Q ⟨Bn, Ow, Γ, r, Γ', rs, he, hQ⟩
  simp only [ev] at he
  obtain ⟨⟨d, c⟩, e1, he⟩ := Option.map_eq_some_iff.mp he
  simp only [Prod.mk.injEq] at he
  obtain ⟨rfl, rfl⟩ := he
  unfold popD at e1
  split at e1
  · rename_i xs q
    split at e1
    · rename_i dl el
      simp only [Option.some.injEq, Prod.mk.injEq] at e1
      obtain ⟨rfl, rfl⟩ := e1
      obtain ⟨p, ep, mp, vs, hv, rp⟩ := rs.own i _ q
      have e2 : xs[xs.length - 1]? = some dl := by rw [← List.getLast?_eq_getElem?]; exact el
      obtain ⟨v, e3, rv⟩ := rp.get e2
      obtain ⟨r3, s3⟩ := rs.mut q ep rp.dropLast
      refine ⟨_, ep, .inl ⟨rfl, vs, .inl (.inl hv)⟩, p, vs, v, rfl, rfl, hv, by rw [← rp.len]; exact e3, ?_⟩
      exact hQ v _ Ow s3 r3 (rv.step s3 r3)
    · cases e1
  · cases e1
/-- a new value, shared from now on -/
theorem p_shr (h : PE X a (tR g fs ia)) : PE X a (tR g fs (.shr ia)) := by
  refine PE.weak h ?_
  rintro σ H Q ⟨Bn, Ow, Γ, r, Γ', rs, he, hQ⟩
  simp only [ev] at he
  obtain ⟨⟨x, Γ1⟩, e1, he⟩ := Option.bind_eq_some_iff.mp he
  obtain ⟨⟨d, Γ2⟩, e2, he⟩ := Option.map_eq_some_iff.mp he
  simp only [Prod.mk.injEq] at he
  obtain ⟨rfl, rfl⟩ := he
  refine ⟨Bn, Ow, Γ, x, Γ1, rs, e1, fun v H1 O1 s1 r1 vl => ?_⟩
  obtain ⟨O2, s2, r2, p2⟩ := fre_ok r1 vl e2
  exact hQ v H1 O2 (s1.trans s2) r2 (by simpa only [Val] using p2)
end
end DV

namespace DV
open PySem L2 PySem.Spec PyProof.Rows
/-! ### min of pairs of ints -/
theorem lt_pLt (p q : Int × Int) : PySem.W.DatumOrd.lt p q = pLt p q := by
  show (if p.1 = q.1 then decide (p.2 < q.2) else decide (p.1 < q.1)) = pLt p q
  unfold pLt
  by_cases h : p.1 = q.1
  · rw [if_pos h]
    exact decide_eq_decide.mpr ⟨fun k => .inr ⟨h, k⟩, fun k => by omega⟩
  · rw [if_neg h]
    exact decide_eq_decide.mpr ⟨fun k => .inl k, fun k => by omega⟩
theorem minOf_minP (p : Int × Int) (ps : List (Int × Int)) : minP (p :: ps) = some (PySem.W.minOf p ps) := by
  unfold minP PySem.W.minOf
  simp only [lt_pLt]
def pyP (p : Int × Int) : PyData := .tuple [.int p.1, .int p.2]
theorem pyP_toD (p : Int × Int) : pyP p = PySem.W.Datum.toD p := rfl
theorem pyP_inj {p q : Int × Int} (h : pyP p = pyP q) : p = q := by
  unfold pyP at h
  simp only [PyData.tuple.injEq, List.cons.injEq, PyData.int.injEq, and_true] at h
  exact Prod.ext h.1 h.2
theorem pairs_dp {K : PySem.W.Frag} {A : Addr → Prop} {H : Hp} : ∀ {ps : List (Int × Int)} {vs : List V}, Paired (fun p v => ∃ t, v = V.ref t ∧ ¬ A t ∧ SqT K H t [.int p.1, .int p.2]) ps vs → DpAll K H vs (ps.map pyP)
  | _, _, .nil => .nil
  | _, _, .cons ⟨t, e, _, sq⟩ r => by
    subst e
    exact .cons (.tup sq (.cons (.int _) (.cons (.int _) .nil))) (pairs_dp r)
section
variable {X : Cx} {g : Gx}
theorem vals_getR : ∀ {vs : List V} {us : List Value}, Vals vs us → ∀ {i : Nat} {u : Value}, us[i]? = some u → ∃ v, vs[i]? = some v ∧ RelV v u
  | _, _, .nil, i, u, h => by simp at h
  | _, _, .cons r t, i, u, h => by
    cases i with
    | zero => simp at h; subst h; exact ⟨_, rfl, r⟩
    | succ i => simp at h; obtain ⟨v, e, q⟩ := vals_getR t h; exact ⟨v, by simpa using e, q⟩
theorem paired_getR {α β : Type} {R : α → β → Prop} : ∀ {ps : List α} {vs : List β}, Paired R ps vs → ∀ {i : Nat} {v : β}, vs[i]? = some v → ∃ p, ps[i]? = some p ∧ R p v
  | _, _, .nil, i, v, h => by simp at h
  | _, _, .cons r t, i, v, h => by
    cases i with
    | zero => simp at h; subst h; exact ⟨_, rfl, r⟩
    | succ i => simp at h; obtain ⟨p, e, q⟩ := paired_getR t h; exact ⟨p, by simpa using e, q⟩
theorem pair_reads {A : Addr → Prop} {pins : List (Addr × Obj)} {σ : L2.St} {H : Hp} {s : Shared} (I : Inv X pins σ H s) {p : Int × Int} {v : V} {u : Value} (h : ∃ t, v = V.ref t ∧ ¬ A t ∧ SqT X.K H t [.int p.1, .int p.2]) (r : RelV v u) : ∃ as, Reads s.heap u (pyP p) as := by
  obtain ⟨t, rfl, _, sq⟩ := h
  exact Dp.reads I (pyP p) _ _ (.tup sq (.cons (.int _) (.cons (.int _) .nil))) r
theorem b_minp (C : Cok g X) : CallR X (.builtin "min") (rBi g .minp) := by
  intro pins s σ H vs us Q I r h
  obtain ⟨A, ds, r0, hp, tr, hb, hQ⟩ := h
  match ds, hb with
  | [.lst xs], hb =>
    simp only [biD] at hb
    obtain ⟨ps, e1, hb⟩ := Option.bind_eq_some_iff.mp hb
    obtain ⟨m, e2, rfl⟩ := Option.map_eq_some_iff.mp hb
    obtain ⟨v, rfl, q⟩ := paired1 hp
    obtain ⟨a, ws, rfl, ha, rp⟩ := q
    have pr := pairs_reps rp e1
    rw [← C.K] at pr
    obtain ⟨its, rv, hl, hz⟩ := I.list (show SqL X.K H a ws from .inl (.inl ha))
    rw [Vals.ref1 r]
    obtain ⟨as, hr⟩ := Dp.readsAll I _ _ _ (pairs_dp pr) rv
    cases ps with
    | nil => simp [minP] at e2
    | cons p ps =>
      rw [minOf_minP] at e2
      simp only [Option.some.injEq] at e2
      have hA := PySem.W.alikeAll_datum (p :: ps)
      have hdp : PyData.depthAll ((p :: ps).map pyP) ≤ 1 := PySem.W.depthAll_map (p :: ps)
      have hu := C.hu
      refine PySem.W.min_list_data (I.ok.hd C.calm) hl.isList (xs := ps.map pyP) (x := pyP p) hr hA (by
        have : PyData.depthAll (pyP p :: ps.map pyP) ≤ 1 := hdp
        omega) fun i v h' tk bs hv hr' hk => ?_
      obtain ⟨wv, hw, rw'⟩ := vals_getR rv (by simpa using hv)
      obtain ⟨q0, hq, sq⟩ := paired_getR pr hw
      obtain ⟨cs, r3⟩ := pair_reads I sq rw'
      have e4 : pyP q0 = PySem.W.minD (pyP p) (ps.map pyP) := (Reads.unique (Reads.keeps hk r3) _ _ hr').1
      have e5 : q0 = m := by
        apply pyP_inj
        rw [e4, ← e2]
        exact PySem.W.minD_map p ps
      subst e5
      refine ⟨wv, H, I.kept hk, rw', hQ _ H (same_rfl H) ?_⟩
      obtain ⟨t, rfl, na, sq⟩ := sq
      rw [C.K] at sq
      simp only [Res, Rep, Reps]
      exact ⟨t, _, rfl, na, sq, _, _, rfl, rfl, _, _, rfl, rfl, rfl⟩
end
section
variable {prog : Program} {w : World} {A : Around} {E : Value → Shared → Prop} {s : Shared}
theorem call_min_twoH {a b : Value} {Q : Value → Shared → Prop}
    (h : wpAny (model prog w) A.in1 (pyIter (.ref s.heap.objs.size)) (fun it s₂ => ∃ I fp wr G n P St H bt, it = .ref I ∧ WalksS prog w A.in1 I fp wr G n P St ∧ St 0 s₂ ∧ (∀ b ∈ fp, b < s₂.heap.objs.size) ∧ 0 < n ∧
      (∀ b o, H.get? b = some o → b ∉ wr) ∧ (∀ b o, H.get? b = some o → s₂.heap.get? b = some o) ∧ CmpIn prog w A.in1 .Lt H P bt ∧ ∀ v s', P (argBest bt (n - 1)) v → Moved wr G s₂ s' → Q v s') E
      { s with heap := s.heap.push { cls := .type "tuple", data := .seq #[a, b] } }) :
    wpAny (model prog w) A (call (.builtin "min") [a, b]) Q E s := by
  have hname : (toString "min" ++ toString ".loop" : String) = "min.loop" := by decide
  refine call_function_tree F.kind_min F.plain_min F.entry_min (F.args_min2 _ _) ?_
  show wpAny _ A.in1 (Builtin.Builtins.bindParams "min" ["key", "default"] 0 ⟨[], []⟩ >>= _) _ _ s
  refine wpAny_bind (wpAny_of_eq (show Builtin.Builtins.bindParams "min" ["key", "default"] 0 ⟨[], []⟩ = pure [none, none] from rfl) ?_)
  show wpAny _ A.in1 (newTuple [a, b] >>= _) _ _ s
  refine wpAny_bind (wpAny_newObj_type ?_)
  refine wpAny_bind (wpAny_mono h (fun it s₂ h₂ => ?_) fun _ _ e => e)
  obtain ⟨I, fp, wr, G, n, P, St, H, bt, rfl, W, hst, hfp, hn, hw, hkeep, hcmp, hQ⟩ := h₂
  refine wpAny_bind (wpAny_newObj_type ?_)
  have hSf : s₂.heap.objs.size ∉ fp := fun hm => Nat.lt_irrefl _ (hfp _ hm)
  rw [hname]
  refine wpAny_pure ⟨plainId_quiet F.plain_min_loop _, codeAny_min_loop_firstH W H hw bt hcmp s₂.heap.objs.size hSf (fresh_in hkeep) _ hn (fun b o e => Heap.get?_push_of_some _ (hkeep b o e)) (W.frame 0 s₂ _ s₂.toks hst (Nat.le_refl _) fun b _ o e => Heap.get?_push_of_some _ e) (Heap.get?_push_size _ rfl) fun v s' hP hm => ?_⟩
  exact hQ v s' hP (Moved.drop_new (tk := s₂.toks) hm (Nat.le_refl _))
theorem min_two_data {a b : Value} {da db : PyData} {as bs : List Addr} {Q : Value → Shared → Prop} (hh : A.handled = none) (ra : Reads s.heap a da as) (rb : Reads s.heap b db bs) (hA : PySem.W.AlikeAll [da, db]) (hu : A.units + 1 + PyData.depthAll [da, db] < cLine)
    (h : ∀ h' tk, (∀ c o, s.heap.get? c = some o → h'.get? c = some o) → Q (if PySem.W.dataLt db da then b else a) { s with heap := h', toks := tk }) :
    wpAny (model prog w) A (call (.builtin "min") [a, b]) Q E s := by
  refine call_min_twoH ?_
  have k1 : ∀ c o, s.heap.get? c = some o → (s.heap.push { cls := .type "tuple", data := .seq #[a, b] }).get? c = some o := fun c o e => Heap.get?_push_of_some _ e
  have hT : (s.heap.push { cls := .type "tuple", data := .seq #[a, b] }).IsTuple s.heap.objs.size #[a, b] := ⟨_, Heap.get?_push_size _ rfl, rfl, 0, rfl⟩
  have hr : ReadsAll (s.heap.push { cls := .type "tuple", data := .seq #[a, b] }) (#[a, b] : Array Value).toList [da, db] _ := .cons (Reads.keeps k1 ra) (.cons (Reads.keeps k1 rb) .nil)
  refine PySem.W.iter_tupleW (A := A.in1) hh hT fun s₂ e W st hfp hw hk => ?_
  refine ⟨_, _, _, _, _, _, _, _, _, rfl, W, st, hfp, by simp, hw, hk, PySem.W.cmpIn_lt (s := { s with heap := s.heap.push { cls := .type "tuple", data := .seq #[a, b] } }) (A := A.in1) hr hA (by show A.units + 1 + _ < _; exact hu), fun v s' hP m => ?_⟩
  obtain ⟨h', tk, rfl, hk'⟩ := PySem.W.moved_old e rfl m
  have := h h' tk fun c o e => hk' c o (k1 c o e)
  have hv : v = if PySem.W.dataLt db da then b else a := by
    have e1 : argBest (fun i j => PySem.W.dataLt ([da, db].getD i .none) ([da, db].getD j .none)) 1 = if PySem.W.dataLt db da then 1 else 0 := rfl
    have hP' : (#[a, b] : Array Value)[argBest (fun i j => PySem.W.dataLt ([da, db].getD i .none) ([da, db].getD j .none)) 1]? = some v := hP
    rw [e1] at hP'
    cases hd : PySem.W.dataLt db da with
    | true => simp [hd] at hP'; simp [hP']
    | false => simp [hd] at hP'; simp [hP']
  rw [hv]; exact this
end
section
variable {X : Cx} {g : Gx}
theorem b_min2p (C : Cok g X) : CallR X (.builtin "min") (rBi g .min2p) := by
  intro pins s σ H vs us Q I r h
  obtain ⟨A, ds, r0, hp, tr, hb, hQ⟩ := h
  match ds, hb with
  | [.tup [.int i, .int j], .tup [.int k, .int l]], hb =>
    simp only [biD, Option.some.injEq] at hb; subst hb
    obtain ⟨v, w, rfl, q, q'⟩ := paired2 hp
    obtain ⟨u, w', rfl, rv, rw'⟩ := vals2 r
    have rp : Reps g A H [.tup [.int i, .int j], .tup [.int k, .int l]] [v, w] := by
      simp only [Reps]
      exact ⟨v, _, rfl, q, w, _, rfl, q', rfl⟩
    have pr := pairs_reps (ps := [(i, j), (k, l)]) rp rfl
    rw [← C.K] at pr
    obtain ⟨s1, s2⟩ : (∃ t, v = V.ref t ∧ ¬ A t ∧ SqT X.K H t [.int i, .int j]) ∧ (∃ t, w = V.ref t ∧ ¬ A t ∧ SqT X.K H t [.int k, .int l]) := by
      cases pr with
      | cons a1 t1 => cases t1 with | cons a2 t2 => exact ⟨a1, a2⟩
    obtain ⟨as, r1⟩ := pair_reads I (p := (i, j)) s1 rv
    obtain ⟨bs, r2⟩ := pair_reads I (p := (k, l)) s2 rw'
    have hu := C.hu
    have hdp : PyData.depthAll [pyP (i, j), pyP (k, l)] ≤ 1 := PySem.W.depthAll_map [(i, j), (k, l)]
    refine min_two_data (I.ok.hd C.calm) r1 r2 (PySem.W.alikeAll_datum [(i, j), (k, l)]) (by omega) fun h' tk hk => ?_
    have e : PySem.W.dataLt (pyP (k, l)) (pyP (i, j)) = pLt (k, l) (i, j) := (PySem.W.DatumOrd.lt_eq (k, l) (i, j)).trans (lt_pLt _ _)
    rw [e]
    have fin : ∀ (p : Int × Int) (v : V) (u : Value), RelV v u → (∃ t, v = V.ref t ∧ ¬ A t ∧ SqT X.K H t [.int p.1, .int p.2]) → (∀ v H', Same H H' → Res g A H H' (.fz (.tup [.int p.1, .int p.2])) v → Q v H') → ∃ x H1, Inv X pins σ H1 { s with heap := h', toks := tk } ∧ RelV x u ∧ Q x H1 := by
      intro p v u rv ⟨t, ev, na, sq⟩ hq
      subst ev
      rw [C.K] at sq
      refine ⟨_, H, I.kept hk, rv, hq _ H (same_rfl H) ?_⟩
      simp only [Res, Rep, Reps]
      exact ⟨t, _, rfl, na, sq, _, _, rfl, rfl, _, _, rfl, rfl, rfl⟩
    cases hb : pLt (k, l) (i, j) with
    | true => rw [hb] at hQ; exact fin (k, l) w w' rw' s2 hQ
    | false => rw [hb] at hQ; exact fin (i, j) v u rv s1 hQ
variable {fs : List FS} {e : Expr} {es : List Expr} {ies : List E} {p pos : Pos}
theorem k_minp (C : Cok g X) (ha : PA X (e :: es) (tAs g fs ies)) (he : starEach (e :: es) X.env = (false, eval e X.env) :: starEach es X.env) (hpl : (backTo pos (starEach es X.env)).any (·.1) = false) (hm : X.mg "min" = none) (hg : Gl X "min") : PE X (.Call (.Name "min" p) (e :: es) [] pos) (tR g fs (.bi .minp ies)) :=
  p_biB (b_minp C) hg hm PyProof.Rows.boot_min ha (by decide) (by decide) he hpl
theorem k_min2p (C : Cok g X) (ha : PA X (e :: es) (tAs g fs ies)) (he : starEach (e :: es) X.env = (false, eval e X.env) :: starEach es X.env) (hpl : (backTo pos (starEach es X.env)).any (·.1) = false) (hm : X.mg "min" = none) (hg : Gl X "min") : PE X (.Call (.Name "min" p) (e :: es) [] pos) (tR g fs (.bi .min2p ies)) :=
  p_biB (b_min2p C) hg hm PyProof.Rows.boot_min ha (by decide) (by decide) he hpl
end
end DV


namespace DV
open PySem L2 PySem.Spec
/-! ### dicts that are read -/
theorem valV_dk : ∀ (ks : List Int) (vs : List V) (i : Int), ks.length = vs.length → (valV (dkV ks vs) (.inl i)).isSome = ks.contains i
  | [], [], i, _ => rfl
  | [], _ :: _, i, h => by simp at h
  | _ :: _, [], i, h => by simp at h
  | k :: ks, v :: vs, i, h => by
    have ih := valV_dk ks vs i (by simpa using h)
    show (valV ((.inl k, v) :: dkV ks vs) (.inl i)).isSome = _
    by_cases e : k = i
    · subst e
      rw [valV_pos (p := ((Sum.inl k : Key), v)) rfl]
      simp
    · rw [valV_neg (p := ((Sum.inl k : Key), v)) (fun z => e (by injection z)), ih]
      have : i ≠ k := fun z => e z.symm
      simp [List.contains_cons, this]
theorem valV_get {g : Gx} {A : Addr → Prop} {H : Hp} : ∀ {ks : List Int} {ds : List D} {vs : List V} {i : Int} {d : D}, Reps g A H ds vs → dgetL ks ds i = some d → ∃ v, valV (dkV ks vs) (.inl i) = some v ∧ Rep g A H d v
  | [], ds, vs, i, d, _, h => by simp [dgetL] at h
  | k :: ks, [], vs, i, d, _, h => by simp [dgetL] at h
  | k :: ks, e :: ds, vs, i, d, r, h => by
    simp only [Reps] at r
    obtain ⟨v, ws, rfl, r1, r2⟩ := r
    unfold dgetL at h
    by_cases c : k = i
    · subst c
      rw [if_pos rfl, Option.some.injEq] at h
      subst h
      exact ⟨v, valV_pos (p := ((Sum.inl k : Key), v)) rfl, r1⟩
    · rw [if_neg c] at h
      obtain ⟨w, e1, e2⟩ := valV_get r2 h
      exact ⟨w, by
        show valV ((.inl k, v) :: dkV ks ws) (.inl i) = _
        rw [valV_neg (p := ((Sum.inl k : Key), v)) (fun z => c (by injection z))]; exact e1, e2⟩
section
variable {X : Cx} {g : Gx} {fs : List FS} {a b : Expr} {ia ib : E} {pos : Pos}
def rDin : R2 := fun x y H Q => ∃ p kvs i, y = .ref p ∧ H p = some (.dK kvs) ∧ x = .int i ∧ Q (.bl (valV kvs (.inl i)).isSome) H
theorem op_din (hu : X.A.units + 1 < cLine) : OpR X (compareOp .In) rDin := by
  intro pins s σ H x y v u Q I rx ry h
  obtain ⟨p, kvs, i, rfl, hp, rfl, q⟩ := h
  cases ry
  exact d_in hu I (DGet.k (k := .inl i) hp) rx fun s' I' => ⟨.bl _, H, I', rfl, q⟩
theorem din_core {Bn : Addr → Prop} {Ow : List Addr} {H : Hp} {σ : L2.St} {Γ Γ' : Ct} {r : RV} {Q : VK} (rs : RS g Bn Ow H σ Γ) (he : ev fs (.din ia ib) Γ = some (r, Γ')) (hQ : ∀ v H' Ow', Stp Ow H Ow' H' → RS g Bn Ow' H' σ Γ' → Val g Bn Ow' H' σ Γ' r v → Q v H') :
    (∃ t, r = .fz (.bl t)) ∧ tOp rDin (tR g fs ia) (tR g fs ib) σ H Q := by
  simp only [ev] at he
  obtain ⟨⟨x, Γ1⟩, e1, he⟩ := Option.bind_eq_some_iff.mp he
  obtain ⟨⟨y, Γ2⟩, e2, he⟩ := Option.bind_eq_some_iff.mp he
  obtain ⟨d, ed, he⟩ := Option.bind_eq_some_iff.mp he
  obtain ⟨e, ee, he⟩ := Option.bind_eq_some_iff.mp he
  obtain ⟨t, h6, he⟩ := Option.map_eq_some_iff.mp he
  simp only [Prod.mk.injEq] at he
  obtain ⟨rfl, rfl⟩ := he
  refine ⟨⟨t, rfl⟩, ?_⟩
  rw [← datum_dn] at ed ee
  refine tR_two rs e1 e2 fun v w H2 O2 s2 r2 v2 w2 => ?_
  have q1 := v2.rdb r2 ed
  have q2 := w2.rdb r2 ee
  match d, e, h6 with
  | .int i, .dic ks ds, h6 =>
    simp only [dinD, Option.some.injEq] at h6
    subst h6
    obtain rfl := rdb_int q1
    obtain ⟨p, vs, rfl, _, l, hp, _⟩ := rdb_dic q2
    refine ⟨p, _, i, rfl, hp, rfl, ?_⟩
    rw [valV_dk ks vs i l]
    exact hQ _ H2 O2 s2 r2 (by simp only [Val, Rep])
theorem p_din (C : Cok0 g X) (ha : PE X a (tR g fs ia)) (hb : PE X b (tR g fs ib)) (hm : behindInMarks .In b = false) : PE X (.Compare a [.In] [b] pos) (tR g fs (.din ia ib)) := by
  refine PE.weak (pe_cmpR (op_din (by have := C.hu; omega)) ha hb hm) ?_
  rintro σ H Q ⟨Bn, Ow, Γ, r, Γ', rs, he, hQ⟩
  exact (din_core rs he hQ).2
theorem t_din (C : Cok0 g X) (ha : PE X a (tR g fs ia)) (hb : PE X b (tR g fs ib)) (hm : behindInMarks .In b = false) : PT X (.Compare a [.In] [b] pos) (tT g fs (.din ia ib)) := by
  refine PT.weak (pt_cmpR (op_din (by have := C.hu; omega)) ha hb hm) ?_
  rintro σ H Q ⟨Bn, Ow, Γ, r, Γ', t, rs, he, ht, hQ⟩
  have e := (din_core (Q := fun _ _ => True) rs he fun _ _ _ _ _ _ => trivial).1
  exact (din_core rs he (test_of e ht hQ)).2
theorem p_dget (C : Cok0 g X) (ha : PE X a (tR g fs ia)) (hb : PE X b (tR g fs ib)) (hs : NoSl b) : PE X (.Subscript a b pos) (tR g fs (.dget ia ib)) := by
  refine PE.weak (pe_dget (by have := C.hu; omega) ha hb hs) ?_
  rintro σ H Q ⟨Bn, Ow, Γ, r, Γ', rs, he, hQ⟩
  simp only [ev] at he
  obtain ⟨⟨x, Γ1⟩, e1, he⟩ := Option.bind_eq_some_iff.mp he
  obtain ⟨⟨y, Γ2⟩, e2, he⟩ := Option.bind_eq_some_iff.mp he
  obtain ⟨d, ed, he⟩ := Option.bind_eq_some_iff.mp he
  obtain ⟨e, ee, he⟩ := Option.bind_eq_some_iff.mp he
  obtain ⟨t, h6, he⟩ := Option.map_eq_some_iff.mp he
  simp only [Prod.mk.injEq] at he
  obtain ⟨rfl, rfl⟩ := he
  rw [← datum_dn] at ed ee
  refine tR_two rs e1 e2 fun v w H2 O2 s2 r2 v2 w2 => ?_
  have q1 := v2.rdb r2 ed
  have q2 := w2.rdb r2 ee
  match d, e, h6 with
  | .dic ks ds, .int i, h6 =>
    simp only [dgetD] at h6
    obtain rfl := rdb_int q2
    obtain ⟨p, vs, rfl, _, l, hp, rp⟩ := rdb_dic q1
    obtain ⟨z, e3, e4⟩ := valV_get rp h6
    exact ⟨p, z, rfl, by rw [← e3]; exact DGet.k (k := .inl i) hp, hQ _ H2 O2 s2 r2 e4⟩
end
/-! ### dict(a list of pairs) -/
/-- the pairs at ts -/
def PrR (K : PySem.W.Frag) (H : Hp) : List Addr → List Int → List V → Prop
  | [], [], [] => True
  | t :: ts, k :: ks, v :: vs => SqT K H t [.int k, v] ∧ PrR K H ts ks vs
  | _, _, _ => False
theorem prR_of {g : Gx} {A : Addr → Prop} {H : Hp} : ∀ {xs : List D} {ws : List V} {ks : List Int} {ds : List D}, Reps g A H xs ws → dctpD xs = some (ks, ds) → ∃ ts vs, ws = ts.map V.ref ∧ PrR g.K H ts ks vs ∧ Reps g A H ds vs ∧ ks.length = vs.length ∧ ks.Nodup
  | [], ws, ks, ds, r, h => by
    simp only [Reps] at r
    simp only [dctpD, Option.some.injEq, Prod.mk.injEq] at h
    obtain ⟨rfl, rfl⟩ := h
    subst r
    exact ⟨[], [], rfl, trivial, by simp only [Reps], rfl, List.nodup_nil⟩
  | x :: xs, ws, ks, ds, r, h => by
    match x, h with
    | .tup [.int k, d], h =>
      simp only [dctpD] at h
      obtain ⟨⟨ks', ds'⟩, h1, h2⟩ := Option.bind_eq_some_iff.mp h
      simp only [Reps] at r
      obtain ⟨v, rs, rfl, r1, r2⟩ := r
      simp only [Option.ite_none_left_eq_some, Option.some.injEq, Prod.mk.injEq, Bool.not_eq_true] at h2
      obtain ⟨hn, rfl, rfl⟩ := h2
      obtain ⟨ts, vs, rfl, p1, p2, p3, p4⟩ := prR_of r2 h1
      simp only [Rep, Reps] at r1
      obtain ⟨t, us, rfl, _, sq, u1, r3, rfl, rfl, u2, r4, rfl, r5, rfl⟩ := r1
      refine ⟨t :: ts, u2 :: vs, rfl, ⟨sq, p1⟩, by simp only [Reps]; exact ⟨u2, vs, rfl, r5, p2⟩, by simp [p3], List.nodup_cons.mpr ⟨fun m => ?_, p4⟩⟩
      rw [List.contains_iff_mem.mpr m] at hn
      cases hn
/-- the pairs, read off -/
theorem prR_at {X : Cx} {pins : List (Addr × Obj)} {σ : L2.St} {H : Hp} {s : Shared} (I : Inv X pins σ H s) : ∀ {ts : List Addr} {ks : List Int} {vs : List V}, PrR X.K H ts ks vs →
    ∃ (ps : List (Value × Value)) (kv : List (Key × Value)), ps.length = ts.length ∧ kv.length = ts.length ∧ KV (dkV ks vs) kv ∧ (∀ (j : Nat) k v, ps[j]? = some (k, v) → ∃ t, ts[j]? = some t ∧ PySem.PairAt s.heap t k v) ∧ (∀ (j : Nat) k v, ps[j]? = some (k, v) → ∃ q, kv[j]? = some (q, v) ∧ (mixKind X.prog X.w).is q k = true)
  | [], [], [], _ => ⟨[], [], rfl, rfl, .nil, fun j k v h => by simp at h, fun j k v h => by simp at h⟩
  | t :: ts, k :: ks, v :: vs, h => by
    obtain ⟨h1, h2⟩ := h
    obtain ⟨ps, kv, a1, a2, a3, a4, a5⟩ := prR_at I h2
    obtain ⟨its, r, z, _⟩ := I.tuple h1
    obtain ⟨u1, u2, rfl, r1, r2⟩ := vals2 r
    obtain ⟨tk, rfl⟩ := (show ∃ tk, u1 = Value.int k tk from r1)
    refine ⟨(.int k tk, u2) :: ps, (.inl k, u2) :: kv, by simp [a1], by simp [a2], .cons ⟨rfl, r2⟩ a3, fun j k' v' h => ?_, fun j k' v' h => ?_⟩
    · cases j with
      | zero =>
        simp only [List.getElem?_cons_zero, Option.some.injEq, Prod.mk.injEq] at h
        obtain ⟨rfl, rfl⟩ := h
        obtain ⟨o, ho, hc, n, hd⟩ := z
        exact ⟨t, rfl, .inl ⟨o, ho, hc, n, hd⟩⟩
      | succ j => exact a4 j k' v' (by simpa using h)
    · cases j with
      | zero =>
        simp only [List.getElem?_cons_zero, Option.some.injEq, Prod.mk.injEq] at h
        obtain ⟨rfl, rfl⟩ := h
        exact ⟨.inl k, rfl, mixKind_int _ _ k tk⟩
      | succ j => exact a5 j k' v' (by simpa using h)
theorem kv_merged : ∀ {L : List (Key × V)} {L' : List (Key × Value)}, KV L L' → ∀ {a : List (Key × V)} {a' : List (Key × Value)}, KV a a' → KV (L.foldl (fun acc kv => putK acc kv.1 kv.2) a) (PySem.merged a' L')
  | _, _, .nil, a, a', r => r
  | p :: L, q :: L', .cons h t, a, a', r => by
    obtain ⟨e, rv⟩ := h
    have := kv_merged t (KV.put r p.1 rv)
    rw [List.foldl_cons]
    unfold PySem.merged at this ⊢
    rw [List.foldl_cons]
    rw [e] at this ⊢
    exact this
theorem fold_put : ∀ (ks : List Int) (vs : List V) (a : List (Key × V)), ks.Nodup → ks.length = vs.length → (∀ k ∈ ks, valV a (.inl k) = none) → (dkV ks vs).foldl (fun acc kv => putK acc kv.1 kv.2) a = a ++ dkV ks vs
  | [], vs, a, _, _, _ => by simp [dkV]
  | k :: ks, [], a, _, h, _ => by simp at h
  | k :: ks, v :: vs, a, n, h, hn => by
    obtain ⟨n1, n2⟩ := List.nodup_cons.mp n
    show (dkV ks vs).foldl _ (putK a (.inl k) v) = a ++ ((.inl k, v) :: dkV ks vs)
    rw [putK_new v (hn k List.mem_cons_self), fold_put ks vs _ n2 (by simpa using h) fun j hj => ?_]
    · simp
    · rw [valV_snoc (.inl k) (.inl j) v a (hn k List.mem_cons_self), if_neg (fun z => n1 (by injection z with z; exact z ▸ hj))]
      exact hn j (List.mem_cons_of_mem _ hj)
section
variable {X : Cx} {g : Gx}
theorem b_dictp (C : Cok g X) : CallR X (.type "dict") (rBi g .dictp) := by
  intro pins s σ H vs us Q I r h
  obtain ⟨A, ds, r0, hp, tr, hb, hQ⟩ := h
  match ds, hb with
  | [.lst xs], hb =>
    obtain ⟨v, rfl, q⟩ := paired1 hp
    simp only [biD] at hb
    obtain ⟨⟨ks, es⟩, hb1, rfl⟩ := Option.map_eq_some_iff.mp hb
    obtain ⟨a, ws, rfl, ha, rp⟩ := q
    obtain ⟨ts, ys, rfl, p1, p2, p3, p4⟩ := prR_of rp hb1
    rw [← C.K] at p1
    obtain ⟨ps, kv, a1, a2, a3, a4, a5⟩ := prR_at I p1
    obtain ⟨its, rv, ⟨o, n, ho, hc, hdn, hdt⟩, hz⟩ := I.list (.inl (.inl ha))
    obtain rfl := refs_at rv
    obtain ⟨u, rfl, ru⟩ := vals1 r
    obtain rfl : u = Value.ref a := ru
    have pi : PySem.PairItems s.heap (ts.map Value.ref).toArray (fun j => ts.getD j 0) ps := ⟨by simp [a1], fun j k w hj => by
      obtain ⟨t, e1, e2⟩ := a4 j k w hj
      have eg : ts.getD j 0 = t := by rw [List.getD_eq_getElem?_getD, e1]; rfl
      simp only [eg]
      exact ⟨by simp [e1], e2⟩⟩
    have lt : ts.length ≤ sizeLine := by simpa using hz
    refine PySem.call_dict_pairs (knd := mixKind X.prog X.w) (kvs := kv) (PySem.PairArg.list a (ts.map Value.ref).toArray (fun j => ts.getD j 0) ps) (I.ok.hd C.calm) ⟨⟨o, n, ho, hc, hdn, hdt⟩, pi⟩ ⟨by rw [a2, a1], fun i key w hw => a5 i key w hw⟩ (by rw [a1]; exact lt) fun h' tk hd hk => ?_
    have hm := kv_merged a3 (a := []) (a' := []) .nil
    rw [fold_put ks ys [] p4 p3 (fun _ _ => rfl), List.nil_append] at hm
    have hlen : (dkV ks ys).length ≤ sizeLine := by
      have e1 : (dkV ks ys).length = (PySem.merged [] kv).length := hm.length
      have e2 := PySem.merged_length (K := Key) [] kv
      rw [List.length_nil, Nat.zero_add, a2] at e2
      exact Nat.le_trans (Nat.le_of_eq e1) (Nat.le_trans e2 lt)
    have hne : (s.heap.objs.size == sysModules) = false := beq_eq_false_iff_ne.mpr fun z => by
      have q := I.big
      rw [z] at q
      exact Nat.lt_irrefl _ q
    have kp : ∀ b o, s.heap.get? b = some o → h'.get? b = some o := fun b o e => hk b o (by simp) e
    have I' := I.laid (t' := tk) kp (Nat.le_refl _) (o := .dK (dkV ks ys)) ⟨hlen, hne, _, hm, hd⟩
    have nd := I.hok.fresh (Nat.le_refl s.heap.objs.size)
    refine ⟨.ref s.heap.objs.size, upd H s.heap.objs.size (.dK (dkV ks ys)), I', rfl, hQ _ _ (same_new nd) ?_⟩
    have sm : Same H (upd H s.heap.objs.size (.dK (dkV ks ys))) := same_new nd
    show Rep _ _ _ _ _
    simp only [Rep]
    exact ⟨_, ys, rfl, fun z => tr _ z nd, p3, upd_same, p2.same sm⟩
variable {fs : List FS} {e : Expr} {es : List Expr} {ies : List E} {p pos : Pos}
theorem k_dictp (C : Cok g X) (ha : PA X (e :: es) (tAs g fs ies)) (he : starEach (e :: es) X.env = (false, eval e X.env) :: starEach es X.env) (hpl : (backTo pos (starEach es X.env)).any (·.1) = false) (hm : X.mg "dict" = none) (hg : Gl X "dict") : PE X (.Call (.Name "dict" p) (e :: es) [] pos) (tR g fs (.bi .dictp ies)) :=
  p_biT (b_dictp C) hg hm rfl ha (by decide) (by decide) he hpl
end
/-! ### sorted(triples that ascend) -/
def t3D (t : Int × Int × Int) : D := .tup [.int t.1, .int t.2.1, .int t.2.2]
theorem ascT_is : ∀ {xs : List D}, ascT xs = true → ∃ ts : List (Int × Int × Int), xs = ts.map t3D ∧ ts.Pairwise (fun a b => a.1 < b.1)
  | [], _ => ⟨[], rfl, .nil⟩
  | [x], h => by
    match x, h with
    | .tup [.int a, .int b, .int c], _ => exact ⟨[(a, b, c)], rfl, List.pairwise_singleton _ _⟩
  | x :: y :: r, h => by
    match x, y, h with
    | .tup [.int a, .int b, .int c], .tup [.int a', .int b', .int c'], h =>
      simp only [ascT, Bool.and_eq_true, decide_eq_true_eq] at h
      obtain ⟨h1, h2⟩ := h
      obtain ⟨ts, e, pw⟩ := ascT_is h2
      match ts, e, pw with
      | t :: ts, e, pw =>
        rw [List.map_cons] at e
        injection e with e1 e2
        simp only [t3D, D.tup.injEq, List.cons.injEq, D.int.injEq, and_true] at e1
        refine ⟨(a, b, c) :: t :: ts, by rw [List.map_cons, List.map_cons, e2]; simp only [t3D, ← e1.1, ← e1.2.1, ← e1.2.2], List.pairwise_cons.mpr ⟨fun z m => ?_, pw⟩⟩
        rcases List.mem_cons.mp m with rfl | m
        · simp only; omega
        · have := (List.pairwise_cons.mp pw).1 z m
          simp only; omega
def enc3 (b : V × Int × Int × Int) : PyData := .tuple [.int b.2.1, .int b.2.2.1, .int b.2.2.2]
theorem le_enc3 {a b : V × Int × Int × Int} (h : a.2.1 < b.2.1) : PySem.W.dataLe false enc3 a b = true := by
  rw [PySem.W.dataLe_eq]
  show (!PySem.W.dataLt (enc3 b) (enc3 a)) = true
  unfold enc3
  rw [PySem.W.dataLt_tuple, PySem.W.dataLt_cons (by simp [PySem.W.alike]), if_neg (by simp only [PyData.eqv, beq_iff_eq]; omega), PySem.W.dataLt_int, decide_eq_false (by omega)]
  rfl
section
variable {X : Cx} {g : Gx}
theorem each_vals {s : Shared} : ∀ {ws : List V} {ts : List (Int × Int × Int)} {its : List Value}, Vals ws its → ws.length = ts.length → PySem.W.EachIs (fun u (b : V × Int × Int × Int) => RelV b.1 u) its (ws.zip ts)
  | [], [], _, .nil, _ => .nil
  | w :: ws, t :: ts, _, .cons r rs, h => .cons r (each_vals (s := s) rs (by simpa using h))
  | [], _ :: _, _, _, h => by simp at h
  | _ :: _, [], _, _, h => by simp at h
theorem vals_each : ∀ {ws : List V} {ts : List (Int × Int × Int)} {out : List Value}, PySem.W.EachIs (fun u (b : V × Int × Int × Int) => RelV b.1 u) out (ws.zip ts) → ws.length = ts.length → Vals ws out
  | [], [], out, e, _ => by
    have e : PySem.W.EachIs _ out [] := e
    cases e
    exact .nil
  | w :: ws, t :: ts, out, e, h => by
    have e : PySem.W.EachIs _ out ((w, t) :: ws.zip ts) := e
    cases e with
    | cons r rs => exact .cons r (vals_each rs (by simpa using h))
  | [], _ :: _, _, _, h => by simp at h
  | _ :: _, [], _, _, h => by simp at h
theorem each_reads {A : Addr → Prop} {pins : List (Addr × Obj)} {σ : L2.St} {H : Hp} {s : Shared} (hK : X.K = g.K) (I : Inv X pins σ H s) : ∀ {ws : List V} {ts : List (Int × Int × Int)} {its : List Value}, Vals ws its → Reps g A H (ts.map t3D) ws → PySem.W.EachIs (fun u b => ∃ as, PySem.Reads s.heap u (enc3 b) as) its (ws.zip ts)
  | [], [], _, .nil, _ => .nil
  | w :: ws, t :: ts, _, .cons r rs, h => by
    simp only [List.map_cons, Reps] at h
    obtain ⟨w', ws', e, h1, h2⟩ := h
    injection e with e1 e2
    subst e1 e2
    have dp := rdb_dp (n := 3) (d := t3D t) rfl h1.rdb
    rw [← hK] at dp
    obtain ⟨as, q⟩ := Dp.reads I _ _ _ dp r
    exact .cons ⟨as, q⟩ (each_reads hK I rs h2)
  | [], _ :: _, _, _, h => by simp [Reps] at h
  | _ :: _, [], _, _, h => by simp [Reps] at h
theorem zip_pw : ∀ {ws : List V} {ts : List (Int × Int × Int)}, ts.Pairwise (fun a b => a.1 < b.1) → (ws.zip ts).Pairwise (fun a b => PySem.W.dataLe false enc3 a b = true)
  | [], _, _ => by simp
  | _ :: _, [], _ => by simp
  | w :: ws, t :: ts, h => by
    obtain ⟨h1, h2⟩ := List.pairwise_cons.mp h
    refine List.pairwise_cons.mpr ⟨fun b m => ?_, zip_pw h2⟩
    exact le_enc3 (h1 b.2 (List.of_mem_zip m).2)
theorem b_sortt (C : Cok0 g X) : CallR X (.builtin "sorted") (rBi g .sortt) := by
  intro pins s σ H vs us Q I r h
  obtain ⟨A, ds, r0, hp, tr, hb, hQ⟩ := h
  match ds, hb with
  | [.lst xs], hb =>
    obtain ⟨v, rfl, q⟩ := paired1 hp
    simp only [biD, Option.ite_none_right_eq_some, Option.some.injEq] at hb
    obtain ⟨hb1, rfl⟩ := hb
    obtain ⟨a, ws, rfl, ha, rp⟩ := q
    obtain ⟨ts, rfl, pw⟩ := ascT_is hb1
    obtain ⟨its, rv, hl, hz⟩ := I.list (.inl (.inl ha))
    obtain ⟨u, rfl, ru⟩ := vals1 r
    obtain rfl : u = Value.ref a := ru
    have lw : ws.length = ts.length := by rw [← rp.len, List.length_map]
    have lz : (ws.zip ts).length = ws.length := by rw [List.length_zip, lw, Nat.min_self]
    refine PySem.W.sorted_data (β := V × Int × Int × Int) (bs := ws.zip ts) (enc := enc3) (R := fun u b => RelV b.1 u) hl.isList (each_vals (s := s) rv lw) (each_reads C.K I rv rp) (PySem.W.AllAlike.of fun b b' => by simp [enc3, PySem.W.alike, PySem.W.alikeAll]) (PySem.W.Sortable.tuples fun b => ⟨_, _, rfl⟩) (by rw [lz]; exact hz) (fun b _ => ?_) fun out lo eo => ?_
    · have := C.hu
      have hdp : (enc3 b).depth ≤ 2 := by simp [enc3, PyData.depth, PyData.depthAll]
      omega
    · rw [List.mergeSort_of_pairwise (zip_pw pw)] at eo
      have vo := vals_each eo lw
      obtain ⟨c, hc⟩ := PyProof.Rows.sortedAll_at s.heap its out.toArray
      have I' := I.laid (t' := s.toks) (h' := PyProof.Rows.sortedAll s.heap its out.toArray) (fun b o e => PyProof.Rows.sortedAll_old e) (Nat.le_succ _) (o := .lst ws) ⟨hz, out, c, vo, hc⟩
      have nd := I.hok.fresh (Nat.le_succ s.heap.objs.size)
      refine ⟨.ref (s.heap.objs.size + 1), upd H (s.heap.objs.size + 1) (.lst ws), I', rfl, hQ _ _ (same_new nd) ?_⟩
      have kf : g.K.lookup (s.heap.objs.size + 1) = none := by rw [← C.K]; exact kf_new (Inv.kf I') upd_same
      exact new_lst nd kf rp
variable {fs : List FS} {e : Expr} {es : List Expr} {ies : List E} {p pos : Pos}
theorem k_sortt (C : Cok0 g X) (ha : PA X (e :: es) (tAs g fs ies)) (he : starEach (e :: es) X.env = (false, eval e X.env) :: starEach es X.env) (hpl : (backTo pos (starEach es X.env)).any (·.1) = false) (hm : X.mg "sorted" = none) (hg : Gl X "sorted") : PE X (.Call (.Name "sorted" p) (e :: es) [] pos) (tR g fs (.bi .sortt ies)) :=
  p_biB (b_sortt C) hg hm PyProof.Rows.boot_sorted ha (by decide) (by decide) he hpl
end
/-! ### a op b op c op d, as a test -/
section
open PyProof.Rows
variable {X : Cx} {a b c d : Expr} {ta tb tc td : TE} {pos : Pos}
theorem pt_chain3 {op op' op'' : CmpOp} {r r' r'' : R2} (ho : OpR X (compareOp op) r) (ho' : OpR X (compareOp op') r') (ho'' : OpR X (compareOp op'') r'') (ha : PE X a ta) (hb : PE X b tb) (hc : PE X c tc) (hd : PE X d td)
    (hm : lastMarks [op, op', op''] [b, c, d] = false) : PT X (.Compare a [op, op', op''] [b, c, d] pos) (tTest (tChain3 r r' r'' ta tb tc td)) := by
  refine ⟨fun pins s σ H Q I h => ?_⟩
  refine isTrue_chain (thn (ha.run pins s σ H _ I h) fun v s1 ⟨x, H1, I1, r1, q1⟩ => test_link (thn (hb.run pins s1 σ H1 _ I1 q1) fun u s2 ⟨y, H2, I2, r2, q2⟩ =>
    thn (ho pins s2 σ H2 x y v u _ I2 r1 r2 q2) fun d s3 ⟨z, H3, I3, r3, k, e, q3⟩ => ?_)) hm
  subst e
  cases r3
  refine wpAny_truthy_bool ?_
  cases k with
  | false =>
    obtain ⟨k', e', q'⟩ := q3
    cases e'
    exact ite_ff ⟨H3, I3, q'⟩
  | true =>
    refine ite_tt (test_link (thn (hc.run pins s3 σ H3 _ I3 q3) fun w' s4 ⟨z', H4, I4, r4, q4⟩ => thn (ho' pins s4 σ H4 y z' u w' _ I4 r2 r4 q4) fun d' s5 ⟨z2, H5, I5, r5, k2, e2, q5⟩ => ?_))
    subst e2
    cases r5
    refine wpAny_truthy_bool ?_
    cases k2 with
    | false =>
      obtain ⟨k', e', q'⟩ := q5
      cases e'
      exact ite_ff ⟨H5, I5, q'⟩
    | true =>
      refine ite_tt (test_last (thn (hd.run pins s5 σ H5 _ I5 q5) fun w3 s6 ⟨z3, H6, I6, r6, q6⟩ => thn (ho'' pins s6 σ H6 z' z3 w' w3 _ I6 r4 r6 q6) fun d2 s7 ⟨z4, H7, I7, r7, k3, e3, q7⟩ => ?_))
      subst e3
      cases r7
      exact wpAny_truthy_bool ⟨H7, I7, q7⟩
end
section
variable {X : Cx} {g : Gx} {fs : List FS} {a b c d : Expr} {ia ib ic id' : E} {pos : Pos}
theorem t_chain3 {o1 o2 o3 : COp} (C : Cok0 g X) (ha : PE X a (tR g fs ia)) (hb : PE X b (tR g fs ib)) (hc : PE X c (tR g fs ic)) (hd : PE X d (tR g fs id')) (hm : lastMarks [cmpOf o1, cmpOf o2, cmpOf o3] [b, c, d] = false) :
    PT X (.Compare a [cmpOf o1, cmpOf o2, cmpOf o3] [b, c, d] pos) (tT g fs (.chain3 o1 o2 o3 ia ib ic id')) := by
  refine PT.weak (pt_chain3 (op_cmp C.K C.hu o1) (op_cmp C.K C.hu o2) (op_cmp C.K C.hu o3) ha hb hc hd hm) ?_
  rintro σ H Q ⟨Bn, Ow, Γ, r, Γ', t, rs, he, ht, hQ⟩
  refine chain3_core rs he fun v H1 O1 k s1 r1 e1 e2 => ⟨k, e1, ?_⟩
  subst e2
  simp only [testD, datum, Option.bind_some, truthD, Option.some.injEq] at ht
  subst ht
  exact hQ H1 O1 s1 r1
end
end DV

namespace DV
open PySem L2
variable {Wx : L2.XK}
/-! ### defs that may raise -/
/-- the exceptions of the frame are wished for by W -/
abbrev Tk (X : Cx) (W : L2.XK) : Prop := Takes X (fun cls d _ H => W cls d H)
def isXc : RV → Bool
  | .fz (.exc _ _ _) => true
  | _ => false
/-- a def that may raise: what it raises is told as its value -/
def finishX (np : Nat) (G0 : Ct) : Out → Option (RV × Ct)
  | .xc c ks ds _ => some (.fz (.exc c ks ds), List.replicate np none)
  | o => (finish np G0 o).bind fun p => if isXc p.1 then none else some p
def runX (fs : List FS) (np n : Nat) (body : List S) : FS := fun G0 =>
  if G0.length = np then (exs fs (ownPs 0 G0) body (G0 ++ List.replicate (n - np) none)).bind (finishX np G0) else none
/-- what is wished behind a call: an exception is told as its fields -/
def xcQ (g : Gx) (W : L2.XK) (Q : VK) : RV → VK
  | .fz (.exc c _ _) => fun v H' => ∀ d, v = .ref d → W (.ref (g.cl c)) (some d) H'
  | _ => Q
theorem xcQ_no {g : Gx} {W : L2.XK} {Q : VK} {r : RV} (h : isXc r = false) : xcQ g W Q r = Q := by
  cases r with
  | fz d => cases d <;> first | rfl | (simp [isXc] at h)
  | nw d => rfl
  | sl i => rfl
/-- the promise of a def that may raise -/
def spX (g : Gx) (n : Nat) (F : FS) : Sp := fun vs H Q E => spG g n F (xcQ g E Q) vs H
section
variable {g : Gx} {Bn : Addr → Prop} {Ow Ow' : List Addr} {H H' : Hp} {σ : St} {Γ Γ' : Ct}
theorem RS.nones {σ' : St} {k : Nat} (rs : RS g Bn Ow H σ Γ) (hl : σ'.length = k) : RS g Bn Ow H σ' (List.replicate k none) := by
  have no : ∀ (i : Nat) (p : D × Bool), (List.replicate k (none : Sl))[i]? ≠ some (some p) := fun i p h => by
    rw [List.getElem?_replicate] at h
    split at h <;> cases h
  exact ⟨by rw [List.length_replicate]; exact hl, fun i d h => absurd h (no i _), fun i d h => absurd h (no i _), fun i j d e a h => absurd h (no i _), rs.trl, rs.sep, rs.kf, rs.tabs⟩
theorem finishX_no {np : Nat} {G0 : Ct} {o : Out} {r : RV} {os : Ct} (h : finish np G0 o = some (r, os)) (n : isXc r = false) : finishX np G0 o = some (r, os) := by
  cases o with
  | xc c ks ds G => simp only [finish, reduceCtorEq] at h
  | _ => simp only [finishX, h, Option.bind_some, n, Bool.false_eq_true, if_false]
theorem finishX_ok {vs : List V} {G0 : Ct} {n : Nat} {o : Out} {r : RV} {os : Ct} {Q : VK} (r0 : RS g Bn Ow H (vs.map some) G0) (hn : G0.length ≤ n) (hf : finishX G0.length G0 o = some (r, os))
    (hQ : ∀ v H' Ow', Stp Ow H Ow' H' → RS g Bn Ow' H' (vs.map some) os → Val g Bn Ow' H' (vs.map some) os r v → xcQ g Wx Q r v H') :
    Post g Wx { nx := fun _ H' => Q .non H', rt := Q } (n, (ownPs 0 G0).map fun i => (i, vs.getD i .non)) Bn Ow H o := by
  cases o with
  | xc c ks ds G =>
    simp only [finishX, Option.some.injEq, Prod.mk.injEq] at hf
    obtain ⟨rfl, rfl⟩ := hf
    intro d σ' H' Ow' st rs' pn rp
    exact hQ (.ref d) H' Ow' st (rs'.nones r0.len) rp d rfl
  | nx G =>
    simp only [finishX] at hf
    obtain ⟨⟨r1, o1⟩, f1, f2⟩ := Option.bind_eq_some_iff.mp hf
    split at f2
    · cases f2
    · rename_i n1
      cases f2
      rw [xcQ_no (by simpa using n1)] at hQ
      exact finish_ok r0 hn f1 hQ
  | rt x G =>
    simp only [finishX] at hf
    obtain ⟨⟨r1, o1⟩, f1, f2⟩ := Option.bind_eq_some_iff.mp hf
    split at f2
    · cases f2
    · rename_i n1
      cases f2
      rw [xcQ_no (by simpa using n1)] at hQ
      exact finish_ok r0 hn f1 hQ
  | bk G => simp only [finishX, finish, Option.bind_none, reduceCtorEq] at hf
  | ct G => simp only [finishX, finish, Option.bind_none, reduceCtorEq] at hf
end
/-- a def that can be called, and may raise -/
structure CalX (P : Program) (w : World) (mg : Str → Option Value) (base : Heap) (g : Gx) (k : Nat) (x : Str) (n : Nat) (F : FS) : Prop where
  ex : ∃ f fd ps, mg x = some (.ref f) ∧ PySem.W.keepIn g.K (.ref f) = true ∧ Binds g.K fd ps [] ∧ FnOk P w g.K mg base (L2.CX P w) k f fd ps (spX g n F)
structure MtdX (P : Program) (w : World) (mg : Str → Option Value) (base : Heap) (g : Gx) (k : Nat) (c : Nat) (x : Str) (n : Nat) (F : FS) : Prop where
  ex : ∃ f fd ps, Cls g.K (g.cl c) ∧ Meth g.K (g.cl c) x f ∧ Binds g.K fd ps [] ∧ FnOk P w g.K mg base (L2.CX P w) k f fd ps (spX g n F)
structure MkdX (P : Program) (w : World) (mg : Str → Option Value) (base : Heap) (g : Gx) (k : Nat) (c : Nat) (x : Str) (n : Nat) (F : FS) : Prop where
  ex : ∃ f fd ps, mg x = some (.ref (g.cl c)) ∧ Mk g.K (g.cl c) f ∧ Binds g.K fd ps [] ∧ ps.length = n + 1 ∧ FnOk P w g.K mg base (L2.CX P w) k f fd ps (spX g (n + 1) F)
section
variable {P : Program} {w : World} {mg : Str → Option Value} {base : Heap} {g : Gx} {fs : List FS}
theorem CalX.mono {j k : Nat} {x : Str} {n : Nat} {F : FS} (h : CalX P w mg base g j x n F) (l : j ≤ k) : CalX P w mg base g k x n F := by
  obtain ⟨f, fd, ps, h1, h2, h3, h4⟩ := h.ex
  exact ⟨f, fd, ps, h1, h2, h3, h4.mono l⟩
theorem MtdX.mono {j k c : Nat} {x : Str} {n : Nat} {F : FS} (h : MtdX P w mg base g j c x n F) (l : j ≤ k) : MtdX P w mg base g k c x n F := by
  obtain ⟨f, fd, ps, h1, h2, h3, h4⟩ := h.ex
  exact ⟨f, fd, ps, h1, h2, h3, h4.mono l⟩
theorem MkdX.mono {j k c : Nat} {x : Str} {n : Nat} {F : FS} (h : MkdX P w mg base g j c x n F) (l : j ≤ k) : MkdX P w mg base g k c x n F := by
  obtain ⟨f, fd, ps, h1, h2, h3, h5, h4⟩ := h.ex
  exact ⟨f, fd, ps, h1, h2, h3, h5, h4.mono l⟩
theorem def_fnX {x qual : Str} {st : Stmt} {f : Addr} {fd : FuncData} {N ps : List Str} {k np n : Nat} {ir : List S} (F : Fun g.K x qual st f fd) (S : FnScope N ps (defScope st)) (hp : ps.length = np) (hN : N.length = n) (ge : g.ea = none)
    (hbody : ∀ (cdv : Value) (A : Around) (outer : List Env) (s : Shared) (H : Hp) (E : L2.XK), Room k (cxOf (L2.CX P w) P w g.K mg base N qual (defScope st) f cdv A outer s H E).A → Cok g (cxOf (L2.CX P w) P w g.K mg base N qual (defScope st) f cdv A outer s H E) →
      Tk (cxOf (L2.CX P w) P w g.K mg base N qual (defScope st) f cdv A outer s H E) E → PassesOwn (model P w) (cxOf (L2.CX P w) P w g.K mg base N qual (defScope st) f cdv A outer s H E).A (cxOf (L2.CX P w) P w g.K mg base N qual (defScope st) f cdv A outer s H E).env (cxOf (L2.CX P w) P w g.K mg base N qual (defScope st) f cdv A outer s H E).xe →
      PSs (cxOf (L2.CX P w) P w g.K mg base N qual (defScope st) f cdv A outer s H E) (defBody st) (tSs g E fs ir)) : FnOk P w g.K mg base (L2.CX P w) (k + 1) f fd ps (spX g np (runX fs np n ir)) := by
  refine F.okX S (fun vs H Q E h => by rw [h.1, hp]) fun cdv A outer s H vs Q E hr h => ?_
  refine ⟨_, hbody cdv A outer s H E hr ⟨rfl, rfl, hr.units, S.nd, ge⟩ (takes_of rfl rfl rfl rfl) (passes_of rfl), ?_⟩
  obtain ⟨hl, Bn, Ow, Γ, r, os, rs, ef, nr, hQ⟩ := h
  have hG : Γ.length = np := by rw [← rs.len, List.length_map, hl]
  have hle : np ≤ n := by
    rw [← hN, ← hp]
    have := congrArg List.length S.pre
    rw [List.length_take] at this
    omega
  simp only [runX, hG, if_true] at ef
  obtain ⟨o, e1, e2⟩ := Option.bind_eq_some_iff.mp ef
  have est : L2.start N vs = vs.map some ++ List.replicate (n - np) none := by rw [← hN, ← hl]; rfl
  refine ⟨(n, (ownPs 0 Γ).map fun i => (i, vs.getD i .non)), Bn, Ow, Γ ++ List.replicate (n - np) none, o, ?_, ⟨?_, fun p hp => ?_⟩, ?_, ?_⟩
  · rw [est]; exact rs.start _
  · rw [est, List.length_append, List.length_map, List.length_replicate, hl]; show np + (n - np) = n; omega
  · obtain ⟨i, hi, rfl⟩ := List.mem_map.mp hp
    obtain ⟨j, d, rfl, h⟩ := ownPs_mem.mp hi
    have hj : j < vs.length := by
      have h1 := (List.getElem?_eq_some_iff.mp h).1
      omega
    rw [est]
    show (vs.map some ++ List.replicate (n - np) none)[0 + j]? = some (some (vs.getD (0 + j) .non))
    rw [Nat.zero_add, List.getElem?_append_left (by rw [List.length_map]; exact hj), List.getElem?_map, List.getElem?_eq_getElem hj, List.getD_eq_getElem?_getD, List.getElem?_eq_getElem hj]
    rfl
  · rw [List.map_map]
    show exs fs ((ownPs 0 Γ).map id) ir _ = some o
    rw [List.map_id]
    exact e1
  · rw [← hG] at e2
    exact finishX_ok rs (by omega) e2 hQ
end
/-! ### calls that may raise, as whole statements -/
def tRX (g : Gx) (W : L2.XK) (fs : List FS) (ie : E) : TE := fun σ H Q => ∃ Bn Ow Γ r Γ', RS g Bn Ow H σ Γ ∧ ev fs ie Γ = some (r, Γ') ∧ ∀ v H' Ow', Stp Ow H Ow' H' → RS g Bn Ow' H' σ Γ' → Val g Bn Ow' H' σ Γ' r v → xcQ g W Q r v H'
section
variable {X : Cx} {g : Gx} {fs : List FS} {e : Expr} {es : List Expr} {ie : E} {ies : List E} {x : Str} {p pos : Pos} {c k i n : Nat} {F : FS}
theorem callD_coreG {xs : List RV} {vs : List V} {Bn : Addr → Prop} {Ow : List Addr} {H : Hp} {σ : St} {Γ Γ' : Ct} {r : RV} {R : RV → VK} (rs : RS g Bn Ow H σ Γ) (hv : VlW g Bn Ow H σ Γ xs vs) (he : callD F xs Γ = some (r, Γ')) (hn : vs.length = n)
    (hQ : ∀ v H' Ow', Stp Ow H Ow' H' → RS g Bn Ow' H' σ Γ' → Val g Bn Ow' H' σ Γ' r v → R r v H') : spG g n F R vs H := by
  simp only [callD] at he
  obtain ⟨as, e3, he⟩ := Option.bind_eq_some_iff.mp he
  simp only [Option.ite_none_right_eq_some] at he
  obtain ⟨nd, he⟩ := he
  obtain ⟨⟨r', os⟩, e4, he⟩ := Option.bind_eq_some_iff.mp he
  cases r' with
  | sl i => cases he
  | fz d =>
    simp only [Option.some.injEq, Prod.mk.injEq] at he
    obtain ⟨rfl, rfl⟩ := he
    exact call_coreG rs hv e3 nd e4 (fun i z => nomatch z) hn fun v H' O2 s2 r2 val _ => hQ v H' O2 s2 r2 val
  | nw d =>
    simp only [Option.some.injEq, Prod.mk.injEq] at he
    obtain ⟨rfl, rfl⟩ := he
    exact call_coreG rs hv e3 nd e4 (fun i z => nomatch z) hn fun v H' O2 s2 r2 val _ => hQ v H' O2 s2 r2 val
theorem ev_callD {Γ : Ct} {r : RV × Ct} (h : ev fs (.call k ies) Γ = some r) : ∃ xs Γ1 F, evs fs ies Γ = some (xs, Γ1) ∧ fs[k]? = some F ∧ callD F xs Γ1 = some r := by
  simp only [ev] at h
  obtain ⟨⟨xs, Γ1⟩, e1, h⟩ := Option.bind_eq_some_iff.mp h
  obtain ⟨F, e2, h⟩ := Option.bind_eq_some_iff.mp h
  exact ⟨xs, Γ1, F, e1, e2, h⟩
theorem pass_tk {W : L2.XK} (tk : Tk X W) : Passes (L2.CX X.prog X.w) X W := passes_call tk fun _ _ _ _ h => h
theorem cx_call (c : CalX X.prog X.w X.mg X.base g k x n F) (C : Cok0 g X) (tk : Tk X Wx) (hF : fs[i]? = some F) (hn : ies.length = n) (hr : Room k X.A) (hg : Gl X x)
    (ha : PA X (e :: es) (tAw g fs ies)) (hdb : (x == ("__debug__" : Str)) = false) (he : starEach (e :: es) X.env = (false, eval e X.env) :: starEach es X.env) (hpl : (backTo pos (starEach es X.env)).any (·.1) = false) :
    PE X (.Call (.Name x p) (e :: es) [] pos) (tRX g Wx fs (.call i ies)) := by
  obtain ⟨f, fd, ps, h1, h2, h3, h4⟩ := c.ex
  rw [← C.K] at h2 h3 h4
  refine PE.weak (pe_call h4 hr hg h1 h2 h3 .nil (pass_tk tk) ha hdb he hpl) ?_
  rintro σ H Q ⟨Bn, Ow, Γ, r, Γ', rs, he, hQ⟩
  obtain ⟨xs, Γ1, F', e1, e2, e3⟩ := ev_callD he
  rw [hF] at e2; cases e2
  refine ⟨Bn, Ow, Γ, xs, Γ1, rs, e1, fun vs H1 O1 s1 r1 v1 => ?_⟩
  show spG g n F (xcQ g Wx Q) (vs ++ []) H1
  rw [List.append_nil]
  exact callD_coreG r1 v1 e3 (by rw [← v1.len, ← evs_len e1, hn]) fun v H' O2 s2 r2 val => hQ v H' O2 (s1.trans s2) r2 val
theorem mkX_core {np : Nat} {ys : List RV} {vs : List V} {Bn : Addr → Prop} {O1 : List Addr} {H1 : Hp} {σ : St} {Γ1 Γ' : Ct} {r : RV} {Q : VK} (r1 : RS g Bn O1 H1 σ Γ1) (v1 : VlW g Bn O1 H1 σ Γ1 ys vs) (he : mkX F c ys Γ1 = some (r, Γ')) (hl : vs.length = n) (hp : np = n + 1)
    (hQ : ∀ v H' Ow', Stp O1 H1 Ow' H' → RS g Bn Ow' H' σ Γ' → Val g Bn Ow' H' σ Γ' r v → xcQ g Wx Q r v H') : ∀ x dx, H1 x = none → H1 dx = none → dx ≠ x →
    (V.ref x :: vs).length = np ∧ (kfs g.K (upd (upd H1 dx (.own x)) x (.ins (g.cl c) dx [])) → spX g (n + 1) F (V.ref x :: vs) (upd (upd H1 dx (.own x)) x (.ins (g.cl c) dx [])) (fun v H2 => v = .non ∧ Q (.ref x) H2) Wx) := by
  simp only [mkX] at he
  obtain ⟨as, e2, he⟩ := Option.bind_eq_some_iff.mp he
  simp only [Option.ite_none_right_eq_some] at he
  obtain ⟨nd, he⟩ := he
  obtain ⟨⟨r', os⟩, e3, he⟩ := Option.bind_eq_some_iff.mp he
  intro p dx np0 ndx ne
  refine ⟨by rw [List.length_cons, hl, hp], fun kf => ?_⟩
  have sm : Same H1 (upd (upd H1 dx (.own p)) p (.ins (g.cl c) dx [])) := fun b x e => by
    rw [upd_ne (ne_of_none e np0), upd_ne (ne_of_none e ndx)]; exact e
  have hp' : (upd (upd H1 dx (.own p)) p (.ins (g.cl c) dx [])) p = some (.ins (g.cl c) dx []) := upd_same
  have hk : g.K.lookup p = none := kf_new kf hp'
  have r2 := r1.add sm np0 (.inr ⟨_, _, _, hp'⟩) hk
  have st2 : Stp O1 H1 (p :: O1) _ := stp_add sm np0
  have nin : ∀ (j : Nat) (e : D), Γ1[j]? = some (some (e, true)) → σ[j]? ≠ some (some (.ref p)) := fun j e h1 h2 => by
    obtain ⟨b, e5, m5, _⟩ := r1.own j e h1
    rw [h2] at e5; cases e5
    exact r1.trk p (.inr m5) np0
  have vw : ∀ {xs : List RV} {ws : List V}, VlW g Bn O1 H1 σ Γ1 xs ws → VlW g Bn (p :: O1) (upd (upd H1 dx (.own p)) p (.ins (g.cl c) dx [])) σ Γ1 xs ws ∧ ∀ (j : Nat) (e : D), xs[j]? = some (.nw e) → ws[j]? ≠ some (.ref p) := by
    intro xs
    induction xs with
    | nil => intro ws h; exact ⟨h, fun j e h => by simp at h⟩
    | cons x xs ih =>
      rintro ws ⟨v, w, rfl, q1, q2, q3⟩
      obtain ⟨i1, i2⟩ := ih q3
      have kstep := step_vst (g := g) (Bn := Bn) st2 fun a h => r2.kf a (.inr h)
      refine ⟨⟨v, w, rfl, ?_, q2, i1⟩, fun j e h => ?_⟩
      · cases x with
        | fz d => exact rep_mono kstep _ _ q1
        | sl j => exact q1
        | nw d =>
          obtain ⟨b, rfl, m, ow, no⟩ := q1
          refine ⟨b, rfl, List.mem_cons_of_mem _ m, ?_, no⟩
          cases d with
          | lst ds => obtain ⟨us, f1, f2⟩ := ow; exact ⟨us, sm _ _ f1, reps_mono kstep _ _ f2⟩
          | obj c ks ds => obtain ⟨dx, us, l, f1, f2⟩ := ow; exact ⟨dx, us, l, sm _ _ f1, reps_mono kstep _ _ f2⟩
          | _ => exact ow
      · cases j with
        | zero =>
          simp at h
          subst h
          obtain ⟨b, rfl, m, _⟩ := q1
          intro z
          simp at z
          subst z
          exact r1.trk b (.inr m) np0
        | succ j => exact i2 j e (by simpa using h)
  obtain ⟨v2, n2⟩ := vw v1
  have v3 : VlW g Bn (p :: O1) (upd (upd H1 dx (.own p)) p (.ins (g.cl c) dx [])) σ Γ1 (.nw (.obj c [] []) :: ys) (.ref p :: vs) :=
    ⟨_, vs, rfl, ⟨p, rfl, List.mem_cons_self, ⟨dx, [], rfl, hp', by simp only [Reps]⟩, nin⟩, fun _ _ j e h1 => n2 j e h1, v2⟩
  have ea : argSs Γ1 (.nw (.obj c [] []) :: ys) = some ((.obj c [] [], true) :: as) := by simp only [argSs, argS, Option.bind_some, e2, Option.map_some]
  have nd2 : nodupB (ownIx Γ1 (.nw (.obj c [] []) :: ys)) = true := by simpa only [ownIx] using nd
  match r', os, he, e3 with
  | .fz (.exc c' ks ds), o0 :: os', he, e3 =>
    simp only [Option.some.injEq, Prod.mk.injEq] at he
    obtain ⟨rfl, rfl⟩ := he
    refine call_coreG (R := xcQ g Wx (fun v H2 => v = .non ∧ Q (.ref p) H2)) r2 v3 ea nd2 (by simpa using e3) (fun i z => by cases z) (by rw [List.length_cons, hl]) fun v H' O2 s2 r3 val _ => ?_
    have w : Rep g (Av Bn O2) H' (.exc c' ks ds) v := val
    intro d hd
    exact hQ v H' O2 (st2.trans s2) (by simpa only [putOuts] using r3) w d hd
  | .fz .non, some (.obj c' ks ds, true) :: os', he, e3 =>
    simp only [Option.some.injEq, Prod.mk.injEq] at he
    obtain ⟨rfl, rfl⟩ := he
    refine call_coreG (R := xcQ g Wx (fun v H2 => v = .non ∧ Q (.ref p) H2)) r2 v3 ea nd2 (by simpa using e3) (fun i z => by cases z) (by rw [List.length_cons, hl]) fun v H' O2 s2 r3 val nws => ?_
    show v = .non ∧ Q (.ref p) H'
    refine ⟨by simpa only [Val, Rep] using val, ?_⟩
    have w1 := nws 0 _ _ p rfl rfl rfl
    exact hQ _ H' O2 (st2.trans s2) (by simpa only [putOuts] using r3) (by simpa only [putOuts] using w1)
theorem px_mk (M : MkdX X.prog X.w X.mg X.base g k c x n F) (C : Cok0 g X) (tk : Tk X Wx) (hF : fs[i]? = some F) (hn : ies.length = n) (hr : Room (k + 1) X.A) (hg : Gl X x) (ha : PA X (e :: es) (tAw g fs ies)) (hdb : (x == ("__debug__" : Str)) = false)
    (he : starEach (e :: es) X.env = (false, eval e X.env) :: starEach es X.env) (hpl : (backTo pos (starEach es X.env)).any (·.1) = false) : PE X (.Call (.Name x p) (e :: es) [] pos) (tRX g Wx fs (.mkx c i ies)) := by
  obtain ⟨f, fd, ps, h1, h2, h3, h5, h4⟩ := M.ex
  have h6 := FnOk.kf h4
  rw [← C.K] at h2 h3 h6
  refine PE.weak (pe_make h2 h6 hr hg h1 h3 .nil (pass_tk tk) ha hdb he hpl) ?_
  rintro σ H Q ⟨Bn, Ow, Γ, r, Γ', rs, he, hQ⟩
  simp only [ev] at he
  obtain ⟨⟨ys, Γ1⟩, e1, he⟩ := Option.bind_eq_some_iff.mp he
  obtain ⟨F', e4, he⟩ := Option.bind_eq_some_iff.mp he
  rw [hF] at e4; cases e4
  refine ⟨Bn, Ow, Γ, ys, Γ1, rs, e1, fun vs H1 O1 s1 r1 v1 => ?_⟩
  intro p dx np0 ndx ne
  show (_ ∧ _)
  rw [List.append_nil, C.K]
  exact mkX_core r1 v1 he (by rw [← v1.len, ← evs_len e1, hn]) h5 (fun v H' O' st => hQ v H' O' (s1.trans st)) p dx np0 ndx ne
/-- a def called by values, somewhere below -/
theorem run_subX {sp : Sp} {fd : FuncData} {ps : List Str} {f : Addr} {A : Around} {pins : List (Addr × Obj)} {σ : St} {H : Hp} {s : Shared} {Q : VK} {us : List Value} {vs : List V} (tk : Tk X Wx) (F : FnOk X.prog X.w X.K X.mg X.base (L2.CX X.prog X.w) k f fd ps sp) (sb : L2.Sub X k A) (hb : Binds X.K fd ps [])
    (I : Inv X pins σ H s) (r : Vals vs us) (h : sp vs H Q Wx) : wpAny (model X.prog X.w) A (call (.ref f) us) (EP X pins σ Q) X.xe s := by
  have e := I.env0
  have e0 : Env0 X.prog X.w X.K X.mg X.base A X.stack s H := { frames := by rw [sb.fr]; exact e.frames, mod := e.mod, bs := e.bs, bsz := e.bsz, funs := e.funs, frf := e.frf, hok := e.hok, bare := e.bare }
  have hl : us.length = ps.length := by rw [← r.length]; exact F.len _ _ _ _ h
  have b0 := hb s us I.kIn (by rw [List.append_nil]; exact hl)
  rw [List.append_nil] at b0
  refine wpAny_call (codeAny_mono (F.run A X.stack s H ⟨us, []⟩ us vs Q Wx sb.room e0 b0 r h) fun fl s' hq => ?_)
  match fl, hq with
  | .ok (.ret u), hq => exact I.after hq
  | .error u, hq => exact pass_tk tk pins σ H s u s' I hq
def rOwnX (C : Addr) (sp : Sp) (W : L2.XK) : R2 := fun x y H Q => ∃ a dx fl, x = .ref a ∧ H a = some (.ins C dx fl) ∧ sp [x, y] H Q W
theorem ix_ownX {sp : Sp} {fd : FuncData} {ps : List Str} {f C : Addr} (tk : Tk X Wx) (F : FnOk X.prog X.w X.K X.mg X.base (L2.CX X.prog X.w) k f fd ps sp) (hr : Room (k + 1) X.A) (hb : Binds X.K fd ps []) (hm : Meth X.K C "__getitem__" f) (hf : PySem.W.fnIn X.K f = true) : IxO X (rOwnX C sp Wx) := by
  intro value slice pins s σ H x y v u Q I rx ry h hs
  obtain ⟨a, dx, fl, rfl, ha, h⟩ := h
  cases rx
  obtain ⟨mA, J, _⟩ := ins_get I.hok ha
  obtain ⟨od, J, _⟩ := J.look
  obtain ⟨m, hF⟩ := I.fr
  refine PySem.W.sub_K hF I.ok.mod.kin J hm.at_ hf hm.fn ?_ hs
  exact run_subX (vs := [.ref a, y]) tk F ⟨hr.in1, rfl⟩ hb I (.cons rfl (.cons ry .nil)) h
theorem own_valX {o : OOp} {a b : Expr} {ia ib : E} {Bn : Addr → Prop} {Ow : List Addr} {H : Hp} {σ : St} {Γ Γ' : Ct} {r : RV} {Q : VK} {R : V → V → Hp → Prop}
    (hF : fs[i]? = some F) (rs : RS g Bn Ow H σ Γ) (he : ev fs (.ownx o c i ia ib) Γ = some (r, Γ')) (hQ : ∀ v H' Ow', Stp Ow H Ow' H' → RS g Bn Ow' H' σ Γ' → Val g Bn Ow' H' σ Γ' r v → xcQ g Wx Q r v H')
    (k2 : ∀ A d e v w H2, Rep g A H2 d v → Rep g A H2 e w → isObj c d = true → okO o c e = true → spX g 2 F [v, w] H2 Q Wx → R v w H2) :
    tR g fs ia σ H fun v H1 => tR g fs ib σ H1 fun w H2 => R v w H2 := by
  simp only [ev] at he
  obtain ⟨⟨x, Γ1⟩, e1, he⟩ := Option.bind_eq_some_iff.mp he
  obtain ⟨⟨y, Γ2⟩, e2, he⟩ := Option.bind_eq_some_iff.mp he
  obtain ⟨⟨d', Γ3⟩, f1, he⟩ := Option.bind_eq_some_iff.mp he
  obtain ⟨⟨e', Γ4⟩, f2, he⟩ := Option.bind_eq_some_iff.mp he
  simp only [Option.ite_none_right_eq_some, Bool.and_eq_true] at he
  obtain ⟨⟨ho1, ho2⟩, he⟩ := he
  obtain ⟨F', hF', e5⟩ := Option.bind_eq_some_iff.mp he
  rw [hF] at hF'; cases hF'
  simp only at f1 f2
  rw [← fre_dn] at f1 f2
  refine tR_two rs e1 e2 fun v w H2 O2 s2 r2 v2 w2 => ?_
  obtain ⟨O3, s3, r3, p3⟩ := fre_ok r2 v2 f1
  obtain ⟨O4, s4, r4, p4⟩ := fre_ok r3 (w2.step s3 r3) f2
  have p3' := p3.step s4 r4
  refine k2 (Av Bn O4) d' e' v w H2 p3' p4 ho1 ho2 ?_
  exact callD_coreG (xs := [.fz d', .fz e']) (vs := [v, w]) r4 ⟨v, [w], rfl, p3', nofun, w, [], rfl, p4, nofun, rfl⟩ e5 rfl fun z H' O5 s5 r5 v5 => hQ _ H' O5 (((s2.trans s3).trans s4).trans s5) r5 v5
theorem px_ownIx {a b : Expr} {ia ib : E} (M : MtdX X.prog X.w X.mg X.base g k c "__getitem__" 2 F) (hfn : ∀ f, Meth g.K (g.cl c) "__getitem__" f → PySem.W.fnIn g.K f = true) (C : Cok0 g X) (tk : Tk X Wx) (hF : fs[i]? = some F) (hr : Room (k + 1) X.A) (ha : PE X a (tR g fs ia)) (hb : PE X b (tR g fs ib)) (hs : PlainIx b) (hs' : ∀ o i, subscripted b true o i = runValue (.builtin "lifetime.subscript" ⟨[o, i], []⟩)) : PE X (.Subscript a b pos) (tRX g Wx fs (.ownx .ix c i ia ib)) := by
  obtain ⟨f, fd, ps, h1, h2, h3, h4⟩ := M.ex
  have hf := hfn f h2
  rw [← C.K] at h1 h2 h3 h4 hf
  refine PE.weak (pe_ixO ix_seq (ix_ownX tk h4 hr h3 h2 hf) ha hb hs hs') ?_
  rintro σ H Q ⟨Bn, Ow, Γ, r, Γ', rs, he, hQ⟩
  refine own_valX (a := a) (b := b) hF rs he hQ fun A d e v w H2 q1 q2 q3 q4 q5 => .inr ?_
  obtain ⟨pa, dx, fl, rfl, e1⟩ := rep_ins q3 q1
  exact ⟨pa, dx, fl, rfl, e1, q5⟩
/-! ### statements -/
theorem sx_drop (h : PE X e (tRX g Wx fs ie)) (hs : swapsWith e none pos.line X.env = pure false) : PS X (.Expr e pos) (tSt g Wx fs (.xex ie .drop)) := by
  refine PS.weak (ps_expr h hs) ?_
  rintro Dn σ H ⟨pv, Bn, Ow, Γ, o, rs, pn, he, po⟩
  simp only [ex] at he
  obtain ⟨⟨x, Γ1⟩, e1, he⟩ := Option.bind_eq_some_iff.mp he
  refine ⟨Bn, Ow, Γ, x, Γ1, rs, e1, fun v H1 O1 s1 r1 vl => ?_⟩
  simp only at he
  split at he
  · simp only [Option.some.injEq] at he; subst he
    intro d hd
    subst hd
    exact po d σ H1 O1 s1 r1 pn vl
  · rename_i z
    simp only [Option.some.injEq] at he; subst he
    rw [xcQ_no (by cases x with
      | fz d => cases d <;> first | rfl | exact absurd rfl (z _ _ _)
      | _ => rfl)]
    exact po σ H1 O1 s1 r1 pn
theorem no_xc {x : RV} (z : ∀ (c : Nat) (ks : List Str) (ds : List D), x = .fz (.exc c ks ds) → False) : isXc x = false := by
  cases x with
  | fz d => cases d <;> first | rfl | exact (z _ _ _ rfl).elim
  | _ => rfl
theorem sx_ret (h : PE X e (tRX g Wx fs ie)) : PS X (.Return (some e) pos) (tSt g Wx fs (.xex ie .ret)) := by
  refine PS.weak (ps_ret h) ?_
  rintro Dn σ H ⟨pv, Bn, Ow, Γ, o, rs, pn, he, po⟩
  simp only [ex] at he
  obtain ⟨⟨x, Γ1⟩, e1, he⟩ := Option.bind_eq_some_iff.mp he
  refine ⟨Bn, Ow, Γ, x, Γ1, rs, e1, fun v H1 O1 s1 r1 vl => ?_⟩
  simp only at he
  split at he
  · simp only [Option.some.injEq] at he; subst he
    intro d hd
    subst hd
    exact po d σ H1 O1 s1 r1 pn vl
  · rename_i z
    simp only [Option.some.injEq] at he; subst he
    rw [xcQ_no (no_xc fun c ks ds q => z c ks ds q)]
    exact po v σ H1 O1 s1 r1 pn vl
theorem sx_asg {tg : Expr} {itg : Tg} (h : PE X e (tRX g Wx fs ie)) (hg : PG X tg (tgT g.K itg)) (hs : swapsWithSole [tg] e pos.line X.env = pure false) (hw : swappedStores [tg] e X.env = pure none)
    (h1 : (assignEach [tg] X.env).map (·.2) = [assign tg X.env]) : PS X (.Assign [tg] e pos) (tSt g Wx fs (.xex ie (.asg itg))) := by
  refine PS.weak (ps_asg h hg hs hw h1) ?_
  rintro Dn σ H ⟨pv, Bn, Ow, Γ, o, rs, pn, he, po⟩
  simp only [ex] at he
  obtain ⟨⟨x, Γ1⟩, e1, he⟩ := Option.bind_eq_some_iff.mp he
  refine ⟨Bn, Ow, Γ, x, Γ1, rs, e1, fun v H1 O1 s1 r1 vl => ?_⟩
  simp only at he
  split at he
  · simp only [Option.some.injEq] at he; subst he
    intro d hd
    subst hd
    exact po d σ H1 O1 s1 r1 pn vl
  · rename_i z
    rw [xcQ_no (no_xc fun c ks ds q => z c ks ds q)]
    obtain ⟨⟨d, Γ2⟩, e2, he⟩ := Option.bind_eq_some_iff.mp he
    simp only [Option.ite_none_right_eq_some] at he
    obtain ⟨dj, he⟩ := he
    obtain ⟨Γ3, e3, rfl⟩ := Option.map_eq_some_iff.mp he
    obtain ⟨O2, s2, r2, p2⟩ := fre_ok r1 vl e2
    exact asgT_ok itg r2 p2 e3 fun σ' q1 q2 q3 => po σ' H1 O2 (s1.trans s2) q1 (pn.keep dj q2 q3)
end
end DV

namespace DV
open PySem L2
variable {Wx : L2.XK}
/-! ### errors of the program: own classes over ArithmeticError whose __init__ stores its arguments -/
abbrev aeT : List Value := [.type "ArithmeticError", .type "Exception", .type "BaseException", .type "object"]
/-- what is written of such a class -/
structure AexC (K : PySem.W.Frag) (C : Addr) : Prop where
  ini : PySem.W.excInitIn K C aeT "ArithmeticError.__new__" = true
  ov : PySem.W.excOver K C aeT = true
  hd : PySem.W.hasDictIn K C = true
  sa : PySem.W.findIn K (.ref C) "__setattr__" = some (some (.builtin "object.__setattr__"))
  exC : PySem.W.subIn K (.ref C) (.type "BaseException") = some true
  tyC : PySem.W.typeIn K (.ref C) = some (.type "type")
  kC : PySem.W.keepIn K (.ref C) = true
def aexB (K : PySem.W.Frag) (C : Addr) : Bool := PySem.W.excInitIn K C aeT "ArithmeticError.__new__" && (PySem.W.excOver K C aeT && (PySem.W.hasDictIn K C &&
  (decide (PySem.W.findIn K (.ref C) "__setattr__" = some (some (.builtin "object.__setattr__"))) && (decide (PySem.W.subIn K (.ref C) (.type "BaseException") = some true) && (decide (PySem.W.typeIn K (.ref C) = some (.type "type")) && PySem.W.keepIn K (.ref C))))))
theorem aexB_ok {K : PySem.W.Frag} {C : Addr} (h : aexB K C = true) : AexC K C := by
  simp only [aexB, Bool.and_eq_true, decide_eq_true_eq] at h
  exact ⟨h.1, h.2.1, h.2.2.1, h.2.2.2.1, h.2.2.2.2.1, h.2.2.2.2.2.1, h.2.2.2.2.2.2⟩
/-- the class whose __init__ is called with the text -/
structure BexC (K : PySem.W.Frag) (B : Addr) : Prop where
  ga : PySem.W.specialIn K (.ref B) "__getattribute__" = some (some (.builtin "type.__getattribute__"))
  rd : PySem.W.readsIn K B (.type "type") = true
  at_ : PySem.W.findCls K (.ref B) (.type "type") "__init__" = some (.val (.builtin "ArithmeticError.__init__"))
section
variable {X : Cx} {pins : List (Addr × Obj)} {σ : L2.St} {H : Hp} {s : Shared} {a C dx : Addr} {f : Str} {y : V} {u : Value} {fs : List (Str × V)} {Q : Unit → Shared → Prop} {E : Value → Shared → Prop} {A : Around}
/-- the first field -/
theorem aes_new (T : AexC X.K C) (I : Inv X pins σ H s) (e : H a = some (exo a C none)) (hno : PySem.W.takerIn X.K C f = some none) (ry : RelV y u)
    (go : ∀ d z, H d = none → d ≠ a → Inv X pins σ (upd (upd H d (exd d [(f, y)])) a (exo a C (some d))) z → Q () z) : wpAny (model X.prog X.w) A (setAttr (.ref a) f u) Q E s := by
  obtain ⟨cd, hcd, hdc⟩ := PySem.W.any_some T.hd
  obtain ⟨t1, ho⟩ := exo_at I.hok e
  have KI := I.kIn
  obtain ⟨hp, g, dr, t, os⟩ := s
  have J : PySem.W.InstAt hp a { cls := .ref C, dict := none, data := .fields #[.ref t1, .none, .none, .none, .bool false, .none] } C none := ⟨ho, rfl, rfl, trivial⟩
  refine PySem.W.set_plain KI J T.sa ?_
  refine PySem.W.osa_openX (s := ⟨hp, g, dr, t + 1, os⟩) PySem.F.store_ArithmeticError KI J T.ov hno fun b => ?_
  have hcls : PySem.W.Looks (model X.prog X.w) hp (classData C) cd := PySem.W.looks_clsIn KI hcd
  have hxs : a ≠ hp.objs.size := Nat.ne_of_lt (Heap.lt_size ho)
  have fin : ∀ h1 tk1, h1.Ns1 hp.objs.size (fun z => if z = f then some u else none) → Heap.SameBut hp.objs.size ((hp.push { cls := .type "dict", data := .dict #[] }).update a (fun o => { o with dict := some hp.objs.size })) h1 →
      Q () ⟨h1, g, dr, tk1, os⟩ := fun h1 tk1 hn1 hs1 => by
    have ha1 : (hp.push { cls := .type "dict", data := .dict #[] }).get? a = some { cls := .ref C, data := .fields #[.ref t1, .none, .none, .none, .bool false, .none] } := Heap.get?_push_of_some _ ho
    have dn : hp.objs.size ≤ hp.objs.size := Nat.le_refl _
    have hnd : H hp.objs.size = none := I.hok.fresh dn
    have kp : ∀ b o, b ≠ a → hp.get? b = some o → h1.get? b = some o := fun b o hb z =>
      (hs1.2 b (Nat.ne_of_lt (Heap.lt_size z))).trans ((Heap.get?_update_ne _ _ _ _ hb).trans (Heap.get?_push_of_some _ z))
    have hx1 : h1.get? a = some { cls := .ref C, dict := some hp.objs.size, data := .fields #[.ref t1, .none, .none, .none, .bool false, .none] } :=
      (hs1.2 a hxs).trans (Heap.get?_update_self _ ha1 rfl)
    have nd : ∀ {b : Addr} {o : Obj}, hp.get? b = some o → b ≠ hp.objs.size := fun {b o} z => Nat.ne_of_lt (Heap.lt_size z)
    have na : ∀ {b : Addr}, H b = none → b ≠ a := fun {b} n z => by rw [z, e] at n; cases n
    have dne : hp.objs.size ≠ a := fun z => hxs z.symm
    have U : Un X.fs [] H (upd (upd H hp.objs.size (exd hp.objs.size [(f, y)])) a (exo a C (some hp.objs.size))) hp h1 := {
      keep := fun b o z n _ _ => kp b o (na n) z
      slot := fun b o z n _ _ => ⟨o.slots, kp b o (na n) z⟩
      free := fun b o z n _ => by rw [upd_ne (na n), upd_ne (nd z)]; exact n
      there := fun b o z _ => by
        by_cases hb : b = a
        · rw [hb]; exact ⟨_, hx1⟩
        · exact ⟨o, kp b o hb z⟩
      tups := fun b xs z => by rw [upd_ne (at_ne e z exo_tup), upd_ne (ne_of_none z hnd)]; exact z
      frzs := fun b o v z => by rw [upd_ne (at_ne e z exo_frz), upd_ne (ne_of_none z hnd)]; exact z
      tbls := fun b ps z => ⟨#[], by rw [upd_ne (at_ne e z exo_tbl), upd_ne (ne_of_none z hnd), z]; simp⟩ }
    refine go hp.objs.size _ hnd dne (I.un (t' := tk1) U fun b o z => ?_)
    by_cases hb : b = a
    · subst hb; rw [upd_same] at z; cases z; exact exo_ok hx1
    · rw [upd_ne hb] at z
      by_cases hb2 : b = hp.objs.size
      · subst hb2; rw [upd_same] at z; cases z
        exact exd_ok hn1 (relO_put (fs := []) ry fun _ => True.intro)
      · rw [upd_ne hb2] at z
        refine (I.hok b o z).stay (fun c v hc q => kp c v ?_ q) (fun c hc => ?_) fun c xs hc => ?_
        · rcases hc with hc | hc
          · rw [hc]; exact hb
          · exact at_ne e hc exo_own
        · rw [upd_ne (at_ne e hc exo_own), upd_ne (ne_of_none hc hnd)]; exact hc
        · rw [upd_ne (at_ne e hc exo_tup), upd_ne (ne_of_none hc hnd)]; exact hc
  obtain ⟨nm, bs, mro, ns, qn, hd, sn, sb, ab, col, del⟩ := cd
  dsimp only at hdc
  subst hdc
  unfold Builtin.ObjectAttr.storeInOwnDict Builtin.ObjectAttr.ownDictForStores
  repeat (first | with_reducible refine PySem.HandSPX.store_in_new ?_ ?_ | with_reducible refine wpAny_loadPart_at ho ?_ | with_reducible refine hcls.at ?_ | wp_step)
  · exact ⟨_, #[], _, (Heap.get?_update_ne _ _ _ _ hxs.symm).trans (Heap.get?_push_at rfl rfl), rfl, fun q he => absurd he (by simp), fun _ => rfl⟩
  · exact fin
/-- a further field -/
theorem aes_old (T : AexC X.K C) (I : Inv X pins σ H s) (e : H a = some (exo a C (some dx))) (ed : H dx = some (exd dx fs)) (hl : fs.length ≤ 900) (hno : PySem.W.takerIn X.K C f = some none) (ry : RelV y u)
    (go : ∀ z, Inv X pins σ (upd H dx (exd dx ((f, y) :: fs))) z → Q () z) : wpAny (model X.prog X.w) A (setAttr (.ref a) f u) Q E s := by
  obtain ⟨cd, hcd, hdc⟩ := PySem.W.any_some T.hd
  obtain ⟨t1, ho⟩ := exo_at I.hok e
  obtain ⟨mA, hns, rel⟩ := exd_at I.hok ed
  have hw := within_of rel
  have KI := I.kIn
  obtain ⟨hp, g, dr, t, os⟩ := s
  obtain ⟨oD, esD, epD, hoD, hdD, hcD⟩ := hns.count hw
  have J : PySem.W.InstAt hp a { cls := .ref C, dict := some dx, data := .fields #[.ref t1, .none, .none, .none, .bool false, .none] } C (some oD) := ⟨ho, rfl, rfl, hoD⟩
  refine PySem.W.set_plain KI J T.sa ?_
  refine PySem.W.osa_openX (s := ⟨hp, g, dr, t + 1, os⟩) PySem.F.store_ArithmeticError KI J T.ov hno fun b => ?_
  have hcls : PySem.W.Looks (model X.prog X.w) hp (classData C) cd := PySem.W.looks_clsIn KI hcd
  have fin : ∀ h1 tk1, h1.Ns1 dx (fun z => if z = f then some u else mA z) → Heap.SameBut dx hp h1 → Q () ⟨h1, g, dr, tk1, os⟩ := fun h1 tk1 hn1 hs1 => by
    have hd1 : ∃ o, h1.get? dx = some o := by
      obtain ⟨o, _, _, z, _⟩ := hn1
      exact ⟨o, z⟩
    exact go _ (I.write (t' := tk1) (x := dx) (e := dx) (o := exd dx ((f, y) :: fs)) (by rw [ed]; exact True.intro) (.inl rfl) (fun b o hb z => (hs1.2 b hb).trans z) hd1 (exd_ok hn1 (relO_put ry rel)))
  obtain ⟨nm, bs, mro, ns, qn, hd, sn, sb, ab, col, del⟩ := cd
  dsimp only at hdc
  subst hdc
  unfold Builtin.ObjectAttr.storeInOwnDict Builtin.ObjectAttr.ownDictForStores
  repeat (first | with_reducible refine PySem.OEX.store_in_old hns hw (by rw [List.length_map]; omega) ?_ | with_reducible refine wpAny_loadPart_at ho ?_ | with_reducible refine hcls.at ?_ | wp_step)
  exact fin
/-- the base class' __init__ with a text: nothing of it is told -/
theorem aei_ok {us : List Value} {Q : Value → Shared → Prop} (T : AexC X.K C) (I : Inv X pins σ H s) (e : H a = some (exo a C none)) (hl : us.length ≤ sizeLine) (go : ∀ z, Inv X pins σ H z → Q .none z) :
    wpAny (model X.prog X.w) A (call (.builtin "ArithmeticError.__init__") (.ref a :: us)) Q E s := by
  obtain ⟨nm, N, q, bs, bm, hdct, sn, sub, ab, col, dd, k0, k1, k2, k3, k5, hC, hT⟩ := PySem.W.excInit_of I.kIn T.ini
  obtain ⟨t1, ho⟩ := exo_at I.hok e
  obtain ⟨hp, g, dr, t, os⟩ := s
  refine wpAny_call (PySem.HandSPX.init_base PySem.F.excBase_ArithmeticError hT hC ho hl fun h1 t2 k hx => ?_)
  have I2 := I.write (t' := t) (x := a) (e := a) (o := exo a C none) (by rw [e]; exact True.intro) (.inl rfl) k ⟨_, hx⟩ (exo_ok hx)
  have eu : upd H a (exo a C none) = H := funext fun b => by
    by_cases hb : b = a
    · rw [hb, upd_same, e]
    · rw [upd_ne hb]
  rw [eu] at I2
  exact go _ I2
end
/-! ### readings and rules -/
def tAeI (K : PySem.W.Frag) (ta : TA) : TE := fun σ H Q => ta σ H fun vs H1 => ∃ (a C : Addr) (ws : List V), vs = .ref a :: ws ∧ ws.length ≤ 1000 ∧ AexC K C ∧ H1 a = some (exo a C none) ∧ Q .non H1
def tAes (K : PySem.W.Frag) (f : Str) (to te : TE) : TS := fun D σ H => te σ H fun y H1 => to σ H1 fun x H2 => ∃ a C : Addr, x = .ref a ∧ AexC K C ∧ PySem.W.takerIn K C f = some none ∧
  ((H2 a = some (exo a C none) ∧ ∀ dx, H2 dx = none → dx ≠ a → D.nx σ (upd (upd H2 dx (exd dx [(f, y)])) a (exo a C (some dx)))) ∨
    ∃ (dx : Addr) (fs : List (Str × V)), H2 a = some (exo a C (some dx)) ∧ H2 dx = some (exd dx fs) ∧ fs.length ≤ 900 ∧ D.nx σ (upd H2 dx (exd dx ((f, y) :: fs))))
def tMkA (C : Addr) (sp : Sp) (ta : TA) : L2.St → Hp → L2.XK → Prop := fun σ H Q => ta σ H fun vs H1 => vs.length ≤ 1000 ∧ ∀ a, H1 a = none → sp (.ref a :: vs) (upd H1 a (exo a C none))
  (fun v H2 => v = .non ∧ ∃ (d : Addr) (fs : List (Str × V)), H2 a = some (exo a C (some d)) ∧ H2 d = some (exd d fs) ∧ H1 d = none ∧ Q (.ref C) (some d) (upd (del H2 a) d (.xd fs))) (fun _ _ _ => False)
section
variable {X : Cx} {o e : Expr} {es : List Expr} {to te : TE} {ta : TA} {f x : Str} {p p' p1 p2 pos : Pos} {B : Addr}
theorem pe_aei {pl : Sem Bool} (T : BexC X.K B) (hg : Gl X x) (hm : X.mg x = some (.ref B)) (hdb : (x == ("__debug__" : Str)) = false) (ha : PA X (e :: es) ta)
    (hc : eval (.Call (.Attribute (.Name x p1) "__init__" p2) (e :: es) [] pos) X.env = (do
      let ov ← eval (.Name x p1) X.env
      standAt p2.atName
      let (f, first) ← holding [ov] (getMethod ov "__init__" pl)
      callWith pos f first (backTo pos (starEach (e :: es) X.env)) (backToKw pos (keywordEach [] X.env))))
    (he : starEach (e :: es) X.env = (false, eval e X.env) :: starEach es X.env) (hpl : (backTo pos (starEach es X.env)).any (·.1) = false) :
    PE X (.Call (.Attribute (.Name x p1) "__init__" p2) (e :: es) [] pos) (tAeI X.K ta) := by
  refine ⟨fun pins s σ H Q I h => PySem.W.methodCall_KW (ld_glob I hg hm ?_ hdb) hc⟩
  refine PySem.W.method_cls I.kIn T.ga (PySem.W.cls_value I.kIn T.rd T.at_ rfl ?_)
  show wpAny _ _ (callWith pos (Value.builtin "ArithmeticError.__init__") [] (backTo pos (starEach (e :: es) X.env)) []) _ _ _
  refine PyProof.Rows.callWith_method1 (thn (ha.run pos pins _ σ H _ (I.tok _) h) fun us s1 ⟨vs, H1, I1, r1, a, C, ws, ev, hl, T', ea, q⟩ => ?_) he hpl
  subst ev
  cases r1 with
  | @cons _ u0 _ ur ra rw' =>
    obtain rfl : u0 = Value.ref a := ra
    exact aei_ok T' I1 ea (by rw [← Paired.length rw', sizeLine_eq]; omega) fun s2 J => ⟨.non, H1, J, rfl, q⟩
theorem ps_aes (ho : PE X o to) (he : PE X e te) (hs : swapsWith e (some (.Attribute o f p')) pos.line X.env = pure false) : PS X (.Assign [.Attribute o f p'] e pos) (tAes X.K f to te) := by
  refine ⟨fun pins s σ H D I h => plainObj_wpAny_Assign_Attribute (thn (he.run pins s σ H _ I h) fun v s1 hv => ?_) hs⟩
  obtain ⟨y, H1, I1, r1, q1⟩ := hv
  refine thn (ho.run pins s1 σ H1 _ I1 q1) fun u s2 hu => ?_
  obtain ⟨z, H2, I2, r2, a, C, ex, T, hno, q⟩ := hu
  subst ex
  obtain rfl : u = Value.ref a := r2
  rcases q with ⟨ea, q⟩ | ⟨dx, fs, ea, ed, hl, q⟩
  · exact aes_new T I2 ea hno r1 fun dx z n ne J => ⟨σ, _, J, q dx n ne⟩
  · exact aes_old T I2 ea ed hl hno r1 fun z J => ⟨σ, _, J, q⟩
theorem pmk_aex {CX : CXT} {C fI : Addr} {k : Nat} {fd : FuncData} {ps : List Str} {sp : Sp} (T : AexC X.K C) (iC : PySem.W.findIn X.K (.ref C) "__init__" = some (some (.ref fI))) (tI : PySem.W.typeIn X.K (.ref fI) = some (.type "function"))
    (F1 : FnOk X.prog X.w X.K X.mg X.base CX k fI fd ps sp) (hr : Room (k + 1) X.A) (hb : Binds X.K fd ps []) (hx : Passes CX X (fun _ _ _ => False)) (hg : Gl X x) (hm : X.mg x = some (.ref C)) (ha : PA X (e :: es) ta)
    (hdb : (x == ("__debug__" : Str)) = false) (he : starEach (e :: es) X.env = (false, eval e X.env) :: starEach es X.env) (hpl : (backTo pos (starEach es X.env)).any (·.1) = false) :
    PMk X (.Call (.Name x p) (e :: es) [] pos) (tMkA C sp ta) := by
  intro pins s σ H Q I h
  refine wpAny_Call_Name_kw (ld_glob I hg hm ?_ hdb)
  refine PySem.W.callWith_K (h₀ := X.base) I.ok.mod.kin T.kC (thn (ha.run pos pins s σ H _ I h) fun us s1 hs1 => ?_) he hpl
  obtain ⟨vs, H1, I1, r1, hz, q1⟩ := hs1
  refine ⟨I1.kIn, ?_⟩
  obtain ⟨nm, N, q, bs, bm, hdct, sn, sub, ab, col, dd, k0, k1, k2, k3, k5, hC, hT⟩ := PySem.W.excInit_of I1.kIn T.ini
  show wpAny _ _ (call (.ref C) us) _ _ _
  have KI := I1.kIn
  obtain ⟨hp, g, dr, tk, os⟩ := s1
  have hsz : hp.objs.size ≤ hp.objs.size + 1 := Nat.le_succ _
  have hn : H1 (hp.objs.size + 1) = none := I1.hok.fresh hsz
  have hq := q1 (hp.objs.size + 1) hn
  have kk : ∀ b o, hp.get? b = some o → ((hp.push (PySem.W.kdv_tup us)).push (PySem.HandSPX.excO C hp.objs.size)).get? b = some o := fun b o z => Heap.get?_push_of_some _ (Heap.get?_push_of_some _ z)
  have hget : ((hp.push (PySem.W.kdv_tup us)).push (PySem.HandSPX.excO C hp.objs.size)).get? (hp.objs.size + 1) = some (PySem.HandSPX.excO C hp.objs.size) := by heap_get
  have I2 := I1.laid (t' := tk) (a := hp.objs.size + 1) (o := exo (hp.objs.size + 1) C none) (h' := (hp.push (PySem.W.kdv_tup us)).push (PySem.HandSPX.excO C hp.objs.size)) kk hsz (exo_ok hget)
  have r2 : Vals (V.ref (hp.objs.size + 1) :: vs) (Value.ref (hp.objs.size + 1) :: us) := .cons rfl r1
  have hl : (Value.ref (hp.objs.size + 1) :: us ++ []).length = ps.length := by
    have z := r2.length
    rw [F1.len _ _ _ _ hq] at z
    rw [List.append_nil]
    exact z.symm
  have b0 := hb _ (Value.ref (hp.objs.size + 1) :: us) I2.kIn hl
  rw [List.append_nil] at b0
  have hus : us.length ≤ sizeLine := by rw [← Paired.length r1, sizeLine_eq]; omega
  have run := F1.run _ X.stack _ _ ⟨Value.ref (hp.objs.size + 1) :: us, []⟩ _ _ _ (fun _ _ _ => False) (hr.make C us []) (I2.env0.make C us []) b0 r2 hq
  refine wpAny_call (PySem.HandSPX.call_own PySem.F.excBase_ArithmeticError hT hC (PySem.W.looks_findIn KI iC) (fun self => PySem.W.bind_fn KI self tI) hus (codeAny_mono run fun r s2 hq2 => ?_))
  match r, hq2 with
  | .error er, hq2 => exact hx pins σ _ _ er s2 I2 hq2
  | .ok (.ret u), hq2 =>
    obtain ⟨v, H2, os2, bare2, un2, hok2, rv, ev, d, fs, ea, ed, hd1, q2⟩ := hq2
    subst ev
    obtain ⟨h2, g2, d2, t2, os'⟩ := s2
    exact ⟨rv, mk_end (raises_own T.exC T.tyC) I1 hsz kk un2 hok2 os2 bare2 ea ed hd1 q2⟩
end
end DV

namespace DV
open PySem L2
variable {Wx : L2.XK}
/-! ### raise -/
/-- what the __init__ of an error does: each argument becomes a field -/
def spI (g : Gx) (c : Nat) (ks : List Str) : Sp := fun vs H Q _ => ∃ a ws, vs = V.ref a :: ws ∧ ws.length = ks.length ∧ H a = some (exo a (g.cl c) none) ∧
  ∀ H' d, H' a = some (exo a (g.cl c) (some d)) → H' d = some (exd d (ks.zip ws).reverse) → H d = none → d ≠ a → (∀ b, b ≠ a → b ≠ d → H' b = H b) → Q .non H'
theorem spI_len {g : Gx} {c : Nat} {ks : List Str} {vs : List V} {H : Hp} {Q : VK} {E : L2.XK} (h : spI g c ks vs H Q E) : vs.length = ks.length + 1 := by
  obtain ⟨a, ws, rfl, l, _⟩ := h
  rw [List.length_cons, l]
structure XCls (P : Program) (w : World) (mg : Str → Option Value) (base : Heap) (g : Gx) (k c : Nat) (x : Str) (ks : List Str) : Prop where
  ex : ∃ fI fd ps, mg x = some (.ref (g.cl c)) ∧ AexC g.K (g.cl c) ∧ PySem.W.findIn g.K (.ref (g.cl c)) "__init__" = some (some (.ref fI)) ∧ PySem.W.typeIn g.K (.ref fI) = some (.type "function") ∧ Binds g.K fd ps [] ∧ FnOk P w g.K mg base CX0 k fI fd ps (spI g c ks)
theorem XCls.mono {P : Program} {w : World} {mg : Str → Option Value} {base : Heap} {g : Gx} {j k c : Nat} {x : Str} {ks : List Str} (h : XCls P w mg base g j c x ks) (l : j ≤ k) : XCls P w mg base g k c x ks := by
  obtain ⟨f, fd, ps, h1, h2, h3, h4, h5, h6⟩ := h.ex
  exact ⟨f, fd, ps, h1, h2, h3, h4, h5, h6.mono l⟩
theorem s_rse {X : Cx} {g : Gx} {fs : List FS} {e : Expr} {es : List Expr} {ies : List E} {x : Str} {ks : List Str} {p pos' pos : Pos} {c k : Nat} (M : XCls X.prog X.w X.mg X.base g k c x ks) (C : Cok g X) (tk : Tk X Wx) (hr : Room (k + 1) X.A) (hg : Gl X x)
    (ha : PA X (e :: es) (tAs g fs ies)) (hdb : (x == ("__debug__" : Str)) = false) (he : starEach (e :: es) X.env = (false, eval e X.env) :: starEach es X.env) (hpl : (backTo pos' (starEach es X.env)).any (·.1) = false) (hks : ks.length ≤ 1000) :
    PS X (.Raise (some (.Call (.Name x p) (e :: es) [] pos')) none pos) (tSt g Wx fs (.rse c ks ies)) := by
  obtain ⟨f, fd, ps, h1, h2, h3, h4, h5, h6⟩ := M.ex
  rw [← C.K] at h2 h3 h4 h5 h6
  refine PS.weak (ps_raise C.calm tk (pmk_aex h2 h3 h4 h6 hr h5 (fun _ _ _ _ _ _ _ z => z.elim) hg h1 ha hdb he hpl)) ?_
  rintro Dn σ H ⟨pv, Bn, Ow, Γ, o, rs, pn, he, po⟩
  simp only [ex] at he
  obtain ⟨⟨xs, Γ1⟩, e1, he⟩ := Option.bind_eq_some_iff.mp he
  obtain ⟨⟨ds, Γ2⟩, e2, he⟩ := Option.bind_eq_some_iff.mp he
  simp only [Option.ite_none_right_eq_some, Option.some.injEq, excOk, decide_eq_true_eq] at he
  obtain ⟨hl, rfl⟩ := he
  refine ⟨Bn, Ow, Γ, xs, Γ1, rs, e1, fun vs H1 O1 s1 r1 v1 => ?_⟩
  obtain ⟨O2, s2, r2, rp⟩ := fres_ok r1 v1 e2
  have l2 : ks.length = vs.length := by rw [hl, rp.len]
  refine ⟨by omega, fun a na => ⟨a, vs, rfl, l2.symm, upd_same, fun H' d q1 q2 hd hne hk => ⟨rfl, d, _, q1, q2, ?_, ?_⟩⟩⟩
  · rw [upd_ne hne] at hd; exact hd
  · rw [upd_ne hne] at hd
    have sm : Same H1 (upd (del H' a) d (.xd (ks.zip vs).reverse)) := fun b u hb => by
      have nb : b ≠ a := fun z => by rw [z, na] at hb; cases hb
      have nd : b ≠ d := fun z => by rw [z, hd] at hb; cases hb
      rw [upd_ne nd, del_ne nb, hk b nb nd, upd_ne nb]
      exact hb
    refine po d σ _ O2 ((s1.trans s2).trans (Stp.same sm)) (r2.same sm) pn ?_
    simp only [Rep]
    exact ⟨d, vs, rfl, fun z => r2.trk d z hd, l2, upd_same, rp.same sm⟩
/-! ### the readings of an __init__ -/
section
variable {g : Gx} {c : Nat} {K : PySem.W.Frag} {k1 k2 n0 n1 n2 msg : Str} {vs : List V} {H : Hp} {Q : VK} {E : L2.XK}
theorem xin1 (T : AexC K (g.cl c)) (t1 : PySem.W.takerIn K (g.cl c) k1 = some none) (h : spI g c [k1] vs H Q E) :
    tSeq (tDrop (tAeI K (tCons (tVar 0) (tCons (tC (.str msg)) tNil)))) (tSeq (tAes K k1 (tVar 0) (tVar 1)) tNext) { nx := fun _ H' => Q .non H', rt := Q } (L2.start [n0, n1] vs) H := by
  obtain ⟨a, ws, rfl, l, ea, hQ⟩ := h
  match ws, l with
  | [y], _ =>
    exact ⟨.ref a, rfl, a, g.cl c, [.str msg], rfl, by simp, T, ea, y, rfl, .ref a, rfl, a, g.cl c, rfl, T, t1, .inl ⟨ea, fun dx nd ne =>
      hQ _ dx upd_same (by rw [upd_ne ne, upd_same]; rfl) nd ne fun b b1 b2 => by rw [upd_ne b1, upd_ne b2]⟩⟩
theorem xin2 (T : AexC K (g.cl c)) (t1 : PySem.W.takerIn K (g.cl c) k1 = some none) (t2 : PySem.W.takerIn K (g.cl c) k2 = some none) (h : spI g c [k1, k2] vs H Q E) :
    tSeq (tDrop (tAeI K (tCons (tVar 0) (tCons (tC (.str msg)) tNil)))) (tSeq (tAes K k1 (tVar 0) (tVar 1)) (tSeq (tAes K k2 (tVar 0) (tVar 2)) tNext)) { nx := fun _ H' => Q .non H', rt := Q } (L2.start [n0, n1, n2] vs) H := by
  obtain ⟨a, ws, rfl, l, ea, hQ⟩ := h
  match ws, l with
  | [y, z], _ =>
    refine ⟨.ref a, rfl, a, g.cl c, [.str msg], rfl, by simp, T, ea, y, rfl, .ref a, rfl, a, g.cl c, rfl, T, t1, .inl ⟨ea, fun dx nd ne => ?_⟩⟩
    refine ⟨z, rfl, .ref a, rfl, a, g.cl c, rfl, T, t2, .inr ⟨dx, [(k1, y)], upd_same, by rw [upd_ne ne, upd_same], by simp, ?_⟩⟩
    exact hQ _ dx (by rw [upd_ne ne.symm, upd_same]) (by rw [upd_same]; rfl) nd ne fun b b1 b2 => by rw [upd_ne b2, upd_ne b1, upd_ne b2]
end
end DV

namespace DV
open PySem L2
variable {Wx : L2.XK}
/-! ### an error that a suite holds: isinstance(e, C), e.f -/
/-- the suite holds the error -/
abbrev gE (g : Gx) (c : Nat) (e d : Addr) : Gx := ⟨g.K, g.cl, g.T, some (c, e, d)⟩
/-- what is written of an error's class, so that its instances can be asked -/
structure ErrC (K : PySem.W.Frag) (C : Addr) : Prop where
  cl : (PySem.W.clsIn K C).isSome = true
  ga : PySem.W.findIn K (.ref C) "__getattribute__" = some (some (.builtin "BaseException.__getattribute__"))
  gt : PySem.W.findIn K (.ref C) "__getattr__" = some none
  sb : PySem.W.subIn K (.ref C) (.type "BaseException") = some true
  ha : PySem.W.findIn K (.ref C) "__class__" = some (some (.builtin "object.__class__"))
  hn : PySem.W.specialIn K (.builtin "object.__class__") "__get__" = some (some (.builtin "getset_descriptor.__get__"))
  htk : PySem.W.takesIn K (.builtin "object.__class__") = some true
  hm : PySem.W.mroIn K C (.type "object") = some true
  hd : PySem.W.hasDictIn K C = true
section
variable {Y : Cx} {X : Cx} {g : Gx} {fs : List FS} {a dd DC : Addr} {oe : Obj} {pn : List (Addr × Obj)} {c0 i : Nat} {n y : Str} {p p2 pe pos : Pos}
def rXis (K : PySem.W.Frag) (D a dd : Addr) : List V → Hp → VK → Prop := fun xs H Q => ∃ (c : V) (cv : Value) (b : Bool) (fl : List (Str × V)), xs = [.ref a, c] ∧ ClsV c cv ∧ H dd = some (.xd fl) ∧ PySem.W.kitOne K (.ref D) cv = some b ∧ Q (.bl b) H
def rXit (K : PySem.W.Frag) (D a dd : Addr) : List V → Hp → VK → Prop := fun xs H Q => ∃ (tp : Addr) (cs : List V) (us : List Value) (b : Bool) (fl : List (Str × V)), xs = [.ref a, .ref tp] ∧ H tp = some (.tup cs) ∧ Paired ClsV cs us ∧ H dd = some (.xd fl) ∧ PySem.W.kitAny K (.ref D) us = some b ∧ Q (.bl b) H
theorem err_at {pins : List (Addr × Obj)} {σ : L2.St} {H : Hp} {s : Shared} {fl : List (Str × V)} (hz : Zc (.ref DC) (some dd) oe) (hf : ∃ vs, oe.data = .fields vs) (I : Inv (X.suite a ((a, oe) :: pn)) pins σ H s) (hd : H dd = some (.xd fl)) : ∃ od, PySem.W.InstAt s.heap a oe DC (some od) := by
  obtain ⟨hget, _⟩ := I.pin (a, oe) (List.mem_append.mpr (.inl List.mem_cons_self))
  obtain ⟨vs, hv⟩ := hf
  have hx : ObjOk X.prog X.w H s.heap dd (.xd fl) := I.hok dd _ hd
  obtain ⟨mA, hns, hr⟩ := hx
  obtain ⟨od, ho, _⟩ := lookIn_ns hns
  exact ⟨od, hget, hz.1, by unfold PySem.W.notCls; rw [hv] <;> rfl, by rw [hz.2]; exact ho⟩
theorem call_xis (C : ErrC X.K DC) (hz : Zc (.ref DC) (some dd) oe) (hf : ∃ vs, oe.data = .fields vs) : CallR (X.suite a ((a, oe) :: pn)) (.builtin "isinstance") (rXis X.K DC a dd) := by
  intro pins s σ H xs us Q I r h
  obtain ⟨c, cv, b, fl, rfl, k, hd, e, q⟩ := h
  obtain ⟨u1, u2, rfl, r1, r2⟩ := vals2 r
  have e2 := k.eq r2
  subst e2
  cases (show u1 = Value.ref a from r1)
  obtain ⟨od, J⟩ := err_at hz hf I hd
  exact PySem.W.kia_one (PySem.W.kitx_exc C.cl C.ga C.gt C.sb C.ha C.hn C.htk C.hm) I.kIn J e (fun z => nomatch z) fun tk => ⟨.bl b, H, I.kept (t' := tk) fun _ _ z => z, rfl, q⟩
theorem call_xit (C : ErrC X.K DC) (hz : Zc (.ref DC) (some dd) oe) (hf : ∃ vs, oe.data = .fields vs) : CallR (X.suite a ((a, oe) :: pn)) (.builtin "isinstance") (rXit X.K DC a dd) := by
  intro pins s σ H xs us Q I r h
  obtain ⟨tp, cs, ws, b, fl, rfl, hT, k, hd, e, q⟩ := h
  obtain ⟨u1, u2, rfl, r1, r2⟩ := vals2 r
  cases (show u1 = Value.ref a from r1)
  cases (show u2 = Value.ref tp from r2)
  obtain ⟨od, J⟩ := err_at hz hf I hd
  obtain ⟨_, its, rv, o, h1, h2, m, h3⟩ := (show ObjOk X.prog X.w H s.heap tp (.tup cs) from I.hok tp _ hT)
  have e3 := ClsV.all k rv
  subst e3
  obtain ⟨oc, od', dt, sl⟩ := o
  simp only at h2 h3
  subst h2 h3
  exact PySem.W.kia_tup (PySem.W.kitx_exc C.cl C.ga C.gt C.sb C.ha C.hn C.htk C.hm) I.kIn J h1 e (fun z => nomatch z) fun tk => ⟨.bl b, H, I.kept (t' := tk) fun _ _ z => z, rfl, q⟩
/-- the slot that holds the error -/
theorem err_slot {Bn : Addr → Prop} {Ow : List Addr} {H : Hp} {σ : L2.St} {Γ : Ct} {c : Nat} {ks : List Str} {ds : List D} (rs : RS (gE g c0 a dd) Bn Ow H σ Γ) (h : Γ.getD i none = some (.err c ks ds, false)) :
    c = c0 ∧ σ[i]? = some (some (.ref a)) ∧ ∃ vs, ks.length = vs.length ∧ H dd = some (.xd (ks.zip vs).reverse) ∧ Reps (gE g c0 a dd) (Av Bn Ow) H ds vs := by
  have h' : Γ[i]? = some (some (.err c ks ds, false)) := by
    rw [List.getD_eq_getElem?_getD] at h
    cases e : Γ[i]? with
    | none => rw [e] at h; simp at h
    | some z => rw [e] at h; simp at h; rw [h]
  obtain ⟨v, e1, r1⟩ := rs.slot i _ h'
  simp only [Rep] at r1
  obtain ⟨e0, a0, vs, q1, rfl, _, l, hd, rp⟩ := r1
  simp only [Option.some.injEq, Prod.mk.injEq] at q1
  obtain ⟨rfl, rfl, rfl⟩ := q1
  exact ⟨rfl, e1, vs, l, hd, rp⟩
theorem p_xis {all cs : List Nat} {cv : Value} {cV : V} (hall : ∀ c ∈ all, ErrC g.K (g.cl c) ∧ PySem.W.kitOne g.K (.ref (g.cl c)) cv = some (cs.contains c)) (hcv : ClsV cV cv) (hK : X.K = g.K) (hz : Zc (.ref (g.cl c0)) (some dd) oe) (hf : ∃ vs, oe.data = .fields vs)
    (he : PE (X.suite a ((a, oe) :: pn)) (.Name n pe) (tVar i)) (hc : PE (X.suite a ((a, oe) :: pn)) (.Name y p2) (tC cV)) (hg : Gl (X.suite a ((a, oe) :: pn)) "isinstance") (hm : X.mg "isinstance" = none)
    (hst : starEach (.Name n pe :: [.Name y p2]) (X.suite a ((a, oe) :: pn)).env = (false, eval (.Name n pe) (X.suite a ((a, oe) :: pn)).env) :: starEach [.Name y p2] (X.suite a ((a, oe) :: pn)).env) (hpl : (backTo pos (starEach [.Name y p2] (X.suite a ((a, oe) :: pn)).env)).any (·.1) = false) :
    PE (X.suite a ((a, oe) :: pn)) (.Call (.Name "isinstance" p) [.Name n pe, .Name y p2] [] pos) (tR (gE g c0 a dd) fs (.xis all cs i)) := by
  by_cases hm0 : c0 ∈ all
  · obtain ⟨C, hk⟩ := hall c0 hm0
    rw [← hK] at C hk
    refine PE.weak (pe_callB (call_xis C hz hf) hg hm PyProof.Rows.boot_isinstance (pa_cons he (pa_cons hc pa_nil rfl) hst) (by decide) (by decide) hst hpl) ?_
    rintro σ H Q ⟨Bn, Ow, Γ, r, Γ', rs, hev, hQ⟩
    simp only [ev] at hev
    obtain ⟨b, e1, e2⟩ := Option.map_eq_some_iff.mp hev
    simp only [Prod.mk.injEq] at e2
    obtain ⟨rfl, rfl⟩ := e2
    unfold xisD at e1
    split at e1
    · rename_i c ks ds hs
      simp only [Option.ite_none_right_eq_some, Option.some.injEq] at e1
      obtain ⟨hall', rfl⟩ := e1
      obtain ⟨rfl, e3, vs, l, hd, rp⟩ := err_slot rs hs
      exact ⟨.ref a, e3, cV, cv, _, _, rfl, hcv, hd, hk, hQ _ H Ow (.refl _ _) rs (by simp only [Val, Rep])⟩
    · cases e1
  · refine PE.weak (p_stuck (g := g) (fs := fs)) ?_
    rintro σ H Q ⟨Bn, Ow, Γ, r, Γ', rs, hev, hQ⟩
    exfalso
    simp only [ev] at hev
    obtain ⟨b, e1, e2⟩ := Option.map_eq_some_iff.mp hev
    unfold xisD at e1
    split at e1
    · rename_i c ks ds hs
      simp only [Option.ite_none_right_eq_some, Option.some.injEq] at e1
      obtain ⟨rfl, _⟩ := err_slot rs hs
      exact hm0 (by simpa using e1.1)
    · cases e1
end
end DV

namespace DV
open PySem L2
variable {Wx : L2.XK}
/-! ### data without an error inside -/
section
variable {g : Gx} {A : Addr → Prop} {H : Hp} {c : Nat} {e dd : Addr}
mutual
theorem rep_up (h0 : g.ea = none) : ∀ (d : D) (v : V), Rep g A H d v → Rep (gE g c e dd) A H d v
  | .non, _, h => by simpa [Rep] using h
  | .bl _, _, h => by simpa [Rep] using h
  | .int _, _, h => by simpa [Rep] using h
  | .str _, _, h => by simpa [Rep] using h
  | .scr _, _, h => by simpa [Rep] using h
  | .dct, _, h => by simpa [Rep] using h
  | .lst ds, v, h => by
    simp only [Rep] at h ⊢
    obtain ⟨a, vs, q, n, s, r⟩ := h
    exact ⟨a, vs, q, n, s, reps_up h0 ds vs r⟩
  | .tup ds, v, h => by
    simp only [Rep] at h ⊢
    obtain ⟨a, vs, q, n, s, r⟩ := h
    exact ⟨a, vs, q, n, s, reps_up h0 ds vs r⟩
  | .obj _ ks ds, v, h => by
    simp only [Rep] at h ⊢
    obtain ⟨a, dx, vs, q, n, l, s, r⟩ := h
    exact ⟨a, dx, vs, q, n, l, s, reps_up h0 ds vs r⟩
  | .dic ks ds, v, h => by
    simp only [Rep] at h ⊢
    obtain ⟨a, vs, q, n, l, s, r⟩ := h
    exact ⟨a, vs, q, n, l, s, reps_up h0 ds vs r⟩
  | .exc _ ks ds, v, h => by
    simp only [Rep] at h ⊢
    obtain ⟨a, vs, q, n, l, s, r⟩ := h
    exact ⟨a, vs, q, n, l, s, reps_up h0 ds vs r⟩
  | .err _ ks ds, v, h => by
    simp only [Rep] at h
    obtain ⟨_, _, _, q, _⟩ := h
    rw [h0] at q; cases q
theorem reps_up (h0 : g.ea = none) : ∀ (ds : List D) (vs : List V), Reps g A H ds vs → Reps (gE g c e dd) A H ds vs
  | [], _, h => by simpa [Reps] using h
  | d :: ds, _, h => by
    simp only [Reps] at h ⊢
    obtain ⟨v, r, q, h1, h2⟩ := h
    exact ⟨v, r, q, rep_up h0 d v h1, reps_up h0 ds r h2⟩
end
mutual
theorem rep_dn : ∀ (d : D) (v : V), noE d = true → Rep (gE g c e dd) A H d v → Rep g A H d v
  | .non, _, _, h => by simpa [Rep] using h
  | .bl _, _, _, h => by simpa [Rep] using h
  | .int _, _, _, h => by simpa [Rep] using h
  | .str _, _, _, h => by simpa [Rep] using h
  | .scr _, _, _, h => by simpa [Rep] using h
  | .dct, _, _, h => by simpa [Rep] using h
  | .lst ds, v, k, h => by
    simp only [Rep] at h ⊢
    simp only [noE] at k
    obtain ⟨a, vs, q, n, s, r⟩ := h
    exact ⟨a, vs, q, n, s, reps_dn ds vs k r⟩
  | .tup ds, v, k, h => by
    simp only [Rep] at h ⊢
    simp only [noE] at k
    obtain ⟨a, vs, q, n, s, r⟩ := h
    exact ⟨a, vs, q, n, s, reps_dn ds vs k r⟩
  | .obj _ ks ds, v, k, h => by
    simp only [Rep] at h ⊢
    simp only [noE] at k
    obtain ⟨a, dx, vs, q, n, l, s, r⟩ := h
    exact ⟨a, dx, vs, q, n, l, s, reps_dn ds vs k r⟩
  | .dic ks ds, v, k, h => by
    simp only [Rep] at h ⊢
    simp only [noE] at k
    obtain ⟨a, vs, q, n, l, s, r⟩ := h
    exact ⟨a, vs, q, n, l, s, reps_dn ds vs k r⟩
  | .exc _ ks ds, v, k, h => by
    simp only [Rep] at h ⊢
    simp only [noE] at k
    obtain ⟨a, vs, q, n, l, s, r⟩ := h
    exact ⟨a, vs, q, n, l, s, reps_dn ds vs k r⟩
  | .err _ ks ds, v, k, h => by simp [noE] at k
theorem reps_dn : ∀ (ds : List D) (vs : List V), noEs ds = true → Reps (gE g c e dd) A H ds vs → Reps g A H ds vs
  | [], _, _, h => by simpa [Reps] using h
  | d :: ds, _, k, h => by
    simp only [Reps] at h ⊢
    simp only [noEs, Bool.and_eq_true] at k
    obtain ⟨v, r, q, h1, h2⟩ := h
    exact ⟨v, r, q, rep_dn d v k.1 h1, reps_dn ds r k.2 h2⟩
end
end
/-- plain slots without an error inside -/
def plainG (Γ : Ct) : Bool := Γ.all fun s => match s with
  | some (d, false) => noE d
  | some (_, true) => false
  | none => true
section
variable {g : Gx} {Bn : Addr → Prop} {Ow O : List Addr} {H H' : Hp} {σ σs : L2.St} {Γ Γs Γ' : Ct} {c : Nat} {e dd : Addr}
theorem plainG_at {i : Nat} {d : D} {b : Bool} (h : plainG Γ = true) (q : Γ[i]? = some (some (d, b))) : b = false ∧ noE d = true := by
  have := List.all_eq_true.mp h _ (List.mem_of_getElem? q)
  cases b with
  | false => exact ⟨rfl, this⟩
  | true => cases this
/-- plain slots alone -/
theorem RS.plain {σ1 : L2.St} {Γ1 : Ct} (rs : RS g Bn Ow H σ Γ) (hl : σ1.length = Γ1.length) (hp : plainG Γ1 = true) (hs : ∀ (i : Nat) d, Γ1[i]? = some (some (d, false)) → ∃ v, σ1[i]? = some (some v) ∧ Rep g (Av Bn Ow) H d v) : RS g (Av Bn Ow) [] H σ1 Γ1 := by
  have av : ∀ a, Av (Av Bn Ow) [] a → Av Bn Ow a := fun a z => z.elim id fun z => nomatch z
  refine ⟨hl, fun i d h => ?_, fun i d h => ?_, fun i j d f a h => ?_, fun a h => rs.trl a (av a h), fun a _ => by simp, fun a h => rs.kf a (av a h), rs.tabs⟩
  · obtain ⟨v, q, r⟩ := hs i d h
    exact ⟨v, q, rep_less av r⟩
  · exact absurd (plainG_at hp h).1 Bool.noConfusion
  · exact absurd (plainG_at hp h).1 Bool.noConfusion
theorem nones_plain (k : Nat) : plainG (List.replicate k none) = true := by
  simp only [plainG, List.all_eq_true]
  intro x hx
  rw [List.eq_of_mem_replicate hx]
theorem RS.frame {k : Nat} (rs : RS g Bn Ow H σ Γ) (hl : σs.length = k) : RS g (Av Bn Ow) [] H σs (List.replicate k none) :=
  rs.plain (by rw [List.length_replicate]; exact hl) (nones_plain k) fun i d h => by
    rw [List.getElem?_replicate] at h
    split at h <;> cases h
/-- a frame behind what another one did that could not touch it -/
theorem RS.over (r0 : RS g Bn Ow H σ Γ) (s : Stp [] H O H') (t : Tb g.T H') : RS g Bn Ow H' σ Γ := by
  have kp : ∀ a, Vst g (Av Bn Ow) H a → (∀ o, H a = some o → nT o → H' a = some o) ∧ ¬ Av Bn Ow a := fun a z => ⟨fun o h q => s.keep0 a o h q (by simp), z.1⟩
  refine ⟨r0.len, fun i d h => ?_, fun i d h => ?_, r0.dist, fun a h => ?_, r0.sep, r0.kf, t⟩
  · obtain ⟨v, q, r⟩ := r0.slot i d h
    exact ⟨v, q, rep_mono kp _ _ r⟩
  · obtain ⟨a, q, m, r⟩ := r0.own i d h
    refine ⟨a, q, m, ?_⟩
    cases d with
    | lst ds => obtain ⟨ws, z1, z2⟩ := r; exact ⟨ws, s.keep0 a _ z1 nofun (by simp), reps_mono kp _ _ z2⟩
    | obj c ks ds => obtain ⟨dx, ws, l, z1, z2⟩ := r; exact ⟨dx, ws, l, s.keep0 a _ z1 nofun (by simp), reps_mono kp _ _ z2⟩
    | _ => exact r
  · rcases r0.trl a h with ⟨vs, q⟩ | ⟨C, dx, fl, q⟩
    · exact .inl ⟨vs, s.keep0 a _ q nofun (by simp)⟩
    · exact .inr ⟨C, dx, fl, s.keep0 a _ q nofun (by simp)⟩
theorem Stp.any (s : Stp [] H O H') : Stp Ow H Ow H' := ⟨fun a o h t _ => s.keep0 a o h t (by simp), fun _ h => .inl h⟩
theorem RS.up (h0 : g.ea = none) (rs : RS g Bn Ow H σ Γ) : RS (gE g c e dd) Bn Ow H σ Γ := by
  refine ⟨rs.len, fun i d h => ?_, fun i d h => ?_, rs.dist, rs.trl, rs.sep, rs.kf, rs.tabs⟩
  · obtain ⟨v, q, r⟩ := rs.slot i d h
    exact ⟨v, q, rep_up h0 _ _ r⟩
  · obtain ⟨a, q, m, r⟩ := rs.own i d h
    refine ⟨a, q, m, ?_⟩
    cases d with
    | lst ds => obtain ⟨ws, z1, z2⟩ := r; exact ⟨ws, z1, reps_up h0 _ _ z2⟩
    | obj c ks ds => obtain ⟨dx, ws, l, z1, z2⟩ := r; exact ⟨dx, ws, l, z1, reps_up h0 _ _ z2⟩
    | _ => exact r
theorem Vst.eq {a : Addr} {A : Addr → Prop} (h : Vst (gE g c e dd) A H a) : Vst g A H a := h
/-- tables alone: a lambda was made -/
theorem RS.ext (r0 : RS g Bn Ow H σ Γ) (k : LamX.ExtN H H') (t : Tb g.T H') : Stp Ow H Ow H' ∧ RS g Bn Ow H' σ Γ := by
  have s : Stp [] H [] H' := ⟨fun a o h n _ => k a o h n, fun _ h => .inl h⟩
  exact ⟨s.any, r0.over s t⟩
end
end DV

namespace DV
open PySem L2
/-! ### a def that calls what it got, and tells of the error: told(lambda: e) -/
def nxP : Option Out → Option Ct
  | some (.nx Γ) => if plainG Γ then some Γ else none
  | _ => none
def retD : Option Out → Option D
  | some (.rt r Γ) => (fre Γ r).map fun p => p.1
  | _ => none
/-- what it tells if nothing is raised: the statements ahead of the try, behind the call, behind the try -/
def saidN (fs : List FS) (n : Nat) (i2 : S) (im : List S) (iq : S) : Option D :=
  (nxP (ex fs [0] i2 (List.replicate n none))).bind fun Γ2 => (nxP (exs fs [] im Γ2)).bind fun Γ3 => retD (ex fs [] iq Γ3)
/-- what it tells of an error: the suite, where slot ie holds the error, and what stands behind -/
def saidX (fs : List FS) (n ie : Nat) (all : List Nat) (is : List S) (iq : S) (c : Nat) (ks : List Str) (ds : List D) : Option D :=
  if all.contains c then match exs fs [] is ((List.replicate n none).set ie (some (.err c ks ds, false))) with
    | some (.nx Γ) => if plainG (Γ.set ie none) then retD (ex fs [] iq (Γ.set ie none)) else none
    | _ => none
  else none
theorem nxP_some {o : Option Out} {Γ : Ct} (h : nxP o = some Γ) : o = some (.nx Γ) ∧ plainG Γ = true := by
  unfold nxP at h
  split at h
  · simp only [Option.ite_none_right_eq_some, Option.some.injEq] at h
    obtain ⟨h1, rfl⟩ := h
    exact ⟨rfl, h1⟩
  · cases h
theorem retD_some {o : Option Out} {d : D} (h : retD o = some d) : ∃ r Γ Γ', o = some (.rt r Γ) ∧ fre Γ r = some (d, Γ') := by
  unfold retD at h
  split at h
  · rename_i r Γ
    obtain ⟨⟨d', Γ'⟩, h1, rfl⟩ := Option.map_eq_some_iff.mp h
    exact ⟨r, Γ, Γ', rfl, h1⟩
  · cases h
abbrev WF : L2.XK := fun _ _ _ => False
section
variable {g : Gx} {fs0 : List FS} {B : Addr → Prop} {H : Hp} {σ : L2.St} {Γ : Ct}
/-- the return behind the try -/
theorem said_ret {n : Nat} {iq : S} {d : D} {D' : Ends} (rs : RS g B [] H σ Γ) (hl : σ.length = n) (hr : retD (ex fs0 [] iq Γ) = some d)
    (hQ : ∀ v H4 O4, Stp [] H O4 H4 → Tb g.T H4 → Rep g B H4 d v → D'.rt v H4) : tSeq (tSt g WF fs0 iq) tNext D' σ H := by
  obtain ⟨r, Γ5, Γ6, e1, e2⟩ := retD_some hr
  refine ⟨(n, []), B, [], Γ, .rt r Γ5, rs, ⟨hl, nofun⟩, e1, fun v σ' H' O' st r1 _ vl => ?_⟩
  obtain ⟨O6, s6, r6, p6⟩ := fre_ok r1 vl e2
  exact hQ v H' O6 (st.trans s6) r6.tabs (rep_less (fun a z => .inl z) p6)
theorem plain_step {Bn : Addr → Prop} {Ow O : List Addr} {H2 : Hp} {σ0 σ1 : L2.St} {Γ0 Γ1 : Ct} (r1 : RS g B O H σ1 Γ1) (hp : plainG Γ1 = true) (sub : ∀ a, Av Bn Ow a → B a) {Ow2 : List Addr} (s : Stp Ow H Ow2 H2) (r2 : RS g Bn Ow2 H2 σ0 Γ0) : RS g (Av Bn Ow2) [] H2 σ1 Γ1 :=
  r2.plain r1.len hp fun i d h => by
    obtain ⟨v, e, r⟩ := r1.slot i d h
    exact ⟨v, e, Rep.step (rep_less (fun a z => .inl (sub a z)) r) s r2⟩
theorem err_frame {Bn : Addr → Prop} {Ow : List Addr} {c ie n : Nat} {a dd : Addr} {ks : List Str} {ds : List D} {σ0 σ1 : L2.St} {Γ0 : Ct} (h0 : g.ea = none) (rs : RS g Bn Ow H σ0 Γ0) (hl : σ1.length = n) (hi : ie < n) (r : Rep g (Av Bn Ow) H (.exc c ks ds) (.ref dd)) :
    RS (gE g c a dd) (Av Bn Ow) [] H (σ1.set ie (some (.ref a))) ((List.replicate n none).set ie (some (.err c ks ds, false))) := by
  have av : ∀ x, Av (Av Bn Ow) [] x → Av Bn Ow x := fun x z => z.elim id fun z => nomatch z
  have at_ : ∀ (i : Nat) (p : D × Bool), ((List.replicate n (none : Sl)).set ie (some (.err c ks ds, false)))[i]? = some (some p) → i = ie ∧ p = (.err c ks ds, false) := fun i p h => by
    by_cases e : ie = i
    · subst e
      rw [List.getElem?_set_self (by rw [List.length_replicate]; exact hi)] at h
      cases h; exact ⟨rfl, rfl⟩
    · rw [List.getElem?_set_ne e, List.getElem?_replicate] at h
      split at h <;> cases h
  refine ⟨by rw [List.length_set, List.length_set, List.length_replicate]; exact hl, fun i d h => ?_, fun i d h => ?_, fun i j d f x h => ?_, fun x h => rs.trl x (av x h), fun x _ => by simp, fun x h => rs.kf x (av x h), rs.tabs⟩
  · obtain ⟨rfl, q⟩ := at_ i _ h
    cases q
    refine ⟨.ref a, List.getElem?_set_self (by rw [hl]; exact hi), ?_⟩
    simp only [Rep] at r ⊢
    obtain ⟨x, vs, q1, n1, l, hx, rp⟩ := r
    cases q1
    exact ⟨a, dd, vs, rfl, rfl, fun z => n1 (av _ z), l, hx, reps_less av (reps_up h0 _ _ rp)⟩
  · obtain ⟨_, q⟩ := at_ i _ h; cases q
  · obtain ⟨_, q⟩ := at_ i _ h; cases q
end
/-- the promise of such a def, by what its lambda does -/
def TTs (g : Gx) (fs0 : List FS) (d0 : D) (sd : Nat → List Str → List D → Option D) : (L2.XK → Hp → VK → Prop) → Hp → VK → Prop := fun tl H Q =>
  ∃ Bn Ow σ0 Γ0 r Γ1 d, RS g Bn Ow H σ0 Γ0 ∧ saidD d0 sd r = some d ∧
    (∀ (E' : L2.XK) (Q' : VK) (H' : Hp), RS g Bn Ow H' σ0 Γ0 → (∀ v H2 O2, Stp Ow H' O2 H2 → RS g Bn O2 H2 σ0 Γ1 → Val g Bn O2 H2 σ0 Γ1 r v → xcQ g E' Q' r v H2) → tl E' H' Q') ∧
    ∀ v H' Ow', Stp Ow H Ow' H' → RS g Bn Ow' H' σ0 Γ1 → Rep g (Av Bn Ow') H' d v → Q v H'
section
variable {X : Cx} {g : Gx} {fs0 : List FS} {Ng : List Str} {x a be n q : Str} {sg : Scope} {g0 BE : Addr} {cdg : Value} {p2 q1 b0 : Stmt} {mid suite : List Stmt} {pa pb pc np pos' pos : Pos} {i2 iq : S} {im isu : List S} {ie nn : Nat} {all : List Nat} {d0 : D}
theorem takesLen {Y : Cx} {W : WX} (tk : Takes Y W) : Takes Y (fun cls d σ H => σ.length = Y.N.length → W cls d σ H) := fun u s' ⟨a, B, sI, pins, σ, H, cls, d, e, I, nb, up, sky, na, os, ag, w⟩ =>
  tk u s' ⟨a, B, sI, pins, σ, H, cls, d, e, I, nb, up, sky, na, os, ag, w I.len⟩
abbrev cxS (X : Cx) (Ng : List Str) (x : Str) (sg : Scope) (g0 : Addr) (cdg : Value) (s : Shared) (H : Hp) : Cx := (cxOf C8.CX0 X.prog X.w X.K X.mg X.base Ng x sg g0 cdg X.A X.stack s H C8.E0)
theorem said_gives (h0 : g.ea = none) (hnn : Ng.length = nn) (hNd : Ng.Nodup) (hie : Ng[ie]? = some n) (hie0 : ie < nn) (hln : sg.names.lookup n = some .local) (hbe : sg.names.lookup be = some .globalImplicit) (hmb : X.mg be = some (.ref BE)) (hdb : (be == ("__debug__" : Str)) = false)
    (hsub : ∀ c ∈ all, PySem.W.exmOne X.K (.ref (g.cl c)) (.ref BE) = some true)
    (hp2 : ∀ s H, PS (cxS X Ng x sg g0 cdg s H).nox p2 (tSt g WF fs0 i2)) (hq1 : ∀ s H, PS (cxS X Ng x sg g0 cdg s H).nox q1 (tSt g WF fs0 iq))
    (hmid : ∀ s H pn xe, PSs ((cxS X Ng x sg g0 cdg s H).nox.tr pn xe) mid (tSs g WF fs0 im))
    (hsu : ∀ s H (e : Addr) (oe : Obj) (pn : List (Addr × Obj)) (c : Nat) (dd : Addr), Zc (.ref (g.cl c)) (some dd) oe → (∃ vs, oe.data = .fields vs) → PSs ((cxS X Ng x sg g0 cdg s H).nox.suite e ((e, oe) :: pn)) (b0 :: suite) (tSs (gE g c e dd) WF fs0 isu))
    (hN : saidN fs0 nn i2 im iq = some d0) (hsw : ∀ s H, swapsWith (.Call (.Name a pa) [] [] pb) none pc.line (cxS X Ng x sg g0 cdg s H).nox.env = pure false) :
    LamX.GivesTo X Ng x sg g0 cdg [p2, .Try (.Expr (.Call (.Name a pa) [] [] pb) pc :: mid) [.ExceptHandler (some (.Name be np)) (some n) (b0 :: suite) pos'] [] [] pos, q1] a q (TTs g fs0 d0 (saidX fs0 nn ie all isu iq)) := by
  intro f c' s H Q tl act hco hTT
  obtain ⟨Bn, Ow, σ0, Γ0, r, Γ1, d, rs0, hd, hdeed, hfin⟩ := hTT
  let Z := (cxS X Ng x sg g0 cdg s H).nox
  obtain ⟨Γb, n2, hN⟩ := Option.bind_eq_some_iff.mp hN
  obtain ⟨Γc, n3, hN⟩ := Option.bind_eq_some_iff.mp hN
  obtain ⟨e2, pl2⟩ := nxP_some n2
  obtain ⟨e3, pl3⟩ := nxP_some n3
  let ts : Addr → Value → Option Addr → TS := fun e cls d Dn σ H => ∃ c dd, cls = .ref (g.cl c) ∧ d = some dd ∧ tSs (gE g c e dd) WF fs0 isu Dn σ H
  let tb : WX → TS := fun W D σ H => ∃ Ech : L2.XK, (∀ cls d σ' H', σ'.length = nn → Ech cls d H' → W cls d σ' H') ∧ σ[0]? = some (some (.ref f)) ∧ H c' = some (LamX.CodeO c' q) ∧ tl Ech H (fun v H' => tSs g WF fs0 im D σ H')
  have hnm : Names Z be (.ref BE) := ⟨hbe, hdb, .inl hmb⟩
  have body : ∀ (W : WX) (pn : List (Addr × Obj)) (xe : Value → Shared → Prop), Takes (Z.tr pn xe) W → PassesOwn (model Z.prog Z.w) Z.A Z.env xe → PSs (Z.tr pn xe) (.Expr (.Call (.Name a pa) [] [] pb) pc :: mid) (tb W) := fun W pn xe tk _ => ⟨fun pins s' σ H' D I h' => by
    obtain ⟨Ech, hW, h1, h2, h3⟩ := h'
    have tk' : Takes (Z.tr pn xe) (fun cls d σ H => σ.length = nn → W cls d σ H) := by
      have z := takesLen tk
      have e : (Z.tr pn xe).N.length = nn := hnn
      rw [e] at z
      exact z
    have hp := act (fun cls d σ H => σ.length = nn → W cls d σ H) pn xe Ech pa pb tk' (fun cls d σ' H' hE hl => hW cls d σ' H' hl hE)
    exact (pss_cons (ps_expr hp (hsw s H)) (hmid s H pn xe)).run pins s' σ H' D I ⟨h1, h2, h3⟩⟩
  have suit : ∀ (e : Addr) (oe : Obj) (cls : Value) (d : Option Addr) (pn : List (Addr × Obj)), Zc cls d oe → (∃ vs, oe.data = .fields vs) → PSs (Z.suite e ((e, oe) :: pn)) (b0 :: suite) (ts e cls d) := fun e oe cls d pn hz hf => ⟨fun pins s' σ H' D I h' => by
    obtain ⟨c, dd, rfl, rfl, h⟩ := h'
    exact (hsu s H e oe pn c dd hz hf).run pins s' σ H' D I h⟩
  refine ⟨_, pss_cons (hp2 s H) (pss_cons (ps_try_as (X := Z) (c := .ref BE) (i := ie) (ts := ts) (tb := tb) rfl rfl hNd hie hln hnm LamX.takes0 body suit) (pss_cons (hq1 s H) pss_nil)), ?_⟩
  have hst : (L2.start Ng [V.ref f]).length = nn := by
    rw [← hnn]
    show (([V.ref f].map some) ++ List.replicate (Ng.length - [V.ref f].length) none).length = Ng.length
    have hpos : 0 < Ng.length := by omega
    simp
    omega
  have h00 : (L2.start Ng [V.ref f])[0]? = some (some (.ref f)) := rfl
  have f0 := rs0.frame hst
  -- the statements ahead of the try keep slot 0
  refine ⟨(nn, [(0, .ref f)]), Av Bn Ow, [], _, .nx Γb, f0, ⟨hst, fun p hp => by cases List.mem_singleton.mp hp; exact h00⟩, e2, fun σ2 H2 O2 st2 r2 q2' => ?_⟩
  have rsb : RS g Bn Ow H2 σ0 Γ0 := rs0.over st2 r2.tabs
  let EE : L2.XK := fun cls d H' => ∃ c ks ds dd Ow', r = .fz (.exc c ks ds) ∧ cls = .ref (g.cl c) ∧ d = some dd ∧ Stp Ow H2 Ow' H' ∧ RS g Bn Ow' H' σ0 Γ1 ∧ Rep g (Av Bn Ow') H' (.exc c ks ds) (.ref dd)
  -- the end, with what is told
  have fin : ∀ {Ow' : List Addr} {H3 : Hp} {B3 : Addr → Prop} {σ3 : L2.St} {Γ3 : Ct}, Stp Ow H Ow' H3 → RS g Bn Ow' H3 σ0 Γ1 → (∀ a, Av Bn Ow' a → B3 a) → RS g B3 [] H3 σ3 Γ3 → σ3.length = nn → retD (ex fs0 [] iq Γ3) = some d →
      tSeq (tSt g WF fs0 iq) tNext { nx := fun _ H' => Q .non H', rt := Q } σ3 H3 := fun st rsx sub rs3 hl hr =>
    said_ret rs3 hl hr fun v H4 O4 s4 t4 rp => hfin v H4 _ (st.trans s4.any) (rsx.over s4 t4) (rep_less sub rp)
  refine ⟨EE, ?_, q2'.2 _ (List.mem_singleton.mpr rfl), st2.keep0 _ _ hco LamX.codeO_ne (by simp), hdeed EE _ H2 rsb fun v H3 O3 s3 r3 vl => ?_⟩
  · rintro cls dx σ' H' hl ⟨c, ks, ds, dd, Ow', er, rfl, rfl, st', rs', rp⟩
    subst er
    simp only [saidD, saidX, Option.ite_none_right_eq_some] at hd
    obtain ⟨hall, hd⟩ := hd
    refine ⟨true, hsub c (by simpa using hall), fun _ e na => ?_, nofun⟩
    split at hd
    · rename_i Γ3 e4
      simp only [Option.ite_none_right_eq_some] at hd
      obtain ⟨pl4, hd⟩ := hd
      refine ⟨c, dd, rfl, rfl, (nn, []), Av Bn Ow', [], _, .nx Γ3, err_frame h0 rs' hl hie0 rp, ⟨by rw [List.length_set]; exact hl, nofun⟩, e4, fun σ3 H3 O3 s3 r3 q3 => ?_⟩
      have hl3 : (σ3.set ie none).length = nn := by rw [List.length_set]; exact q3.1
      refine fin (B3 := Av (Av Bn Ow') O3) (((st2.any).trans st').trans s3.any) (rs'.over s3 r3.tabs) (fun a z => .inl z) ?_ hl3 hd
      -- the frame behind the suite
      have up : ∀ (i : Nat) dt, (Γ3.set ie none)[i]? = some (some (dt, false)) → i ≠ ie ∧ Γ3[i]? = some (some (dt, false)) := fun i dt h => by
        by_cases e : ie = i
        · subst e
          by_cases hlt : ie < Γ3.length
          · rw [List.getElem?_set_self hlt] at h; cases h
          · rw [List.getElem?_eq_none (by rw [List.length_set]; omega)] at h; cases h
        · rw [List.getElem?_set_ne e] at h
          exact ⟨fun z => e z.symm, h⟩
      refine ⟨by rw [List.length_set, List.length_set]; exact r3.len, fun i dt h => ?_, fun i dt h => ?_, fun i j dt f x h => ?_, fun x h => r3.trl x (h.elim id fun z => nomatch z), fun x _ => by simp, fun x h => r3.kf x (h.elim id fun z => nomatch z), r3.tabs⟩
      · obtain ⟨n1, h1⟩ := up i dt h
        obtain ⟨v, q1, q2⟩ := r3.slot i dt h1
        exact ⟨v, by rw [List.getElem?_set_ne (fun z => n1 z.symm)]; exact q1, rep_less (fun x z => z.elim id fun z => nomatch z) (rep_dn _ _ (plainG_at pl4 h).2 q2)⟩
      · exact absurd (plainG_at pl4 h).1 Bool.noConfusion
      · exact absurd (plainG_at pl4 h).1 Bool.noConfusion
    · cases hd
  · by_cases hx : isXc r = true
    · obtain ⟨c, ks, ds, rfl⟩ : ∃ c ks ds, r = .fz (.exc c ks ds) := by
        cases r with
        | fz z => cases z <;> first | exact ⟨_, _, _, rfl⟩ | (simp [isXc] at hx)
        | nw z => simp [isXc] at hx
        | sl z => simp [isXc] at hx
      intro dd hv
      subst hv
      exact ⟨c, ks, ds, dd, O3, rfl, rfl, rfl, s3, r3, vl⟩
    · have hx' : isXc r = false := by simpa using hx
      rw [xcQ_no hx']
      have ed : d = d0 := by
        cases r with
        | fz z => cases z <;> first | (simp only [saidD, Option.some.injEq] at hd; exact hd.symm) | (simp [isXc] at hx')
        | nw z => simp only [saidD, Option.some.injEq] at hd; exact hd.symm
        | sl z => simp only [saidD, Option.some.injEq] at hd; exact hd.symm
      subst ed
      have r4 : RS g (Av Bn O3) [] H3 σ2 Γb := plain_step r2 pl2 (fun a z => z) s3 r3
      refine ⟨(nn, []), Av Bn O3, [], Γb, .nx Γc, r4, ⟨q2'.1, nofun⟩, e3, fun σ4 H4 O4 s4 r5 q4 => ?_⟩
      refine fin (B3 := Av (Av Bn O3) O4) (((st2.any).trans s3).trans s4.any) (r3.over s4 r5.tabs) (fun a z => .inl z) ?_ q4.1 hN
      exact r5.plain r5.len pl3 fun i dt h => r5.slot i dt h
end
end DV

namespace DV
open PySem L2
/-! ### told(lambda: e), in the frame that asks -/
section
variable {X : Cx} {g : Gx} {fs fs0 : List FS} {d0 : D} {sd : Nat → List Str → List D → Option D} {ie : E} {x a : Str} {g0 c P : Addr} {k : Nat} {pg : Arguments} {bg : List Stmt} {sg : Scope} {dV kV doc pm cdv ct oc : Value} {an od : Option Addr} {osl : Array (Option Value)} {Ng : List Str}
  {params : Arguments} {body : Expr} {scope : Scope} {p lpos pos : Pos}
theorem p_said (C : Cok g X) (hg : Gl X x) (hm : X.mg x = some (.ref g0)) (hk : PySem.W.keepIn X.K (.ref g0) = true)
    (lk : X.K.lookup g0 = some ⟨oc, od, .func (PySem.W.fnOf x x pg bg sg dV kV doc pm an cdv ct), osl⟩) (hcg : PySem.W.codeIn X.K cdv x = true) (hb : L2.Binds X.K (PySem.W.fnOf x x pg bg sg dV kV doc pm an cdv ct) [a] []) (Sg : FnScope Ng [a] sg) (hNg : Ng[0]? = some a) (hva : Vis sg a)
    (hG : LamX.GivesTo X Ng x sg g0 cdv bg a (X.env.qual ++ "<lambda>") (TTs g fs0 d0 sd))
    (TB : LamX.TabB X.base X.mg c P) (hcode : X.env.code = .ref c) (hmT : (P, X.env.qual ++ "<lambda>") ∈ g.T) (hu : ∀ q ∈ g.T, q.1 = P → q.2 = X.env.qual ++ "<lambda>") (hr : Room (k + 2) X.A) (L : LamX.LamS X.env.scope scope) (hdef : defaultsOf params X.env = ([], []))
    (hbind : ∀ (q : Str) (cl : List (Str × Addr)) (pm cv ctv : Value), bindArgs (PySem.W.kla_fn "<lambda>" q params body scope cl pm cv ctv) ⟨[], []⟩ = pure [])
    (hbody : ∀ (A : Around) (outer : List Env) (s : Shared) (H : Hp) (E : L2.XK) (f c' : Addr), Room k (LamX.lamCx X A outer s H E scope f c').A → Cok g (LamX.lamCx X A outer s H E scope f c') → Tk (LamX.lamCx X A outer s H E scope f c') E → PE (LamX.lamCx X A outer s H E scope f c') body (tRX g E fs ie))
    (hdb : (x == ("__debug__" : Str)) = false) (hd : (a == ("__debug__" : Str)) = false) (hcd : (a == ("__classdict__" : Str)) = false) :
    PE X (.Call (.Name x p) [.Lambda params body scope lpos] [] pos) (tR g fs (.said d0 sd ie)) := by
  refine PE.weak (LamX.pe_lamcall (T := g.T) (TT := TTs g fs0 d0 sd) (t := fun E => tRX g E fs ie) hg hm hk lk hcg hb Sg hNg hva hG TB hcode hmT hu hr L hdef hbind
    (fun A outer s H E f c' hr' => hbody A outer s H E f c' hr' ⟨C.K, rfl, hr'.units, C.nd, C.ea⟩ (takes_of rfl rfl rfl rfl)) hdb hd hcd) ?_
  rintro σ H Q ⟨Bn, Ow, Γ, r, Γ', rs, he, hQ⟩
  simp only [ev] at he
  obtain ⟨⟨x1, Γ1⟩, e1, he⟩ := Option.bind_eq_some_iff.mp he
  obtain ⟨d, e2, he⟩ := Option.map_eq_some_iff.mp he
  simp only [Prod.mk.injEq] at he
  obtain ⟨rfl, rfl⟩ := he
  refine ⟨rs.tabs, fun H1 kx t => ?_⟩
  obtain ⟨st, rs1⟩ := rs.ext kx t
  exact ⟨Bn, Ow, σ, Γ, x1, Γ1, d, rs1, e2, fun E' Q' H' rs' cont => ⟨Bn, Ow, Γ, x1, Γ1, rs', e1, cont⟩, fun v H' Ow' s' r' rp => hQ v H' Ow' (st.trans s') r' rp⟩
end
/-! ### a def that makes lambdas: its code object is at c -/
section
variable {P : Program} {w : World} {mg : Str → Option Value} {base : Heap} {g : Gx} {fs : List FS}
theorem def_fnL {x qual : Str} {st : Stmt} {f c : Addr} {oc kV doc pm ct : Value} {od an : Option Addr} {osl : Array (Option Value)} {N ps : List Str} {k np n : Nat} {ir : List S} (lk : g.K.lookup f = some ⟨oc, od, .func (PySem.W.fnOf x qual (defArgs st) (defBody st) (defScope st) .none kV doc pm an (.ref c) ct), osl⟩)
    (hcd : PySem.W.codeIn g.K (.ref c) qual = true) (S : FnScope N ps (defScope st)) (hp : ps.length = np) (hN : N.length = n) (ge : g.ea = none)
    (hbody : ∀ (A : Around) (outer : List Env) (s : Shared) (H : Hp) (E : L2.XK), Room k (cxOf CX0 P w g.K mg base N qual (defScope st) f (.ref c) A outer s H E).nox.A → Cok g (cxOf CX0 P w g.K mg base N qual (defScope st) f (.ref c) A outer s H E).nox →
      PSs (cxOf CX0 P w g.K mg base N qual (defScope st) f (.ref c) A outer s H E).nox (defBody st) (tSs g (fun _ _ _ => False) fs ir)) : FnOk P w g.K mg base CX0 (k + 1) f (PySem.W.fnOf x qual (defArgs st) (defBody st) (defScope st) .none kV doc pm an (.ref c) ct) ps (spF g np (runF fs np n ir)) := by
  refine fn_of lk hcd S (fun vs H Q E h => by rw [h.1, hp]) fun A outer s H vs Q E hr h => ?_
  refine ⟨_, (hbody A outer s H E hr ⟨rfl, rfl, hr.units, S.nd, ge⟩).nox, ?_⟩
  obtain ⟨hl, Bn, Ow, Γ, r, os, rs, ef, nr, hQ⟩ := h
  have hG : Γ.length = np := by rw [← rs.len, List.length_map, hl]
  have hle : np ≤ n := by
    rw [← hN, ← hp]
    have := congrArg List.length S.pre
    rw [List.length_take] at this
    omega
  simp only [runF, hG, if_true] at ef
  obtain ⟨o, e1, e2⟩ := Option.bind_eq_some_iff.mp ef
  have est : L2.start N vs = vs.map some ++ List.replicate (n - np) none := by rw [← hN, ← hl]; rfl
  refine ⟨(n, (ownPs 0 Γ).map fun i => (i, vs.getD i .non)), Bn, Ow, Γ ++ List.replicate (n - np) none, o, ?_, ⟨?_, fun p hp => ?_⟩, ?_, ?_⟩
  · rw [est]; exact rs.start _
  · rw [est, List.length_append, List.length_map, List.length_replicate, hl]; show np + (n - np) = n; omega
  · obtain ⟨i, hi, rfl⟩ := List.mem_map.mp hp
    obtain ⟨j, d, rfl, h⟩ := ownPs_mem.mp hi
    have hj : j < vs.length := by
      have h1 := (List.getElem?_eq_some_iff.mp h).1
      omega
    rw [est]
    show (vs.map some ++ List.replicate (n - np) none)[0 + j]? = some (some (vs.getD (0 + j) .non))
    rw [Nat.zero_add, List.getElem?_append_left (by rw [List.length_map]; exact hj), List.getElem?_map, List.getElem?_eq_getElem hj, List.getD_eq_getElem?_getD, List.getElem?_eq_getElem hj]
    rfl
  · rw [List.map_map]
    show exs fs ((ownPs 0 Γ).map id) ir _ = some o
    rw [List.map_id]
    exact e1
  · rw [← hG] at e2
    exact finish_ok rs (by omega) e2 hQ
end
/-! ### the law behind the top, with tables -/
def spT (K : PySem.W.Frag) (T : List (Addr × Str)) (F : FS) : Sp := fun vs H Q E => vs.length = 1 ∧ Tb T H ∧ ∀ cl, spF ⟨K, cl, T, none⟩ 1 F vs H Q E
theorem spT_of {P : Program} {w : World} {K : PySem.W.Frag} {T : List (Addr × Str)} {mg : Str → Option Value} {base : Heap} {k : Nat} {f : Addr} {fd : FuncData} {ps : List Str} {F : FS} {cl : Nat → Addr} (h : FnOk P w K mg base CX0 k f fd ps (spF ⟨K, cl, T, none⟩ 1 F)) : FnOk P w K mg base CX0 k f fd ps (spT K T F) :=
  ⟨fun vs H Q E q => h.len vs H Q E (q.2.2 cl), fun A outer s H args us vs Q E hr he hb hv hs => h.run A outer s H args us vs Q E hr he hb hv (hs.2.2 cl)⟩
theorem sp_lawT {K : PySem.W.Frag} {T : List (Addr × Str)} {F : FS} {ns : List Int} {a : Addr} {H : Hp} {os : Ct} (hF : F [some (.scr ns, false)] = some (.fz (.bl true), os)) (hS : SqL K H a (ns.map V.int)) (hT : ∀ p ∈ T, H p.1 = some (.tbl #[])) : spT K T F [.ref a] H (fun v _ => v = .bl true) fun _ _ _ => False :=
  have t : Tb T H := fun p hp => LamX.TabS.nil (hT p hp)
  ⟨rfl, t, fun cl => sp_law hF hS t⟩
theorem walkT {l : PySem.W.OpenLaw} {n k : Nat} {q : Program} {lo : List Str} {XP : (Str → Option Value) → Heap → Prop} {YP : World → Heap → Prop} {d : DefRec} {K : Params → PySem.W.Frag} {CX : World → CXT} {x : Str}
    (hn : l.most = some n) (hz : n ≤ sizeLine) (hdf : d.params.defaults = []) (hr : Room k callerA) (hY : ∀ (w : World) (h : Heap), YP w h → (K w.params).In h)
    (F : ∀ (w : World) (mg mb : Str → Option Value) (mean : ExcName → Option Value) (fa : Addr) (h : Heap), PyProof.Rows.Top q (PySem.W.looseW q lo) mean mg mb h → (K w.params).In h → mg d.name = some (.ref fa) → LamX.LawAtS l w (K w.params) (CX w) k n x mg fa h)
    (hCX : ∀ (w : World) (H : Hp) (s : Shared) (e : Value) (z : Shared), CX w [] H s (fun _ _ _ => False) e z → False) :
    PySem.W.WalkO q lo XP YP l.row.toRowW d [] (fun f vs => PySem.call f vs) := by
  refine Att.attach_callB hn hdf fun w z0 z1 mg mb fa o pm cd doc a vs ns G Y ho hd hcd hmg hobj hints hlen hbits hg => ?_
  have hX := hY w _ Y
  have tp := G.T
  obtain ⟨fd, cs, sp, t1, t2, t3, hb, hsp, hF⟩ := F w mg mb _ fa _ tp hX hmg
  refine LamX.law_callTs hX tp.g tp.b tp.builtins tp.nolimit hg t1 t2 t3 tp.bmain hobj hints (Nat.le_trans hlen hz) hr hF hb (fun H hH hS => ?_) fun H e z => hCX w H z1 e z
  exact hsp H a ns hlen hbits hH hS
/-- a def's code object and its empty table, behind the top -/
theorem tab_at {q : Program} {lo : List Str} {mean : ExcName → Option Value} {mg mb : Str → Option Value} {h : Heap} {K : PySem.W.Frag} {x : Str} {c P : Addr} (T : PyProof.Rows.Top q lo mean mg mb h) (X : K.In h) (hr : ((PyProof.Rows.recsOf q).find? fun e => e.name == x).isSome = true) (ht : PySem.W.tabIn K x = some (c, P)) :
    PySem.W.CodeHd h c P ∧ h.get? P = some { cls := .none, data := .fields #[] } := by
  obtain ⟨d, hd⟩ := Option.isSome_iff_exists.mp hr
  exact PySem.W.tab_of T X hd ht
end DV

namespace DV
open PySem L2
variable {Wx : L2.XK}
theorem zip_rev {α β : Type} : ∀ {a : List α} {b : List β}, a.length = b.length → (a.zip b).reverse = a.reverse.zip b.reverse
  | [], b, h => by simp
  | x :: a, [], h => by simp at h
  | x :: a, y :: b, h => by
    have l : a.length = b.length := by simpa using h
    rw [List.zip_cons_cons, List.reverse_cons, List.reverse_cons, List.reverse_cons, zip_rev l, List.zip_append (by simpa using l)]
    rfl
/-- written classes, one behind another -/
def tCs (vs : List V) : TA := fun _ H Q => Q vs H
section
variable {X : Cx} {g : Gx} {fs : List FS} {a dd : Addr} {oe : Obj} {pn : List (Addr × Obj)} {c0 i : Nat} {n y : Str} {p p2 pe pos tp : Pos} {es : List Expr} {kt : Nat} {Y : Cx} {e : Expr} {v : V} {vs : List V}
theorem cs_nil : PA Y [] (tCs []) := pa_nil
theorem cs_cons (h : PE Y e (tC v)) (hr : PA Y es (tCs vs)) (hs : starEach (e :: es) Y.env = (false, eval e Y.env) :: starEach es Y.env) : PA Y (e :: es) (tCs (v :: vs)) := PA.weak (pa_cons h hr hs) fun _ _ _ q => q
theorem p_xit {all cs : List Nat} {us : List Value} (hall : ∀ c ∈ all, ErrC g.K (g.cl c) ∧ PySem.W.kitAny g.K (.ref (g.cl c)) us = some (cs.contains c)) (hcv : Paired ClsV vs us) (hK : X.K = g.K) (hz : Zc (.ref (g.cl c0)) (some dd) oe) (hf : ∃ vs, oe.data = .fields vs)
    (he : PE (X.suite a ((a, oe) :: pn)) (.Name n pe) (tVar i)) (hc : PA (X.suite a ((a, oe) :: pn)) es (tCs vs)) (hlen : vs.length ≤ sizeLine) (hg : Gl (X.suite a ((a, oe) :: pn)) "isinstance") (hm : X.mg "isinstance" = none)
    (hst : starEach (.Name n pe :: [.Tuple es kt tp]) (X.suite a ((a, oe) :: pn)).env = (false, eval (.Name n pe) (X.suite a ((a, oe) :: pn)).env) :: starEach [.Tuple es kt tp] (X.suite a ((a, oe) :: pn)).env) (hpl : (backTo pos (starEach [.Tuple es kt tp] (X.suite a ((a, oe) :: pn)).env)).any (·.1) = false) :
    PE (X.suite a ((a, oe) :: pn)) (.Call (.Name "isinstance" p) [.Name n pe, .Tuple es kt tp] [] pos) (tR (gE g c0 a dd) fs (.xis all cs i)) := by
  by_cases hm0 : c0 ∈ all
  · obtain ⟨C, hk⟩ := hall c0 hm0
    rw [← hK] at C hk
    refine PE.weak (pe_callB (call_xit C hz hf) hg hm PyProof.Rows.boot_isinstance (pa_cons he (pa_cons (pe_tup hc) pa_nil rfl) hst) (by decide) (by decide) hst hpl) ?_
    rintro σ H Q ⟨Bn, Ow, Γ, r, Γ', rs, hev, hQ⟩
    simp only [ev] at hev
    obtain ⟨b, e1, e2⟩ := Option.map_eq_some_iff.mp hev
    simp only [Prod.mk.injEq] at e2
    obtain ⟨rfl, rfl⟩ := e2
    unfold xisD at e1
    split at e1
    · rename_i c ks ds hs
      simp only [Option.ite_none_right_eq_some, Option.some.injEq] at e1
      obtain ⟨hall', rfl⟩ := e1
      obtain ⟨rfl, e3, ws, l, hd, rp⟩ := err_slot rs hs
      refine ⟨.ref a, e3, hlen, fun q hq => ?_⟩
      have sm : Same H (upd H q (.tup vs)) := same_new hq
      exact ⟨q, vs, us, _, _, rfl, upd_same, hcv, sm _ _ hd, hk, hQ _ _ Ow (Stp.same sm) (rs.same sm) (by simp only [Val, Rep])⟩
    · cases e1
  · refine PE.weak (p_stuck (g := g) (fs := fs)) ?_
    rintro σ H Q ⟨Bn, Ow, Γ, r, Γ', rs, hev, hQ⟩
    exfalso
    simp only [ev] at hev
    obtain ⟨b, e1, e2⟩ := Option.map_eq_some_iff.mp hev
    unfold xisD at e1
    split at e1
    · rename_i c ks ds hs
      simp only [Option.ite_none_right_eq_some, Option.some.injEq] at e1
      obtain ⟨rfl, _⟩ := err_slot rs hs
      exact hm0 (by simpa using e1.1)
    · cases e1
theorem p_xfld {all : List Nat} {nm : Str} (hall : ∀ c ∈ all, XfC g.K (g.cl c) ∧ PySem.W.findIn g.K (.ref (g.cl c)) nm = some none) (hK : X.K = g.K) (hz : Zc (.ref (g.cl c0)) (some dd) oe) (hf : ∃ vs, oe.data = .fields vs)
    (he : PE (X.suite a ((a, oe) :: pn)) (.Name n pe) (tVar i)) (hb : attributeBase (.Name n pe) nm (X.suite a ((a, oe) :: pn)).env (eval (.Name n pe) (X.suite a ((a, oe) :: pn)).env) = eval (.Name n pe) (X.suite a ((a, oe) :: pn)).env) :
    PE (X.suite a ((a, oe) :: pn)) (.Attribute (.Name n pe) nm pos) (tR (gE g c0 a dd) fs (.xfld all i nm)) := by
  by_cases hm0 : c0 ∈ all
  · obtain ⟨C, hk⟩ := hall c0 hm0
    rw [← hK] at C hk
    refine PE.weak (pe_xf C hk hz hf he hb) ?_
    rintro σ H Q ⟨Bn, Ow, Γ, r, Γ', rs, hev, hQ⟩
    simp only [ev] at hev
    obtain ⟨d, e1, e2⟩ := Option.map_eq_some_iff.mp hev
    simp only [Prod.mk.injEq] at e2
    obtain ⟨rfl, rfl⟩ := e2
    unfold xfldD at e1
    split at e1
    · rename_i c ks ds hs
      simp only [Option.ite_none_right_eq_some] at e1
      obtain ⟨hall', e4⟩ := e1
      obtain ⟨rfl, e3, ws, l, hd, rp⟩ := err_slot rs hs
      obtain ⟨v, l1, r1⟩ := fldL_ok (by simpa using l) rp.rev e4
      rw [zip_rev l] at hd
      exact ⟨.ref a, e3, rfl, rfl, dd, _, v, rfl, hd, l1, hQ v H Ow (.refl _ _) rs r1⟩
    · cases e1
  · refine PE.weak (p_stuck (g := g) (fs := fs)) ?_
    rintro σ H Q ⟨Bn, Ow, Γ, r, Γ', rs, hev, hQ⟩
    exfalso
    simp only [ev] at hev
    obtain ⟨d, e1, e2⟩ := Option.map_eq_some_iff.mp hev
    unfold xfldD at e1
    split at e1
    · rename_i c ks ds hs
      simp only [Option.ite_none_right_eq_some] at e1
      obtain ⟨rfl, _⟩ := err_slot rs hs
      exact hm0 (by simpa using e1.1)
    · cases e1
end
end DV

namespace DV
open PySem L2
/-- the qualified name of the lambdas of a def -/
abbrev lamQ (qual : Str) : Str := (qual ++ (".<locals>." : Str)) ++ ("<lambda>" : Str)
/-- a def's code object at c has a table, which is told -/
structure LamT (g : Gx) (base : Heap) (mg : Str → Option Value) (c : Addr) (qual : Str) : Prop where
  ex : ∃ P, LamX.TabB base mg c P ∧ (P, lamQ qual) ∈ g.T ∧ ∀ q ∈ g.T, q.1 = P → q.2 = lamQ qual
/-- a def of one parameter that calls it -/
structure Told (g : Gx) (mg : Str → Option Value) (x a : Str) (st : Stmt) : Prop where
  ex : ∃ (g0 : Addr) (oc : Value) (od : Option Addr) (kV doc pm : Value) (an : Option Addr) (cdv ct : Value) (osl : Array (Option Value)), mg x = some (.ref g0) ∧ PySem.W.keepIn g.K (.ref g0) = true ∧
    g.K.lookup g0 = some ⟨oc, od, .func (PySem.W.fnOf x x (defArgs st) (defBody st) (defScope st) .none kV doc pm an cdv ct), osl⟩ ∧ PySem.W.codeIn g.K cdv x = true ∧ L2.Binds g.K (PySem.W.fnOf x x (defArgs st) (defBody st) (defScope st) .none kV doc pm an cdv ct) [a] []
theorem told_of {g : Gx} {mg : Str → Option Value} {x a : Str} {st : Stmt} {g0 : Addr} {oc kV doc pm cdv ct : Value} {od an : Option Addr} {osl : Array (Option Value)} (h1 : mg x = some (.ref g0)) (h2 : PySem.W.keepIn g.K (.ref g0) = true)
    (h3 : g.K.lookup g0 = some ⟨oc, od, .func (PySem.W.fnOf x x (defArgs st) (defBody st) (defScope st) .none kV doc pm an cdv ct), osl⟩) (h4 : PySem.W.codeIn g.K cdv x = true)
    (h5 : ∀ (us : List Value), us.length = [a].length → bindArgs (PySem.W.fnOf x x (defArgs st) (defBody st) (defScope st) .none kV doc pm an cdv ct) ⟨us, []⟩ = pure ([a].zip us)) : Told g mg x a st :=
  ⟨g0, oc, od, kV, doc, pm, an, cdv, ct, osl, h1, h2, h3, h4, .all h5⟩
theorem p_told {X : Cx} {g : Gx} {fs fs0 : List FS} {d0 : D} {sd : Nat → List Str → List D → Option D} {ie : E} {x a qual : Str} {st : Stmt} {c : Addr} {k : Nat} {Ng : List Str} {params : Arguments} {body : Expr} {scope : Scope} {p lpos pos : Pos} (C : Cok g X) (W : Told g X.mg x a st) (LT : LamT g X.base X.mg c qual) (hg : Gl X x)
    (Sg : FnScope Ng [a] (defScope st)) (hNg : Ng[0]? = some a) (hva : Vis (defScope st) a) (hG : ∀ (g0 : Addr) (cdv : Value), LamX.GivesTo X Ng x (defScope st) g0 cdv (defBody st) a (X.env.qual ++ "<lambda>") (TTs g fs0 d0 sd))
    (hcode : X.env.code = .ref c) (hq : X.env.qual ++ ("<lambda>" : Str) = lamQ qual) (hr : Room (k + 2) X.A) (L : LamX.LamS X.env.scope scope) (hdef : defaultsOf params X.env = ([], []))
    (hbind : ∀ (q : Str) (cl : List (Str × Addr)) (pm cv ctv : Value), bindArgs (PySem.W.kla_fn "<lambda>" q params body scope cl pm cv ctv) ⟨[], []⟩ = pure [])
    (hbody : ∀ (A : Around) (outer : List Env) (s : Shared) (H : Hp) (E : L2.XK) (f c' : Addr), Room k (LamX.lamCx X A outer s H E scope f c').A → Cok g (LamX.lamCx X A outer s H E scope f c') → Tk (LamX.lamCx X A outer s H E scope f c') E → PE (LamX.lamCx X A outer s H E scope f c') body (tRX g E fs ie))
    (hdb : (x == ("__debug__" : Str)) = false) (hd : (a == ("__debug__" : Str)) = false) (hcd : (a == ("__classdict__" : Str)) = false) :
    PE X (.Call (.Name x p) [.Lambda params body scope lpos] [] pos) (tR g fs (.said d0 sd ie)) := by
  obtain ⟨g0, oc, od, kV, doc, pm, an, cdv, ct, osl, h1, h2, h3, h4, h5⟩ := W.ex
  obtain ⟨P, TB, m1, m2⟩ := LT.ex
  rw [← C.K] at h2 h3 h4 h5
  exact p_said C hg h1 h2 h3 h4 h5 Sg hNg hva (hG g0 cdv) TB hcode (by rw [hq]; exact m1) (by rw [hq]; exact m2) hr L hdef hbind hbody hdb hd hcd
/-- what the end asks of a law with tables -/
theorem lawAt {l : PySem.W.OpenLaw} {w : World} {K : PySem.W.Frag} {k n : Nat} {x : Str} {mg : Str → Option Value} {fa : Addr} {h : Heap} {cs : List (Addr × Addr)} {T : List (Addr × Str)} {F : FS} (hc : ∀ p ∈ cs, PySem.W.CodeHd h p.1 p.2 ∧ h.get? p.2 = some { cls := .none, data := .fields #[] }) (nP : ∀ p ∈ cs, K.lookup p.2 = none)
    (hT : ∀ q ∈ T, ∃ p ∈ cs, p.2 = q.1) (ht : ∀ ns : List Int, ns.length ≤ n → (∀ z ∈ ns, Builtin.Int.intBits z ≤ 1048576) → ∃ os, F [some (.scr ns, false)] = some (.fz (.bl true), os))
    (A : ∃ fd : FuncData, (∀ (s : Shared) (u : Value), BindsTo s fd ⟨[u], []⟩ [(x, u)]) ∧ ∀ base : Heap, K.In base → base.Ns mainGlobals mg → (∀ p ∈ cs, LamX.TabB base mg p.1 p.2) → FnOk l.prog w K mg base CX0 k fa fd [x] (spT K T F)) : LamX.LawAtS l w K CX0 k n x mg fa h := by
  obtain ⟨fd, hb, hF⟩ := A
  refine ⟨fd, cs, spT K T F, fun p hp => (hc p hp).2, nP, fun p hp => (hc p hp).1, hb, fun H a ns hl hz hH hS => ?_, hF⟩
  obtain ⟨os, e⟩ := ht ns hl hz
  refine sp_lawT e hS fun q hq => ?_
  obtain ⟨p, hp, z⟩ := hT q hq
  rw [← z]
  exact hH p hp
theorem tabIn_of {K : PySem.W.Frag} {x : Str} {f c P : Addr} {c1 c2 : Value} {d1 d2 : Option Addr} {s1 s2 : Array (Option Value)} {fd : FuncData} {vs : Array Value} (h1 : PySem.W.nsIn K mainGlobals x = some (some (.ref f)))
    (h2 : K.lookup f = some ⟨c1, d1, .func fd, s1⟩) (h3 : fd.code = .ref c) (h4 : K.lookup c = some ⟨c2, d2, .fields vs, s2⟩) (h5 : (vs[11]? : Option Value) = some (.ref P)) : PySem.W.tabIn K x = some (c, P) := by
  unfold PySem.W.tabIn
  simp only [h1, h2, h3, h4, h5]
end DV

namespace DV
open PySem L2 PySem.Spec PyProof.Rows
/-! ### sorted list of ints -/
theorem insI_perm (x : Int) : ∀ l, (insI x l).Perm (x :: l)
  | [] => List.Perm.refl _
  | y :: r => by
    unfold insI
    split
    · exact List.Perm.refl _
    · exact ((insI_perm x r).cons y).trans (List.Perm.swap x y r)
theorem sortI_perm : ∀ l, (sortI l).Perm l
  | [] => List.Perm.refl _
  | x :: r => (insI_perm x (sortI r)).trans ((sortI_perm r).cons x)
theorem insI_sorted {x : Int} : ∀ {l : List Int}, l.Pairwise (· ≤ ·) → (insI x l).Pairwise (· ≤ ·)
  | [], _ => by simp [insI]
  | y :: r, h => by
    obtain ⟨h1, h2⟩ := List.pairwise_cons.mp h
    unfold insI
    split
    · rename_i c
      refine List.pairwise_cons.mpr ⟨fun z m => ?_, h⟩
      rcases List.mem_cons.mp m with rfl | m
      · exact c
      · exact Int.le_trans c (h1 z m)
    · rename_i c
      refine List.pairwise_cons.mpr ⟨fun z m => ?_, insI_sorted h2⟩
      rcases List.mem_cons.mp ((insI_perm x r).mem_iff.mp m) with rfl | m
      · omega
      · exact h1 z m
theorem sortI_sorted : ∀ l : List Int, (sortI l).Pairwise (· ≤ ·)
  | [] => by simp [sortI]
  | x :: r => insI_sorted (sortI_sorted r)
theorem sortI_uniq : ∀ {l m : List Int}, l.Perm m → l.Pairwise (· ≤ ·) → m.Pairwise (· ≤ ·) → l = m
  | [], m, h, _, _ => h.symm.eq_nil.symm
  | x :: l, [], h, _, _ => absurd h.length_eq (by simp)
  | x :: l, y :: m, h, h1, h2 => by
    obtain ⟨a1, a2⟩ := List.pairwise_cons.mp h1
    obtain ⟨b1, b2⟩ := List.pairwise_cons.mp h2
    have e : x = y := by
      rcases List.mem_cons.mp (h.mem_iff.mp List.mem_cons_self) with e | m1
      · exact e
      · rcases List.mem_cons.mp (h.symm.mem_iff.mp List.mem_cons_self) with e | m2
        · exact e.symm
        · have q1 := b1 x m1
          have q2 := a1 y m2
          omega
    subst e
    rw [sortI_uniq h.cons_inv a2 b2]
section
variable {X : Cx} {g : Gx}
theorem b_sorti (hK : X.K = g.K) : CallR X (.builtin "sorted") (rBi g .sorti) := by
  intro pins s σ H vs us Q I r h
  obtain ⟨A, ds, r0, hp, tr, hb, hQ⟩ := h
  match ds, hb with
  | [.lst xs], hb =>
    simp only [biD] at hb
    obtain ⟨ns, e1, rfl⟩ := Option.map_eq_some_iff.mp hb
    obtain ⟨v, rfl, q⟩ := paired1 hp
    obtain ⟨a, ws, rfl, ha, rp⟩ := q
    obtain rfl := ints_of rp e1
    refine thn (cr_sortedI pins s σ H [.ref a] us (fun v H' => ∃ p, v = .ref p ∧ H p = none ∧ H' = upd H p (.lst ((sortI ns).map V.int))) I r ⟨a, ns, rfl, .inl (.inl ha), fun ns' p pm st np => ⟨p, rfl, np, ?_⟩⟩) fun u s' ⟨v, H', I', rv, p, ev, np, eH⟩ => ?_
    · rw [sortI_uniq (pm.trans (sortI_perm ns).symm) st (sortI_sorted ns)]
    · subst ev eH
      have kf : g.K.lookup p = none := by rw [← hK]; exact kf_new (Inv.kf I') upd_same
      exact ⟨_, _, I', rv, hQ _ _ (same_new np) (new_lst np kf (reps_ints _))⟩
variable {fs : List FS} {e : Expr} {es : List Expr} {ies : List E} {p pos : Pos}
theorem k_sorti (C : Cok0 g X) (ha : PA X (e :: es) (tAs g fs ies)) (he : starEach (e :: es) X.env = (false, eval e X.env) :: starEach es X.env) (hpl : (backTo pos (starEach es X.env)).any (·.1) = false) (hm : X.mg "sorted" = none) (hg : Gl X "sorted") : PE X (.Call (.Name "sorted" p) (e :: es) [] pos) (tR g fs (.bi .sorti ies)) :=
  p_biB (b_sorti C.K) hg hm PyProof.Rows.boot_sorted ha (by decide) (by decide) he hpl
end
/-! ### min of tuples of an int and a list of ints -/
theorem pyT_inj {p q : Int × List Int} (h : pyT p = pyT q) : p = q := by
  unfold pyT at h
  simp only [PyData.tuple.injEq, List.cons.injEq, PyData.int.injEq, PyData.list.injEq, and_true] at h
  have inj : ∀ {l m : List Int}, l.map PyData.int = m.map PyData.int → l = m := fun {l} => by
    induction l with
    | nil => intro m h; cases m with | nil => rfl | cons y m => simp at h
    | cons x l ih =>
      intro m h
      cases m with
      | nil => simp at h
      | cons y m =>
        rw [List.map_cons, List.map_cons, List.cons.injEq, PyData.int.injEq] at h
        rw [h.1, ih h.2]
  exact Prod.ext h.1 (inj h.2)
theorem minD_T : ∀ (ps : List (Int × List Int)) (p : Int × List Int), PySem.W.minD (pyT p) (ps.map pyT) = pyT (ps.foldl (fun a y => if PySem.W.dataLt (pyT y) (pyT a) then y else a) p)
  | [], p => rfl
  | q :: ps, p => by
    show PySem.W.minD (if PySem.W.dataLt (pyT q) (pyT p) then pyT q else pyT p) (ps.map pyT) = pyT (ps.foldl _ (if PySem.W.dataLt (pyT q) (pyT p) then q else p))
    rw [show (if PySem.W.dataLt (pyT q) (pyT p) then pyT q else pyT p) = pyT (if PySem.W.dataLt (pyT q) (pyT p) then q else p) by split <;> rfl]
    exact minD_T ps _
theorem alike_ints : ∀ l m : List Int, PySem.W.alikeAll (l.map PyData.int) (m.map PyData.int) = true
  | [], m => by simp [PySem.W.alikeAll]
  | x :: l, [] => by simp [PySem.W.alikeAll]
  | x :: l, y :: m => by
    rw [List.map_cons, List.map_cons, PySem.W.alikeAll, alike_ints l m]
    simp [PySem.W.alike]
theorem alike_T (ps : List (Int × List Int)) : PySem.W.AlikeAll (ps.map pyT) := by
  refine ⟨fun x hx y hy => ?_, fun x hx => ?_⟩
  · obtain ⟨p, _, rfl⟩ := List.mem_map.mp hx
    obtain ⟨q, _, rfl⟩ := List.mem_map.mp hy
    unfold pyT
    simp [PySem.W.alike, PySem.W.alikeAll, alike_ints]
  · obtain ⟨p, _, rfl⟩ := List.mem_map.mp hx
    unfold pyT
    simp
theorem depth_i47 : ∀ l : List Int, PyData.depthAll (l.map PyData.int) = 0
  | [] => rfl
  | x :: l => by
    rw [List.map_cons, PyData.depthAll, depth_i47 l]
    simp [PyData.depth]
theorem depth_T : ∀ ps : List (Int × List Int), PyData.depthAll (ps.map pyT) ≤ 2
  | [] => by simp [PyData.depthAll]
  | p :: ps => by
    have := depth_T ps
    rw [List.map_cons, PyData.depthAll]
    have : (pyT p).depth ≤ 2 := by
      unfold pyT
      simp [PyData.depth, PyData.depthAll, depth_i47]
    omega
section
variable {X : Cx} {g : Gx}
/-- an item as it stands -/
def ItT (K : PySem.W.Frag) (A : Addr → Prop) (H : Hp) (p : Int × List Int) (v : V) : Prop := ∃ t l, v = V.ref t ∧ ¬ A t ∧ SqT K H t [.int p.1, .ref l] ∧ ¬ A l ∧ H l = some (.lst (p.2.map V.int))
theorem ints_dp {K : PySem.W.Frag} {H : Hp} : ∀ l : List Int, DpAll K H (l.map V.int) (l.map PyData.int)
  | [] => .nil
  | x :: l => .cons (.int x) (ints_dp l)
theorem itT_dp {K : PySem.W.Frag} {A : Addr → Prop} {H : Hp} {p : Int × List Int} {v : V} (h : ItT K A H p v) : Dp K H v (pyT p) := by
  obtain ⟨t, l, rfl, _, sq, _, hl⟩ := h
  exact .tup sq (.cons (.int _) (.cons (.lst (.inl (.inl hl)) (ints_dp _)) .nil))
theorem itTs_dp {K : PySem.W.Frag} {A : Addr → Prop} {H : Hp} : ∀ {ps : List (Int × List Int)} {vs : List V}, Paired (ItT K A H) ps vs → DpAll K H vs (ps.map pyT)
  | _, _, .nil => .nil
  | _, _, .cons h r => .cons (itT_dp h) (itTs_dp r)
theorem tls_reps {A : Addr → Prop} {H : Hp} : ∀ {ds : List D} {vs : List V} {ps : List (Int × List Int)}, Reps g A H ds vs → tlsD ds = some ps → Paired (ItT g.K A H) ps vs
  | [], vs, ps, h, e => by
    simp only [tlsD, Option.some.injEq] at e
    simp only [Reps] at h
    subst e h
    exact .nil
  | d :: ds, vs, ps, h, e => by
    simp only [Reps] at h
    obtain ⟨v, r, rfl, h1, h2⟩ := h
    match d, e with
    | .tup [.int i, .lst l], e =>
      simp only [tlsD] at e
      obtain ⟨ns, e0, e⟩ := Option.bind_eq_some_iff.mp e
      obtain ⟨ps', e1, rfl⟩ := Option.map_eq_some_iff.mp e
      simp only [Rep, Reps] at h1
      obtain ⟨a, ws, rfl, na, sq, w1, r1, rfl, rfl, w2, r2, rfl, ⟨b, us, rfl, nb, hb, rl⟩, rfl⟩ := h1
      obtain rfl := ints_of rl e0
      exact .cons ⟨a, b, rfl, na, sq, nb, hb⟩ (tls_reps h2 e1)
theorem b_mint (C : Cok g X) : CallR X (.builtin "min") (rBi g .mint) := by
  intro pins s σ H vs us Q I r h
  obtain ⟨A, ds, r0, hp, tr, hb, hQ⟩ := h
  match ds, hb with
  | [.lst xs], hb =>
    simp only [biD] at hb
    obtain ⟨ps, e1, hb⟩ := Option.bind_eq_some_iff.mp hb
    obtain ⟨m, e2, rfl⟩ := Option.map_eq_some_iff.mp hb
    obtain ⟨v, rfl, q⟩ := paired1 hp
    obtain ⟨a, ws, rfl, ha, rp⟩ := q
    have pr := tls_reps rp e1
    rw [← C.K] at pr
    obtain ⟨its, rv, hl, hz⟩ := I.list (show SqL X.K H a ws from .inl (.inl ha))
    rw [Vals.ref1 r]
    obtain ⟨as, hr⟩ := Dp.readsAll I _ _ _ (itTs_dp pr) rv
    cases ps with
    | nil => simp [minT] at e2
    | cons p ps =>
      have hdp := depth_T (p :: ps)
      have hu := C.hu
      refine PySem.W.min_list_data (I.ok.hd C.calm) hl.isList (xs := ps.map pyT) (x := pyT p) hr (alike_T (p :: ps)) (by
        have : PyData.depthAll (pyT p :: ps.map pyT) ≤ 2 := hdp
        omega) fun i v h' tk bs hv hr' hk => ?_
      obtain ⟨wv, hw, rw'⟩ := vals_getR rv (by simpa using hv)
      obtain ⟨q0, hq, sq⟩ := paired_getR pr hw
      obtain ⟨cs, r3⟩ := Dp.reads I (pyT q0) _ _ (itT_dp sq) rw'
      have e4 : pyT q0 = PySem.W.minD (pyT p) (ps.map pyT) := (Reads.unique (Reads.keeps hk r3) _ _ hr').1
      have e5 : q0 = m := by
        apply pyT_inj
        rw [e4, minD_T]
        simp only [minT, Option.some.injEq] at e2
        rw [e2]
      subst e5
      refine ⟨wv, H, I.kept hk, rw', hQ _ H (same_rfl H) ?_⟩
      obtain ⟨t, l, rfl, na, sq, nl, hl⟩ := sq
      rw [C.K] at sq
      simp only [Res, Rep, Reps]
      exact ⟨t, _, rfl, na, sq, _, _, rfl, rfl, _, _, rfl, ⟨l, _, rfl, nl, hl, reps_ints _⟩, rfl⟩
variable {fs : List FS} {e : Expr} {es : List Expr} {ies : List E} {p pos : Pos}
theorem k_mint (C : Cok g X) (ha : PA X (e :: es) (tAs g fs ies)) (he : starEach (e :: es) X.env = (false, eval e X.env) :: starEach es X.env) (hpl : (backTo pos (starEach es X.env)).any (·.1) = false) (hm : X.mg "min" = none) (hg : Gl X "min") : PE X (.Call (.Name "min" p) (e :: es) [] pos) (tR g fs (.bi .mint ies)) :=
  p_biB (b_mint C) hg hm PyProof.Rows.boot_min ha (by decide) (by decide) he hpl
end
end DV

namespace DV
open PySem L2
theorem rngD_len0 : ∀ (n : Nat) (lo : Int), (rngD lo 1 n).length = n
  | 0, _ => rfl
  | n + 1, lo => by rw [rngD, List.length_cons, rngD_len0]
section
variable {g : Gx} {fs : List FS} {H : Hp} {σ : St}
/-- the turns over a range that append to a list that is there: Dl is the list's address, nobody else's -/
theorem turns_core {n : Nat} {acc0 acc : List D} {B : Addr → Prop} {O0 O1 : List Addr} {H0 H1 : Hp} {Γ2 Γ3 : Ct} {own : List Nat} {tg : Tg} {cond : List E} {elt : E} {Dl : Addr} {vs0 : List V} {N : Hp → Prop}
    (hB : B Dl) (hD0 : H0 Dl = none) (st0 : Stp O0 H0 O1 H1) (r1 : RS g B O1 H1 σ Γ2) (hD1 : H1 Dl = some (.lst vs0)) (rp1 : Reps g (Av B O1) H1 acc0 vs0) (hz : vs0.length + n ≤ sizeLine) (tgO : ∀ i, i ∉ own → i ∉ tgIx tg)
    (lp : compLoop own tg (evc fs cond) (ev fs elt) (rngD 0 1 n) acc0 (wipeG Γ2 own) = some (acc, Γ3))
    (hN : ∀ H' O' vs', Stp O0 H0 O' H' → RS g B O' H' (L2.wipe σ own) Γ3 → H' Dl = some (.lst vs') → Reps g (Av B O') H' acc vs' → N H') :
    ∃ W : Nat → Nat → Hp → Prop, (∃ m, W 0 m H1) ∧ ∀ i m H, W i m H →
      ((Itr 0 n).stop i H ∧ N H) ∨ ((Itr 0 n).go i H ∧ ∃ Nx : Hp → Prop, (∀ H', Nx H' → ∃ m', m' < m ∧ W (i + 1) m' H') ∧ ∀ x H', (Itr 0 n).yld i H x H' → tgT g.K tg x (L2.wipe σ own) H' fun σ2 H2 => L2.wipe σ2 own = L2.wipe σ own ∧ tTc g fs cond σ2 H2 fun b H3 =>
        if b = true then tR g fs elt σ2 H3 fun y H4 => ∃ acc, H4 Dl = some (.lst acc) ∧ acc.length < sizeLine ∧ Nx (upd H4 Dl (.lst (acc ++ [y]))) else Nx H3) := by
  obtain ⟨ds, hds⟩ : ∃ ds, ds = rngD 0 1 n := ⟨_, rfl⟩
  have ln : ds.length = n := by rw [hds]; exact rngD_len0 n 0
  rw [← hds] at lp
  let Cn : Nat → Hp → Prop := fun i H => ∃ O Γi acci vs, Stp O0 H0 O H ∧ RS g B O H (L2.wipe σ own) Γi ∧ H Dl = some (.lst vs) ∧ vs.length ≤ vs0.length + i ∧ Reps g (Av B O) H acci vs ∧ compLoop own tg (evc fs cond) (ev fs elt) (ds.drop i) acci Γi = some (acc, Γ3)
  refine ⟨fun i m H => m = ds.length - i ∧ i ≤ ds.length ∧ Cn i H, ⟨ds.length, by simp, Nat.zero_le _, O1, _, acc0, vs0, st0, r1.wipe own, hD1, by omega, rp1, lp⟩, ?_⟩
  rintro i m H ⟨rfl, hi, O, Γi, acci, vs, st, r2, hDl, hvl, rp, lp⟩
  by_cases hlt : i < ds.length
  · refine .inr ⟨show i < n by omega, fun H' => Cn (i + 1) H', fun H' q => ⟨ds.length - (i + 1), by omega, rfl, hlt, q⟩, fun x H' y => ?_⟩
    have sm : Same H H' := by
      obtain ⟨e, _⟩ := y
      rw [e]
      exact fun _ _ h => h
    have ed : ds[i]? = some ds[i] := List.getElem?_eq_getElem hlt
    have edr : ds.drop i = ds[i] :: ds.drop (i + 1) := List.drop_eq_getElem_cons hlt
    rw [edr] at lp
    simp only [compLoop] at lp
    obtain ⟨G1, a1, lp⟩ := Option.bind_eq_some_iff.mp lp
    obtain ⟨⟨b, G2⟩, a2, lp⟩ := Option.bind_eq_some_iff.mp lp
    obtain ⟨_, rx⟩ := (walk_rng (g := g) (Bn := B) (Ow := O) (H := H) 0 n).yld i _ B O H _ _ x H' (by rw [← hds]; exact ed) (fun a z => z) (fun a z => .inl z) (Stp.refl O H) r2 y
    have r2' := r2.same sm
    refine asgT_ok tg r2' rx a1 fun σ2 q1 q2 q3 => ?_
    have hw : L2.wipe σ2 own = L2.wipe σ own := by
      rw [← wipe_wipe σ own]
      exact wipe_same q2 fun j hj => q3 j (tgO j hj)
    refine ⟨hw, B, O, G1, b, G2, q1, a2, fun H3 O3 s3 r3 => ?_⟩
    have st3 : Stp O0 H0 O3 H3 := (st.trans (Stp.same sm)).trans s3
    have dO : Dl ∉ O := r2.sep Dl hB
    have hDl3 : H3 Dl = some (.lst vs) := s3.keep _ _ (sm _ _ hDl) dO
    have rp3 : Reps g (Av B O3) H3 acci vs := (rp.same sm).step s3 r3
    cases b with
    | false =>
      simp only [Bool.false_eq_true, if_false, Option.ite_none_right_eq_some] at lp ⊢
      obtain ⟨_, lp⟩ := lp
      refine ⟨O3, _, acci, vs, st3, ?_, hDl3, by omega, rp3, lp⟩
      have := r3.wipe own
      rw [hw] at this
      exact this
    | true =>
      simp only [if_true] at lp ⊢
      obtain ⟨⟨ye, G3⟩, a3, lp⟩ := Option.bind_eq_some_iff.mp lp
      obtain ⟨⟨e, G4⟩, a4, lp⟩ := Option.bind_eq_some_iff.mp lp
      simp only [Option.ite_none_right_eq_some] at lp
      obtain ⟨_, lp⟩ := lp
      refine ⟨B, O3, G2, ye, G3, r3, a3, fun y4 H4 O4 s4 r4 v4 => ?_⟩
      obtain ⟨O5, s5, r5, p5⟩ := fre_ok r4 v4 a4
      have dO3 : Dl ∉ O3 := r3.sep Dl hB
      have hDl4 : H4 Dl = some (.lst vs) := s4.keep _ _ hDl3 dO3
      have st5 : Stp O0 H0 O5 H4 := (st3.trans s4).trans s5
      have rp5 : Reps g (Av B O5) H4 acci vs := (rp3.step s4 r4).step s5 r5
      refine ⟨vs, hDl4, by omega, O5, _, acci ++ [e], vs ++ [y4], st5.updN hD0, ?_, upd_same, by rw [List.length_append, List.length_singleton]; omega, ?_, lp⟩
      · have := r5.wipe own
        rw [hw] at this
        exact this.updB hB (.inl ⟨_, upd_same⟩)
      · exact reps_mono (ban_vst (.inl hB)) _ _ (rp5.app (Reps.one p5))
  · have e : i = ds.length := by omega
    subst e
    rw [List.drop_length] at lp
    simp only [compLoop, Option.some.injEq, Prod.mk.injEq] at lp
    obtain ⟨rfl, rfl⟩ := lp
    exact .inl ⟨show n ≤ ds.length by omega, hN H O vs st r2 hDl rp⟩
/-- for .. in range(a), the iterator known -/
def tIr (g : Gx) (fs : List FS) (ia : E) : TI := fun σ H R => ∃ Bn Ow Γ x Γ1 d ds, RS g Bn Ow H σ Γ ∧ ev fs ia Γ = some (x, Γ1) ∧ datum Γ1 x = some d ∧ rngI d = some ds ∧ ∀ H' Ow' n, ds = rngD 0 1 n → Stp Ow H Ow' H' → RS g Bn Ow' H' σ Γ1 → R (Itr 0 n) H'
theorem comp2_core {own own1 : List Nat} {tg tg1 : Tg} {ik : IK} {its cond cond1 : List E} {n elt : E} {r : RV} {Q : VK} {Bn : Addr → Prop} {Ow : List Addr} {Γ Γ' : Ct} (rs : RS g Bn Ow H σ Γ) (he : ev fs (.comp2 own tg ik its cond own1 tg1 n cond1 elt) Γ = some (r, Γ'))
    (hQ : ∀ v H' Ow', Stp Ow H Ow' H' → RS g Bn Ow' H' σ Γ' → Val g Bn Ow' H' σ Γ' r v → Q v H') :
    tLc2 (tI g fs ik its) (tgK g.K tg) (tTc g fs cond) (tIr g fs n) (tgT g.K tg1) (tTc g fs cond1) (tR g fs elt) own own1 σ H (fun v H' => kfs g.K H' → Q v H') := by
  simp only [ev] at he
  obtain ⟨⟨xs, Γ1⟩, e1, he⟩ := Option.bind_eq_some_iff.mp he
  obtain ⟨⟨ds, Γ2⟩, e2, he⟩ := Option.bind_eq_some_iff.mp he
  simp only [Option.ite_none_right_eq_some, Bool.and_eq_true, decide_eq_true_eq] at he
  obtain ⟨⟨⟨⟨hp, htg⟩, htg1⟩, hown⟩, he⟩ := he
  obtain ⟨⟨acc, Γ3⟩, e3, he⟩ := Option.map_eq_some_iff.mp he
  simp only [Prod.mk.injEq] at he
  obtain ⟨rfl, rfl⟩ := he
  refine ⟨Bn, Ow, Γ, xs, Γ1, ds, Γ2, rs, e1, e2, fun J H1 O1 s1 r1 wk Dl hD => ?_⟩
  have nbD : ¬ Bn Dl := fun z => r1.trk Dl (.inl z) hD
  have inC : ∀ {l : List Nat} {m : List Nat}, l.all (fun i => m.contains i) = true → ∀ i, i ∉ m → i ∉ l := fun h i hi z => by
    have := List.all_eq_true.mp h i z
    simp only [List.contains_eq_mem, decide_eq_true_eq] at this
    exact hi this
  have tgO := inC htg
  have tgO1 := inC htg1
  have ownO := inC hown
  let lp2 : List D → List D → Ct → Option (List D × Ct) := compLoop2 own tg (evc fs cond) (fun Γ => (ev fs n Γ).bind fun p => (datum p.2 p.1).bind fun d => (rngI d).map fun ds => (ds, p.2)) own1 tg1 (evc fs cond1) (ev fs elt)
  let Cn : Nat → Hp → Prop := fun i H => g.K.lookup Dl = none → ∃ O Γi acci vs, Stp O1 H1 O H ∧ RS g (orB Bn Dl) O H (L2.wipe σ own) Γi ∧ H Dl = some (.lst vs) ∧ Reps g (Av (orB Bn Dl) O) H acci vs ∧ lp2 (ds.drop i) acci Γi = some (acc, Γ3)
  let U : Nat → Hp → Prop := fun i H => (∀ a o, H1 a = some o → nT o → a ∉ O1 → H a = some o) ∧ ∃ vs, H Dl = some (.lst vs)
  refine ⟨fun i m H => m = ds.length - i ∧ i ≤ ds.length ∧ U i H ∧ Cn i H, ⟨ds.length, by simp, Nat.zero_le _, ⟨fun a o h _ _ => by rw [upd_ne (ne_of_none h hD)]; exact h, [], upd_same⟩, fun hk => ?_⟩, ?_⟩
  · exact ⟨O1, _, [], [], (Stp.refl O1 H1).updN hD, (r1.wipe own).addB (same_new hD) hD (.inl ⟨_, upd_same⟩) hk, upd_same, by simp only [Reps], e3⟩
  rintro i m H ⟨rfl, hi, ⟨hU1, vs0, hU2⟩, hC⟩
  by_cases hlt : i < ds.length
  · refine .inr ⟨wk.go i H hlt hU1, fun H' => U (i + 1) H' ∧ Cn (i + 1) H', fun H' q => ⟨ds.length - (i + 1), by omega, rfl, hlt, q.1, q.2⟩, fun x H' y kf => ?_⟩
    have sm := wk.same i H x H' y
    have hk : g.K.lookup Dl = none := kf_new kf (sm _ _ hU2)
    obtain ⟨O, Γi, acci, vs, st, r2, hDl, rp, lp⟩ := hC hk
    have ed : ds[i]? = some ds[i] := List.getElem?_eq_getElem hlt
    have edr : ds.drop i = ds[i] :: ds.drop (i + 1) := List.drop_eq_getElem_cons hlt
    rw [edr] at lp
    simp only [lp2, compLoop2] at lp
    obtain ⟨G1, a1, lp⟩ := Option.bind_eq_some_iff.mp lp
    obtain ⟨⟨b, G2⟩, a2, lp⟩ := Option.bind_eq_some_iff.mp lp
    obtain ⟨_, rx⟩ := wk.yld i _ (orB Bn Dl) O H _ _ x H' ed (fun a z => .inl z) (fun a z => z.elim .inl fun z => .inr (by rw [z]; exact hD)) st r2 y
    have r2' := r2.same sm
    refine asgT_ok tg r2' rx a1 fun σ2 q1 q2 q3 => ?_
    have hw : L2.wipe σ2 own = L2.wipe σ own := by
      rw [← wipe_wipe σ own]
      exact wipe_same q2 fun j hj => q3 j (tgO j hj)
    refine ⟨hw, orB Bn Dl, O, G1, b, G2, q1, a2, fun H3 O3 s3 r3 => ?_⟩
    have st3 : Stp O1 H1 O3 H3 := (st.trans (Stp.same sm)).trans s3
    have dO : Dl ∉ O := r2.sep Dl (.inr rfl)
    have hDl3 : H3 Dl = some (.lst vs) := s3.keep _ _ (sm _ _ hDl) dO
    have rp3 : Reps g (Av (orB Bn Dl) O3) H3 acci vs := (rp.same sm).step s3 r3
    cases b with
    | false =>
      simp only [Bool.false_eq_true, if_false, Option.ite_none_right_eq_some] at lp ⊢
      obtain ⟨_, lp⟩ := lp
      refine ⟨⟨fun a o h t n => st3.keep0 a o h t n, vs, hDl3⟩, fun _ => ⟨O3, _, acci, vs, st3, ?_, hDl3, rp3, lp⟩⟩
      have := r3.wipe own
      rw [hw] at this
      exact this
    | true =>
      simp only [if_true] at lp ⊢
      obtain ⟨⟨ds1, G3⟩, a3, lp⟩ := Option.bind_eq_some_iff.mp lp
      obtain ⟨⟨xn, Gn⟩, b1, a3⟩ := Option.bind_eq_some_iff.mp a3
      obtain ⟨d, b2, a3⟩ := Option.bind_eq_some_iff.mp a3
      obtain ⟨ds1', b3, a3⟩ := Option.map_eq_some_iff.mp a3
      simp only [Prod.mk.injEq] at a3
      obtain ⟨rfl, rfl⟩ := a3
      simp only [Option.ite_none_right_eq_some, Bool.and_eq_true, decide_eq_true_eq] at lp
      obtain ⟨⟨hp1, hz⟩, lp⟩ := lp
      obtain ⟨⟨acc2, G4⟩, c1, lp⟩ := Option.bind_eq_some_iff.mp lp
      simp only [Option.ite_none_right_eq_some] at lp
      obtain ⟨hp4, lp5⟩ := lp
      refine ⟨orB Bn Dl, O3, G2, xn, Gn, d, ds1', r3, b1, b2, b3, fun H4 O4 nn hnn s4 r4 => ?_⟩
      have dO3 : Dl ∉ O3 := r3.sep Dl (.inr rfl)
      have hDl4 : H4 Dl = some (.lst vs) := s4.keep _ _ hDl3 dO3
      have st4 : Stp O1 H1 O4 H4 := st3.trans s4
      have rp4 : Reps g (Av (orB Bn Dl) O4) H4 acci vs := rp3.step s4 r4
      subst hnn
      have ln := rngD_len0 nn 0
      have lv := rp4.len
      refine turns_core (B := orB Bn Dl) (.inr rfl) hD st4 r4 hDl4 rp4 (by omega) tgO1 c1 fun H' O' vs' st' r' hD' rp' => ?_
      refine ⟨⟨fun a o h t n => st'.keep0 a o h t n, vs', hD'⟩, fun _ => ⟨O', _, acc2, vs', st', ?_, hD', rp', lp5⟩⟩
      have := r'.wipe own
      have hw2 : L2.wipe (L2.wipe σ2 own1) own = L2.wipe σ own := by
        rw [← hw]
        exact wipe_same (wipe_length σ2 own1) fun j hj => wipe_nout (ownO j hj)
      rw [hw2] at this
      exact this
  · have e : i = ds.length := by omega
    subst e
    refine .inl ⟨wk.stop H hU1, fun kf => ?_⟩
    have hk : g.K.lookup Dl = none := kf_new kf hU2
    obtain ⟨O, Γi, acci, vs, st, r2, hDl, rp, lp⟩ := hC hk
    rw [List.drop_length] at lp
    simp only [lp2, compLoop2, Option.some.injEq, Prod.mk.injEq] at lp
    obtain ⟨rfl, rfl⟩ := lp
    have r3 := r1.rest hp st (fun a z => z.elim .inl fun z => .inr (by rw [z]; exact hD)) r2
    have r4 := r3.unB nbD
    refine hQ _ H (Dl :: O) (s1.trans ⟨st.keep0, fun a h => ?_⟩) r4 ⟨Dl, rfl, List.mem_cons_self, ⟨vs, hDl, ?_⟩, fun j e h1 h2 => ?_⟩
    · rcases List.mem_cons.mp h with h | h
      · rw [h]; exact .inr (nw_none hD)
      · exact st.grow a h
    · refine reps_less (fun a z => ?_) rp
      rcases z with z | z
      · exact .inl (.inl z)
      · rcases List.mem_cons.mp z with z | z
        · exact .inl (.inr z)
        · exact .inr z
    · obtain ⟨a, e2, m2, _⟩ := r3.own j e h1
      rw [h2] at e2; cases e2
      exact r2.sep Dl (.inr rfl) m2
end
section
variable {X : Cx} {g : Gx} {fs : List FS}
theorem i_rngR {tg a : Expr} {ia : E} {p pos : Pos} (C : Cok0 g X) (hg : Gl X "range") (hm : X.mg "range" = none) (ha : PA X [a] (tAs g fs [ia])) (hs : starEach [a] X.env = [(false, eval a X.env)]) : PI X tg (.Call (.Name "range" p) [a] [] pos) (tIr g fs ia) := by
  refine PI.weak (pi_range1 hg hm ha hs) ?_
  rintro σ H R ⟨Bn, Ow, Γ, x, Γ1, d, ds, rs, e1, e2, e3, k⟩
  refine ⟨Bn, Ow, Γ, [x], Γ1, rs, by simp only [evs, e1, Option.bind_some, Option.map_some], fun vs H1 O1 s1 r1 v1 => ?_⟩
  have pd := datums_ok r1 v1 (ds := [d]) (by simp only [datums, e2, Option.bind_some, Option.map_some])
  cases d <;> simp only [rngI, reduceCtorEq, Option.ite_none_right_eq_some, Option.some.injEq] at e3
  obtain ⟨h6, rfl⟩ := e3
  obtain ⟨v, rfl, q⟩ := paired1 pd
  rw [rdb_int q]
  exact ⟨_, rfl, (in62_of h6).1, (in62_of h6).2, k H1 O1 _ rfl s1 r1⟩
theorem p_comp2 {elt tg iter tg1 iter1 : Expr} {ifs ifs1 : List Expr} {scope : Scope} {own : List (Str × Nat)} {own1 : List Nat} {pos : Pos} {itg itg1 : Tg} {ik : IK} {its cond cond1 : List E} {n ielt : E} (C : Cok g X) (hi : PI X tg iter (tI g fs ik its)) (ok : BlkOk X.N X.env.scope scope own) (hv : ∀ i ∈ own1, i ∈ own.map (·.2))
    (hg : ∀ (s : Shared) (H : Hp) (C : Addr) (cl : List (Str × Addr)) (fp : List Addr), PG (X.blk s H scope (compEnvC scope cl C X.env) fp) tg (tgT g.K itg)) (ht : ∀ (s : Shared) (H : Hp) (C : Addr) (cl : List (Str × Addr)) (fp : List Addr), PTs (X.blk s H scope (compEnvC scope cl C X.env) fp) ifs (tTc g fs cond))
    (hi1 : ∀ (s : Shared) (H : Hp) (C : Addr) (cl : List (Str × Addr)) (fp : List Addr), PI (X.blk s H scope (compEnvC scope cl C X.env) fp) tg1 iter1 (tIr g fs n))
    (hg1 : ∀ (s : Shared) (H : Hp) (C : Addr) (cl : List (Str × Addr)) (fp : List Addr), PG (X.blk s H scope (compEnvC scope cl C X.env) fp) tg1 (tgT g.K itg1)) (ht1 : ∀ (s : Shared) (H : Hp) (C : Addr) (cl : List (Str × Addr)) (fp : List Addr), PTs (X.blk s H scope (compEnvC scope cl C X.env) fp) ifs1 (tTc g fs cond1))
    (he : ∀ (s : Shared) (H : Hp) (C : Addr) (cl : List (Str × Addr)) (fp : List Addr), PE (X.blk s H scope (compEnvC scope cl C X.env) fp) elt (tR g fs ielt)) (hs : ∀ x, foldedSetIterable iter X.env x = pure x) (hs1 : ∀ env x, foldedSetIterable iter1 env x = pure x) :
    PE X (.ListComp elt [⟨tg, iter, ifs, 0⟩, ⟨tg1, iter1, ifs1, 0⟩] scope pos) (tR g fs (.comp2 (own.map (·.2)) itg ik its cond own1 itg1 n cond1 ielt)) := by
  refine PE.weak (PE.kf (pe_lc2 (g := tgK g.K itg) C.calm C.nd hi ok hv (fun s H Ca cl fp => ?_) ht hi1 hg1 ht1 he hs hs1)) ?_
  · have := PG.kf (hg s H Ca cl fp)
    exact ⟨fun pins s σ H v u Q I r q => this.run pins s σ H v u Q I r fun kf => q fun a o e => kf a o (by show X.K.lookup a = some o; rw [C.K]; exact e)⟩
  · rintro σ H Q ⟨Bn, Ow, Γ, r, Γ', rs, he, hQ⟩
    have q := comp2_core rs he hQ
    rw [C.K]
    exact q
theorem s_setLc2 {Wx : L2.XK} {i : Nat} {y : Str} {py : Pos} {elt tg iter tg1 iter1 : Expr} {ifs ifs1 : List Expr} {scope : Scope} {own : List (Str × Nat)} {own1 : List Nat} {pos spos : Pos} {itg itg1 : Tg} {ik : IK} {its cond cond1 : List E} {n ielt : E} (C : Cok g X) (hy : X.N[i]? = some y) (hyl : X.env.scope.names.lookup y = some .local)
    (hsw : swapsWith (.ListComp elt [⟨tg, iter, ifs, 0⟩, ⟨tg1, iter1, ifs1, 0⟩] scope pos) (some (.Name y py)) spos.line X.env = pure true) (hi : PI X tg iter (tI g fs ik its)) (ok : BlkOk X.N X.env.scope scope own) (hv : ∀ i ∈ own1, i ∈ own.map (·.2))
    (hg : ∀ (s : Shared) (H : Hp) (C : Addr) (cl : List (Str × Addr)) (fp : List Addr), PG (X.blk s H scope (compEnvC scope cl C X.env) fp) tg (tgT g.K itg)) (ht : ∀ (s : Shared) (H : Hp) (C : Addr) (cl : List (Str × Addr)) (fp : List Addr), PTs (X.blk s H scope (compEnvC scope cl C X.env) fp) ifs (tTc g fs cond))
    (hi1 : ∀ (s : Shared) (H : Hp) (C : Addr) (cl : List (Str × Addr)) (fp : List Addr), PI (X.blk s H scope (compEnvC scope cl C X.env) fp) tg1 iter1 (tIr g fs n))
    (hg1 : ∀ (s : Shared) (H : Hp) (C : Addr) (cl : List (Str × Addr)) (fp : List Addr), PG (X.blk s H scope (compEnvC scope cl C X.env) fp) tg1 (tgT g.K itg1)) (ht1 : ∀ (s : Shared) (H : Hp) (C : Addr) (cl : List (Str × Addr)) (fp : List Addr), PTs (X.blk s H scope (compEnvC scope cl C X.env) fp) ifs1 (tTc g fs cond1))
    (he : ∀ (s : Shared) (H : Hp) (C : Addr) (cl : List (Str × Addr)) (fp : List Addr), PE (X.blk s H scope (compEnvC scope cl C X.env) fp) elt (tR g fs ielt)) (hs : ∀ x, foldedSetIterable iter X.env x = pure x) (hs1 : ∀ env x, foldedSetIterable iter1 env x = pure x) :
    PS X (.Assign [.Name y py] (.ListComp elt [⟨tg, iter, ifs, 0⟩, ⟨tg1, iter1, ifs1, 0⟩] scope pos) spos) (tSt g Wx fs (.asgO i (.comp2 (own.map (·.2)) itg ik its cond own1 itg1 n cond1 ielt))) := by
  refine PS.weak (PS.kf (ps_setLc2 (g := tgK g.K itg) C.calm C.nd hy hyl hsw hi ok hv (fun s H Ca cl fp => ?_) ht hi1 hg1 ht1 he hs hs1)) ?_
  · have := PG.kf (hg s H Ca cl fp)
    exact ⟨fun pins s σ H v u Q I r q => this.run pins s σ H v u Q I r fun kf => q fun a o e => kf a o (by show X.K.lookup a = some o; rw [C.K]; exact e)⟩
  · intro Dn σ H q
    have := asgO_core (te := fun σ H Q => tLc2 (tI g fs ik its) (tgK g.K itg) (tTc g fs cond) (tIr g fs n) (tgT g.K itg1) (tTc g fs cond1) (tR g fs ielt) (own.map (·.2)) own1 σ H (fun v H' => kfs g.K H' → Q v H')) (fun Q ⟨Bn, Ow, Γ, r, Γ', rs, he, hQ⟩ => comp2_core rs he hQ) q
    rw [C.K]
    exact this
end
end DV

namespace DV
open PySem L2 PySem.Spec
section
variable {X : Cx} {g : Gx} {fs : List FS} {a : Expr} {ia : E} {pos p p2 pos2 : Pos}
/-- list(range(a)) -/
theorem p_rngl1 (C : Cok g X) (hg : Gl X "list") (hm : X.mg "list" = none) (hg2 : Gl X "range") (hm2 : X.mg "range" = none) (ha : PE X a (tR g fs ia)) (na : starEach [a] X.env = (false, eval a X.env) :: starEach [] X.env)
    (nc : starEach [.Call (.Name "range" p2) [a] [] pos2] X.env = (false, eval (.Call (.Name "range" p2) [a] [] pos2) X.env) :: starEach [] X.env) : PE X (.Call (.Name "list" p) [.Call (.Name "range" p2) [a] [] pos2] [] pos) (tR g fs (.rngl (.cst (.int 0)) ia)) := by
  refine PE.weak (PE.kf (pe_listRg C.calm hg hm (prg_1 hg2 hm2 ha na) nc)) ?_
  rintro σ H Q ⟨Bn, Ow, Γ, r, Γ', rs, he, hQ⟩
  simp only [ev] at he
  obtain ⟨⟨x, Γ1⟩, e1, he⟩ := Option.bind_eq_some_iff.mp he
  simp only [Option.some.injEq, Prod.mk.injEq] at e1
  obtain ⟨rfl, rfl⟩ := e1
  obtain ⟨⟨y, Γ2⟩, e2, he⟩ := Option.bind_eq_some_iff.mp he
  obtain ⟨d0, ed0, he⟩ := Option.bind_eq_some_iff.mp he
  obtain rfl : D.int 0 = d0 := Option.some.inj ed0
  obtain ⟨e, ee, he⟩ := Option.bind_eq_some_iff.mp he
  obtain ⟨ds, h6, he⟩ := Option.map_eq_some_iff.mp he
  simp only [Prod.mk.injEq] at he
  obtain ⟨rfl, rfl⟩ := he
  rw [← datum_dn] at ee
  rw [C.K]
  refine tR_one rs e2 fun w H2 O2 s2 r2 w2 => ?_
  have q2 := w2.rdb r2 ee
  cases e with
  | int j =>
    simp only [rnglD] at h6
    split at h6
    · rename_i hc
      simp only [Bool.and_eq_true, decide_eq_true_eq] at hc
      cases h6
      have t1 := in62_of hc.1.1
      have t2 := in62_of hc.1.2
      refine ⟨j, rdb_int q2, ⟨t1.1, t1.2, t2.1, t2.2, by have := hc.2; omega⟩, fun q hq kf => ?_⟩
      have sm : Same H2 (upd H2 q (.lst (rgV 0 j))) := same_new hq
      obtain ⟨O3, s3, r3, v3⟩ := Res.val (r := .nw (.lst (rngD 0 1 (j - 0).toNat))) r2 sm (new_lst hq (kf_new kf upd_same) (reps_rg _ 0 _ fun _ => rfl))
      exact hQ _ _ O3 (s2.trans s3) r3 v3
    · cases h6
  | _ => simp only [rnglD, reduceCtorEq] at h6
end
end DV

namespace DV
open PySem PySem.Spec PyProof.Rows L2 LamX
/-- the table of modules is an object of the ground -/
def SmB (base : Heap) : Prop := ∃ o, base.get? sysModules = some o
/-- the promise of a def, where no repr is under way -/
structure FnG (P : Program) (w : World) (K : PySem.W.Frag) (mg : Str → Option Value) (base : Heap) (CX : CXT) (k : Nat) (f : Addr) (fd : FuncData) (ps : List Str) (sp : Sp) : Prop where
  len : ∀ vs H Q E, sp vs H Q E → vs.length = ps.length
  run : ∀ (A : Around) (ot : List Env) (s : Shared) (H : Hp) (as : Args) (us : List Value) (vs : List V) (Q : VK) (E : XK), A.guards = some [] → Room k A → Env0 P w K mg base A ot s H → BindsTo s fd as (ps.zip us) → Vals vs us → sp vs H Q E →
    codeAny (model P w) A (.call (.ref f) as) (CR CX ot P w H s Q E) s
theorem fnG_of {CX : CXT} {P : Program} {w : World} {K : PySem.W.Frag} {mg : Str → Option Value} {base : Heap} {k : Nat} {f : Addr} {name qual : Str} {params : Arguments} {body : List Stmt} {scope : Scope} {dv0 kV doc pm cdv ct oc : Value} {an od : Option Addr}
    {sl0 : Array (Option Value)} {N ps : List Str} {sp : Sp} (lk : K.lookup f = some ⟨oc, od, .func (PySem.W.fnOf name qual params body scope dv0 kV doc pm an cdv ct), sl0⟩) (hcd : PySem.W.codeIn K cdv qual = true) (S : FnScope N ps scope)
    (len : ∀ xs H0 W0 X0, sp xs H0 W0 X0 → xs.length = ps.length)
    (hbody : ∀ (A0 : Around) (ot : List Env) (t0 : Shared) (H0 : Hp) (xs : List V) (W0 : VK) (X0 : XK), (A0.deeper (envOfC qual scope t0.heap.objs.size f cdv)).guards = some [] → Room k (A0.deeper (envOfC qual scope t0.heap.objs.size f cdv)) → sp xs H0 W0 X0 →
      ∃ td, PSs (cxOf CX P w K mg base N qual scope f cdv A0 ot t0 H0 X0) body td ∧ td { nx := fun _ H' => W0 .non H', rt := W0 } (start N xs) H0) :
    FnG P w K mg base CX (k + 1) f (PySem.W.fnOf name qual params body scope dv0 kV doc pm an cdv ct) ps sp := by
  refine ⟨len, fun A0 ot t0 H0 as0 ws xs W0 X0 hgd hr hE hb r hS => ?_⟩
  have hL := len _ _ _ _ hS
  have kx : K.In t0.heap := hE.mod.kin.keeps fun b o ex0 => (hE.bs b o ex0).1
  have nl : t0.heap.NoLimit := hE.mod.nolimit.keeps fun b o ex0 => (hE.bs b o ex0).1
  have hkd : ∀ y ∈ ps.zip ws, scope.names.lookup y.1 = some .local ∨ (scope.names.lookup y.1 = some .cell ∧ ((cellsFrom (t0.heap.objs.size + 1) scope.names []).lookup y.1).isSome = true) := fun ⟨n, v⟩ hy => by
    rcases S.par n (List.of_mem_zip hy).1 with qq | qq
    · exact .inl qq
    · exact .inr ⟨qq, PySem.W.cellsFrom_some _ _ _ (.inl qq)⟩
  refine codeAny_call_function hr.depth (kx _ _ lk) rfl S.co S.gen rfl (PySem.W.codeRec_of kx hcd) (hb _ _ _ _ ?_)
  refine wpAny_newFunctionEnv_cells S.kind hkd fun ev0 hev s1 x => ?_
  subst hev
  refine ⟨nl.keeps x.toInCall.keep, codeAny_func ?_⟩
  obtain ⟨td, htd, hqd⟩ := hbody A0 ot t0 H0 xs W0 X0 hgd (hr.deeper _) hS
  have J0 : Inv (cxOf CX P w K mg base N qual scope f cdv A0 ot t0 H0 X0) [] (start N xs) H0 s1 := inv_start S hr.hd hE hL r x
  refine wpAny_mono (htd.run [] s1 (start N xs) H0 _ J0 hqd) (fun fl0 s' hfl => ?_) fun ex0 s' hfl => hfl
  have fin0 : ∀ {σ' : L2.St} {H' : Hp} {v : V} {u : Value}, Inv (cxOf CX P w K mg base N qual scope f cdv A0 ot t0 H0 X0) [] σ' H' s' → RelV v u → W0 v H' → CE ot P w H0 t0 W0 u s' :=
    fun {σ' H' v u} J1 rvl qq => ⟨v, H', J1.os, J1.bare, J1.base, J1.hok, rvl, qq⟩
  cases fl0 with
  | ret u =>
    obtain ⟨v, σ', H', J1, rvl, qq⟩ := hfl
    exact fin0 J1 rvl qq
  | next =>
    obtain ⟨σ', H', J1, qq⟩ := hfl
    exact fin0 (v := V.non) (u := Value.none) J1 rfl qq
  | brk =>
    obtain ⟨_, _, _, qq⟩ := hfl
    exact False.elim qq
  | cont =>
    obtain ⟨_, _, _, qq⟩ := hfl
    exact False.elim qq
theorem law_callG {P : Program} {ww : World} {KK : PySem.W.Frag} {mg mb : Str → Option Value} {CX : CXT} {kk : Nat} {fa0 aa : Addr} {cz : List (Addr × Addr)} {fd0 : FuncData} {xx : Str} {spp : Sp} {t0₁ : Shared} {xs : List Value} {ms : List Int}
    (kx : KK.In t0₁.heap) (hn0 : t0₁.heap.Ns mainGlobals mg) (hsy : ∃ ym, t0₁.heap.Ns sysModules ym) (hb0 : t0₁.heap.Ns builtinsNs mb) (hb1 : ∀ xx : Str, xx ≠ "__name__" → mb xx = bootBuiltins xx) (hl0 : t0₁.heap.NoLimit) (hg0 : t0₁.gens = #[])
    (tT : ∀ pp ∈ cz, t0₁.heap.get? pp.2 = some { cls := .none, data := .fields #[] }) (tN : ∀ pp ∈ cz, KK.lookup pp.2 = none) (tC : ∀ pp ∈ cz, PySem.W.CodeHd t0₁.heap pp.1 pp.2)
    (tB : ∃ (bm : Addr) (ob : Obj), mg "__builtins__" = some (.ref bm) ∧ bm ≠ builtinsNs ∧ t0₁.heap.get? bm = some ob ∧ ob.cls = .type "module" ∧ ob.dict = some builtinsNs ∧ ob.data = .plain)
    (ha0 : t0₁.heap.get? aa = some { cls := .type "list", data := .seq xs.toArray }) (hi0 : IntsAre xs ms) (hl1 : ms.length ≤ sizeLine) (hr0 : Room kk callerA)
    (fF : ∀ base : Heap, KK.In base → base.Ns mainGlobals mg → SmB base → (∀ pp ∈ cz, TabB base mg pp.1 pp.2) → FnG P ww KK mg base CX kk fa0 fd0 [xx] spp) (hbd : ∀ (t0 : Shared) (uu : Value), BindsTo t0 fd0 ⟨[uu], []⟩ [(xx, uu)])
    (hs0 : ∀ H0 : Hp, (∀ pp ∈ cz, H0 pp.2 = some (.tbl #[])) → SqL KK H0 aa (ms.map V.int) → spp [.ref aa] H0 (fun vv _ => vv = .bl true) fun _ _ _ => False)
    (hX : ∀ H0 ee s', CX [] H0 t0₁ (fun _ _ _ => False) ee s' → False) :
    codeAny (model P ww) callerA (.call (.ref fa0) ⟨[.ref aa], []⟩) (fun rr s' => rr = .ok (.ret (.bool true)) ∧ OldK t0₁.heap s'.heap ∧ s'.os = t0₁.os ∧ AllBare s'.gens) t0₁ := by
  have rvv := vals_ints hi0
  have lnV := hi0.length
  have tIs : ∀ bb : Addr, bb ∈ cz.map (·.2) → t0₁.heap.get? bb = some { cls := .none, data := .fields #[] } := fun bb hb0 => by
    obtain ⟨pp, hpp, ee⟩ := List.mem_map.mp hb0
    rw [← ee]
    exact tT pp hpp
  have aTn : aa ∉ cz.map (·.2) := fun zz => by
    have qq := tIs aa zz
    rw [ha0] at qq
    have z' : Data.seq xs.toArray _ = Data.fields #[] := congrArg Obj.data (Option.some.inj qq)
    cases z'
  have mT : ∀ pp ∈ cz, pp.2 ∈ cz.map (·.2) := fun pp hpp => List.mem_map.mpr ⟨pp, hpp, rfl⟩
  have cr : ∀ H0 : Hp, (∀ pp ∈ cz, H0 pp.2 = some (.tbl #[])) → (∀ bb, H0 bb = none ∨ bb ∈ cz.map (·.2) ∨ ∃ oo xs, H0 bb = some (.frz oo (.lst xs))) → SqL KK H0 aa (ms.map V.int) → HOk P ww H0 t0₁.heap → (∀ bb, H0 bb ≠ none → bb = aa ∨ bb ∈ cz.map (·.2)) → (H0 aa ≠ none → KK.lookup aa = none) →
      codeAny (model P ww) callerA (.call (.ref fa0) ⟨[.ref aa], []⟩) (fun rr s' => rr = .ok (.ret (.bool true)) ∧ OldK t0₁.heap s'.heap ∧ s'.os = t0₁.os ∧ AllBare s'.gens) t0₁ := by
    intro H0 hH hO hS hok hA hK
    have bs0 : ∀ {bb : Addr} {oo : Obj}, t0₁.heap.get? bb = some oo → H0 bb = none → (hidT t0₁.heap H0).get? bb = some oo := fun ee nn => hidT_get ee nn
    have nD : ∀ {bb : Addr} {oo : Obj}, t0₁.heap.get? bb = some oo → (∀ xs nn, oo.data ≠ .seq xs nn) → oo.data ≠ .fields #[] → H0 bb = none := fun {bb oo} ee h1 h2 => by
      cases qq : H0 bb with
      | none => rfl
      | some uu =>
        rcases hA bb (by rw [qq]; simp) with e' | e'
        · rw [e', ha0] at ee
          cases ee
          exact (h1 _ _ rfl).elim
        · rw [tIs bb e'] at ee
          cases ee
          exact (h2 rfl).elim
    have nA : ∀ {bb : Addr} {oo : Obj} {es : Array DictEntry} {ep : Nat}, t0₁.heap.get? bb = some oo → oo.data = .dict es ep → H0 bb = none := fun {bb oo es ep} ee dd => by
      refine nD ee (fun xs nn zz => ?_) fun zz => ?_
      · rw [dd] at zz
        cases zz
      · rw [dd] at zz
        cases zz
    have nK : ∀ {bb : Addr} {m : Str → Option Value}, t0₁.heap.Ns bb m → (hidT t0₁.heap H0).Ns bb m := fun {bb m} ⟨oo, es, ep, ee, dd, rr⟩ => ⟨oo, es, ep, bs0 ee (nA ee dd), dd, rr⟩
    have kb : KK.In (hidT t0₁.heap H0) := fun bb oo ee => bs0 (kx bb oo ee) (by
      cases qq : H0 bb with
      | none => rfl
      | some uu =>
        rcases hA bb (by rw [qq]; simp) with e' | e'
        · rw [e'] at ee qq
          rw [hK (by rw [qq]; simp)] at ee
          cases ee
        · obtain ⟨pp, hpp, ep⟩ := List.mem_map.mp e'
          rw [← ep, tN pp hpp] at ee
          cases ee)
    have hm0 : L2.Mod KK mg (hidT t0₁.heap H0) := ⟨kb, nK hn0, ⟨mb, nK hb0, hb1⟩, let ⟨mc, h1, h2⟩ := hl0; ⟨mc, nK h1, h2⟩⟩
    have tb : ∀ pp ∈ cz, TabB (hidT t0₁.heap H0) mg pp.1 pp.2 := fun pp hpp => by
      have hTp := tT pp hpp
      refine ⟨?_, ?_, fun zz => ?_⟩
      · obtain ⟨oo, us, file, tf, flags, tg, inF, text, tt, e1, r1, r2, r3, r4, r5, r6, r7, r8, hne⟩ := tC pp hpp
        refine ⟨oo, us, file, tf, flags, tg, inF, text, tt, bs0 e1 (nD e1 (fun xs nn zz => ?_) fun zz => ?_), r1, r2, r3, r4, r5, r6, r7, r8, hne⟩
        · rw [r2] at zz
          cases zz
        · rw [r2] at zz
          cases zz
          simp at r3
      · obtain ⟨bm, ob, b1, b2, b3, b4, b5, b6⟩ := tB
        have nG : bm ≠ mainGlobals := fun qq => by
          obtain ⟨oo, es, ep, ee, hd, _⟩ := hn0
          rw [qq, ee] at b3
          cases b3
          rw [hd] at b6
          cases b6
        have nP : bm ≠ pp.2 := fun qq => by
          rw [qq, hTp] at b3
          cases b3
          cases b6
        refine ⟨bm, ob, b1, b2, nG, nP, bs0 b3 (nD b3 (fun xs nn zz => ?_) fun zz => ?_), b4, b5, b6⟩
        · rw [b6] at zz
          cases zz
        · rw [b6] at zz
          cases zz
      · obtain ⟨oo, es, ep, ee, hd, _⟩ := hn0
        rw [zz, hTp] at ee
        cases ee
        cases hd
    have ev0 : Env0 P ww KK mg (hidT t0₁.heap H0) callerA [] t0₁ H0 := ⟨rfl, hm0, fun bb oo ee => of_hidT ee, Nat.le_of_eq (hidT_size _ _), trivial, fun bb hb0 => absurd (show bb ∈ ([] : List Addr) from hb0) (by simp), hok, .of_eq hg0⟩
    refine codeAny_mono ((fF _ kb (nK hn0) (let ⟨_, hy⟩ := hsy; let ⟨yo, _, _, y1, _⟩ := nK hy; ⟨yo, y1⟩) tb).run callerA [] t0₁ H0 ⟨[.ref aa], []⟩ [.ref aa] [.ref aa] _ _ rfl hr0 ev0 (hbd t0₁ (.ref aa)) (.cons rfl .nil) (hs0 H0 hH hS)) fun rr s' hh => ?_
    cases rr with
    | error ee => exact (hX H0 ee s' hh).elim
    | ok fl =>
      cases fl with
      | next => exact False.elim hh
      | brk => exact False.elim hh
      | cont => exact False.elim hh
      | ret uu =>
        obtain ⟨vv, H', oss, br, unn, hok', r', qq⟩ := hh
        have q' : vv = .bl true := qq
        subst q'
        obtain rfl : uu = Value.bool true := r'
        have ky : ∀ bb oo, bb ∉ cz.map (·.2) → t0₁.heap.get? bb = some oo → s'.heap.get? bb = some oo := fun bb oo nb ee => by
          cases qq : H0 bb with
          | none => exact unn.keep bb oo ee qq (by intro zz; exact absurd (show bb ∈ ([] : List Addr) from zz) (by simp)) (by simp)
          | some uu =>
            rcases hO bb with zz | zz | ⟨ob, xs, zz⟩
            · rw [qq] at zz; cases zz
            · exact absurd zz nb
            · have z2 := unn.frzs bb ob _ zz
              obtain ⟨e1, _⟩ := hok bb _ zz
              obtain ⟨e2, _⟩ := hok' bb _ z2
              rw [ee] at e1; cases e1
              exact e2
        have gr : ∀ pp ∈ cz, ∃ more : Array Value, s'.heap.get? pp.2 = some { cls := .none, data := .fields more } := fun pp hpp => by
          obtain ⟨more, zz⟩ := unn.tbls pp.2 #[] (hH pp hpp)
          exact ⟨_, hok' pp.2 _ zz⟩
        refine ⟨rfl, ⟨fun bb oo ee => ?_, fun bb oo ee => ?_⟩, oss, br⟩
        · by_cases hb0 : bb ∈ cz.map (·.2)
          · obtain ⟨pp, hpp, ep⟩ := List.mem_map.mp hb0
            obtain ⟨more, hm⟩ := gr pp hpp
            rw [← ep] at ee ⊢
            rw [tT pp hpp] at ee
            cases ee
            exact .inr (.inl ⟨((tC pp hpp).tab (tT pp hpp)).isCodeTable, rfl, #[], more, rfl, by rw [Array.empty_append]; exact hm⟩)
          · exact .inl (ky bb oo hb0 ee)
        · by_cases hb0 : bb ∈ cz.map (·.2)
          · obtain ⟨pp, hpp, ep⟩ := List.mem_map.mp hb0
            obtain ⟨more, hm⟩ := gr pp hpp
            rw [← ep]
            exact ⟨_, hm⟩
          · exact ⟨oo, ky bb oo hb0 ee⟩
  cases hk : KK.lookup aa with
  | some oo =>
    have ee := kx aa oo hk
    rw [ha0] at ee
    cases ee
    refine cr (fun bb => if bb ∈ cz.map (·.2) then some (.tbl #[]) else none) (fun pp hpp => if_pos (mT pp hpp)) (fun bb => ?_) (.inr ⟨_, xs.toArray, _, hk, rfl, rfl, rfl, by rw [List.size_toArray, lnV]; exact hl1, by simpa using rvv⟩) (fun bb uu zz => ?_) (fun bb zz => ?_) fun zz => absurd (show (if aa ∈ cz.map (·.2) then some (HO.tbl #[]) else none) = none from if_neg aTn) zz
    · by_cases hb0 : bb ∈ cz.map (·.2)
      · exact .inr (.inl hb0)
      · exact .inl (if_neg hb0)
    · by_cases hb0 : bb ∈ cz.map (·.2)
      · have z' := (if_pos hb0).symm.trans zz
        cases z'
        exact tIs bb hb0
      · have z' := (if_neg hb0).symm.trans zz
        cases z'
    · by_cases hb0 : bb ∈ cz.map (·.2)
      · exact .inr hb0
      · exact absurd (if_neg hb0) zz
  | none =>
    refine cr (fun bb => if bb = aa then some (.frz { cls := .type "list", data := .seq xs.toArray } (.lst (ms.map V.int))) else if bb ∈ cz.map (·.2) then some (.tbl #[]) else none) (fun pp hpp => (if_neg (show ¬ pp.2 = aa from fun zz => aTn (by rw [← zz]; exact mT pp hpp))).trans (if_pos (mT pp hpp))) (fun bb => ?_)
      (.inl (.inr ⟨{ cls := .type "list", data := .seq xs.toArray }, if_pos rfl⟩)) (fun bb uu zz => ?_) (fun bb zz => ?_) fun _ => hk
    · by_cases hb0 : bb = aa
      · exact .inr (.inr ⟨_, _, if_pos hb0⟩)
      · by_cases hb2 : bb ∈ cz.map (·.2)
        · exact .inr (.inl hb2)
        · exact .inl ((if_neg hb0).trans (if_neg hb2))
    · by_cases hb0 : bb = aa
      · have z' := (if_pos hb0).symm.trans zz
        cases z'
        rw [hb0]
        exact ⟨ha0, by rw [List.length_map]; exact hl1, xs, _, rvv, ha0⟩
      · have z1 := (if_neg hb0).symm.trans zz
        by_cases hb2 : bb ∈ cz.map (·.2)
        · have y' := (if_pos hb2).symm.trans z1
          cases y'
          exact tIs bb hb2
        · have y' := (if_neg hb2).symm.trans z1
          cases y'
    · by_cases hb0 : bb = aa
      · exact .inl hb0
      · by_cases hb2 : bb ∈ cz.map (·.2)
        · exact .inr hb2
        · exact absurd ((if_neg hb0).trans (if_neg hb2)) zz
/-- what is known of the law's promise at the head's heap hh -/
def LawAtG (ll : PySem.W.OpenLaw) (ww : World) (KK : PySem.W.Frag) (CX : CXT) (kk nn : Nat) (xx : Str) (mg : Str → Option Value) (fa0 : Addr) (hh : Heap) : Prop :=
  ∃ (fd0 : FuncData) (cz : List (Addr × Addr)) (spp : Sp), (∀ pp ∈ cz, hh.get? pp.2 = some { cls := .none, data := .fields #[] }) ∧ (∀ pp ∈ cz, KK.lookup pp.2 = none) ∧ (∀ pp ∈ cz, PySem.W.CodeHd hh pp.1 pp.2) ∧ (∀ (t0 : Shared) (uu : Value), BindsTo t0 fd0 ⟨[uu], []⟩ [(xx, uu)]) ∧
    (∀ (H0 : Hp) (aa : Addr) (ms : List Int), ms.length ≤ nn → (∀ zz ∈ ms, Builtin.Int.intBits zz ≤ 1048576) → (∀ pp ∈ cz, H0 pp.2 = some (.tbl #[])) → SqL KK H0 aa (ms.map V.int) → spp [.ref aa] H0 (fun vv _ => vv = .bl true) fun _ _ _ => False) ∧
    ∀ base : Heap, KK.In base → base.Ns mainGlobals mg → SmB base → (∀ pp ∈ cz, TabB base mg pp.1 pp.2) → FnG ll.prog ww KK mg base CX kk fa0 fd0 [xx] spp
theorem walk_ofG {ll : PySem.W.OpenLaw} {nn kk : Nat} {qq : Program} {loose : List Str} {XP : (Str → Option Value) → Heap → Prop} {YP : World → Heap → Prop} {dd : DefRec} {KK : Params → PySem.W.Frag} {CX : World → CXT} {xx : Str}
    (hn : ll.most = some nn) (hn2 : nn ≤ sizeLine) (hdf : dd.params.defaults = []) (hr0 : Room kk callerA) (hY : ∀ (ww : World) (hh : Heap), YP ww hh → (KK ww.params).In hh) (hi : importsNone qq = true)
    (fF : ∀ (ww : World) (mg mb : Str → Option Value) (mean : ExcName → Option Value) (fa0 : Addr) (hh : Heap), PyProof.Rows.Top qq (PySem.W.looseW qq loose) mean mg mb hh → (KK ww.params).In hh → mg dd.name = some (.ref fa0) → LawAtG ll ww (KK ww.params) (CX ww) kk nn xx mg fa0 hh)
    (hX : ∀ (ww : World) (H0 : Hp) (t0 : Shared) (ee : Value) (s' : Shared), CX ww [] H0 t0 (fun _ _ _ => False) ee s' → False) :
    PySem.W.WalkO qq loose XP YP ll.row.toRowW dd [] (fun f xs => PySem.call f xs) := by
  refine Att.attach_callB hn hdf fun ww t0₀ t0₁ mg mb fa0 oo pm cd doc aa xs ms G Y ho hd hcd hmg hobj hints hlen hbits hg0 => ?_
  have kx := hY ww _ Y
  have tpp := G.T
  obtain ⟨fd0, cz, spp, tT, tN, tC, hb0, hs0, hF⟩ := fF ww mg mb _ fa0 _ tpp kx hmg
  exact law_callG kx tpp.g (let ⟨ym, hy, _⟩ := (tpp.seer hi).mods; ⟨ym, hy⟩) tpp.b tpp.builtins tpp.nolimit hg0 tT tN tC tpp.bmain hobj hints (Nat.le_trans hlen hn2) hr0 hF hb0 (fun H0 hH hS => hs0 H0 aa ms hlen hbits hH hS) fun H0 ee z1 => hX ww H0 t0₁ ee z1
/-! ### defs over this promise -/
theorem FnG.mono {P : Program} {w : World} {K : PySem.W.Frag} {mg : Str → Option Value} {base : Heap} {CX : CXT} {j k : Nat} {f : Addr} {fd : FuncData} {ps : List Str} {sp : Sp} (h : FnG P w K mg base CX j f fd ps sp) (l : j ≤ k) : FnG P w K mg base CX k f fd ps sp :=
  ⟨h.len, fun A ot s H as us vs Q E hg hr he hb hv hs => h.run A ot s H as us vs Q E hg (hr.mono l) he hb hv hs⟩
theorem FnG.of {P : Program} {w : World} {K : PySem.W.Frag} {mg : Str → Option Value} {base : Heap} {CX : CXT} {k : Nat} {f : Addr} {fd : FuncData} {ps : List Str} {sp : Sp} (h : FnOk P w K mg base CX k f fd ps sp) : FnG P w K mg base CX k f fd ps sp :=
  ⟨h.len, fun A ot s H as us vs Q E _ hr he hb hv hs => h.run A ot s H as us vs Q E hr he hb hv hs⟩
/-- a def that can be called where no repr is under way -/
structure CalG (P : Program) (w : World) (mg : Str → Option Value) (base : Heap) (g : Gx) (k : Nat) (x : Str) (n : Nat) (F : FS) : Prop where
  ex : ∃ f fd ps, mg x = some (.ref f) ∧ PySem.W.keepIn g.K (.ref f) = true ∧ Binds g.K fd ps [] ∧ FnG P w g.K mg base CX0 k f fd ps (spF g n F)
section
variable {P : Program} {w : World} {mg : Str → Option Value} {base : Heap} {g : Gx} {fs : List FS}
theorem CalG.mono {j k : Nat} {x : Str} {n : Nat} {F : FS} (h : CalG P w mg base g j x n F) (l : j ≤ k) : CalG P w mg base g k x n F := by
  obtain ⟨f, fd, ps, h1, h2, h3, h4⟩ := h.ex
  exact ⟨f, fd, ps, h1, h2, h3, h4.mono l⟩
theorem def_fnG {x qual : Str} {st : Stmt} {f c : Addr} {oc kV doc pm cdv ct : Value} {od an : Option Addr} {osl : Array (Option Value)} {N ps : List Str} {k np n : Nat} {ir : List S} (lk : g.K.lookup f = some ⟨oc, od, .func (PySem.W.fnOf x qual (defArgs st) (defBody st) (defScope st) .none kV doc pm an cdv ct), osl⟩)
    (hcd : PySem.W.codeIn g.K cdv qual = true) (S : FnScope N ps (defScope st)) (hp : ps.length = np) (hN : N.length = n) (ge : g.ea = none)
    (hbody : ∀ (A : Around) (outer : List Env) (s : Shared) (H : Hp) (E : L2.XK), (cxOf CX0 P w g.K mg base N qual (defScope st) f cdv A outer s H E).nox.A.guards = some [] → Room k (cxOf CX0 P w g.K mg base N qual (defScope st) f cdv A outer s H E).nox.A → Cok g (cxOf CX0 P w g.K mg base N qual (defScope st) f cdv A outer s H E).nox →
      PSs (cxOf CX0 P w g.K mg base N qual (defScope st) f cdv A outer s H E).nox (defBody st) (tSs g (fun _ _ _ => False) fs ir)) : FnG P w g.K mg base CX0 (k + 1) f (PySem.W.fnOf x qual (defArgs st) (defBody st) (defScope st) .none kV doc pm an cdv ct) ps (spF g np (runF fs np n ir)) := by
  refine fnG_of lk hcd S (fun vs H Q E h => by rw [h.1, hp]) fun A outer s H vs Q E hgd hr h => ?_
  refine ⟨_, (hbody A outer s H E hgd hr ⟨rfl, rfl, hr.units, S.nd, ge⟩).nox, ?_⟩
  obtain ⟨hl, Bn, Ow, Γ, r, os, rs, ef, nr, hQ⟩ := h
  have hG : Γ.length = np := by rw [← rs.len, List.length_map, hl]
  have hle : np ≤ n := by
    rw [← hN, ← hp]
    have := congrArg List.length S.pre
    rw [List.length_take] at this
    omega
  simp only [runF, hG, if_true] at ef
  obtain ⟨o, e1, e2⟩ := Option.bind_eq_some_iff.mp ef
  have est : L2.start N vs = vs.map some ++ List.replicate (n - np) none := by rw [← hN, ← hl]; rfl
  refine ⟨(n, (ownPs 0 Γ).map fun i => (i, vs.getD i .non)), Bn, Ow, Γ ++ List.replicate (n - np) none, o, ?_, ⟨?_, fun p hp => ?_⟩, ?_, ?_⟩
  · rw [est]; exact rs.start _
  · rw [est, List.length_append, List.length_map, List.length_replicate, hl]; show np + (n - np) = n; omega
  · obtain ⟨i, hi, rfl⟩ := List.mem_map.mp hp
    obtain ⟨j, d, rfl, h⟩ := ownPs_mem.mp hi
    have hj : j < vs.length := by
      have h1 := (List.getElem?_eq_some_iff.mp h).1
      omega
    rw [est]
    show (vs.map some ++ List.replicate (n - np) none)[0 + j]? = some (some (vs.getD (0 + j) .non))
    rw [Nat.zero_add, List.getElem?_append_left (by rw [List.length_map]; exact hj), List.getElem?_map, List.getElem?_eq_getElem hj, List.getD_eq_getElem?_getD, List.getElem?_eq_getElem hj]
    rfl
  · rw [List.map_map]
    show exs fs ((ownPs 0 Γ).map id) ir _ = some o
    rw [List.map_id]
    exact e1
  · rw [← hG] at e2
    exact finish_ok rs (by omega) e2 hQ
end
section
variable {X : Cx} {g : Gx} {fs : List FS} {e : Expr} {es : List Expr} {ies : List E} {x : Str} {p pos : Pos} {k i n : Nat} {F : FS}
theorem c_callG (c : CalG X.prog X.w X.mg X.base g k x n F) (hgd : X.A.guards = some []) (C : Cok0 g X) (hF : fs[i]? = some F) (hn : ies.length = n) (hr : Room k X.A) (hg : Gl X x)
    (ha : PA X (e :: es) (tAw g fs ies)) (hdb : (x == ("__debug__" : Str)) = false) (he : starEach (e :: es) X.env = (false, eval e X.env) :: starEach es X.env) (hpl : (backTo pos (starEach es X.env)).any (·.1) = false) :
    PE X (.Call (.Name x p) (e :: es) [] pos) (tR g fs (.call i ies)) := by
  obtain ⟨f, fd, ps, h1, h2, h3, h4⟩ := c.ex
  rw [← C.K] at h2 h3 h4
  have key : PE X (.Call (.Name x p) (e :: es) [] pos) (fun σ H Q => tAw g fs ies σ H fun vs H1 => spF g n F vs H1 Q E0) := by
    refine ⟨fun pins s σ H Q I h => ?_⟩
    refine wpAny_Call_Name_kw (ld_glob I hg h1 ?_ hdb)
    refine PySem.W.callWith_K (h₀ := X.base) I.ok.mod.kin h2 (thn (ha.run pos pins s σ H _ I h) fun us s1 ⟨vs, H1, I1, r, q⟩ => ⟨I1.kIn, ?_⟩) he hpl
    have hL : us.length = ps.length := by rw [← r.length]; exact h4.len _ _ _ _ q
    have bb := h3 s1 us I1.kIn (by rw [List.append_nil]; exact hL)
    rw [List.append_nil] at bb
    refine wpAny_call (codeAny_mono (h4.run X.A X.stack s1 H1 ⟨us, []⟩ us vs Q E0 hgd hr I1.env0 bb r q) fun fl s' hq => ?_)
    cases fl with
    | error er => exact (show False from hq).elim
    | ok fl =>
      cases fl with
      | ret u => exact I1.after hq
      | next => exact (show False from hq).elim
      | brk => exact (show False from hq).elim
      | cont => exact (show False from hq).elim
  refine PE.weak key ?_
  rintro σ H Q ⟨Bn, Ow, Γ, r, Γ', rs, he, hQ⟩
  have q := call_core2 (Ex := E0) hF hn rs he hQ
  obtain ⟨Bn', Ow', G0, xs, G1, rs', e1, k1⟩ := q
  refine ⟨Bn', Ow', G0, xs, G1, rs', e1, fun vs H1 O1 s1 r1 v1 => ?_⟩
  have z := k1 vs H1 O1 s1 r1 v1
  simpa only [List.append_nil] using z
end
end DV

namespace DV
open PySem L2
/-! ### repr of plain data, where no repr is under way -/
section
variable {X : Cx} {g : Gx} {A : Addr → Prop} {pins : List (Addr × Obj)} {σ : L2.St} {H : Hp} {s : Shared}
theorem dk_reads (I : Inv X pins σ H s) {a : Addr} (e : H a = some (.dK [])) : ∃ as, Reads s.heap (.ref a) (.dict []) as ∧ sysModules ∉ as := by
  obtain ⟨_, hne, vs, kv, hd⟩ := dk_of I.hok e
  cases kv
  obtain ⟨o, es, ep, e1, e2, e3, e4⟩ := hd
  have e5 : es.toList = [] := by
    have e6 := e4.2.1
    cases q : es.toList with
    | nil => rfl
    | cons z r => rw [q] at e6; cases e6
  refine ⟨_, .dict (as := []) (bs := []) e1 e2.1 e3 (by rw [e5]; exact .nil) (by rw [e5]; exact .nil), ?_⟩
  intro m
  have e6 : sysModules = a := by simpa using m
  rw [← e6] at hne
  simp at hne
mutual
theorem rep_reads (I : Inv X pins σ H s) (hK : X.K = g.K) (h1 : H sysModules = none) : ∀ (d : D) (p : PyData) (v : V) (u : Value), pyO d = some p → Rep g A H d v → RelV v u → ∃ as, Reads s.heap u p as ∧ sysModules ∉ as
  | .non, p, v, u, e, h, r => by
    simp only [pyO, Option.some.injEq] at e; simp only [Rep] at h; subst e h
    cases r
    exact ⟨_, .none, by simp⟩
  | .bl b, p, v, u, e, h, r => by
    simp only [pyO, Option.some.injEq] at e; simp only [Rep] at h; subst e h
    cases r
    exact ⟨_, .bool b, by simp⟩
  | .int i, p, v, u, e, h, r => by
    simp only [pyO, Option.some.injEq] at e; simp only [Rep] at h; subst e h
    obtain ⟨t, rfl⟩ := r
    exact ⟨_, .int i t, by simp⟩
  | .str x, p, v, u, e, h, r => by
    simp only [pyO, Option.some.injEq] at e; simp only [Rep] at h; subst e h
    obtain ⟨t, rfl⟩ := r
    exact ⟨_, .str x t, by simp⟩
  | .lst ds, p, v, u, e, h, r => by
    simp only [pyO] at e
    obtain ⟨ps, e1, rfl⟩ := Option.map_eq_some_iff.mp e
    simp only [Rep] at h
    obtain ⟨a, vs, rfl, _, ha, rp⟩ := h
    cases r
    obtain ⟨its, rv, ⟨o, n, ho, hc, _, hd⟩, _⟩ := I.list (show SqL X.K H a vs from .inl (.inl ha))
    obtain ⟨as, hr, hn⟩ := reps_reads I hK h1 ds ps vs its e1 rp rv
    refine ⟨_, .list ho hc hd hr, fun m => ?_⟩
    rcases List.mem_cons.mp m with m | m
    · rw [← m, h1] at ha; cases ha
    · exact hn m
  | .tup ds, p, v, u, e, h, r => by
    simp only [pyO] at e
    obtain ⟨ps, e1, rfl⟩ := Option.map_eq_some_iff.mp e
    simp only [Rep] at h
    obtain ⟨a, vs, rfl, _, ha, rp⟩ := h
    cases r
    rw [← hK] at ha
    obtain ⟨its, rv, ⟨o, ho, hc, n, hd⟩, _⟩ := I.tuple ha
    obtain ⟨as, hr, hn⟩ := reps_reads I hK h1 ds ps vs its e1 rp rv
    exact ⟨_, .tuple ho hc hd hr, hn⟩
  | .dct, p, v, u, e, h, r => by
    simp only [pyO, Option.some.injEq] at e; simp only [Rep] at h; subst e
    obtain ⟨a, rfl, _, ha⟩ := h
    cases r
    exact dk_reads I ha
  | .obj _ _ _, p, v, u, e, h, r => by simp [pyO] at e
  | .scr _, p, v, u, e, h, r => by simp [pyO] at e
  | .dic _ _, p, v, u, e, h, r => by simp [pyO] at e
  | .exc _ _ _, p, v, u, e, h, r => by simp [pyO] at e
  | .err _ _ _, p, v, u, e, h, r => by simp [pyO] at e
theorem reps_reads (I : Inv X pins σ H s) (hK : X.K = g.K) (h1 : H sysModules = none) : ∀ (ds : List D) (ps : List PyData) (vs : List V) (us : List Value), pyOs ds = some ps → Reps g A H ds vs → Vals vs us → ∃ as, ReadsAll s.heap us ps as ∧ sysModules ∉ as
  | [], ps, vs, us, e, h, r => by
    simp only [pyOs, Option.some.injEq] at e; simp only [Reps] at h; subst e h
    cases r
    exact ⟨_, .nil, by simp⟩
  | d :: ds, ps, vs, us, e, h, r => by
    simp only [pyOs] at e
    obtain ⟨p, e1, e⟩ := Option.bind_eq_some_iff.mp e
    obtain ⟨ps', e2, rfl⟩ := Option.map_eq_some_iff.mp e
    simp only [Reps] at h
    obtain ⟨v, w, rfl, q1, q2⟩ := h
    cases r with
    | cons r1 r2 =>
      obtain ⟨as, z1, n1⟩ := rep_reads I hK h1 d p v _ e1 q1 r1
      obtain ⟨bs, z2, n2⟩ := reps_reads I hK h1 ds ps' w _ e2 q2 r2
      exact ⟨_, .cons z1 z2, fun m => (List.mem_append.mp m).elim n1 n2⟩
end
theorem rdb_reads (I : Inv X pins σ H s) (hK : X.K = g.K) (h1 : H sysModules = none) {d : D} {p : PyData} {v : V} {u : Value} (e : pyO d = some p) (h : Rdb g A H d v) (r : RelV v u) : ∃ as, Reads s.heap u p as ∧ sysModules ∉ as := by
  cases d with
  | lst ds =>
    obtain ⟨a, vs, rfl, q1, q2⟩ := h
    exact rep_reads (A := fun _ => False) I hK h1 (.lst ds) p _ u e (by simp only [Rep]; exact ⟨a, vs, rfl, nofun, q1, reps_less nofun q2⟩) r
  | obj _ _ _ => simp [pyO] at e
  | scr _ => simp [pyO] at e
  | dic _ _ => simp [pyO] at e
  | exc _ _ _ => simp [pyO] at e
  | err _ _ _ => simp [pyO] at e
  | _ => exact rep_reads (A := A) I hK h1 _ p v u e h r
theorem b_rpr (C : Cok0 g X) (hg : X.A.guards = some []) (hB : SmB X.base) : CallR X (.builtin "repr") (rBi g .rpr) := by
  intro pins s σ H vs us Q I r h
  obtain ⟨A, ds, r0, hp, tr, hb, hQ⟩ := h
  have h1 : H sysModules = none := by
    obtain ⟨o, ho⟩ := hB
    exact (I.bs _ _ ho).2
  match ds, hb with
  | [d], hb =>
    simp only [biD] at hb
    obtain ⟨p, e1, hb⟩ := Option.bind_eq_some_iff.mp hb
    simp only [Option.ite_none_right_eq_some, Option.some.injEq] at hb
    obtain ⟨hs, rfl⟩ := hb
    unfold shwOk at hs
    simp only [Bool.and_eq_true, decide_eq_true_eq] at hs
    obtain ⟨hs1, hs2, hs3⟩ := hs
    obtain ⟨v, rfl, q⟩ := paired1 hp
    cases r with
    | @cons _ u _ _ ru rn =>
      cases rn
      obtain ⟨as, hr, hn⟩ := rdb_reads I C.K h1 e1 q ru
      have fin : ∀ h' x tk, (∀ b o, s.heap.get? b = some o → h'.get? b = some o) → EP X pins σ Q (.str p.shown x) { s with heap := h', toks := tk } := fun h' x tk hk =>
        ⟨.str p.shown, H, I.kept hk, ⟨_, rfl⟩, hQ _ H (same_rfl H) (by simp only [Res, Rep])⟩
      have hu := C.hu
      cases hr with
      | none => exact P.repr_of_none (fin _ _ _ fun _ _ z => z)
      | bool b => exact P.repr_of_bool (fin _ _ _ fun _ _ z => z)
      | int i t => exact P.repr_of_int (by simpa [PyData.showable] using hs1) (fin _ _ _ fun _ _ z => z)
      | str x t => exact P.repr_of_str (fin _ _ _ fun _ _ z => z) (by simpa only [PyData.shown] using hs2)
      | list a1 a2 a3 a4 => exact repr_of_reads' (.list a1 a2 a3 a4) hs1 (fun _ => hn) hg (by omega) (fun _ _ z => z) fin hs2
      | tuple a1 a2 a3 a4 => exact repr_of_reads' (.tuple a1 a2 a3 a4) hs1 (fun _ => hn) hg (by omega) (fun _ _ z => z) fin hs2
      | dict a1 a2 a3 a4 a5 => exact repr_of_reads' (.dict a1 a2 a3 a4 a5) hs1 (fun _ => hn) hg (by omega) (fun _ _ z => z) fin hs2
variable {fs : List FS} {e : Expr} {es : List Expr} {ies : List E} {p pos : Pos}
theorem k_rpr (C : Cok0 g X) (hgd : X.A.guards = some []) (hB : SmB X.base) (ha : PA X (e :: es) (tAs g fs ies)) (he : starEach (e :: es) X.env = (false, eval e X.env) :: starEach es X.env) (hpl : (backTo pos (starEach es X.env)).any (·.1) = false) (hm : X.mg "repr" = none) (hg : Gl X "repr") : PE X (.Call (.Name "repr" p) (e :: es) [] pos) (tR g fs (.bi .rpr ies)) :=
  p_biB (b_rpr C hgd hB) hg hm (by decide +kernel) ha (by decide) (by decide) he hpl
end
end DV

namespace DV
open PySem L2
variable {Wx : L2.XK}
/-! ### try: a call / except C as e: .. / further clauses that are never asked -/
section
variable {g : Gx} {Bn : Addr → Prop} {Ow : List Addr} {H : Hp} {σ : L2.St} {Γ : Ct} {c : Nat} {e dd : Addr}
theorem noG_at {i : Nat} {d : D} {b : Bool} (h : noG Γ = true) (q : Γ[i]? = some (some (d, b))) : noE d = true := List.all_eq_true.mp h _ (List.mem_of_getElem? q)
theorem RS.dn (rs : RS (gE g c e dd) Bn Ow H σ Γ) (hn : noG Γ = true) : RS g Bn Ow H σ Γ := by
  refine ⟨rs.len, fun i d h => ?_, fun i d h => ?_, rs.dist, rs.trl, rs.sep, rs.kf, rs.tabs⟩
  · obtain ⟨v, q, r⟩ := rs.slot i d h
    exact ⟨v, q, rep_dn _ _ (noG_at hn h) r⟩
  · have k := noG_at hn h
    obtain ⟨a, q, m, r⟩ := rs.own i d h
    refine ⟨a, q, m, ?_⟩
    cases d with
    | lst ds => obtain ⟨ws, z1, z2⟩ := r; exact ⟨ws, z1, reps_dn _ _ (by simpa only [noE] using k) z2⟩
    | obj c ks ds => obtain ⟨dx, ws, l, z1, z2⟩ := r; exact ⟨dx, ws, l, z1, reps_dn _ _ (by simpa only [noE] using k) z2⟩
    | _ => exact r
theorem RS.gone (rs : RS g Bn Ow H σ Γ) (i : Nat) : RS g Bn Ow H (σ.set i none) (Γ.set i none) := by
  have low : ∀ {j : Nat} {p : D × Bool}, (Γ.set i none)[j]? = some (some p) → i ≠ j ∧ Γ[j]? = some (some p) := fun {j p} h => by
    by_cases q : i = j
    · subst q
      by_cases hl : i < Γ.length
      · rw [List.getElem?_set_self hl] at h; cases h
      · rw [List.getElem?_eq_none (by rw [List.length_set]; omega)] at h; cases h
    · rw [List.getElem?_set_ne q] at h
      exact ⟨q, h⟩
  refine ⟨by rw [List.length_set, List.length_set]; exact rs.len, fun j d h => ?_, fun j d h => ?_, fun j k d f a h1 h2 h3 h4 => ?_, rs.trl, rs.sep, rs.kf, rs.tabs⟩
  · obtain ⟨n, h⟩ := low h
    rw [List.getElem?_set_ne n]
    exact rs.slot j d h
  · obtain ⟨n, h⟩ := low h
    rw [List.getElem?_set_ne n]
    exact rs.own j d h
  · obtain ⟨n1, h1⟩ := low h1
    obtain ⟨n2, h2⟩ := low h2
    rw [List.getElem?_set_ne n1] at h3
    rw [List.getElem?_set_ne n2] at h4
    exact rs.dist j k _ _ _ h1 h2 h3 h4
end
/-- what is wished of an error that the first clause catches: slot i is its name's -/
def wFst (K : PySem.W.Frag) (cv : Value) (i : Nat) (ts : Addr → Value → Option Addr → TS) (D : Ends) : WX := fun cl0 dx σ H => PySem.W.exmOne K cl0 cv = some true ∧
  ∀ a, H a = none → ts a cl0 dx ⟨fun σ1 H1 => D.nx (σ1.set i none) H1, D.rt, fun σ1 H1 => D.bk (σ1.set i none) H1, fun σ1 H1 => D.ct (σ1.set i none) H1⟩ (σ.set i (some (.ref a))) H
section
variable {X : Cx} {x n : Str} {cv : Value} {i : Nat} {bdy sui : List Stmt} {st0 : Stmt} {hdl : List ExceptHandler} {npq pos posb : Pos} {tb : WX → TS} {ts : Addr → Value → Option Addr → TS}
theorem ps_tryA (hst : X.stack = X.env :: X.outer) (hfm : X.env.frame = some X.env.locals) (hNd : X.N.Nodup) (hin : X.N[i]? = some n) (hlk : X.env.kindOf n = some .local) (hcn : Names X x cv)
    (hbd : ∀ (W : WX) (pnl : List (Addr × Obj)) (xe : Value → Shared → Prop), Takes (X.tr pnl xe) W → PassesOwn (model X.prog X.w) X.A X.env xe → PSs (X.tr pnl xe) bdy (tb W))
    (hst2 : ∀ (a : Addr) (oe : Obj) (cl0 : Value) (d : Option Addr) (pnl : List (Addr × Obj)), Zc cl0 d oe → (∃ vs, oe.data = .fields vs) → PSs (X.suite a ((a, oe) :: pnl)) (st0 :: sui) (ts a cl0 d)) :
    PS X (.Try bdy (.ExceptHandler (some (.Name x npq)) (some n) (st0 :: sui) posb :: hdl) [] [] pos) (fun D σ H => tb (wFst X.K cv i ts D) D σ H) := by
  refine ⟨fun pnz s σ H D I h => ?_⟩
  have okx := I.ok
  have hfq : X.A.frames = some (X.env :: X.outer) := by rw [okx.frames, hst]
  have hlc : Loc X.env.scope n := .inl hlk
  refine wpAny_Try_except ?_
  refine wpAny_mono ((hbd (wFst X.K cv i ts D) (X.pn ++ pnz) (fun e t1 => wpAny (model X.prog X.w) X.A (noteFrame e X.env) (fun _ t2 => wpAny (model X.prog X.w) X.A (setFlight e none) (fun _ t3 =>
    wpAny (model X.prog X.w) X.A (handleBy e X.env (.ExceptHandler (some (.Name x npq)) (some n) (st0 :: sui) posb :: hdl)) (SP X pnz D) X.xe t3) X.xe t2) X.xe t1) (fun u sA xq => ?_) PassesOwn.looking).run [] s σ H D (I.toTry _) h) (fun f s_1 hsq => ?_) (fun e s_1 he => he)
  · obtain ⟨a, B, sI, pnA, σA, HA, cl0, d, rfl, Jz, nbz, up0, sky0, naz, osz, agz, hxm, hys⟩ := xq
    have Jx : Inv X pnz σA HA sI := Jz.ofTry okx
    have skz : Sky B (X.env :: X.outer) a (Zc cl0 d) X.env.locals sA.heap := by rw [← hst]; exact sky0
    show wpAny (model X.prog X.w) X.A (noteFrame (.ref a) X.env) _ X.xe sA
    refine Sky.land Zc.steady hfq hfm skz fun hA fla upa => ?_
    have Jc : Inv X pnz σA HA { sA with heap := hA } := Jx.landed nbz fla.1 (up0.trans upa) osz agz
    obtain ⟨oea, vsa, hea, hza, hda⟩ := fla.there
    have ntF : ∀ {hB : Heap} {oB : Obj} {vB : Array Value}, hB.FunFrames B (X.env :: X.outer) → hB.get? a = some oB → oB.data = .fields vB → a ∉ frs (X.env :: X.outer) := fun {hB oB vB} ff eB dB hm => by
      obtain ⟨_, oC, eC, hnC⟩ := ff.mem hm
      rw [eB] at eC; cases eC
      exact hnC _ dB
    have nfq := ntF fla.2.2.1 hea hda
    have nLq : a ≠ X.env.locals := fun z => nfq (List.mem_filterMap.mpr ⟨X.env, List.mem_cons_self, by rw [hfm, z]⟩)
    have nFq : a ∉ X.fs := fun hm => by
      obtain ⟨eB, heB, qB⟩ := List.mem_filterMap.mp hm
      exact nfq (List.mem_filterMap.mpr ⟨eB, List.mem_cons_of_mem _ heB, qB⟩)
    have Sc := Jc.suite hea hda naz nLq nFq
    refine wpAny_handleBy_cons (codeAny_handlers_test ?_) (fun q => by cases q)
    have LTq : PySem.W.Looks (model X.prog X.w) hA (typeOf (.ref a)) cl0 := fun A Q E s k q => wpAny_typeOf_ref (k _ _ hea) (by rw [hza.1]; exact q)
    have LMq := PySem.W.exm_one (M := model X.prog X.w) (Jc.kIn) LTq hxm
    have tst_ : ∀ {Q : Value → Shared → Prop} {E : Value → Shared → Prop}, Q cv { sA with heap := hA } → wpAny (model X.prog X.w) (X.A.mark (some (.ref a))) (eval (.Name x npq) X.env) Q E { sA with heap := hA } := fun {Q E} q => by
      obtain ⟨hgq, hdq, hmq | ⟨hmq, hvq, hnq⟩⟩ := hcn
      · exact ld_glob (X := X.suite a ((a, oea) :: (X.pn ++ pnz))) Sc hgq hmq q hdq
      · exact ld_blt (X := X.suite a ((a, oea) :: (X.pn ++ pnz))) Sc hgq hmq hvq q hnq hdq
    refine tst_ (LMq.here ?_)
    refine (codeAny_handlers_suite_as ?_ :)
    refine HandSPX.lands_againZ fla fun hD flb upb => ?_
    have Jd : Inv X pnz σA HA { sA with heap := hD } := Jx.landed nbz flb.1 ((up0.trans upa).trans upb) osz agz
    obtain ⟨oeb, vsb, heb, hzb, hdb4⟩ := flb.there
    have Sd := Jd.suite heb hdb4 naz nLq nFq
    refine store_ok (X := X.suite a ((a, oeb) :: (X.pn ++ pnz))) (v := .ref a) Sd hNd hin hlc rfl (fun s_e Se => ?_) (.inr hlk)
    refine wpAny_mono ((hst2 a oeb cl0 d (X.pn ++ pnz) hzb ⟨_, hdb4⟩).run [] s_e _ HA _ Se (hys a naz)) (fun f s_f hsq => ?_) (fun _ _ z => False.elim z)
    have fin_ : ∀ {σf : L2.St} {Hf : Hp} {Q : Shared → Prop}, Inv (X.suite a ((a, oeb) :: (X.pn ++ pnz))) [] σf Hf s_f → (∀ s_q, Inv X pnz (σf.set i none) Hf s_q → Q s_q) →
        wpAny (model X.prog X.w) X.A (do bindName X.env n .none; unbindBehindTheSuite X.env n posb) (fun _ s_q => Q s_q) X.xe s_f := fun {σf Hf Q} Sf hq => gone_ok (Sf.unsuite okx) hNd hin hlk hq
    cases f with
    | next =>
      obtain ⟨σf, Hf, Sf, q_f⟩ := hsq
      exact fin_ Sf fun s_q Jq => ⟨_, _, Jq, q_f⟩
    | brk =>
      obtain ⟨σf, Hf, Sf, q_f⟩ := hsq
      exact fin_ Sf fun s_q Jq => ⟨_, _, Jq, q_f⟩
    | cont =>
      obtain ⟨σf, Hf, Sf, q_f⟩ := hsq
      exact fin_ Sf fun s_q Jq => ⟨_, _, Jq, q_f⟩
    | ret u =>
      obtain ⟨v_f, σf, Hf, Sf, r_f, q_f⟩ := hsq
      exact fin_ Sf fun s_q Jq => ⟨_, _, _, Jq, r_f, q_f⟩
  · cases f with
    | next =>
      obtain ⟨σA, HA, Jz, q⟩ := hsq
      exact wpAny_execs_nil ⟨σA, HA, Jz.ofTry okx, q⟩
    | brk =>
      obtain ⟨σA, HA, Jz, q⟩ := hsq
      exact ⟨σA, HA, Jz.ofTry okx, q⟩
    | cont =>
      obtain ⟨σA, HA, Jz, q⟩ := hsq
      exact ⟨σA, HA, Jz.ofTry okx, q⟩
    | ret u =>
      obtain ⟨v, σA, HA, Jz, r, q⟩ := hsq
      exact ⟨v, σA, HA, Jz.ofTry okx, r, q⟩
end
/-! ### calls that may raise, told at the caller's slots -/
def tRXS (g : Gx) (W : WX) (fs : List FS) (ie : E) : TE := fun σ H Q => tRX g (fun cl0 dx H1 => W cl0 dx σ H1) fs ie σ H Q
section
variable {X : Cx} {W : WX} {g : Gx} {fs : List FS} {e : Expr} {es : List Expr} {ie : E} {ies : List E} {x : Str} {p pos : Pos} {c k i n : Nat} {F : FS} {C f : Addr} {fd : FuncData} {ps : List Str} {sp : Sp} {E : XK}
theorem cs_call (c : CalX X.prog X.w X.mg X.base g k x n F) (C : Cok0 g X) (tk : Takes X W) (hF : fs[i]? = some F) (hn : ies.length = n) (hr : Room k X.A) (hg : Gl X x)
    (ha : PA X (e :: es) (tAw g fs ies)) (hdb : (x == ("__debug__" : Str)) = false) (he : starEach (e :: es) X.env = (false, eval e X.env) :: starEach es X.env) (hpl : (backTo pos (starEach es X.env)).any (·.1) = false) :
    PE X (.Call (.Name x p) (e :: es) [] pos) (tRXS g W fs (.call i ies)) := by
  obtain ⟨f, fd, ps, h1, h2, h3, h4⟩ := c.ex
  rw [← C.K] at h2 h3 h4
  refine PE.weak (pe_callS (E := WE W) h4 hr hg h1 h2 h3 (fun σ => passAt tk σ) ha hdb he hpl) ?_
  rintro σ H Q ⟨Bn, Ow, Γ, r, Γ', rs, he, hQ⟩
  obtain ⟨xs, Γ1, F', e1, e2, e3⟩ := ev_callD he
  rw [hF] at e2; cases e2
  exact ⟨Bn, Ow, Γ, xs, Γ1, rs, e1, fun vs H1 O1 s1 r1 v1 => callD_coreG r1 v1 e3 (by rw [← v1.len, ← evs_len e1, hn]) fun v H' O2 s2 r2 val => hQ v H' O2 (s1.trans s2) r2 val⟩
theorem run_makeS {pnz : List (Addr × Obj)} {σ : L2.St} {H : Hp} {s : Shared} {Q : VK} {us : List Value} {vs : List V} (M : Mk X.K C f) (F : FnOk X.prog X.w X.K X.mg X.base (L2.CX X.prog X.w) k f fd ps sp) (hr : Room (k + 1) X.A) (hb : Binds X.K fd ps [])
    (hx : PassesAt (L2.CX X.prog X.w) X σ E) (I : Inv X pnz σ H s) (r : Vals vs us)
    (h : ∀ x dx, H x = none → H dx = none → dx ≠ x → sp (.ref x :: vs) (upd (upd H dx (.own x)) x (.ins C dx [])) (fun v H2 => v = .non ∧ Q (.ref x) H2) E) :
    wpAny (model X.prog X.w) X.A (call (.ref C) us) (EP X pnz σ Q) X.xe s := by
  have hqq := h (s.heap.objs.size + 1) s.heap.objs.size (I.hok.fresh (Nat.le_succ _)) (I.hok.fresh (Nat.le_refl _)) (Nat.ne_of_lt (Nat.lt_succ_self _))
  have Im := Inv.made (C := C) I
  have rm : Vals (V.ref (s.heap.objs.size + 1) :: vs) (Value.ref (s.heap.objs.size + 1) :: us) := .cons rfl r
  have hlm : (Value.ref (s.heap.objs.size + 1) :: us).length = ps.length := by
    have em := rm.length
    rw [F.len _ _ _ _ hqq] at em
    exact em.symm
  have bm := hb _ (Value.ref (s.heap.objs.size + 1) :: us) Im.kIn (by rw [List.append_nil]; exact hlm)
  rw [List.append_nil] at bm
  refine wpAny_call (make_map (f := f) I.kIn M.makes M.init (beq_iff_eq.mp M.fn) (codeAny_mono (F.run _ X.stack _ _ ⟨Value.ref (s.heap.objs.size + 1) :: us, []⟩ (Value.ref (s.heap.objs.size + 1) :: us) _ _ E (hr.make C us [])
    (Im.env0.make C us []) bm rm hqq) fun rm2 s' hqm => ?_))
  cases rm2 with
  | error er => exact hx pnz _ _ er s' Im hqm
  | ok fl =>
    cases fl with
    | ret u =>
      obtain ⟨v, Hm, I3, rv, ev, q3⟩ := Im.after hqm
      subst ev
      exact ⟨rv, ⟨V.ref (s.heap.objs.size + 1), Hm, I3, rfl, q3⟩⟩
    | next => exact (show False from hqm).elim
    | brk => exact (show False from hqm).elim
    | cont => exact (show False from hqm).elim
theorem pxs_mk (M : MkdX X.prog X.w X.mg X.base g k c x n F) (C : Cok0 g X) (tk : Takes X W) (hF : fs[i]? = some F) (hn : ies.length = n) (hr : Room (k + 1) X.A) (hg : Gl X x) (ha : PA X (e :: es) (tAw g fs ies)) (hdb : (x == ("__debug__" : Str)) = false)
    (he : starEach (e :: es) X.env = (false, eval e X.env) :: starEach es X.env) (hpl : (backTo pos (starEach es X.env)).any (·.1) = false) : PE X (.Call (.Name x p) (e :: es) [] pos) (tRXS g W fs (.mkx c i ies)) := by
  obtain ⟨f, fd, ps, h1, h2, h3, h5, h4⟩ := M.ex
  have h6 := FnOk.kf h4
  rw [← C.K] at h2 h3 h6
  have key : PE X (.Call (.Name x p) (e :: es) [] pos) (fun σ H Q => tAw g fs ies σ H fun vs H1 => ∀ px dx, H1 px = none → H1 dx = none → dx ≠ px → (V.ref px :: vs).length = ps.length ∧ (kfs X.K (upd (upd H1 dx (.own px)) px (.ins (g.cl c) dx [])) → spX g (n + 1) F (V.ref px :: vs) (upd (upd H1 dx (.own px)) px (.ins (g.cl c) dx [])) (fun v H2 => v = .non ∧ Q (.ref px) H2) (fun cl0 dx H1 => W cl0 dx σ H1))) := by
    refine ⟨fun pnz s σ H Q I h => ?_⟩
    refine wpAny_Call_Name_kw (ld_glob I hg h1 ?_ hdb)
    refine PySem.W.callWith_K (h₀ := X.base) I.ok.mod.kin h2.kp (thn (ha.run pos pnz s σ H _ I h) fun us s1 ⟨vs, H1, I1, r, q⟩ => ⟨I1.kIn, ?_⟩) he hpl
    exact run_makeS h2 h6 hr h3 (passAt tk σ) I1 r q
  refine PE.weak key ?_
  rintro σ H Q ⟨Bn, Ow, Γ, r, Γ', rs, he, hQ⟩
  simp only [ev] at he
  obtain ⟨⟨ys, Γ1⟩, e1, he⟩ := Option.bind_eq_some_iff.mp he
  obtain ⟨F', e4, he⟩ := Option.bind_eq_some_iff.mp he
  rw [hF] at e4; cases e4
  refine ⟨Bn, Ow, Γ, ys, Γ1, rs, e1, fun vs H1 O1 s1 r1 v1 => ?_⟩
  intro px dx np0 ndx ne
  rw [C.K]
  exact mkX_core r1 v1 he (by rw [← v1.len, ← evs_len e1, hn]) h5 (fun v H' O' st => hQ v H' O' (s1.trans st)) px dx np0 ndx ne
theorem run_subS {A : Around} {pnz : List (Addr × Obj)} {σ : L2.St} {H : Hp} {s : Shared} {Q : VK} {us : List Value} {vs : List V} (tk : Takes X W) (F : FnOk X.prog X.w X.K X.mg X.base (L2.CX X.prog X.w) k f fd ps sp) (sb : L2.Sub X k A) (hb : Binds X.K fd ps [])
    (I : Inv X pnz σ H s) (r : Vals vs us) (h : sp vs H Q (fun cl0 dx H1 => W cl0 dx σ H1)) : wpAny (model X.prog X.w) A (call (.ref f) us) (EP X pnz σ Q) X.xe s := by
  have e := I.env0
  have e0 : Env0 X.prog X.w X.K X.mg X.base A X.stack s H := { frames := by rw [sb.fr]; exact e.frames, mod := e.mod, bs := e.bs, bsz := e.bsz, funs := e.funs, frf := e.frf, hok := e.hok, bare := e.bare }
  have hl : us.length = ps.length := by rw [← r.length]; exact F.len _ _ _ _ h
  have b0 := hb s us I.kIn (by rw [List.append_nil]; exact hl)
  rw [List.append_nil] at b0
  refine wpAny_call (codeAny_mono (F.run A X.stack s H ⟨us, []⟩ us vs Q _ sb.room e0 b0 r h) fun fl s' hq => ?_)
  match fl, hq with
  | .ok (.ret u), hq => exact I.after hq
  | .error u, hq => exact passAt tk σ pnz H s u s' I hq
theorem pxs_ix {a b : Expr} {ia ib : DV.E} (M : MtdX X.prog X.w X.mg X.base g k c "__getitem__" 2 F) (hfn : ∀ f, Meth g.K (g.cl c) "__getitem__" f → PySem.W.fnIn g.K f = true) (C : Cok0 g X) (tk : Takes X W) (hF : fs[i]? = some F) (hr : Room (k + 1) X.A) (ha : PE X a (tR g fs ia)) (hb : PE X b (tR g fs ib)) (hs' : ∀ o i, subscripted b true o i = runValue (.builtin "lifetime.subscript" ⟨[o, i], []⟩)) : PE X (.Subscript a b pos) (tRXS g W fs (.ownx .ix c i ia ib)) := by
  obtain ⟨f, fd, ps, h1, h2, h3, h4⟩ := M.ex
  have hf := hfn f h2
  rw [← C.K] at h1 h2 h3 h4 hf
  have key : PE X (.Subscript a b pos) (fun σ H Q => tOp (fun x y H Q => rOwnX (g.cl c) (spX g 2 F) (fun cl0 dx H1 => W cl0 dx σ H1) x y H Q) (tR g fs ia) (tR g fs ib) σ H Q) := by
    refine ⟨fun pnz s σ H Q I h => ?_⟩
    refine PyProof.Rows.Subscript_ (binT ha hb I h fun v u s2 x y H2 I2 rx ry q => ?_)
    obtain ⟨ad, dx, fl, rfl, had, q⟩ := q
    cases rx
    obtain ⟨mA, J, _⟩ := ins_get I2.hok had
    obtain ⟨od, J, _⟩ := J.look
    obtain ⟨m, hFr⟩ := I2.fr
    refine PySem.W.sub_K hFr I2.ok.mod.kin J h2.at_ hf h2.fn ?_ (hs' _ _)
    exact run_subS (vs := [.ref ad, y]) tk h4 ⟨hr.in1, rfl⟩ h3 I2 (.cons rfl (.cons ry .nil)) q
  refine PE.weak key ?_
  rintro σ H Q ⟨Bn, Ow, Γ, r, Γ', rs, he, hQ⟩
  refine own_valX (a := a) (b := b) hF rs he hQ fun A d e v w H2 q1 q2 q3 q4 q5 => ?_
  obtain ⟨pa, dx, fl, rfl, e1⟩ := rep_ins q3 q1
  exact ⟨pa, dx, fl, rfl, e1, q5⟩
end
/-! ### the statement -/
section
variable {X : Cx} {g : Gx} {fs : List FS} {e : Expr} {ie : E} {x n : Str} {cv : Value} {i : Nat} {sui : List Stmt} {st0 : Stmt} {hdl : List ExceptHandler} {npq pos posb pc : Pos} {all : List Nat} {isu : List S}
theorem s_try (C : Cok g X) (hst : X.stack = X.env :: X.outer) (hfm : X.env.frame = some X.env.locals) (hin : X.N[i]? = some n) (hlk : X.env.kindOf n = some .local) (hcn : Names X x cv) (hall : ∀ c ∈ all, PySem.W.exmOne X.K (.ref (g.cl c)) cv = some true)
    (hb : ∀ (W : WX) (pnl : List (Addr × Obj)) (xe : Value → Shared → Prop), Takes (X.tr pnl xe) W → PE (X.tr pnl xe) e (tRXS g W fs ie)) (hsw : swapsWith e none pc.line X.env = pure false)
    (hsu : ∀ (a : Addr) (oe : Obj) (pnl : List (Addr × Obj)) (c : Nat) (dd : Addr), Zc (.ref (g.cl c)) (some dd) oe → (∃ vs, oe.data = .fields vs) → PSs (X.suite a ((a, oe) :: pnl)) (st0 :: sui) (tSs (gE g c a dd) WF fs isu)) :
    PS X (.Try [.Expr e pc] (.ExceptHandler (some (.Name x npq)) (some n) (st0 :: sui) posb :: hdl) [] [] pos) (tSt g Wx fs (.try_ ie all i isu)) := by
  let ts : Addr → Value → Option Addr → TS := fun ea cls d Dn σ H => ∃ c dd, cls = .ref (g.cl c) ∧ d = some dd ∧ tSs (gE g c ea dd) WF fs isu Dn σ H
  let tb : WX → TS := fun W D σ H => tRXS g W fs ie σ H fun _ H1 => D.nx σ H1
  refine PS.weak (ps_tryA (ts := ts) (tb := tb) (i := i) hst hfm C.nd hin hlk hcn (fun W pnl xe tk _ => ⟨fun pnz s σ H D I h => (pss_cons (ps_expr (hb W pnl xe tk) hsw) pss_nil).run pnz s σ H D I h⟩) (fun ea oe cls d pnl hz hf => ⟨fun pnz s σ H D I h => ?_⟩)) ?_
  · obtain ⟨c, dd, rfl, rfl, h⟩ := h
    exact (hsu ea oe pnl c dd hz hf).run pnz s σ H D I h
  · rintro Dn σ H ⟨pv, Bn, Ow, Γ, o, rs, pn, he, po⟩
    simp only [ex] at he
    obtain ⟨⟨x1, Γ1⟩, e1, he⟩ := Option.bind_eq_some_iff.mp he
    refine ⟨Bn, Ow, Γ, x1, Γ1, rs, e1, fun v H1 O1 s1 r1 vl => ?_⟩
    simp only at he
    split at he
    · rename_i c ks ds
      simp only [Option.ite_none_right_eq_some] at he
      obtain ⟨⟨ha, hd, hlt⟩, he⟩ := he
      obtain ⟨o2, e2, he⟩ := Option.bind_eq_some_iff.mp he
      intro dd hv
      subst hv
      refine ⟨hall c (by simpa using ha), fun ea na => ⟨c, dd, rfl, rfl, ?_⟩⟩
      split at he
      · rename_i Γ2
        simp only [Option.ite_none_right_eq_some, Option.some.injEq] at he
        obtain ⟨hno, rfl⟩ := he
        have rp : Rep (gE g c ea dd) (Av Bn O1) H1 (.err c ks ds) (.ref ea) := by
          have rp0 : Rep g (Av Bn O1) H1 (.exc c ks ds) (.ref dd) := vl
          simp only [Rep] at rp0 ⊢
          obtain ⟨z, vs, q1, n1, l, hz, rr⟩ := rp0
          cases q1
          exact ⟨ea, dd, vs, rfl, rfl, n1, l, hz, reps_up C.ea _ _ rr⟩
        refine ⟨pv, Bn, O1, _, .nx Γ2, (r1.up C.ea).set rp hlt, pn.set hd, e2, fun σ3 H3 O3 s3 r3 p3 => ?_⟩
        exact po _ H3 O3 (s1.trans s3) (RS.dn (c := c) (e := ea) (dd := dd) (r3.gone i) hno) (p3.set hd)
      · cases he
    · rename_i z
      simp only [Option.some.injEq] at he; subst he
      rw [xcQ_no (no_xc fun c ks ds q => z c ks ds q)]
      exact po σ H1 O1 s1 r1 pn
end
end DV

namespace DV
open PySem L2
theorem Cok.tr {g : Gx} {X : Cx} (C : Cok g X) (pn : List (Addr × Obj)) (xe : Value → Shared → Prop) : Cok g (X.tr pn xe) := ⟨C.K, C.calm, C.hu, C.nd, C.ea⟩
theorem Cok.su {g : Gx} {X : Cx} (C : Cok g X) (c : Nat) (a dd : Addr) (pn : List (Addr × Obj)) : Cok0 (gE g c a dd) (X.suite a pn) := ⟨C.K, C.hu, C.nd⟩
theorem spT_ofG {P : Program} {w : World} {K : PySem.W.Frag} {T : List (Addr × Str)} {mg : Str → Option Value} {base : Heap} {k : Nat} {f : Addr} {fd : FuncData} {ps : List Str} {F : FS} {cl : Nat → Addr} (h : FnG P w K mg base CX0 k f fd ps (spF ⟨K, cl, T, none⟩ 1 F)) : FnG P w K mg base CX0 k f fd ps (spT K T F) :=
  ⟨fun vs H Q E q => h.len vs H Q E (q.2.2 cl), fun A outer s H args us vs Q E hg hr he hb hv hs => h.run A outer s H args us vs Q E hg hr he hb hv (hs.2.2 cl)⟩
theorem lawAtG {l : PySem.W.OpenLaw} {w : World} {K : PySem.W.Frag} {k n : Nat} {x : Str} {mg : Str → Option Value} {fa : Addr} {h : Heap} {cs : List (Addr × Addr)} {T : List (Addr × Str)} {F : FS} (hc : ∀ p ∈ cs, PySem.W.CodeHd h p.1 p.2 ∧ h.get? p.2 = some { cls := .none, data := .fields #[] }) (nP : ∀ p ∈ cs, K.lookup p.2 = none)
    (hT : ∀ q ∈ T, ∃ p ∈ cs, p.2 = q.1) (ht : ∀ ns : List Int, ns.length ≤ n → (∀ z ∈ ns, Builtin.Int.intBits z ≤ 1048576) → ∃ os, F [some (.scr ns, false)] = some (.fz (.bl true), os))
    (A : ∃ fd : FuncData, (∀ (s : Shared) (u : Value), BindsTo s fd ⟨[u], []⟩ [(x, u)]) ∧ ∀ base : Heap, K.In base → base.Ns mainGlobals mg → SmB base → (∀ p ∈ cs, LamX.TabB base mg p.1 p.2) → FnG l.prog w K mg base CX0 k fa fd [x] (spT K T F)) : LawAtG l w K CX0 k n x mg fa h := by
  obtain ⟨fd, hb, hF⟩ := A
  refine ⟨fd, cs, spT K T F, fun p hp => (hc p hp).2, nP, fun p hp => (hc p hp).1, hb, fun H a ns hl hz hH hS => ?_, hF⟩
  obtain ⟨os, e⟩ := ht ns hl hz
  refine sp_lawT e hS fun q hq => ?_
  obtain ⟨p, hp, z⟩ := hT q hq
  rw [← z]
  exact hH p hp
end DV

namespace L
open PySem L2 DV
def F__law_cell_at : FS := runF [] 2 2 [.ite (.cmp .lt (.var 1) (.bi .len [.var 0])) [.ret (.ix (.var 0) (.var 1))] [],
  .ret (.cst (.int 0))]
def F__law_source_of : FS := runF [] 1 1 [.ret (.lst [.bin .mul (.var 0) (.bi .int1 [.cmp .ge (.var 0) (.bin .pow (.cst (.int 10)) (.cst (.int 18)))]), .bin .mod (.bi .int1 [.var 0]) (.cst (.int 2147483647)), .cst (.int 0)])]
def B__law_draw_1 : List S := [.seti 0 (.cst (.int 2)) (.bin .add (.ix (.var 0) (.cst (.int 2))) (.cst (.int 1))),
  .asg (.nm 4) (.ix (.lst [.cst (.int 2147483647), .cst (.int 2147483629), .cst (.int 2147483587), .cst (.int 2147483579), .cst (.int 2147483563), .cst (.int 2147483549), .cst (.int 2147483543)]) (.bin .mod (.bi .int1 [.ix (.var 0) (.cst (.int 2))]) (.cst (.int 7)))),
  .asgO 5 (.bin .mod (.bi .int1 [.bin .pow (.bin .add (.bin .add (.ix (.var 0) (.cst (.int 1))) (.bin .mul (.cst (.int 7919)) (.ix (.var 0) (.cst (.int 2))))) (.cst (.int 1))) (.cst (.int 5))]) (.var 4)),
  .asgO 5 (.bin .mod (.bi .int1 [.bin .mul (.bin .add (.var 5) (.ix (.var 0) (.cst (.int 2)))) (.bin .add (.bin .fdiv (.var 5) (.cst (.int 1009))) (.cst (.int 69621)))]) (.var 4)),
  .par [(2, true), (3, true)] [.bin .add (.bin .mul (.var 2) (.cst (.int 300000007))) (.bin .fdiv (.var 5) (.cst (.int 7))), .bin .mul (.var 3) (.cst (.int 300000007))]]
def C__law_draw_2 : E := .cmp .lt (.var 3) (.var 1)
def F__law_draw : FS := runF [] 2 6 [.ite (.cmp .gt (.ix (.var 0) (.cst (.int 0))) (.cst (.int 0))) [.asgO 2 (.bin .mod (.bi .int1 [.ix (.var 0) (.cst (.int 0))]) (.var 1)),
  .seti 0 (.cst (.int 0)) (.bin .fdiv (.ix (.var 0) (.cst (.int 0))) (.var 1)),
  .ret (.var 2)] [],
  .asg (.tp [.nm 2, .nm 3]) (.tup [.cst (.int 0), .cst (.int 1)]),
  .whl C__law_draw_2 B__law_draw_1,
  .ret (.bin .mod (.bi .int1 [.var 2]) (.var 1))]
def F__law_choice : FS := runF [F__law_draw] 2 2 [.ret (.ix (.var 1) (.call 0 [.var 0, .bi .len [.var 1]]))]
def B__law_rows_1 : List S := [.asgO 6 (.bin .add (.cst (.int 1)) (.call 0 [.var 0, .call 1 [.var 0, .lst [.cst (.int 3), .var 1]]])),
  .asgO 7 (.bin .add (.cst (.int 1)) (.call 0 [.var 0, .call 1 [.var 0, .lst [.cst (.int 2), .cst (.int 5), .var 1]]])),
  .app 4 (.tup [.var 5, .var 6, .var 7]),
  .asgO 5 (.bin .add (.bin .add (.bin .add (.var 5) (.bin .mul (.var 6) (.bin .sub (.var 7) (.cst (.int 1))))) (.cst (.int 1))) (.call 0 [.var 0, .call 1 [.var 0, .lst [.cst (.int 2), .var 6, .var 1]]]))]
def F__law_rows : FS := runF [F__law_draw, F__law_choice] 3 8 [.par [(4, true), (5, true)] [.lst [], .call 0 [.var 0, .var 1]],
  .for_ (.nm 3) .rng [.call 0 [.var 0, .bin .add (.var 2) (.cst (.int 1))]] B__law_rows_1,
  .ite (.and (.cmp .ne (.var 4) (.lst [])) (.cmp .eq (.call 0 [.var 0, .cst (.int 2)]) (.cst (.int 0)))) [.asgO 4 (.bin .add (.slc (.var 4) [] [.neg (.cst (.int 1))]) (.lst [.bin .add (.slc (.ix (.var 4) (.neg (.cst (.int 1)))) [] [.cst (.int 2)]) (.tup [.cst .non])]))] [],
  .ret (.var 4)]

def F_is_integer : FS := runF [] 1 1 [.ret (.and (.bi (.isi .int) [.var 0]) (.not (.bi (.isi .bool) [.var 0])))]
def F_is_train : FS := runF [F_is_integer] 1 1 [.ite (.or (.not (.bi (.isi .tuple) [.var 0])) (.or (.cmp .ne (.bi .len [.var 0]) (.cst (.int 3))) (.or (.not (.call 0 [.ix (.var 0) (.cst (.int 0))])) (.not (.call 0 [.ix (.var 0) (.cst (.int 1))]))))) [.ret (.cst (.bl false))] [],
  .ite (.or (.cmp .lt (.ix (.var 0) (.cst (.int 0))) (.cst (.int 0))) (.cmp .lt (.ix (.var 0) (.cst (.int 1))) (.cst (.int 1)))) [.ret (.cst (.bl false))] [],
  .ret (.or (.cmp .is (.ix (.var 0) (.cst (.int 2))) (.cst .non)) (.and (.call 0 [.ix (.var 0) (.cst (.int 2))]) (.cmp .ge (.ix (.var 0) (.cst (.int 2))) (.cst (.int 1)))))]
def F_last_of : FS := runF [] 1 1 [.ret (.bin .add (.ix (.var 0) (.cst (.int 0))) (.bin .mul (.ix (.var 0) (.cst (.int 1))) (.bin .sub (.ix (.var 0) (.cst (.int 2))) (.cst (.int 1)))))]
def B_check_trains_x_1 : List S := [.ite (.not (.call 0 [.var 2])) [.rse 12 ["at"] [.var 1]] [],
  .ite (.and (.cmp .gt (.var 1) (.cst (.int 0))) (.or (.cmp .is (.ix (.ix (.var 0) (.bin .sub (.var 1) (.cst (.int 1)))) (.cst (.int 2))) (.cst .non)) (.cmp .ge (.call 1 [.ix (.var 0) (.bin .sub (.var 1) (.cst (.int 1)))]) (.ix (.var 2) (.cst (.int 0)))))) [.rse 12 ["at"] [.var 1]] []]
def F_check_trains_x : FS := runX [F_is_train, F_last_of] 1 3 [.ite (.or (.not (.bi (.isi .list) [.var 0])) (.cmp .gt (.bi .len [.var 0]) (.cst (.int 1000)))) [.rse 12 ["at"] [.neg (.cst (.int 1))]] [],
  .for_ (.tp [.nm 1, .nm 2]) .enum [.var 0] B_check_trains_x_1]
def F_without_first : FS := runF [] 1 4 [.asg (.tp [.nm 1, .nm 2, .nm 3]) (.var 0),
  .ite (.cmp .eq (.var 3) (.cst (.int 1))) [.ret (.lst [])] [],
  .ret (.lst [.tup [.bin .add (.var 1) (.var 2), .ite (.cmp .ne (.var 3) (.cst (.int 2))) (.var 2) (.cst (.int 1)), .ite (.cmp .is (.var 3) (.cst .non)) (.cst .non) (.bin .sub (.var 3) (.cst (.int 1)))]])]
def F_joined : FS := runF [F_last_of, F_without_first] 2 9 [.asg (.tp [.nm 3, .nm 4, .nm 5]) (.var 1),
  .ite (.cmp .eq (.var 0) (.lst [])) [.ret (.lst [.tup [.var 3, .ite (.cmp .eq (.var 5) (.cst (.int 1))) (.cst (.int 1)) (.var 4), .var 5]])] [],
  .asg (.tp [.nm 6, .nm 7, .nm 8]) (.ix (.var 0) (.neg (.cst (.int 1)))),
  .asgO 2 (.bin .sub (.var 3) (.call 0 [.ix (.var 0) (.neg (.cst (.int 1)))])),
  .ite (.and (.cmp .gt (.var 8) (.cst (.int 1))) (.cmp .ne (.var 2) (.var 7))) [.ret (.bin .add (.var 0) (.lst [.tup [.var 3, .ite (.cmp .eq (.var 5) (.cst (.int 1))) (.cst (.int 1)) (.var 4), .var 5]]))] [],
  .ite (.and (.cmp .eq (.var 4) (.var 2)) (.cmp .ne (.var 5) (.cst (.int 1)))) [.ret (.bin .add (.slc (.var 0) [] [.neg (.cst (.int 1))]) (.lst [.tup [.var 6, .var 2, .ite (.cmp .is (.var 5) (.cst .non)) (.cst .non) (.bin .add (.var 8) (.var 5))]]))] [],
  .ret (.bin .add (.bin .add (.slc (.var 0) [] [.neg (.cst (.int 1))]) (.lst [.tup [.var 6, .var 2, .bin .add (.var 8) (.cst (.int 1))]])) (.call 1 [.var 1]))]
def B_all_joined_1 : List S := [.asgO 1 (.bin .add (.slc (.var 1) [] [.neg (.cst (.int 1))]) (.call 0 [.slc (.var 1) [.neg (.cst (.int 1))] [], .var 2]))]
def F_all_joined : FS := runF [F_joined] 1 3 [.asgO 1 (.lst []),
  .for_ (.nm 2) .seq [.var 0] B_all_joined_1,
  .ret (.var 1)]
def F_Trains___init___x : FS := runX [F_check_trains_x, F_all_joined] 2 2 [.xex (.call 0 [.var 1]) .drop,
  .setf 0 0 "listed" (.call 1 [.var 1])]
def B__law_told_1 : List S := [.asgO 2 (.ite (.or (.xis [12] [] 1) (.not (.xis [12] [12] 1))) (.cst (.str "other")) (.xfld [12] 1 "at"))]
def F__law_told : FS := runF [F_Trains___init___x] 1 4 [.par [(2, true), (3, true)] [.cst (.str "none"), .bi .rpr [.var 0]],
  .try_ (.mkx 0 0 [.var 0]) [12] 1 B__law_told_1,
  .ret (.ite (.cmp .eq (.bi .rpr [.var 0]) (.var 3)) (.var 2) (.cst (.str "changed")))]
def B_check_trains_1 : List S := [.ite (.not (.call 0 [.var 2])) [.stuck] [],
  .ite (.and (.cmp .gt (.var 1) (.cst (.int 0))) (.or (.cmp .is (.ix (.ix (.var 0) (.bin .sub (.var 1) (.cst (.int 1)))) (.cst (.int 2))) (.cst .non)) (.cmp .ge (.call 1 [.ix (.var 0) (.bin .sub (.var 1) (.cst (.int 1)))]) (.ix (.var 2) (.cst (.int 0)))))) [.stuck] []]
def F_check_trains : FS := runF [F_is_train, F_last_of] 1 3 [.ite (.or (.not (.bi (.isi .list) [.var 0])) (.cmp .gt (.bi .len [.var 0]) (.cst (.int 1000)))) [.stuck] [],
  .for_ (.tp [.nm 1, .nm 2]) .enum [.var 0] B_check_trains_1]
def F_Trains___init__ : FS := runF [F_check_trains, F_all_joined] 2 2 [.expr (.call 0 [.var 1]),
  .setf 0 0 "listed" (.call 1 [.var 1])]
def F_Trains___eq__ : FS := runF [] 2 2 [.ret (.and (.isc [0] 0 (.var 1)) (.cmp .eq (.fld [0] (.var 0) "listed") (.fld [0] (.var 1) "listed")))]
def F__law_odd : FS := runF [F__law_choice] 2 3 [.asg (.nm 2) (.lst [.cst .non, .cst (.int 5), .cst (.str "train"), .tup [], .tup [.cst (.int 1), .cst (.int 1)], .tup [.cst (.int 1), .cst (.int 1), .cst (.int 1), .cst (.int 1)], .lst [.cst (.int 1), .cst (.int 1), .cst (.int 1)], .tup [.neg (.cst (.int 1)), .cst (.int 1), .cst (.int 1)], .tup [.cst (.int 1), .cst (.int 0), .cst (.int 1)], .tup [.cst (.int 1), .cst (.int 1), .cst (.int 0)], .tup [.cst (.int 1), .cst (.int 1), .neg (.cst (.int 1))]]),
  .asg (.nm 2) (.bin .add (.var 2) (.lst [.tup [.cst (.bl true), .cst (.int 1), .cst (.int 1)], .tup [.cst (.int 1), .cst (.bl true), .cst (.int 1)], .tup [.cst (.int 1), .cst (.int 1), .cst (.bl true)], .tup [.cst (.str "1"), .cst (.int 1), .cst (.int 1)], .tup [.cst (.int 1), .cst .non, .cst (.int 1)], .tup [.cst .non, .cst (.int 1), .cst (.int 1)], .tup [.cst (.int 1), .cst (.int 1), .cst (.str "1")], .dct])),
  .ret (.call 0 [.var 0, .bin .add (.var 2) (.bin .mul (.lst [.tup [.var 1, .cst (.int 1), .cst (.int 1)]]) (.cst (.int 6)))])]
def B_law_1 : List S := [.asg (.nm 6) (.bin .add (.cst (.int 1)) (.call 6 [.var 2, .bi .len [.var 3]])),
  .asg (.tp [.nm 9, .nm 10, .nm 11]) (.ix (.var 3) (.bin .sub (.var 6) (.cst (.int 1)))),
  .asg (.nm 7) (.bin .add (.var 9) (.bin .mul (.var 10) (.call 6 [.var 2, .ite (.cmp .is (.var 11) (.cst .non)) (.cst (.int 9)) (.var 11)]))),
  .asg (.nm 8) (.bin .add (.bin .add (.slc (.var 3) [] [.var 6]) (.lst [.call 7 [.var 2, .var 7]])) (.slc (.var 3) [.var 6] [])),
  .ite (.or (.cmp .ne (.call 3 [.var 8]) (.var 6)) (.cmp .ne (.call 3 [.shr (.bin .add (.bin .mul (.lst [.ix (.var 8) (.var 6)]) (.bi .int1 [.cmp .ne (.ix (.var 8) (.var 6)) (.tup [.var 7, .cst (.int 1), .cst (.int 1)])])) (.lst [.cst .non]))]) (.cst (.int 0)))) [.ret (.cst (.bl false))] []]
def B_law_2 : List S := [.ite (.cmp .ne (.call 3 [.var 5]) (.neg (.cst (.int 1)))) [.ret (.cst (.bl false))] []]
def B_law_3 : List S := [.asgO 2 (.call 1 [.var 1]),
  .asg (.nm 3) (.bin .add (.lst [.tup [.cst (.int 3), .cst (.int 1), .cst (.int 2)]]) (.comp [9, 10, 11] (.tp [.nm 9, .nm 10, .nm 11]) .seq [.call 2 [.var 2, .cst (.int 9), .cst (.int 6)]] [] (.tup [.bin .add (.var 9) (.cst (.int 9)), .var 10, .var 11]))),
  .ite (.or (.cmp .ne (.call 3 [.var 3]) (.cst (.str "none"))) (.own .ne 0 5 (.mkp 0 4 [0] ([.var 3] ++ dfl [])) (.mk 0 4 [.var 3]))) [.ret (.cst (.bl false))] [],
  .for_ (.nm 4) .rng [.cst (.int 6)] B_law_1,
  .for_ (.nm 5) .seq [.tup [.cst .non, .cst (.int 5), .cst (.str "[]"), .tup [], .bi .tuple [.var 3], .dct, .cst (.bl true), .comp [6] (.nm 6) .rng [.cst (.int 1001)] [] (.tup [.var 6, .cst (.int 1), .cst (.int 1)])]] B_law_2,
  .ite (.cmp .ne (.call 3 [.shr (.comp [6] (.nm 6) .rng [.cst (.int 1000)] [] (.tup [.bin .mul (.cst (.int 2)) (.var 6), .cst (.int 1), .cst (.int 1)]))]) (.cst (.str "none"))) [.ret (.cst (.bl false))] []]
def F_law : FS := runF [F__law_cell_at, F__law_source_of, F__law_rows, F__law_told, F_Trains___init__, F_Trains___eq__, F__law_draw, F__law_odd] 1 12 [.for_ (.nm 1) .seq [.bin .add (.lst [.call 0 [.var 0, .cst (.int 0)]]) (.slc (.var 0) [.cst (.int 1)] [.cst (.int 6)])] B_law_3,
  .ret (.cst (.bl true))]
end L
namespace L
open PySem L2 DV
def topS (i : Nat) : Stmt := PySem.Challenge.pw_breakerrow_k09_trains_refused.main.body.getD i (.Pass ⟨0, 0, 0, 0⟩)
structure Txt (g : Gx) (mg : Str → Option Value) : Prop where
  tt : g.ea = none
  z_ArithmeticError : mg "ArithmeticError" = none
  z_bool : mg "bool" = none
  z_enumerate : mg "enumerate" = none
  z_int : mg "int" = none
  z_isinstance : mg "isinstance" = none
  z_len : mg "len" = none
  z_list : mg "list" = none
  z_range : mg "range" = none
  z_repr : mg "repr" = none
  z_tuple : mg "tuple" = none
  g_MOST_TRAINS : GInt mg "MOST_TRAINS" 1000
  ax_InvalidTrains : AexC g.K (g.cl 12)
  bx_BreakerError : BexC g.K (g.cl 8)
  n_BreakerError : mg "BreakerError" = some (.ref (g.cl 8))
  n_InvalidTrains : mg "InvalidTrains" = some (.ref (g.cl 12))
  tx_InvalidTrains_at : PySem.W.takerIn g.K (g.cl 12) "at" = some none
  x_Trains : ClsX g 0
  na_Trains_listed : NoAttr g.K (g.cl 0) "listed"
  xm_InvalidTrains_InvalidTrains : PySem.W.exmOne g.K (.ref (g.cl 12)) (.ref (g.cl 12)) = some true
  xe_InvalidTrains : ErrC g.K (g.cl 12)
  xk_InvalidTrains_InvalidBound : PySem.W.kitOne g.K (.ref (g.cl 12)) (.ref (g.cl 14)) = some false
  n_InvalidBound : mg "InvalidBound" = some (.ref (g.cl 14))
  xk_InvalidTrains_ArithmeticError : PySem.W.kitOne g.K (.ref (g.cl 12)) (.type "ArithmeticError") = some true
  xf_InvalidTrains : XfC g.K (g.cl 12)
  xn_InvalidTrains_at : PySem.W.findIn g.K (.ref (g.cl 12)) "at" = some none
  kit_Trains_Trains : PySem.W.kitOne g.K (.ref (g.cl 0)) (.ref (g.cl 0)) = some (0 == 0)
  kp_Trains : ∀ t ∈ plainTy, PySem.W.kitOne g.K (.type t) (.ref (g.cl 0)) = some false
  n_Trains : mg "Trains" = some (.ref (g.cl 0))
  ne_Trains : PySem.W.findIn g.K (.ref (g.cl 0)) "__ne__" = some (some (.builtin "object.__ne__"))
section
variable {P : Program} {w : World} {mg : Str → Option Value} {base : Heap} {g : Gx}
abbrev s__law_cell_at : Stmt := topS 21
theorem sc__law_cell_at : FnScope ["_law_script", "_law_place"] ["_law_script", "_law_place"] (defScope s__law_cell_at) := ⟨rfl, rfl, rfl, by decide +kernel, rfl, by decide +kernel, by decide +kernel⟩
theorem ok__law_cell_at {k : Nat} {f : Addr} {fd : FuncData} (T : Txt g mg) (F : Fun g.K "_law_cell_at" "_law_cell_at" s__law_cell_at f fd)  : FnOk P w g.K mg base CX0 (k + 1) f fd ["_law_script", "_law_place"] (spF g 2 F__law_cell_at) := by
  refine def_fn (fs := []) F sc__law_cell_at rfl rfl T.tt fun cdv A outer s H E hr C => ?_
  exact (ss_cons (s_ite (t_cmp (op := .lt) C (k_var 1 rfl (by first | exact .inl rfl | exact .inr (.inl rfl) | exact .inr (.inr rfl)) rfl rfl) (k_len C (a_cons (k_var 0 rfl (by first | exact .inl rfl | exact .inr (.inl rfl) | exact .inr (.inr rfl)) rfl rfl) a_nil rfl) rfl rfl (T.z_len) rfl) rfl) (ss_cons (s_ret (p_ix C (k_var 0 rfl (by first | exact .inl rfl | exact .inr (.inl rfl) | exact .inr (.inr rfl)) rfl rfl) (k_var 1 rfl (by first | exact .inl rfl | exact .inr (.inl rfl) | exact .inr (.inr rfl)) rfl rfl) (fun _ _ => rfl)))
  ss_nil) ss_nil)
  (ss_cons (s_ret (k_int C))
  ss_nil))
abbrev s__law_source_of : Stmt := topS 22
theorem sc__law_source_of : FnScope ["_law_cell"] ["_law_cell"] (defScope s__law_source_of) := ⟨rfl, rfl, rfl, by decide +kernel, rfl, by decide +kernel, by decide +kernel⟩
theorem ok__law_source_of {k : Nat} {f : Addr} {fd : FuncData} (T : Txt g mg) (F : Fun g.K "_law_source_of" "_law_source_of" s__law_source_of f fd)  : FnOk P w g.K mg base CX0 (k + 1) f fd ["_law_cell"] (spF g 1 F__law_source_of) := by
  refine def_fn (fs := []) F sc__law_source_of rfl rfl T.tt fun cdv A outer s H E hr C => ?_
  exact (ss_cons (s_ret (p_lst C (a_cons (p_bin (op := .mul) C (k_var 0 rfl (by first | exact .inl rfl | exact .inr (.inl rfl) | exact .inr (.inr rfl)) rfl rfl) (k_int1 C (a_cons (p_cmp (op := .ge) C (k_var 0 rfl (by first | exact .inl rfl | exact .inr (.inl rfl) | exact .inr (.inr rfl)) rfl rfl) (p_bin (op := .pow) C (k_int C) (k_int C)) rfl) a_nil rfl) rfl rfl (T.z_int) rfl)) (a_cons (p_bin (op := .mod) C (k_int1 C (a_cons (k_var 0 rfl (by first | exact .inl rfl | exact .inr (.inl rfl) | exact .inr (.inr rfl)) rfl rfl) a_nil rfl) rfl rfl (T.z_int) rfl) (k_int C)) (a_cons (k_int C) a_nil rfl) rfl) rfl)))
  ss_nil)
abbrev s__law_draw : Stmt := topS 23
theorem sc__law_draw : FnScope ["_law_source", "_law_bound", "_law_result", "_law_reach", "_law_prime", "_law_mixed"] ["_law_source", "_law_bound"] (defScope s__law_draw) := ⟨rfl, rfl, rfl, by decide +kernel, rfl, by decide +kernel, by decide +kernel⟩
theorem ok__law_draw {k : Nat} {f : Addr} {fd : FuncData} (T : Txt g mg) (F : Fun g.K "_law_draw" "_law_draw" s__law_draw f fd)  : FnOk P w g.K mg base CX0 (k + 1) f fd ["_law_source", "_law_bound"] (spF g 2 F__law_draw) := by
  refine def_fn (fs := []) F sc__law_draw rfl rfl T.tt fun cdv A outer s H E hr C => ?_
  exact (ss_cons (s_ite (t_cmp (op := .gt) C (p_ix C (k_var 0 rfl (by first | exact .inl rfl | exact .inr (.inl rfl) | exact .inr (.inr rfl)) rfl rfl) (k_int C) (fun _ _ => rfl)) (k_int C) rfl) (ss_cons (s_asgO (i := 2) C rfl (by first | exact .inl rfl | exact .inr rfl) (p_bin (op := .mod) C (k_int1 C (a_cons (p_ix C (k_var 0 rfl (by first | exact .inl rfl | exact .inr (.inl rfl) | exact .inr (.inr rfl)) rfl rfl) (k_int C) (fun _ _ => rfl)) a_nil rfl) rfl rfl (T.z_int) rfl) (k_var 1 rfl (by first | exact .inl rfl | exact .inr (.inl rfl) | exact .inr (.inr rfl)) rfl rfl)) rfl (by first | exact .inr rfl | exact .inl rfl))
  (ss_cons (s_seti C (pe_var (i := 0) rfl (by first | exact .inl rfl | exact .inr (.inl rfl) | exact .inr (.inr rfl)) rfl rfl) (k_int C) (p_bin (op := .fdiv) C (p_ix C (k_var 0 rfl (by first | exact .inl rfl | exact .inr (.inl rfl) | exact .inr (.inr rfl)) rfl rfl) (k_int C) (fun _ _ => rfl)) (k_var 1 rfl (by first | exact .inl rfl | exact .inr (.inl rfl) | exact .inr (.inr rfl)) rfl rfl)) rfl rfl rfl (fun _ => rfl))
  (ss_cons (s_ret (k_var 2 rfl (by first | exact .inl rfl | exact .inr (.inl rfl) | exact .inr (.inr rfl)) rfl rfl))
  ss_nil))) ss_nil)
  (ss_cons (s_asg (p_tup C (a_cons (k_int C) (a_cons (k_int C) a_nil rfl) rfl)) (tgp C (tgs_cons (tg_nm (pg_name (i := 2) C.nd rfl (by first | exact .inl rfl | exact .inr rfl) (by first | exact .inr rfl | exact .inl rfl))) (tgs_cons (tg_nm (pg_name (i := 3) C.nd rfl (by first | exact .inl rfl | exact .inr rfl) (by first | exact .inr rfl | exact .inl rfl))) tgs_nil rfl) rfl) rfl rfl) rfl rfl rfl)
  (ss_cons (s_whl PassesOwn.never (t_cmp (op := .lt) C (k_var 3 rfl (by first | exact .inl rfl | exact .inr (.inl rfl) | exact .inr (.inr rfl)) rfl rfl) (k_var 1 rfl (by first | exact .inl rfl | exact .inr (.inl rfl) | exact .inr (.inr rfl)) rfl rfl) rfl) (ss_cons (s_seti C (pe_var (i := 0) rfl (by first | exact .inl rfl | exact .inr (.inl rfl) | exact .inr (.inr rfl)) rfl rfl) (k_int C) (p_bin (op := .add) C (p_ix C (k_var 0 rfl (by first | exact .inl rfl | exact .inr (.inl rfl) | exact .inr (.inr rfl)) rfl rfl) (k_int C) (fun _ _ => rfl)) (k_int C)) rfl rfl rfl (fun _ => rfl))
  (ss_cons (s_asg (p_ix C (p_lst C (a_cons (k_int C) (a_cons (k_int C) (a_cons (k_int C) (a_cons (k_int C) (a_cons (k_int C) (a_cons (k_int C) (a_cons (k_int C) a_nil rfl) rfl) rfl) rfl) rfl) rfl) rfl)) (p_bin (op := .mod) C (k_int1 C (a_cons (p_ix C (k_var 0 rfl (by first | exact .inl rfl | exact .inr (.inl rfl) | exact .inr (.inr rfl)) rfl rfl) (k_int C) (fun _ _ => rfl)) a_nil rfl) rfl rfl (T.z_int) rfl) (k_int C)) (fun _ _ => rfl)) (tg_nm (pg_name (i := 4) C.nd rfl (by first | exact .inl rfl | exact .inr rfl) (by first | exact .inr rfl | exact .inl rfl))) rfl rfl rfl)
  (ss_cons (s_asgO (i := 5) C rfl (by first | exact .inl rfl | exact .inr rfl) (p_bin (op := .mod) C (k_int1 C (a_cons (p_bin (op := .pow) C (p_bin (op := .add) C (p_bin (op := .add) C (p_ix C (k_var 0 rfl (by first | exact .inl rfl | exact .inr (.inl rfl) | exact .inr (.inr rfl)) rfl rfl) (k_int C) (fun _ _ => rfl)) (p_bin (op := .mul) C (k_int C) (p_ix C (k_var 0 rfl (by first | exact .inl rfl | exact .inr (.inl rfl) | exact .inr (.inr rfl)) rfl rfl) (k_int C) (fun _ _ => rfl)))) (k_int C)) (k_int C)) a_nil rfl) rfl rfl (T.z_int) rfl) (k_var 4 rfl (by first | exact .inl rfl | exact .inr (.inl rfl) | exact .inr (.inr rfl)) rfl rfl)) rfl (by first | exact .inr rfl | exact .inl rfl))
  (ss_cons (s_asgO (i := 5) C rfl (by first | exact .inl rfl | exact .inr rfl) (p_bin (op := .mod) C (k_int1 C (a_cons (p_bin (op := .mul) C (p_bin (op := .add) C (k_var 5 rfl (by first | exact .inl rfl | exact .inr (.inl rfl) | exact .inr (.inr rfl)) rfl rfl) (p_ix C (k_var 0 rfl (by first | exact .inl rfl | exact .inr (.inl rfl) | exact .inr (.inr rfl)) rfl rfl) (k_int C) (fun _ _ => rfl))) (p_bin (op := .add) C (p_bin (op := .fdiv) C (k_var 5 rfl (by first | exact .inl rfl | exact .inr (.inl rfl) | exact .inr (.inr rfl)) rfl rfl) (k_int C)) (k_int C))) a_nil rfl) rfl rfl (T.z_int) rfl) (k_var 4 rfl (by first | exact .inl rfl | exact .inr (.inl rfl) | exact .inr (.inr rfl)) rfl rfl)) rfl (by first | exact .inr rfl | exact .inl rfl))
  (ss_cons (s_par2 (i := 2) (j := 3) C rfl rfl (by decide) rfl rfl (an_cons C (p_bin (op := .add) C (p_bin (op := .mul) C (k_var 2 rfl (by first | exact .inl rfl | exact .inr (.inl rfl) | exact .inr (.inr rfl)) rfl rfl) (k_int C)) (p_bin (op := .fdiv) C (k_var 5 rfl (by first | exact .inl rfl | exact .inr (.inl rfl) | exact .inr (.inr rfl)) rfl rfl) (k_int C))) (an_cons C (p_bin (op := .mul) C (k_var 3 rfl (by first | exact .inl rfl | exact .inr (.inl rfl) | exact .inr (.inr rfl)) rfl rfl) (k_int C)) an_nil rfl) rfl) rfl rfl)
  ss_nil))))))
  (ss_cons (s_ret (p_bin (op := .mod) C (k_int1 C (a_cons (k_var 2 rfl (by first | exact .inl rfl | exact .inr (.inl rfl) | exact .inr (.inr rfl)) rfl rfl) a_nil rfl) rfl rfl (T.z_int) rfl) (k_var 1 rfl (by first | exact .inl rfl | exact .inr (.inl rfl) | exact .inr (.inr rfl)) rfl rfl)))
  ss_nil))))
abbrev s__law_choice : Stmt := topS 24
theorem sc__law_choice : FnScope ["_law_source", "_law_options"] ["_law_source", "_law_options"] (defScope s__law_choice) := ⟨rfl, rfl, rfl, by decide +kernel, rfl, by decide +kernel, by decide +kernel⟩
theorem ok__law_choice {k : Nat} {f : Addr} {fd : FuncData} (T : Txt g mg) (F : Fun g.K "_law_choice" "_law_choice" s__law_choice f fd) (c__law_draw : Cal P w mg base g k "_law_draw" 2 F__law_draw) : FnOk P w g.K mg base CX0 (k + 1) f fd ["_law_source", "_law_options"] (spF g 2 F__law_choice) := by
  refine def_fn (fs := [F__law_draw]) F sc__law_choice rfl rfl T.tt fun cdv A outer s H E hr C => ?_
  exact (ss_cons (s_ret (p_ix C (k_var 1 rfl (by first | exact .inl rfl | exact .inr (.inl rfl) | exact .inr (.inr rfl)) rfl rfl) (c_call c__law_draw C rfl rfl hr rfl (aw_cons (k_var 0 rfl (by first | exact .inl rfl | exact .inr (.inl rfl) | exact .inr (.inr rfl)) rfl rfl) (aw_cons (k_len C (a_cons (k_var 1 rfl (by first | exact .inl rfl | exact .inr (.inl rfl) | exact .inr (.inr rfl)) rfl rfl) a_nil rfl) rfl rfl (T.z_len) rfl) aw_nil rfl) rfl) rfl rfl rfl) (fun _ _ => rfl)))
  ss_nil)
abbrev s__law_rows : Stmt := topS 25
theorem sc__law_rows : FnScope ["_law_source", "_law_far", "_law_most", "_law_repeat", "_law_found", "_law_begin", "_law_step", "_law_many"] ["_law_source", "_law_far", "_law_most"] (defScope s__law_rows) := ⟨rfl, rfl, rfl, by decide +kernel, rfl, by decide +kernel, by decide +kernel⟩
theorem ok__law_rows {k : Nat} {f : Addr} {fd : FuncData} (T : Txt g mg) (F : Fun g.K "_law_rows" "_law_rows" s__law_rows f fd) (c__law_draw : Cal P w mg base g k "_law_draw" 2 F__law_draw) (c__law_choice : Cal P w mg base g k "_law_choice" 2 F__law_choice) : FnOk P w g.K mg base CX0 (k + 1) f fd ["_law_source", "_law_far", "_law_most"] (spF g 3 F__law_rows) := by
  refine def_fn (fs := [F__law_draw, F__law_choice]) F sc__law_rows rfl rfl T.tt fun cdv A outer s H E hr C => ?_
  exact (ss_cons (s_par2 (i := 4) (j := 5) C rfl rfl (by decide) rfl rfl (an_cons C (p_lst C a_nil) (an_cons C (c_call c__law_draw C rfl rfl hr rfl (aw_cons (k_var 0 rfl (by first | exact .inl rfl | exact .inr (.inl rfl) | exact .inr (.inr rfl)) rfl rfl) (aw_cons (k_var 1 rfl (by first | exact .inl rfl | exact .inr (.inl rfl) | exact .inr (.inr rfl)) rfl rfl) aw_nil rfl) rfl) rfl rfl rfl) an_nil rfl) rfl) rfl rfl)
  (ss_cons (s_for C PassesOwn.never (i_rng1 C rfl (T.z_range) (a_cons (c_call c__law_draw C rfl rfl hr rfl (aw_cons (k_var 0 rfl (by first | exact .inl rfl | exact .inr (.inl rfl) | exact .inr (.inr rfl)) rfl rfl) (aw_cons (p_bin (op := .add) C (k_var 2 rfl (by first | exact .inl rfl | exact .inr (.inl rfl) | exact .inr (.inr rfl)) rfl rfl) (k_int C)) aw_nil rfl) rfl) rfl rfl rfl) a_nil rfl) rfl) (tg_nm (pg_name (i := 3) C.nd rfl (by first | exact .inl rfl | exact .inr rfl) (by first | exact .inr rfl | exact .inl rfl))) (ss_cons (s_asgO (i := 6) C rfl (by first | exact .inl rfl | exact .inr rfl) (p_bin (op := .add) C (k_int C) (c_call c__law_draw C rfl rfl hr rfl (aw_cons (k_var 0 rfl (by first | exact .inl rfl | exact .inr (.inl rfl) | exact .inr (.inr rfl)) rfl rfl) (aw_cons (c_call c__law_choice C rfl rfl hr rfl (aw_cons (k_var 0 rfl (by first | exact .inl rfl | exact .inr (.inl rfl) | exact .inr (.inr rfl)) rfl rfl) (aw_cons (p_lst C (a_cons (k_int C) (a_cons (k_var 1 rfl (by first | exact .inl rfl | exact .inr (.inl rfl) | exact .inr (.inr rfl)) rfl rfl) a_nil rfl) rfl)) aw_nil rfl) rfl) rfl rfl rfl) aw_nil rfl) rfl) rfl rfl rfl)) rfl (by first | exact .inr rfl | exact .inl rfl))
  (ss_cons (s_asgO (i := 7) C rfl (by first | exact .inl rfl | exact .inr rfl) (p_bin (op := .add) C (k_int C) (c_call c__law_draw C rfl rfl hr rfl (aw_cons (k_var 0 rfl (by first | exact .inl rfl | exact .inr (.inl rfl) | exact .inr (.inr rfl)) rfl rfl) (aw_cons (c_call c__law_choice C rfl rfl hr rfl (aw_cons (k_var 0 rfl (by first | exact .inl rfl | exact .inr (.inl rfl) | exact .inr (.inr rfl)) rfl rfl) (aw_cons (p_lst C (a_cons (k_int C) (a_cons (k_int C) (a_cons (k_var 1 rfl (by first | exact .inl rfl | exact .inr (.inl rfl) | exact .inr (.inr rfl)) rfl rfl) a_nil rfl) rfl) rfl)) aw_nil rfl) rfl) rfl rfl rfl) aw_nil rfl) rfl) rfl rfl rfl)) rfl (by first | exact .inr rfl | exact .inl rfl))
  (ss_cons (s_app C (pe_var (i := 4) rfl (by first | exact .inl rfl | exact .inr (.inl rfl) | exact .inr (.inr rfl)) rfl rfl) (p_tup C (a_cons (k_var 5 rfl (by first | exact .inl rfl | exact .inr (.inl rfl) | exact .inr (.inr rfl)) rfl rfl) (a_cons (k_var 6 rfl (by first | exact .inl rfl | exact .inr (.inl rfl) | exact .inr (.inr rfl)) rfl rfl) (a_cons (k_var 7 rfl (by first | exact .inl rfl | exact .inr (.inl rfl) | exact .inr (.inr rfl)) rfl rfl) a_nil rfl) rfl) rfl)) rfl rfl rfl rfl)
  (ss_cons (s_asgO (i := 5) C rfl (by first | exact .inl rfl | exact .inr rfl) (p_bin (op := .add) C (p_bin (op := .add) C (p_bin (op := .add) C (k_var 5 rfl (by first | exact .inl rfl | exact .inr (.inl rfl) | exact .inr (.inr rfl)) rfl rfl) (p_bin (op := .mul) C (k_var 6 rfl (by first | exact .inl rfl | exact .inr (.inl rfl) | exact .inr (.inr rfl)) rfl rfl) (p_bin (op := .sub) C (k_var 7 rfl (by first | exact .inl rfl | exact .inr (.inl rfl) | exact .inr (.inr rfl)) rfl rfl) (k_int C)))) (k_int C)) (c_call c__law_draw C rfl rfl hr rfl (aw_cons (k_var 0 rfl (by first | exact .inl rfl | exact .inr (.inl rfl) | exact .inr (.inr rfl)) rfl rfl) (aw_cons (c_call c__law_choice C rfl rfl hr rfl (aw_cons (k_var 0 rfl (by first | exact .inl rfl | exact .inr (.inl rfl) | exact .inr (.inr rfl)) rfl rfl) (aw_cons (p_lst C (a_cons (k_int C) (a_cons (k_var 6 rfl (by first | exact .inl rfl | exact .inr (.inl rfl) | exact .inr (.inr rfl)) rfl rfl) (a_cons (k_var 1 rfl (by first | exact .inl rfl | exact .inr (.inl rfl) | exact .inr (.inr rfl)) rfl rfl) a_nil rfl) rfl) rfl)) aw_nil rfl) rfl) rfl rfl rfl) aw_nil rfl) rfl) rfl rfl rfl)) rfl (by first | exact .inr rfl | exact .inl rfl))
  ss_nil)))) (fun _ => rfl))
  (ss_cons (s_ite (PW.pt (w_and (t_cmp (op := .ne) C (k_var 4 rfl (by first | exact .inl rfl | exact .inr (.inl rfl) | exact .inr (.inr rfl)) rfl rfl) (p_lst C a_nil) rfl) (w_and1 (t_cmp (op := .eq) C (c_call c__law_draw C rfl rfl hr rfl (aw_cons (k_var 0 rfl (by first | exact .inl rfl | exact .inr (.inl rfl) | exact .inr (.inr rfl)) rfl rfl) (aw_cons (k_int C) aw_nil rfl) rfl) rfl rfl rfl) (k_int C) rfl)))) (ss_cons (s_asgO (i := 4) C rfl (by first | exact .inl rfl | exact .inr rfl) (p_bin (op := .add) C (p_slc C (k_var 4 rfl (by first | exact .inl rfl | exact .inr (.inl rfl) | exact .inr (.inr rfl)) rfl rfl) part0 (part1 (p_neg (k_int C)))) (p_lst C (a_cons (p_bin (op := .add) C (p_slc C (p_ix C (k_var 4 rfl (by first | exact .inl rfl | exact .inr (.inl rfl) | exact .inr (.inr rfl)) rfl rfl) (p_neg (k_int C)) (fun _ _ => rfl)) part0 (part1 (k_int C))) (p_tup C (a_cons (k_non C) a_nil rfl))) a_nil rfl))) rfl (by first | exact .inr rfl | exact .inl rfl))
  ss_nil) ss_nil)
  (ss_cons (s_ret (k_var 4 rfl (by first | exact .inl rfl | exact .inr (.inl rfl) | exact .inr (.inr rfl)) rfl rfl))
  ss_nil))))
abbrev s_InvalidTrains___init__ : Stmt := inClass (topS 3) 0
theorem sc_InvalidTrains___init__ : FnScope ["self", "at"] ["self", "at"] (defScope s_InvalidTrains___init__) := ⟨rfl, rfl, rfl, by decide +kernel, rfl, by decide +kernel, by decide +kernel⟩
theorem ok_InvalidTrains___init__ {k : Nat} {f : Addr} {fd : FuncData} (T : Txt g mg) (F : Fun g.K "__init__" "InvalidTrains.__init__" s_InvalidTrains___init__ f fd) : FnOk P w g.K mg base CX0 (k + 1) f fd ["self", "at"] (spI g 12 ["at"]) := by
  refine F.ok sc_InvalidTrains___init__ (fun vs H Q E h => spI_len h) fun cdv A outer s H vs Q E hr h => ?_
  exact ⟨_, pss_cons (ps_expr (pe_aei T.bx_BreakerError rfl T.n_BreakerError rfl (pa_cons (pe_var (i := 0) rfl (.inl rfl) rfl rfl) (pa_cons pe_str pa_nil rfl) rfl) rfl rfl rfl) rfl) (pss_cons (ps_aes (pe_var (i := 0) rfl (.inl rfl) rfl rfl) (pe_var (i := 1) rfl (.inl rfl) rfl rfl) rfl) pss_nil), xin1 T.ax_InvalidTrains T.tx_InvalidTrains_at h⟩
abbrev s_is_integer : Stmt := topS 8
theorem sc_is_integer : FnScope ["value"] ["value"] (defScope s_is_integer) := ⟨rfl, rfl, rfl, by decide +kernel, rfl, by decide +kernel, by decide +kernel⟩
theorem ok_is_integer {k : Nat} {f : Addr} {fd : FuncData} (T : Txt g mg) (F : Fun g.K "is_integer" "is_integer" s_is_integer f fd)  : FnOk P w g.K mg base CX0 (k + 1) f fd ["value"] (spF g 1 F_is_integer) := by
  refine def_fn (fs := []) F sc_is_integer rfl rfl T.tt fun cdv A outer s H E hr C => ?_
  exact (ss_cons (s_ret (p_and C (p_isi (t := .int) C (k_var 0 rfl (by first | exact .inl rfl | exact .inr (.inl rfl) | exact .inr (.inr rfl)) rfl rfl) (ty_int (T.z_int) rfl) rfl (T.z_isinstance) rfl rfl) (p_one (p_not C (p_isi (t := .bool) C (k_var 0 rfl (by first | exact .inl rfl | exact .inr (.inl rfl) | exact .inr (.inr rfl)) rfl rfl) (ty_bool (T.z_bool) rfl) rfl (T.z_isinstance) rfl rfl)))))
  ss_nil)
abbrev s_is_train : Stmt := topS 11
theorem sc_is_train : FnScope ["value"] ["value"] (defScope s_is_train) := ⟨rfl, rfl, rfl, by decide +kernel, rfl, by decide +kernel, by decide +kernel⟩
theorem ok_is_train {k : Nat} {f : Addr} {fd : FuncData} (T : Txt g mg) (F : Fun g.K "is_train" "is_train" s_is_train f fd) (c_is_integer : Cal P w mg base g k "is_integer" 1 F_is_integer) : FnOk P w g.K mg base CX0 (k + 1) f fd ["value"] (spF g 1 F_is_train) := by
  refine def_fn (fs := [F_is_integer]) F sc_is_train rfl rfl T.tt fun cdv A outer s H E hr C => ?_
  exact (ss_cons (s_ite (PW.pt (w_or (t_not (t_val C (p_isi (t := .tuple) C (k_var 0 rfl (by first | exact .inl rfl | exact .inr (.inl rfl) | exact .inr (.inr rfl)) rfl rfl) (ty_tuple (T.z_tuple) rfl) rfl (T.z_isinstance) rfl rfl) (fun _ => rfl))) (w_or (t_cmp (op := .ne) C (k_len C (a_cons (k_var 0 rfl (by first | exact .inl rfl | exact .inr (.inl rfl) | exact .inr (.inr rfl)) rfl rfl) a_nil rfl) rfl rfl (T.z_len) rfl) (k_int C) rfl) (w_or (t_not (t_val C (c_call c_is_integer C rfl rfl hr rfl (aw_cons (p_ix C (k_var 0 rfl (by first | exact .inl rfl | exact .inr (.inl rfl) | exact .inr (.inr rfl)) rfl rfl) (k_int C) (fun _ _ => rfl)) aw_nil rfl) rfl rfl rfl) (fun _ => rfl))) (w_or1 (t_not (t_val C (c_call c_is_integer C rfl rfl hr rfl (aw_cons (p_ix C (k_var 0 rfl (by first | exact .inl rfl | exact .inr (.inl rfl) | exact .inr (.inr rfl)) rfl rfl) (k_int C) (fun _ _ => rfl)) aw_nil rfl) rfl rfl rfl) (fun _ => rfl)))))))) (ss_cons (s_ret (k_bl C))
  ss_nil) ss_nil)
  (ss_cons (s_ite (PW.pt (w_or (t_cmp (op := .lt) C (p_ix C (k_var 0 rfl (by first | exact .inl rfl | exact .inr (.inl rfl) | exact .inr (.inr rfl)) rfl rfl) (k_int C) (fun _ _ => rfl)) (k_int C) rfl) (w_or1 (t_cmp (op := .lt) C (p_ix C (k_var 0 rfl (by first | exact .inl rfl | exact .inr (.inl rfl) | exact .inr (.inr rfl)) rfl rfl) (k_int C) (fun _ _ => rfl)) (k_int C) rfl)))) (ss_cons (s_ret (k_bl C))
  ss_nil) ss_nil)
  (ss_cons (s_ret (p_or C (p_cmp (op := .is) C (p_ix C (k_var 0 rfl (by first | exact .inl rfl | exact .inr (.inl rfl) | exact .inr (.inr rfl)) rfl rfl) (k_int C) (fun _ _ => rfl)) (k_non C) rfl) (p_one (p_and C (c_call c_is_integer C rfl rfl hr rfl (aw_cons (p_ix C (k_var 0 rfl (by first | exact .inl rfl | exact .inr (.inl rfl) | exact .inr (.inr rfl)) rfl rfl) (k_int C) (fun _ _ => rfl)) aw_nil rfl) rfl rfl rfl) (p_one (p_cmp (op := .ge) C (p_ix C (k_var 0 rfl (by first | exact .inl rfl | exact .inr (.inl rfl) | exact .inr (.inr rfl)) rfl rfl) (k_int C) (fun _ _ => rfl)) (k_int C) rfl))))))
  ss_nil)))
abbrev s_last_of : Stmt := topS 12
theorem sc_last_of : FnScope ["train"] ["train"] (defScope s_last_of) := ⟨rfl, rfl, rfl, by decide +kernel, rfl, by decide +kernel, by decide +kernel⟩
theorem ok_last_of {k : Nat} {f : Addr} {fd : FuncData} (T : Txt g mg) (F : Fun g.K "last_of" "last_of" s_last_of f fd)  : FnOk P w g.K mg base CX0 (k + 1) f fd ["train"] (spF g 1 F_last_of) := by
  refine def_fn (fs := []) F sc_last_of rfl rfl T.tt fun cdv A outer s H E hr C => ?_
  exact (ss_cons (s_ret (p_bin (op := .add) C (p_ix C (k_var 0 rfl (by first | exact .inl rfl | exact .inr (.inl rfl) | exact .inr (.inr rfl)) rfl rfl) (k_int C) (fun _ _ => rfl)) (p_bin (op := .mul) C (p_ix C (k_var 0 rfl (by first | exact .inl rfl | exact .inr (.inl rfl) | exact .inr (.inr rfl)) rfl rfl) (k_int C) (fun _ _ => rfl)) (p_bin (op := .sub) C (p_ix C (k_var 0 rfl (by first | exact .inl rfl | exact .inr (.inl rfl) | exact .inr (.inr rfl)) rfl rfl) (k_int C) (fun _ _ => rfl)) (k_int C)))))
  ss_nil)
abbrev s_check_trains_x : Stmt := topS 13
theorem sc_check_trains_x : FnScope ["trains", "at", "train"] ["trains"] (defScope s_check_trains_x) := ⟨rfl, rfl, rfl, by decide +kernel, rfl, by decide +kernel, by decide +kernel⟩
theorem ok_check_trains_x {k : Nat} {f : Addr} {fd : FuncData} (T : Txt g mg) (F : Fun g.K "check_trains" "check_trains" s_check_trains_x f fd) (xc_InvalidTrains : XCls P w mg base g k 12 "InvalidTrains" ["at"]) (c_is_train : Cal P w mg base g k "is_train" 1 F_is_train) (c_last_of : Cal P w mg base g k "last_of" 1 F_last_of) : FnOk P w g.K mg base (L2.CX P w) (k + 2) f fd ["trains"] (spX g 1 F_check_trains_x) := by
  refine def_fnX (fs := [F_is_train, F_last_of]) F sc_check_trains_x rfl rfl T.tt fun cdv A outer s H E hr1 C tk hp => ?_
  have hr := hr1.mono (Nat.le_succ k)
  exact (ss_cons (s_ite (PW.pt (w_or (t_not (t_val C (p_isi (t := .list) C (k_var 0 rfl (by first | exact .inl rfl | exact .inr (.inl rfl) | exact .inr (.inr rfl)) rfl rfl) (ty_list (T.z_list) rfl) rfl (T.z_isinstance) rfl rfl) (fun _ => rfl))) (w_or1 (t_cmp (op := .gt) C (k_len C (a_cons (k_var 0 rfl (by first | exact .inl rfl | exact .inr (.inl rfl) | exact .inr (.inr rfl)) rfl rfl) a_nil rfl) rfl rfl (T.z_len) rfl) (k_gint C T.g_MOST_TRAINS rfl rfl) rfl)))) (ss_cons (s_rse xc_InvalidTrains C tk hr1 rfl (a_cons (p_neg (k_int C)) a_nil rfl) rfl rfl rfl (by decide))
  ss_nil) ss_nil)
  (ss_cons (s_for C hp (i_enum C rfl (T.z_enumerate) (a_cons (k_var 0 rfl (by first | exact .inl rfl | exact .inr (.inl rfl) | exact .inr (.inr rfl)) rfl rfl) a_nil rfl) rfl) (tgp C (tgs_cons (tg_nm (pg_name (i := 1) C.nd rfl (by first | exact .inl rfl | exact .inr rfl) (by first | exact .inr rfl | exact .inl rfl))) (tgs_cons (tg_nm (pg_name (i := 2) C.nd rfl (by first | exact .inl rfl | exact .inr rfl) (by first | exact .inr rfl | exact .inl rfl))) tgs_nil rfl) rfl) rfl rfl) (ss_cons (s_ite (t_not (t_val C (c_call c_is_train C rfl rfl hr rfl (aw_cons (k_var 2 rfl (by first | exact .inl rfl | exact .inr (.inl rfl) | exact .inr (.inr rfl)) rfl rfl) aw_nil rfl) rfl rfl rfl) (fun _ => rfl))) (ss_cons (s_rse xc_InvalidTrains C tk hr1 rfl (a_cons (k_var 1 rfl (by first | exact .inl rfl | exact .inr (.inl rfl) | exact .inr (.inr rfl)) rfl rfl) a_nil rfl) rfl rfl rfl (by decide))
  ss_nil) ss_nil)
  (ss_cons (s_ite (PW.pt (w_and (t_cmp (op := .gt) C (k_var 1 rfl (by first | exact .inl rfl | exact .inr (.inl rfl) | exact .inr (.inr rfl)) rfl rfl) (k_int C) rfl) (w_and1 (PW.pt (w_or (t_cmp (op := .is) C (p_ix C (p_ix C (k_var 0 rfl (by first | exact .inl rfl | exact .inr (.inl rfl) | exact .inr (.inr rfl)) rfl rfl) (p_bin (op := .sub) C (k_var 1 rfl (by first | exact .inl rfl | exact .inr (.inl rfl) | exact .inr (.inr rfl)) rfl rfl) (k_int C)) (fun _ _ => rfl)) (k_int C) (fun _ _ => rfl)) (k_non C) rfl) (w_or1 (t_cmp (op := .ge) C (c_call c_last_of C rfl rfl hr rfl (aw_cons (p_ix C (k_var 0 rfl (by first | exact .inl rfl | exact .inr (.inl rfl) | exact .inr (.inr rfl)) rfl rfl) (p_bin (op := .sub) C (k_var 1 rfl (by first | exact .inl rfl | exact .inr (.inl rfl) | exact .inr (.inr rfl)) rfl rfl) (k_int C)) (fun _ _ => rfl)) aw_nil rfl) rfl rfl rfl) (p_ix C (k_var 2 rfl (by first | exact .inl rfl | exact .inr (.inl rfl) | exact .inr (.inr rfl)) rfl rfl) (k_int C) (fun _ _ => rfl)) rfl))))))) (ss_cons (s_rse xc_InvalidTrains C tk hr1 rfl (a_cons (k_var 1 rfl (by first | exact .inl rfl | exact .inr (.inl rfl) | exact .inr (.inr rfl)) rfl rfl) a_nil rfl) rfl rfl rfl (by decide))
  ss_nil) ss_nil)
  ss_nil)) (fun _ => rfl))
  ss_nil))
abbrev s_without_first : Stmt := topS 14
theorem sc_without_first : FnScope ["train", "start", "step", "count"] ["train"] (defScope s_without_first) := ⟨rfl, rfl, rfl, by decide +kernel, rfl, by decide +kernel, by decide +kernel⟩
theorem ok_without_first {k : Nat} {f : Addr} {fd : FuncData} (T : Txt g mg) (F : Fun g.K "without_first" "without_first" s_without_first f fd)  : FnOk P w g.K mg base CX0 (k + 1) f fd ["train"] (spF g 1 F_without_first) := by
  refine def_fn (fs := []) F sc_without_first rfl rfl T.tt fun cdv A outer s H E hr C => ?_
  exact (ss_cons (s_asg (k_var 0 rfl (by first | exact .inl rfl | exact .inr (.inl rfl) | exact .inr (.inr rfl)) rfl rfl) (tgp C (tgs_cons (tg_nm (pg_name (i := 1) C.nd rfl (by first | exact .inl rfl | exact .inr rfl) (by first | exact .inr rfl | exact .inl rfl))) (tgs_cons (tg_nm (pg_name (i := 2) C.nd rfl (by first | exact .inl rfl | exact .inr rfl) (by first | exact .inr rfl | exact .inl rfl))) (tgs_cons (tg_nm (pg_name (i := 3) C.nd rfl (by first | exact .inl rfl | exact .inr rfl) (by first | exact .inr rfl | exact .inl rfl))) tgs_nil rfl) rfl) rfl) rfl rfl) rfl rfl rfl)
  (ss_cons (s_ite (t_cmp (op := .eq) C (k_var 3 rfl (by first | exact .inl rfl | exact .inr (.inl rfl) | exact .inr (.inr rfl)) rfl rfl) (k_int C) rfl) (ss_cons (s_ret (p_lst C a_nil))
  ss_nil) ss_nil)
  (ss_cons (s_ret (p_lst C (a_cons (p_tup C (a_cons (p_bin (op := .add) C (k_var 1 rfl (by first | exact .inl rfl | exact .inr (.inl rfl) | exact .inr (.inr rfl)) rfl rfl) (k_var 2 rfl (by first | exact .inl rfl | exact .inr (.inl rfl) | exact .inr (.inr rfl)) rfl rfl)) (a_cons (p_ite (t_cmp (op := .ne) C (k_var 3 rfl (by first | exact .inl rfl | exact .inr (.inl rfl) | exact .inr (.inr rfl)) rfl rfl) (k_int C) rfl) (k_var 2 rfl (by first | exact .inl rfl | exact .inr (.inl rfl) | exact .inr (.inr rfl)) rfl rfl) (k_int C)) (a_cons (p_ite (t_cmp (op := .is) C (k_var 3 rfl (by first | exact .inl rfl | exact .inr (.inl rfl) | exact .inr (.inr rfl)) rfl rfl) (k_non C) rfl) (k_non C) (p_bin (op := .sub) C (k_var 3 rfl (by first | exact .inl rfl | exact .inr (.inl rfl) | exact .inr (.inr rfl)) rfl rfl) (k_int C))) a_nil rfl) rfl) rfl)) a_nil rfl)))
  ss_nil)))
abbrev s_joined : Stmt := topS 15
theorem sc_joined : FnScope ["found", "train", "delta", "start", "step", "count", "one", "gap", "many"] ["found", "train"] (defScope s_joined) := ⟨rfl, rfl, rfl, by decide +kernel, rfl, by decide +kernel, by decide +kernel⟩
theorem ok_joined {k : Nat} {f : Addr} {fd : FuncData} (T : Txt g mg) (F : Fun g.K "joined" "joined" s_joined f fd) (c_last_of : Cal P w mg base g k "last_of" 1 F_last_of) (c_without_first : Cal P w mg base g k "without_first" 1 F_without_first) : FnOk P w g.K mg base CX0 (k + 1) f fd ["found", "train"] (spF g 2 F_joined) := by
  refine def_fn (fs := [F_last_of, F_without_first]) F sc_joined rfl rfl T.tt fun cdv A outer s H E hr C => ?_
  exact (ss_cons (s_asg (k_var 1 rfl (by first | exact .inl rfl | exact .inr (.inl rfl) | exact .inr (.inr rfl)) rfl rfl) (tgp C (tgs_cons (tg_nm (pg_name (i := 3) C.nd rfl (by first | exact .inl rfl | exact .inr rfl) (by first | exact .inr rfl | exact .inl rfl))) (tgs_cons (tg_nm (pg_name (i := 4) C.nd rfl (by first | exact .inl rfl | exact .inr rfl) (by first | exact .inr rfl | exact .inl rfl))) (tgs_cons (tg_nm (pg_name (i := 5) C.nd rfl (by first | exact .inl rfl | exact .inr rfl) (by first | exact .inr rfl | exact .inl rfl))) tgs_nil rfl) rfl) rfl) rfl rfl) rfl rfl rfl)
  (ss_cons (s_ite (t_cmp (op := .eq) C (k_var 0 rfl (by first | exact .inl rfl | exact .inr (.inl rfl) | exact .inr (.inr rfl)) rfl rfl) (p_lst C a_nil) rfl) (ss_cons (s_ret (p_lst C (a_cons (p_tup C (a_cons (k_var 3 rfl (by first | exact .inl rfl | exact .inr (.inl rfl) | exact .inr (.inr rfl)) rfl rfl) (a_cons (p_ite (t_cmp (op := .eq) C (k_var 5 rfl (by first | exact .inl rfl | exact .inr (.inl rfl) | exact .inr (.inr rfl)) rfl rfl) (k_int C) rfl) (k_int C) (k_var 4 rfl (by first | exact .inl rfl | exact .inr (.inl rfl) | exact .inr (.inr rfl)) rfl rfl)) (a_cons (k_var 5 rfl (by first | exact .inl rfl | exact .inr (.inl rfl) | exact .inr (.inr rfl)) rfl rfl) a_nil rfl) rfl) rfl)) a_nil rfl)))
  ss_nil) ss_nil)
  (ss_cons (s_asg (p_ix C (k_var 0 rfl (by first | exact .inl rfl | exact .inr (.inl rfl) | exact .inr (.inr rfl)) rfl rfl) (p_neg (k_int C)) (fun _ _ => rfl)) (tgp C (tgs_cons (tg_nm (pg_name (i := 6) C.nd rfl (by first | exact .inl rfl | exact .inr rfl) (by first | exact .inr rfl | exact .inl rfl))) (tgs_cons (tg_nm (pg_name (i := 7) C.nd rfl (by first | exact .inl rfl | exact .inr rfl) (by first | exact .inr rfl | exact .inl rfl))) (tgs_cons (tg_nm (pg_name (i := 8) C.nd rfl (by first | exact .inl rfl | exact .inr rfl) (by first | exact .inr rfl | exact .inl rfl))) tgs_nil rfl) rfl) rfl) rfl rfl) rfl rfl rfl)
  (ss_cons (s_asgO (i := 2) C rfl (by first | exact .inl rfl | exact .inr rfl) (p_bin (op := .sub) C (k_var 3 rfl (by first | exact .inl rfl | exact .inr (.inl rfl) | exact .inr (.inr rfl)) rfl rfl) (c_call c_last_of C rfl rfl hr rfl (aw_cons (p_ix C (k_var 0 rfl (by first | exact .inl rfl | exact .inr (.inl rfl) | exact .inr (.inr rfl)) rfl rfl) (p_neg (k_int C)) (fun _ _ => rfl)) aw_nil rfl) rfl rfl rfl)) rfl (by first | exact .inr rfl | exact .inl rfl))
  (ss_cons (s_ite (PW.pt (w_and (t_cmp (op := .gt) C (k_var 8 rfl (by first | exact .inl rfl | exact .inr (.inl rfl) | exact .inr (.inr rfl)) rfl rfl) (k_int C) rfl) (w_and1 (t_cmp (op := .ne) C (k_var 2 rfl (by first | exact .inl rfl | exact .inr (.inl rfl) | exact .inr (.inr rfl)) rfl rfl) (k_var 7 rfl (by first | exact .inl rfl | exact .inr (.inl rfl) | exact .inr (.inr rfl)) rfl rfl) rfl)))) (ss_cons (s_ret (p_bin (op := .add) C (k_var 0 rfl (by first | exact .inl rfl | exact .inr (.inl rfl) | exact .inr (.inr rfl)) rfl rfl) (p_lst C (a_cons (p_tup C (a_cons (k_var 3 rfl (by first | exact .inl rfl | exact .inr (.inl rfl) | exact .inr (.inr rfl)) rfl rfl) (a_cons (p_ite (t_cmp (op := .eq) C (k_var 5 rfl (by first | exact .inl rfl | exact .inr (.inl rfl) | exact .inr (.inr rfl)) rfl rfl) (k_int C) rfl) (k_int C) (k_var 4 rfl (by first | exact .inl rfl | exact .inr (.inl rfl) | exact .inr (.inr rfl)) rfl rfl)) (a_cons (k_var 5 rfl (by first | exact .inl rfl | exact .inr (.inl rfl) | exact .inr (.inr rfl)) rfl rfl) a_nil rfl) rfl) rfl)) a_nil rfl))))
  ss_nil) ss_nil)
  (ss_cons (s_ite (PW.pt (w_and (t_cmp (op := .eq) C (k_var 4 rfl (by first | exact .inl rfl | exact .inr (.inl rfl) | exact .inr (.inr rfl)) rfl rfl) (k_var 2 rfl (by first | exact .inl rfl | exact .inr (.inl rfl) | exact .inr (.inr rfl)) rfl rfl) rfl) (w_and1 (t_cmp (op := .ne) C (k_var 5 rfl (by first | exact .inl rfl | exact .inr (.inl rfl) | exact .inr (.inr rfl)) rfl rfl) (k_int C) rfl)))) (ss_cons (s_ret (p_bin (op := .add) C (p_slc C (k_var 0 rfl (by first | exact .inl rfl | exact .inr (.inl rfl) | exact .inr (.inr rfl)) rfl rfl) part0 (part1 (p_neg (k_int C)))) (p_lst C (a_cons (p_tup C (a_cons (k_var 6 rfl (by first | exact .inl rfl | exact .inr (.inl rfl) | exact .inr (.inr rfl)) rfl rfl) (a_cons (k_var 2 rfl (by first | exact .inl rfl | exact .inr (.inl rfl) | exact .inr (.inr rfl)) rfl rfl) (a_cons (p_ite (t_cmp (op := .is) C (k_var 5 rfl (by first | exact .inl rfl | exact .inr (.inl rfl) | exact .inr (.inr rfl)) rfl rfl) (k_non C) rfl) (k_non C) (p_bin (op := .add) C (k_var 8 rfl (by first | exact .inl rfl | exact .inr (.inl rfl) | exact .inr (.inr rfl)) rfl rfl) (k_var 5 rfl (by first | exact .inl rfl | exact .inr (.inl rfl) | exact .inr (.inr rfl)) rfl rfl))) a_nil rfl) rfl) rfl)) a_nil rfl))))
  ss_nil) ss_nil)
  (ss_cons (s_ret (p_bin (op := .add) C (p_bin (op := .add) C (p_slc C (k_var 0 rfl (by first | exact .inl rfl | exact .inr (.inl rfl) | exact .inr (.inr rfl)) rfl rfl) part0 (part1 (p_neg (k_int C)))) (p_lst C (a_cons (p_tup C (a_cons (k_var 6 rfl (by first | exact .inl rfl | exact .inr (.inl rfl) | exact .inr (.inr rfl)) rfl rfl) (a_cons (k_var 2 rfl (by first | exact .inl rfl | exact .inr (.inl rfl) | exact .inr (.inr rfl)) rfl rfl) (a_cons (p_bin (op := .add) C (k_var 8 rfl (by first | exact .inl rfl | exact .inr (.inl rfl) | exact .inr (.inr rfl)) rfl rfl) (k_int C)) a_nil rfl) rfl) rfl)) a_nil rfl))) (c_call c_without_first C rfl rfl hr rfl (aw_cons (k_var 1 rfl (by first | exact .inl rfl | exact .inr (.inl rfl) | exact .inr (.inr rfl)) rfl rfl) aw_nil rfl) rfl rfl rfl)))
  ss_nil)))))))
abbrev s_all_joined : Stmt := topS 16
theorem sc_all_joined : FnScope ["some", "found", "train"] ["some"] (defScope s_all_joined) := ⟨rfl, rfl, rfl, by decide +kernel, rfl, by decide +kernel, by decide +kernel⟩
theorem ok_all_joined {k : Nat} {f : Addr} {fd : FuncData} (T : Txt g mg) (F : Fun g.K "all_joined" "all_joined" s_all_joined f fd) (c_joined : Cal P w mg base g k "joined" 2 F_joined) : FnOk P w g.K mg base CX0 (k + 1) f fd ["some"] (spF g 1 F_all_joined) := by
  refine def_fn (fs := [F_joined]) F sc_all_joined rfl rfl T.tt fun cdv A outer s H E hr C => ?_
  exact (ss_cons (s_asgO (i := 1) C rfl (by first | exact .inl rfl | exact .inr rfl) (p_lst C a_nil) rfl (by first | exact .inr rfl | exact .inl rfl))
  (ss_cons (s_for C PassesOwn.never (i_seq C (k_var 0 rfl (by first | exact .inl rfl | exact .inr (.inl rfl) | exact .inr (.inr rfl)) rfl rfl)) (tg_nm (pg_name (i := 2) C.nd rfl (by first | exact .inl rfl | exact .inr rfl) (by first | exact .inr rfl | exact .inl rfl))) (ss_cons (s_asgO (i := 1) C rfl (by first | exact .inl rfl | exact .inr rfl) (p_bin (op := .add) C (p_slc C (k_var 1 rfl (by first | exact .inl rfl | exact .inr (.inl rfl) | exact .inr (.inr rfl)) rfl rfl) part0 (part1 (p_neg (k_int C)))) (c_call c_joined C rfl rfl hr rfl (aw_cons (p_slc C (k_var 1 rfl (by first | exact .inl rfl | exact .inr (.inl rfl) | exact .inr (.inr rfl)) rfl rfl) (part1 (p_neg (k_int C))) part0) (aw_cons (k_var 2 rfl (by first | exact .inl rfl | exact .inr (.inl rfl) | exact .inr (.inr rfl)) rfl rfl) aw_nil rfl) rfl) rfl rfl rfl)) rfl (by first | exact .inr rfl | exact .inl rfl))
  ss_nil) (fun _ => rfl))
  (ss_cons (s_ret (k_var 1 rfl (by first | exact .inl rfl | exact .inr (.inl rfl) | exact .inr (.inr rfl)) rfl rfl))
  ss_nil)))
abbrev s_Trains___init___x : Stmt := inClass (topS 17) 0
theorem sc_Trains___init___x : FnScope ["self", "trains"] ["self", "trains"] (defScope s_Trains___init___x) := ⟨rfl, rfl, rfl, by decide +kernel, rfl, by decide +kernel, by decide +kernel⟩
theorem ok_Trains___init___x {k : Nat} {f : Addr} {fd : FuncData} (T : Txt g mg) (F : Fun g.K "__init__" "Trains.__init__" s_Trains___init___x f fd) (cx_check_trains_x : CalX P w mg base g k "check_trains" 1 F_check_trains_x) (c_all_joined : Cal P w mg base g k "all_joined" 1 F_all_joined) : FnOk P w g.K mg base (L2.CX P w) (k + 1) f fd ["self", "trains"] (spX g 2 F_Trains___init___x) := by
  refine def_fnX (fs := [F_check_trains_x, F_all_joined]) F sc_Trains___init___x rfl rfl T.tt fun cdv A outer s H E hr C tk hp => ?_
  exact (ss_cons (sx_drop (cx_call cx_check_trains_x C tk rfl rfl hr rfl (aw_cons (k_var 1 rfl (by first | exact .inl rfl | exact .inr (.inl rfl) | exact .inr (.inr rfl)) rfl rfl) aw_nil rfl) rfl rfl rfl) rfl)
  (ss_cons (s_setf (c := 0) (i := 0) C (pe_var (i := 0) rfl (by first | exact .inl rfl | exact .inr (.inl rfl) | exact .inr (.inr rfl)) rfl rfl) (c_call c_all_joined C rfl rfl hr rfl (aw_cons (k_var 1 rfl (by first | exact .inl rfl | exact .inr (.inl rfl) | exact .inr (.inr rfl)) rfl rfl) aw_nil rfl) rfl rfl rfl) ⟨T.x_Trains.cl, T.na_Trains_listed⟩ rfl)
  ss_nil))
abbrev s__law_told : Stmt := topS 26
theorem sc__law_told : FnScope ["_law_value", "error", "_law_found", "_law_kept"] ["_law_value"] (defScope s__law_told) := ⟨rfl, rfl, rfl, by decide +kernel, rfl, by decide +kernel, by decide +kernel⟩
theorem ok__law_told {k : Nat} {f : Addr} {oc kV dc pm cv ct : Value} {od an : Option Addr} {sl : Array (Option Value)} (T : Txt g mg) (lk : g.K.lookup f = some ⟨oc, od, .func (PySem.W.fnOf "_law_told" "_law_told" (defArgs s__law_told) (defBody s__law_told) (defScope s__law_told) .none kV dc pm an cv ct), sl⟩) (hcd : PySem.W.codeIn g.K cv "_law_told" = true) (hB : SmB base) (jx_Trains : MkdX P w mg base g k 0 "Trains" 1 F_Trains___init___x) : FnG P w g.K mg base CX0 (k + 2) f (PySem.W.fnOf "_law_told" "_law_told" (defArgs s__law_told) (defBody s__law_told) (defScope s__law_told) .none kV dc pm an cv ct) ["_law_value"] (spF g 1 F__law_told) := by
  refine def_fnG (c := 0) (fs := [F_Trains___init___x]) lk hcd sc__law_told rfl rfl T.tt fun A outer s H E hgd hr1 C => ?_
  have hr := hr1.mono (Nat.le_succ k)
  exact (ss_cons (s_par2 (i := 2) (j := 3) C rfl rfl (by decide) rfl rfl (an_cons C (k_str C) (an_cons C (k_rpr C hgd hB (a_cons (k_var 0 rfl (by first | exact .inl rfl | exact .inr (.inl rfl) | exact .inr (.inr rfl)) rfl rfl) a_nil rfl) rfl rfl (T.z_repr) rfl) an_nil rfl) rfl) rfl rfl)
  (ss_cons (s_try (i := 1) (all := [12]) C rfl rfl rfl rfl ⟨rfl, rfl, .inl T.n_InvalidTrains⟩ (all_cons T.xm_InvalidTrains_InvalidTrains (all_nil _)) (fun W pnl xe tk => (pxs_mk jx_Trains (by first | exact ((Cok.tr C _ _)).c0 | exact (Cok.tr C _ _)) tk rfl rfl hr1 rfl (aw_cons (k_var 0 rfl (by first | exact .inl rfl | exact .inr (.inl rfl) | exact .inr (.inr rfl)) rfl rfl) aw_nil rfl) rfl rfl rfl)) rfl (fun a oe pnl c dd hz hf => by
    have hK := C.K
    have C := Cok.su C c a dd ((a, oe) :: pnl)
    exact (ss_cons (s_asgO (i := 2) C rfl (by first | exact .inl rfl | exact .inr rfl) (p_ite (PW.pt (w_or (t_val C (p_xis (all := [12]) (cs := []) (all_cons ⟨T.xe_InvalidTrains, T.xk_InvalidTrains_InvalidBound⟩ (all_nil _)) (.own _) hK hz hf (pe_var (i := 1) rfl (by first | exact .inl rfl | exact .inr (.inl rfl) | exact .inr (.inr rfl)) rfl rfl) (pe_glob (v := .ref (g.cl 14)) rfl T.n_InvalidBound rfl rfl) rfl (T.z_isinstance) rfl rfl) (fun _ => rfl)) (w_or1 (t_not (t_val C (p_xis (all := [12]) (cs := [12]) (all_cons ⟨T.xe_InvalidTrains, T.xk_InvalidTrains_ArithmeticError⟩ (all_nil _)) (.ty _) hK hz hf (pe_var (i := 1) rfl (by first | exact .inl rfl | exact .inr (.inl rfl) | exact .inr (.inr rfl)) rfl rfl) (pe_bltn (v := .ty "ArithmeticError") rfl (T.z_ArithmeticError) PyProof.Rows.Boot.«ArithmeticError» rfl (by decide) rfl) rfl (T.z_isinstance) rfl rfl) (fun _ => rfl)))))) (k_str C) (p_xfld (all := [12]) (all_cons ⟨T.xf_InvalidTrains, T.xn_InvalidTrains_at⟩ (all_nil _)) hK hz hf (pe_var (i := 1) rfl (by first | exact .inl rfl | exact .inr (.inl rfl) | exact .inr (.inr rfl)) rfl rfl) rfl)) rfl (by first | exact .inr rfl | exact .inl rfl))
  ss_nil)))
  (ss_cons (s_ret (p_ite (t_cmp (op := .eq) C (k_rpr C hgd hB (a_cons (k_var 0 rfl (by first | exact .inl rfl | exact .inr (.inl rfl) | exact .inr (.inr rfl)) rfl rfl) a_nil rfl) rfl rfl (T.z_repr) rfl) (k_var 3 rfl (by first | exact .inl rfl | exact .inr (.inl rfl) | exact .inr (.inr rfl)) rfl rfl) rfl) (k_var 2 rfl (by first | exact .inl rfl | exact .inr (.inl rfl) | exact .inr (.inr rfl)) rfl rfl) (k_str C)))
  ss_nil)))
abbrev s_check_trains : Stmt := topS 13
theorem sc_check_trains : FnScope ["trains", "at", "train"] ["trains"] (defScope s_check_trains) := ⟨rfl, rfl, rfl, by decide +kernel, rfl, by decide +kernel, by decide +kernel⟩
theorem ok_check_trains {k : Nat} {f : Addr} {fd : FuncData} (T : Txt g mg) (F : Fun g.K "check_trains" "check_trains" s_check_trains f fd) (c_is_train : Cal P w mg base g k "is_train" 1 F_is_train) (c_last_of : Cal P w mg base g k "last_of" 1 F_last_of) : FnOk P w g.K mg base CX0 (k + 1) f fd ["trains"] (spF g 1 F_check_trains) := by
  refine def_fn (fs := [F_is_train, F_last_of]) F sc_check_trains rfl rfl T.tt fun cdv A outer s H E hr C => ?_
  exact (ss_cons (s_ite (PW.pt (w_or (t_not (t_val C (p_isi (t := .list) C (k_var 0 rfl (by first | exact .inl rfl | exact .inr (.inl rfl) | exact .inr (.inr rfl)) rfl rfl) (ty_list (T.z_list) rfl) rfl (T.z_isinstance) rfl rfl) (fun _ => rfl))) (w_or1 (t_cmp (op := .gt) C (k_len C (a_cons (k_var 0 rfl (by first | exact .inl rfl | exact .inr (.inl rfl) | exact .inr (.inr rfl)) rfl rfl) a_nil rfl) rfl rfl (T.z_len) rfl) (k_gint C T.g_MOST_TRAINS rfl rfl) rfl)))) (ss_cons s_stuck
  ss_nil) ss_nil)
  (ss_cons (s_for C PassesOwn.never (i_enum C rfl (T.z_enumerate) (a_cons (k_var 0 rfl (by first | exact .inl rfl | exact .inr (.inl rfl) | exact .inr (.inr rfl)) rfl rfl) a_nil rfl) rfl) (tgp C (tgs_cons (tg_nm (pg_name (i := 1) C.nd rfl (by first | exact .inl rfl | exact .inr rfl) (by first | exact .inr rfl | exact .inl rfl))) (tgs_cons (tg_nm (pg_name (i := 2) C.nd rfl (by first | exact .inl rfl | exact .inr rfl) (by first | exact .inr rfl | exact .inl rfl))) tgs_nil rfl) rfl) rfl rfl) (ss_cons (s_ite (t_not (t_val C (c_call c_is_train C rfl rfl hr rfl (aw_cons (k_var 2 rfl (by first | exact .inl rfl | exact .inr (.inl rfl) | exact .inr (.inr rfl)) rfl rfl) aw_nil rfl) rfl rfl rfl) (fun _ => rfl))) (ss_cons s_stuck
  ss_nil) ss_nil)
  (ss_cons (s_ite (PW.pt (w_and (t_cmp (op := .gt) C (k_var 1 rfl (by first | exact .inl rfl | exact .inr (.inl rfl) | exact .inr (.inr rfl)) rfl rfl) (k_int C) rfl) (w_and1 (PW.pt (w_or (t_cmp (op := .is) C (p_ix C (p_ix C (k_var 0 rfl (by first | exact .inl rfl | exact .inr (.inl rfl) | exact .inr (.inr rfl)) rfl rfl) (p_bin (op := .sub) C (k_var 1 rfl (by first | exact .inl rfl | exact .inr (.inl rfl) | exact .inr (.inr rfl)) rfl rfl) (k_int C)) (fun _ _ => rfl)) (k_int C) (fun _ _ => rfl)) (k_non C) rfl) (w_or1 (t_cmp (op := .ge) C (c_call c_last_of C rfl rfl hr rfl (aw_cons (p_ix C (k_var 0 rfl (by first | exact .inl rfl | exact .inr (.inl rfl) | exact .inr (.inr rfl)) rfl rfl) (p_bin (op := .sub) C (k_var 1 rfl (by first | exact .inl rfl | exact .inr (.inl rfl) | exact .inr (.inr rfl)) rfl rfl) (k_int C)) (fun _ _ => rfl)) aw_nil rfl) rfl rfl rfl) (p_ix C (k_var 2 rfl (by first | exact .inl rfl | exact .inr (.inl rfl) | exact .inr (.inr rfl)) rfl rfl) (k_int C) (fun _ _ => rfl)) rfl))))))) (ss_cons s_stuck
  ss_nil) ss_nil)
  ss_nil)) (fun _ => rfl))
  ss_nil))
abbrev s_Trains___init__ : Stmt := inClass (topS 17) 0
theorem sc_Trains___init__ : FnScope ["self", "trains"] ["self", "trains"] (defScope s_Trains___init__) := ⟨rfl, rfl, rfl, by decide +kernel, rfl, by decide +kernel, by decide +kernel⟩
theorem ok_Trains___init__ {k : Nat} {f : Addr} {fd : FuncData} (T : Txt g mg) (F : Fun g.K "__init__" "Trains.__init__" s_Trains___init__ f fd) (c_check_trains : Cal P w mg base g k "check_trains" 1 F_check_trains) (c_all_joined : Cal P w mg base g k "all_joined" 1 F_all_joined) : FnOk P w g.K mg base CX0 (k + 1) f fd ["self", "trains"] (spF g 2 F_Trains___init__) := by
  refine def_fn (fs := [F_check_trains, F_all_joined]) F sc_Trains___init__ rfl rfl T.tt fun cdv A outer s H E hr C => ?_
  exact (ss_cons (s_expr (c_call c_check_trains C rfl rfl hr rfl (aw_cons (k_var 1 rfl (by first | exact .inl rfl | exact .inr (.inl rfl) | exact .inr (.inr rfl)) rfl rfl) aw_nil rfl) rfl rfl rfl) rfl)
  (ss_cons (s_setf (c := 0) (i := 0) C (pe_var (i := 0) rfl (by first | exact .inl rfl | exact .inr (.inl rfl) | exact .inr (.inr rfl)) rfl rfl) (c_call c_all_joined C rfl rfl hr rfl (aw_cons (k_var 1 rfl (by first | exact .inl rfl | exact .inr (.inl rfl) | exact .inr (.inr rfl)) rfl rfl) aw_nil rfl) rfl rfl rfl) ⟨T.x_Trains.cl, T.na_Trains_listed⟩ rfl)
  ss_nil))
abbrev s_Trains___eq__ : Stmt := inClass (topS 17) 1
theorem sc_Trains___eq__ : FnScope ["self", "other"] ["self", "other"] (defScope s_Trains___eq__) := ⟨rfl, rfl, rfl, by decide +kernel, rfl, by decide +kernel, by decide +kernel⟩
theorem ok_Trains___eq__ {k : Nat} {f : Addr} {fd : FuncData} (T : Txt g mg) (F : Fun g.K "__eq__" "Trains.__eq__" s_Trains___eq__ f fd)  : FnOk P w g.K mg base CX0 (k + 1) f fd ["self", "other"] (spF g 2 F_Trains___eq__) := by
  refine def_fn (fs := []) F sc_Trains___eq__ rfl rfl T.tt fun cdv A outer s H E hr C => ?_
  exact (ss_cons (s_ret (p_and C (p_isc (all_cons ⟨T.x_Trains, T.kit_Trains_Trains⟩ (all_nil _)) T.kp_Trains C (k_var 1 rfl (by first | exact .inl rfl | exact .inr (.inl rfl) | exact .inr (.inr rfl)) rfl rfl) rfl T.n_Trains rfl rfl (T.z_isinstance) rfl rfl) (p_one (p_cmp (op := .eq) C (p_fld C (k_var 0 rfl (by first | exact .inl rfl | exact .inr (.inl rfl) | exact .inr (.inr rfl)) rfl rfl) (all_cons ⟨T.x_Trains.cl, T.na_Trains_listed⟩ (all_nil _)) rfl) (p_fld C (k_var 1 rfl (by first | exact .inl rfl | exact .inr (.inl rfl) | exact .inr (.inr rfl)) rfl rfl) (all_cons ⟨T.x_Trains.cl, T.na_Trains_listed⟩ (all_nil _)) rfl) rfl))))
  ss_nil)
abbrev s__law_odd : Stmt := topS 27
theorem sc__law_odd : FnScope ["_law_source", "_law_early", "_law_some"] ["_law_source", "_law_early"] (defScope s__law_odd) := ⟨rfl, rfl, rfl, by decide +kernel, rfl, by decide +kernel, by decide +kernel⟩
theorem ok__law_odd {k : Nat} {f : Addr} {fd : FuncData} (T : Txt g mg) (F : Fun g.K "_law_odd" "_law_odd" s__law_odd f fd) (c__law_choice : Cal P w mg base g k "_law_choice" 2 F__law_choice) : FnOk P w g.K mg base CX0 (k + 1) f fd ["_law_source", "_law_early"] (spF g 2 F__law_odd) := by
  refine def_fn (fs := [F__law_choice]) F sc__law_odd rfl rfl T.tt fun cdv A outer s H E hr C => ?_
  exact (ss_cons (s_asg (p_lst C (a_cons (k_non C) (a_cons (k_int C) (a_cons (k_str C) (a_cons (p_tup C a_nil) (a_cons (p_tup C (a_cons (k_int C) (a_cons (k_int C) a_nil rfl) rfl)) (a_cons (p_tup C (a_cons (k_int C) (a_cons (k_int C) (a_cons (k_int C) (a_cons (k_int C) a_nil rfl) rfl) rfl) rfl)) (a_cons (p_lst C (a_cons (k_int C) (a_cons (k_int C) (a_cons (k_int C) a_nil rfl) rfl) rfl)) (a_cons (p_tup C (a_cons (p_neg (k_int C)) (a_cons (k_int C) (a_cons (k_int C) a_nil rfl) rfl) rfl)) (a_cons (p_tup C (a_cons (k_int C) (a_cons (k_int C) (a_cons (k_int C) a_nil rfl) rfl) rfl)) (a_cons (p_tup C (a_cons (k_int C) (a_cons (k_int C) (a_cons (k_int C) a_nil rfl) rfl) rfl)) (a_cons (p_tup C (a_cons (k_int C) (a_cons (k_int C) (a_cons (p_neg (k_int C)) a_nil rfl) rfl) rfl)) a_nil rfl) rfl) rfl) rfl) rfl) rfl) rfl) rfl) rfl) rfl) rfl)) (tg_nm (pg_name (i := 2) C.nd rfl (by first | exact .inl rfl | exact .inr rfl) (by first | exact .inr rfl | exact .inl rfl))) rfl rfl rfl)
  (ss_cons (s_asg (p_bin (op := .add) C (k_var 2 rfl (by first | exact .inl rfl | exact .inr (.inl rfl) | exact .inr (.inr rfl)) rfl rfl) (p_lst C (a_cons (p_tup C (a_cons (k_bl C) (a_cons (k_int C) (a_cons (k_int C) a_nil rfl) rfl) rfl)) (a_cons (p_tup C (a_cons (k_int C) (a_cons (k_bl C) (a_cons (k_int C) a_nil rfl) rfl) rfl)) (a_cons (p_tup C (a_cons (k_int C) (a_cons (k_int C) (a_cons (k_bl C) a_nil rfl) rfl) rfl)) (a_cons (p_tup C (a_cons (k_str C) (a_cons (k_int C) (a_cons (k_int C) a_nil rfl) rfl) rfl)) (a_cons (p_tup C (a_cons (k_int C) (a_cons (k_non C) (a_cons (k_int C) a_nil rfl) rfl) rfl)) (a_cons (p_tup C (a_cons (k_non C) (a_cons (k_int C) (a_cons (k_int C) a_nil rfl) rfl) rfl)) (a_cons (p_tup C (a_cons (k_int C) (a_cons (k_int C) (a_cons (k_str C) a_nil rfl) rfl) rfl)) (a_cons (p_dct) a_nil rfl) rfl) rfl) rfl) rfl) rfl) rfl) rfl))) (tg_nm (pg_name (i := 2) C.nd rfl (by first | exact .inl rfl | exact .inr rfl) (by first | exact .inr rfl | exact .inl rfl))) rfl rfl rfl)
  (ss_cons (s_ret (c_call c__law_choice C rfl rfl hr rfl (aw_cons (k_var 0 rfl (by first | exact .inl rfl | exact .inr (.inl rfl) | exact .inr (.inr rfl)) rfl rfl) (aw_cons (p_bin (op := .add) C (k_var 2 rfl (by first | exact .inl rfl | exact .inr (.inl rfl) | exact .inr (.inr rfl)) rfl rfl) (p_bin (op := .mul) C (p_lst C (a_cons (p_tup C (a_cons (k_var 1 rfl (by first | exact .inl rfl | exact .inr (.inl rfl) | exact .inr (.inr rfl)) rfl rfl) (a_cons (k_int C) (a_cons (k_int C) a_nil rfl) rfl) rfl)) a_nil rfl)) (k_int C))) aw_nil rfl) rfl) rfl rfl rfl))
  ss_nil)))
abbrev s_law : Stmt := topS 28
theorem sc_law : FnScope ["_law_script", "_law_cell", "_law_source", "_law_rows_here", "_law_repeat", "_law_odd_here", "_law_at", "_law_early", "_law_bent", "_law_start", "_law_step", "_law_count"] ["_law_script"] (defScope s_law) := ⟨rfl, rfl, rfl, by decide +kernel, rfl, by decide +kernel, by decide +kernel⟩
theorem ok_law {k : Nat} {f : Addr} {oc kV dc pm cv ct : Value} {od an : Option Addr} {sl : Array (Option Value)} (T : Txt g mg) (lk : g.K.lookup f = some ⟨oc, od, .func (PySem.W.fnOf "law" "law" (defArgs s_law) (defBody s_law) (defScope s_law) .none kV dc pm an cv ct), sl⟩) (hcd : PySem.W.codeIn g.K cv "law" = true) (hB : SmB base) (c__law_cell_at : Cal P w mg base g k "_law_cell_at" 2 F__law_cell_at) (c__law_source_of : Cal P w mg base g k "_law_source_of" 1 F__law_source_of) (c__law_rows : Cal P w mg base g k "_law_rows" 3 F__law_rows) (cg__law_told : CalG P w mg base g k "_law_told" 1 F__law_told) (ik_Trains_0_trains : MkdK P w mg base g k 0 "Trains" 0 ["trains"] [0] [] F_Trains___init__) (i_Trains : Mkd P w mg base g k 0 "Trains" 1 F_Trains___init__) (m_Trains___eq__ : Mtd P w mg base g k 0 "__eq__" 2 F_Trains___eq__) (c__law_draw : Cal P w mg base g k "_law_draw" 2 F__law_draw) (c__law_odd : Cal P w mg base g k "_law_odd" 2 F__law_odd) : FnG P w g.K mg base CX0 (k + 2) f (PySem.W.fnOf "law" "law" (defArgs s_law) (defBody s_law) (defScope s_law) .none kV dc pm an cv ct) ["_law_script"] (spF g 1 F_law) := by
  refine def_fnG (c := 0) (fs := [F__law_cell_at, F__law_source_of, F__law_rows, F__law_told, F_Trains___init__, F_Trains___eq__, F__law_draw, F__law_odd]) lk hcd sc_law rfl rfl T.tt fun A outer s H E hgd hr1 C => ?_
  have hr := hr1.mono (Nat.le_succ k)
  exact (ss_cons (s_for C PassesOwn.never (i_seq C (p_bin (op := .add) C (p_lst C (a_cons (c_call c__law_cell_at C rfl rfl hr rfl (aw_cons (k_var 0 rfl (by first | exact .inl rfl | exact .inr (.inl rfl) | exact .inr (.inr rfl)) rfl rfl) (aw_cons (k_int C) aw_nil rfl) rfl) rfl rfl rfl) a_nil rfl)) (p_slc C (k_var 0 rfl (by first | exact .inl rfl | exact .inr (.inl rfl) | exact .inr (.inr rfl)) rfl rfl) (part1 (k_int C)) (part1 (k_int C))))) (tg_nm (pg_name (i := 1) C.nd rfl (by first | exact .inl rfl | exact .inr rfl) (by first | exact .inr rfl | exact .inl rfl))) (ss_cons (s_asgO (i := 2) C rfl (by first | exact .inl rfl | exact .inr rfl) (c_call c__law_source_of C rfl rfl hr rfl (aw_cons (k_var 1 rfl (by first | exact .inl rfl | exact .inr (.inl rfl) | exact .inr (.inr rfl)) rfl rfl) aw_nil rfl) rfl rfl rfl) rfl (by first | exact .inr rfl | exact .inl rfl))
  (ss_cons (s_asg (p_bin (op := .add) C (p_lst C (a_cons (p_tup C (a_cons (k_int C) (a_cons (k_int C) (a_cons (k_int C) a_nil rfl) rfl) rfl)) a_nil rfl)) (p_comp C (i_seq C (c_call c__law_rows C rfl rfl hr rfl (aw_cons (k_var 2 rfl (by first | exact .inl rfl | exact .inr (.inl rfl) | exact .inr (.inr rfl)) rfl rfl) (aw_cons (k_int C) (aw_cons (k_int C) aw_nil rfl) rfl) rfl) rfl rfl rfl)) (blkOk_by (own := [("_law_start", 9), ("_law_step", 10), ("_law_count", 11)]) rfl) (fun _ _ _ _ _ => (tgp (by first | exact ((C.blk _ _ _ _ _)).c0 | exact (C.blk _ _ _ _ _)) (tgs_cons (tg_nm (pg_name (i := 9) (C.blk _ _ _ _ _).nd rfl (by first | exact .inl rfl | exact .inr rfl) (by first | exact .inr rfl | exact .inl rfl))) (tgs_cons (tg_nm (pg_name (i := 10) (C.blk _ _ _ _ _).nd rfl (by first | exact .inl rfl | exact .inr rfl) (by first | exact .inr rfl | exact .inl rfl))) (tgs_cons (tg_nm (pg_name (i := 11) (C.blk _ _ _ _ _).nd rfl (by first | exact .inl rfl | exact .inr rfl) (by first | exact .inr rfl | exact .inl rfl))) tgs_nil rfl) rfl) rfl) rfl rfl)) (fun _ _ _ _ _ => c_nil) (fun _ _ _ _ _ => (p_tup (by first | exact ((C.blk _ _ _ _ _)).c0 | exact (C.blk _ _ _ _ _)) (a_cons (p_bin (op := .add) (by first | exact ((C.blk _ _ _ _ _)).c0 | exact (C.blk _ _ _ _ _)) (k_var 9 rfl (by first | exact .inl rfl | exact .inr (.inl rfl) | exact .inr (.inr rfl)) rfl rfl) (k_int (by first | exact ((C.blk _ _ _ _ _)).c0 | exact (C.blk _ _ _ _ _)))) (a_cons (k_var 10 rfl (by first | exact .inl rfl | exact .inr (.inl rfl) | exact .inr (.inr rfl)) rfl rfl) (a_cons (k_var 11 rfl (by first | exact .inl rfl | exact .inr (.inl rfl) | exact .inr (.inr rfl)) rfl rfl) a_nil rfl) rfl) rfl))) (fun _ => rfl))) (tg_nm (pg_name (i := 3) C.nd rfl (by first | exact .inl rfl | exact .inr rfl) (by first | exact .inr rfl | exact .inl rfl))) rfl rfl rfl)
  (ss_cons (s_ite (PW.pt (w_or (t_cmp (op := .ne) C (c_callG cg__law_told hgd C rfl rfl hr rfl (aw_cons (k_var 3 rfl (by first | exact .inl rfl | exact .inr (.inl rfl) | exact .inr (.inr rfl)) rfl rfl) aw_nil rfl) rfl rfl rfl) (k_str C) rfl) (w_or1 (t_ownNe T.x_Trains m_Trains___eq__ T.ne_Trains C rfl hr1 (p_mkK0 ik_Trains_0_trains C rfl rfl hr1 rfl (kf_cons (k_var 3 rfl (by first | exact .inl rfl | exact .inr (.inl rfl) | exact .inr (.inr rfl)) rfl rfl) kf_nil) rfl rfl rfl rfl) (p_mk i_Trains C rfl rfl hr1 rfl (aw_cons (k_var 3 rfl (by first | exact .inl rfl | exact .inr (.inl rfl) | exact .inr (.inr rfl)) rfl rfl) aw_nil rfl) rfl rfl rfl) rfl)))) (ss_cons (s_ret (k_bl C))
  ss_nil) ss_nil)
  (ss_cons (s_for C PassesOwn.never (i_rng1 C rfl (T.z_range) (a_cons (k_int C) a_nil rfl) rfl) (tg_nm (pg_name (i := 4) C.nd rfl (by first | exact .inl rfl | exact .inr rfl) (by first | exact .inr rfl | exact .inl rfl))) (ss_cons (s_asg (p_bin (op := .add) C (k_int C) (c_call c__law_draw C rfl rfl hr rfl (aw_cons (k_var 2 rfl (by first | exact .inl rfl | exact .inr (.inl rfl) | exact .inr (.inr rfl)) rfl rfl) (aw_cons (k_len C (a_cons (k_var 3 rfl (by first | exact .inl rfl | exact .inr (.inl rfl) | exact .inr (.inr rfl)) rfl rfl) a_nil rfl) rfl rfl (T.z_len) rfl) aw_nil rfl) rfl) rfl rfl rfl)) (tg_nm (pg_name (i := 6) C.nd rfl (by first | exact .inl rfl | exact .inr rfl) (by first | exact .inr rfl | exact .inl rfl))) rfl rfl rfl)
  (ss_cons (s_asg (p_ix C (k_var 3 rfl (by first | exact .inl rfl | exact .inr (.inl rfl) | exact .inr (.inr rfl)) rfl rfl) (p_bin (op := .sub) C (k_var 6 rfl (by first | exact .inl rfl | exact .inr (.inl rfl) | exact .inr (.inr rfl)) rfl rfl) (k_int C)) (fun _ _ => rfl)) (tgp C (tgs_cons (tg_nm (pg_name (i := 9) C.nd rfl (by first | exact .inl rfl | exact .inr rfl) (by first | exact .inr rfl | exact .inl rfl))) (tgs_cons (tg_nm (pg_name (i := 10) C.nd rfl (by first | exact .inl rfl | exact .inr rfl) (by first | exact .inr rfl | exact .inl rfl))) (tgs_cons (tg_nm (pg_name (i := 11) C.nd rfl (by first | exact .inl rfl | exact .inr rfl) (by first | exact .inr rfl | exact .inl rfl))) tgs_nil rfl) rfl) rfl) rfl rfl) rfl rfl rfl)
  (ss_cons (s_asg (p_bin (op := .add) C (k_var 9 rfl (by first | exact .inl rfl | exact .inr (.inl rfl) | exact .inr (.inr rfl)) rfl rfl) (p_bin (op := .mul) C (k_var 10 rfl (by first | exact .inl rfl | exact .inr (.inl rfl) | exact .inr (.inr rfl)) rfl rfl) (c_call c__law_draw C rfl rfl hr rfl (aw_cons (k_var 2 rfl (by first | exact .inl rfl | exact .inr (.inl rfl) | exact .inr (.inr rfl)) rfl rfl) (aw_cons (p_ite (t_cmp (op := .is) C (k_var 11 rfl (by first | exact .inl rfl | exact .inr (.inl rfl) | exact .inr (.inr rfl)) rfl rfl) (k_non C) rfl) (k_int C) (k_var 11 rfl (by first | exact .inl rfl | exact .inr (.inl rfl) | exact .inr (.inr rfl)) rfl rfl)) aw_nil rfl) rfl) rfl rfl rfl))) (tg_nm (pg_name (i := 7) C.nd rfl (by first | exact .inl rfl | exact .inr rfl) (by first | exact .inr rfl | exact .inl rfl))) rfl rfl rfl)
  (ss_cons (s_asg (p_bin (op := .add) C (p_bin (op := .add) C (p_slc C (k_var 3 rfl (by first | exact .inl rfl | exact .inr (.inl rfl) | exact .inr (.inr rfl)) rfl rfl) part0 (part1 (k_var 6 rfl (by first | exact .inl rfl | exact .inr (.inl rfl) | exact .inr (.inr rfl)) rfl rfl))) (p_lst C (a_cons (c_call c__law_odd C rfl rfl hr rfl (aw_cons (k_var 2 rfl (by first | exact .inl rfl | exact .inr (.inl rfl) | exact .inr (.inr rfl)) rfl rfl) (aw_cons (k_var 7 rfl (by first | exact .inl rfl | exact .inr (.inl rfl) | exact .inr (.inr rfl)) rfl rfl) aw_nil rfl) rfl) rfl rfl rfl) a_nil rfl))) (p_slc C (k_var 3 rfl (by first | exact .inl rfl | exact .inr (.inl rfl) | exact .inr (.inr rfl)) rfl rfl) (part1 (k_var 6 rfl (by first | exact .inl rfl | exact .inr (.inl rfl) | exact .inr (.inr rfl)) rfl rfl)) part0)) (tg_nm (pg_name (i := 8) C.nd rfl (by first | exact .inl rfl | exact .inr rfl) (by first | exact .inr rfl | exact .inl rfl))) rfl rfl rfl)
  (ss_cons (s_ite (PW.pt (w_or (t_cmp (op := .ne) C (c_callG cg__law_told hgd C rfl rfl hr rfl (aw_cons (k_var 8 rfl (by first | exact .inl rfl | exact .inr (.inl rfl) | exact .inr (.inr rfl)) rfl rfl) aw_nil rfl) rfl rfl rfl) (k_var 6 rfl (by first | exact .inl rfl | exact .inr (.inl rfl) | exact .inr (.inr rfl)) rfl rfl) rfl) (w_or1 (t_cmp (op := .ne) C (c_callG cg__law_told hgd C rfl rfl hr rfl (aw_cons (p_shr (p_bin (op := .add) C (p_bin (op := .mul) C (p_lst C (a_cons (p_ix C (k_var 8 rfl (by first | exact .inl rfl | exact .inr (.inl rfl) | exact .inr (.inr rfl)) rfl rfl) (k_var 6 rfl (by first | exact .inl rfl | exact .inr (.inl rfl) | exact .inr (.inr rfl)) rfl rfl) (fun _ _ => rfl)) a_nil rfl)) (k_int1 C (a_cons (p_cmp (op := .ne) C (p_ix C (k_var 8 rfl (by first | exact .inl rfl | exact .inr (.inl rfl) | exact .inr (.inr rfl)) rfl rfl) (k_var 6 rfl (by first | exact .inl rfl | exact .inr (.inl rfl) | exact .inr (.inr rfl)) rfl rfl) (fun _ _ => rfl)) (p_tup C (a_cons (k_var 7 rfl (by first | exact .inl rfl | exact .inr (.inl rfl) | exact .inr (.inr rfl)) rfl rfl) (a_cons (k_int C) (a_cons (k_int C) a_nil rfl) rfl) rfl)) rfl) a_nil rfl) rfl rfl (T.z_int) rfl)) (p_lst C (a_cons (k_non C) a_nil rfl)))) aw_nil rfl) rfl rfl rfl) (k_int C) rfl)))) (ss_cons (s_ret (k_bl C))
  ss_nil) ss_nil)
  ss_nil))))) (fun _ => rfl))
  (ss_cons (s_for C PassesOwn.never (i_seq C (p_tup C (a_cons (k_non C) (a_cons (k_int C) (a_cons (k_str C) (a_cons (p_tup C a_nil) (a_cons (k_tuple C (a_cons (k_var 3 rfl (by first | exact .inl rfl | exact .inr (.inl rfl) | exact .inr (.inr rfl)) rfl rfl) a_nil rfl) rfl rfl (T.z_tuple) rfl) (a_cons (p_dct) (a_cons (k_bl C) (a_cons (p_comp C (i_rng1 C rfl (T.z_range) (a_cons (k_int C) a_nil rfl) rfl) (blkOk_by (own := [("_law_at", 6)]) rfl) (fun _ _ _ _ _ => (tg_nm (pg_name (i := 6) (C.blk _ _ _ _ _).nd rfl (by first | exact .inl rfl | exact .inr rfl) (by first | exact .inr rfl | exact .inl rfl)))) (fun _ _ _ _ _ => c_nil) (fun _ _ _ _ _ => (p_tup (by first | exact ((C.blk _ _ _ _ _)).c0 | exact (C.blk _ _ _ _ _)) (a_cons (k_var 6 rfl (by first | exact .inl rfl | exact .inr (.inl rfl) | exact .inr (.inr rfl)) rfl rfl) (a_cons (k_int (by first | exact ((C.blk _ _ _ _ _)).c0 | exact (C.blk _ _ _ _ _))) (a_cons (k_int (by first | exact ((C.blk _ _ _ _ _)).c0 | exact (C.blk _ _ _ _ _))) a_nil rfl) rfl) rfl))) (fun _ => rfl)) a_nil rfl) rfl) rfl) rfl) rfl) rfl) rfl) rfl))) (tg_nm (pg_name (i := 5) C.nd rfl (by first | exact .inl rfl | exact .inr rfl) (by first | exact .inr rfl | exact .inl rfl))) (ss_cons (s_ite (t_cmp (op := .ne) C (c_callG cg__law_told hgd C rfl rfl hr rfl (aw_cons (k_var 5 rfl (by first | exact .inl rfl | exact .inr (.inl rfl) | exact .inr (.inr rfl)) rfl rfl) aw_nil rfl) rfl rfl rfl) (p_neg (k_int C)) rfl) (ss_cons (s_ret (k_bl C))
  ss_nil) ss_nil)
  ss_nil) (fun _ => rfl))
  (ss_cons (s_ite (t_cmp (op := .ne) C (c_callG cg__law_told hgd C rfl rfl hr rfl (aw_cons (p_shr (p_comp C (i_rng1 C rfl (T.z_range) (a_cons (k_int C) a_nil rfl) rfl) (blkOk_by (own := [("_law_at", 6)]) rfl) (fun _ _ _ _ _ => (tg_nm (pg_name (i := 6) (C.blk _ _ _ _ _).nd rfl (by first | exact .inl rfl | exact .inr rfl) (by first | exact .inr rfl | exact .inl rfl)))) (fun _ _ _ _ _ => c_nil) (fun _ _ _ _ _ => (p_tup (by first | exact ((C.blk _ _ _ _ _)).c0 | exact (C.blk _ _ _ _ _)) (a_cons (p_bin (op := .mul) (by first | exact ((C.blk _ _ _ _ _)).c0 | exact (C.blk _ _ _ _ _)) (k_int (by first | exact ((C.blk _ _ _ _ _)).c0 | exact (C.blk _ _ _ _ _))) (k_var 6 rfl (by first | exact .inl rfl | exact .inr (.inl rfl) | exact .inr (.inr rfl)) rfl rfl)) (a_cons (k_int (by first | exact ((C.blk _ _ _ _ _)).c0 | exact (C.blk _ _ _ _ _))) (a_cons (k_int (by first | exact ((C.blk _ _ _ _ _)).c0 | exact (C.blk _ _ _ _ _))) a_nil rfl) rfl) rfl))) (fun _ => rfl))) aw_nil rfl) rfl rfl rfl) (k_str C) rfl) (ss_cons (s_ret (k_bl C))
  ss_nil) ss_nil)
  ss_nil)))))) (fun _ => rfl))
  (ss_cons (s_ret (k_bl C))
  ss_nil))
end
theorem all_mk {l : PySem.W.OpenLaw} {w : World} {K : PySem.W.Frag} {h : Heap} {mg mb : Str → Option Value} {qv : Program} {lo : List Str} {mean : ExcName → Option Value} {fa C0 C8 C12 C14 : Addr} (X : K.In h) (TP : PyProof.Rows.Top qv lo mean mg mb h) (hfa : mg "law" = some (.ref fa)) (ht : ∀ ns : List Int, ns.length ≤ 63 → (∀ z ∈ ns, Builtin.Int.intBits z ≤ 1048576) → ∃ os, F_law [some (.scr ns, false)] = some (.fz (.bl true), os))
    {f0 : Addr} {od0 an0 : Option Addr} {sl0 : Array (Option Value)} {oc0 kV0 dc0 pm0 cd0 ct0 : Value}
    {f1 : Addr} {od1 an1 : Option Addr} {sl1 : Array (Option Value)} {oc1 kV1 dc1 pm1 cd1 ct1 : Value}
    {f2 : Addr} {od2 an2 : Option Addr} {sl2 : Array (Option Value)} {oc2 kV2 dc2 pm2 cd2 ct2 : Value}
    {f3 : Addr} {od3 an3 : Option Addr} {sl3 : Array (Option Value)} {oc3 kV3 dc3 pm3 cd3 ct3 : Value}
    {f4 : Addr} {od4 an4 : Option Addr} {sl4 : Array (Option Value)} {oc4 kV4 dc4 pm4 cd4 ct4 : Value}
    {f5 : Addr} {od5 an5 : Option Addr} {sl5 : Array (Option Value)} {oc5 kV5 dc5 pm5 cd5 ct5 : Value}
    {f6 : Addr} {od6 an6 : Option Addr} {sl6 : Array (Option Value)} {oc6 kV6 dc6 pm6 cd6 ct6 : Value}
    {f7 : Addr} {od7 an7 : Option Addr} {sl7 : Array (Option Value)} {oc7 kV7 dc7 pm7 cd7 ct7 : Value}
    {f8 : Addr} {od8 an8 : Option Addr} {sl8 : Array (Option Value)} {oc8 kV8 dc8 pm8 cd8 ct8 : Value}
    {f9 : Addr} {od9 an9 : Option Addr} {sl9 : Array (Option Value)} {oc9 kV9 dc9 pm9 cd9 ct9 : Value}
    {f10 : Addr} {od10 an10 : Option Addr} {sl10 : Array (Option Value)} {oc10 kV10 dc10 pm10 cd10 ct10 : Value}
    {f11 : Addr} {od11 an11 : Option Addr} {sl11 : Array (Option Value)} {oc11 kV11 dc11 pm11 cd11 ct11 : Value}
    {f12 : Addr} {od12 an12 : Option Addr} {sl12 : Array (Option Value)} {oc12 kV12 dc12 pm12 cd12 ct12 : Value}
    {f13 : Addr} {od13 an13 : Option Addr} {sl13 : Array (Option Value)} {oc13 kV13 dc13 pm13 cd13 ct13 : Value}
    {f14 : Addr} {od14 an14 : Option Addr} {sl14 : Array (Option Value)} {oc14 kV14 dc14 pm14 cd14 ct14 : Value}
    {f15 : Addr} {od15 an15 : Option Addr} {sl15 : Array (Option Value)} {oc15 kV15 dc15 pm15 cd15 ct15 : Value}
    {f16 : Addr} {od16 an16 : Option Addr} {sl16 : Array (Option Value)} {oc16 kV16 dc16 pm16 cd16 ct16 : Value}
    {f17 : Addr} {od17 an17 : Option Addr} {sl17 : Array (Option Value)} {oc17 kV17 dc17 pm17 cd17 ct17 : Value}
    {f18 : Addr} {od18 an18 : Option Addr} {sl18 : Array (Option Value)} {oc18 kV18 dc18 pm18 cd18 ct18 : Value}
    {f19 : Addr} {od19 an19 : Option Addr} {sl19 : Array (Option Value)} {oc19 kV19 dc19 pm19 cd19 ct19 : Value}
    {t_MOST_TRAINS : _}
    (aC0 : PySem.W.nsIn K mainGlobals "Trains" = some (some (.ref C0)))
    (aC8 : PySem.W.nsIn K mainGlobals "BreakerError" = some (some (.ref C8)))
    (aC12 : PySem.W.nsIn K mainGlobals "InvalidTrains" = some (some (.ref C12)))
    (aC14 : PySem.W.nsIn K mainGlobals "InvalidBound" = some (some (.ref C14)))
    (a0 : PySem.W.nsIn K mainGlobals "_law_cell_at" = some (some (.ref f0)))
    (l0 : K.lookup f0 = some ⟨oc0, od0, .func (PySem.W.fnOf "_law_cell_at" "_law_cell_at" (defArgs s__law_cell_at) (defBody s__law_cell_at) (defScope s__law_cell_at) .none (kV0) dc0 pm0 an0 cd0 ct0), sl0⟩)
    (e0 : PySem.W.codeIn K cd0 "_law_cell_at" = true)
    (k0 : PySem.W.keepIn K (.ref f0) = true)
    (a1 : PySem.W.nsIn K mainGlobals "_law_source_of" = some (some (.ref f1)))
    (l1 : K.lookup f1 = some ⟨oc1, od1, .func (PySem.W.fnOf "_law_source_of" "_law_source_of" (defArgs s__law_source_of) (defBody s__law_source_of) (defScope s__law_source_of) .none (kV1) dc1 pm1 an1 cd1 ct1), sl1⟩)
    (e1 : PySem.W.codeIn K cd1 "_law_source_of" = true)
    (k1 : PySem.W.keepIn K (.ref f1) = true)
    (a2 : PySem.W.nsIn K mainGlobals "_law_draw" = some (some (.ref f2)))
    (l2 : K.lookup f2 = some ⟨oc2, od2, .func (PySem.W.fnOf "_law_draw" "_law_draw" (defArgs s__law_draw) (defBody s__law_draw) (defScope s__law_draw) .none (kV2) dc2 pm2 an2 cd2 ct2), sl2⟩)
    (e2 : PySem.W.codeIn K cd2 "_law_draw" = true)
    (k2 : PySem.W.keepIn K (.ref f2) = true)
    (a3 : PySem.W.nsIn K mainGlobals "_law_choice" = some (some (.ref f3)))
    (l3 : K.lookup f3 = some ⟨oc3, od3, .func (PySem.W.fnOf "_law_choice" "_law_choice" (defArgs s__law_choice) (defBody s__law_choice) (defScope s__law_choice) .none (kV3) dc3 pm3 an3 cd3 ct3), sl3⟩)
    (e3 : PySem.W.codeIn K cd3 "_law_choice" = true)
    (k3 : PySem.W.keepIn K (.ref f3) = true)
    (a4 : PySem.W.nsIn K mainGlobals "_law_rows" = some (some (.ref f4)))
    (l4 : K.lookup f4 = some ⟨oc4, od4, .func (PySem.W.fnOf "_law_rows" "_law_rows" (defArgs s__law_rows) (defBody s__law_rows) (defScope s__law_rows) .none (kV4) dc4 pm4 an4 cd4 ct4), sl4⟩)
    (e4 : PySem.W.codeIn K cd4 "_law_rows" = true)
    (k4 : PySem.W.keepIn K (.ref f4) = true)
    (a5 : PySem.W.findIn K (.ref C12) "__init__" = some (some (.ref f5)))
    (i5 : PySem.W.isFn K (.ref f5) = true)
    (l5 : K.lookup f5 = some ⟨oc5, od5, .func (PySem.W.fnOf "__init__" "InvalidTrains.__init__" (defArgs s_InvalidTrains___init__) (defBody s_InvalidTrains___init__) (defScope s_InvalidTrains___init__) .none (kV5) dc5 pm5 an5 cd5 ct5), sl5⟩)
    (e5 : PySem.W.codeIn K cd5 "InvalidTrains.__init__" = true)
    (ti5 : PySem.W.typeIn K (.ref f5) = some (.type "function"))
    (k5 : PySem.W.keepIn K (.ref f5) = true)
    (a6 : PySem.W.nsIn K mainGlobals "is_integer" = some (some (.ref f6)))
    (l6 : K.lookup f6 = some ⟨oc6, od6, .func (PySem.W.fnOf "is_integer" "is_integer" (defArgs s_is_integer) (defBody s_is_integer) (defScope s_is_integer) .none (kV6) dc6 pm6 an6 cd6 ct6), sl6⟩)
    (e6 : PySem.W.codeIn K cd6 "is_integer" = true)
    (k6 : PySem.W.keepIn K (.ref f6) = true)
    (a7 : PySem.W.nsIn K mainGlobals "is_train" = some (some (.ref f7)))
    (l7 : K.lookup f7 = some ⟨oc7, od7, .func (PySem.W.fnOf "is_train" "is_train" (defArgs s_is_train) (defBody s_is_train) (defScope s_is_train) .none (kV7) dc7 pm7 an7 cd7 ct7), sl7⟩)
    (e7 : PySem.W.codeIn K cd7 "is_train" = true)
    (k7 : PySem.W.keepIn K (.ref f7) = true)
    (a8 : PySem.W.nsIn K mainGlobals "last_of" = some (some (.ref f8)))
    (l8 : K.lookup f8 = some ⟨oc8, od8, .func (PySem.W.fnOf "last_of" "last_of" (defArgs s_last_of) (defBody s_last_of) (defScope s_last_of) .none (kV8) dc8 pm8 an8 cd8 ct8), sl8⟩)
    (e8 : PySem.W.codeIn K cd8 "last_of" = true)
    (k8 : PySem.W.keepIn K (.ref f8) = true)
    (a9 : PySem.W.nsIn K mainGlobals "check_trains" = some (some (.ref f9)))
    (l9 : K.lookup f9 = some ⟨oc9, od9, .func (PySem.W.fnOf "check_trains" "check_trains" (defArgs s_check_trains_x) (defBody s_check_trains_x) (defScope s_check_trains_x) .none (kV9) dc9 pm9 an9 cd9 ct9), sl9⟩)
    (e9 : PySem.W.codeIn K cd9 "check_trains" = true)
    (k9 : PySem.W.keepIn K (.ref f9) = true)
    (a10 : PySem.W.nsIn K mainGlobals "without_first" = some (some (.ref f10)))
    (l10 : K.lookup f10 = some ⟨oc10, od10, .func (PySem.W.fnOf "without_first" "without_first" (defArgs s_without_first) (defBody s_without_first) (defScope s_without_first) .none (kV10) dc10 pm10 an10 cd10 ct10), sl10⟩)
    (e10 : PySem.W.codeIn K cd10 "without_first" = true)
    (k10 : PySem.W.keepIn K (.ref f10) = true)
    (a11 : PySem.W.nsIn K mainGlobals "joined" = some (some (.ref f11)))
    (l11 : K.lookup f11 = some ⟨oc11, od11, .func (PySem.W.fnOf "joined" "joined" (defArgs s_joined) (defBody s_joined) (defScope s_joined) .none (kV11) dc11 pm11 an11 cd11 ct11), sl11⟩)
    (e11 : PySem.W.codeIn K cd11 "joined" = true)
    (k11 : PySem.W.keepIn K (.ref f11) = true)
    (a12 : PySem.W.nsIn K mainGlobals "all_joined" = some (some (.ref f12)))
    (l12 : K.lookup f12 = some ⟨oc12, od12, .func (PySem.W.fnOf "all_joined" "all_joined" (defArgs s_all_joined) (defBody s_all_joined) (defScope s_all_joined) .none (kV12) dc12 pm12 an12 cd12 ct12), sl12⟩)
    (e12 : PySem.W.codeIn K cd12 "all_joined" = true)
    (k12 : PySem.W.keepIn K (.ref f12) = true)
    (a13 : PySem.W.findIn K (.ref C0) "__init__" = some (some (.ref f13)))
    (i13 : PySem.W.isFn K (.ref f13) = true)
    (l13 : K.lookup f13 = some ⟨oc13, od13, .func (PySem.W.fnOf "__init__" "Trains.__init__" (defArgs s_Trains___init___x) (defBody s_Trains___init___x) (defScope s_Trains___init___x) .none (kV13) dc13 pm13 an13 cd13 ct13), sl13⟩)
    (e13 : PySem.W.codeIn K cd13 "Trains.__init__" = true)
    (k13 : PySem.W.keepIn K (.ref f13) = true)
    (a14 : PySem.W.nsIn K mainGlobals "_law_told" = some (some (.ref f14)))
    (l14 : K.lookup f14 = some ⟨oc14, od14, .func (PySem.W.fnOf "_law_told" "_law_told" (defArgs s__law_told) (defBody s__law_told) (defScope s__law_told) .none (kV14) dc14 pm14 an14 cd14 ct14), sl14⟩)
    (e14 : PySem.W.codeIn K cd14 "_law_told" = true)
    (k14 : PySem.W.keepIn K (.ref f14) = true)
    (a15 : PySem.W.nsIn K mainGlobals "check_trains" = some (some (.ref f15)))
    (l15 : K.lookup f15 = some ⟨oc15, od15, .func (PySem.W.fnOf "check_trains" "check_trains" (defArgs s_check_trains) (defBody s_check_trains) (defScope s_check_trains) .none (kV15) dc15 pm15 an15 cd15 ct15), sl15⟩)
    (e15 : PySem.W.codeIn K cd15 "check_trains" = true)
    (k15 : PySem.W.keepIn K (.ref f15) = true)
    (a16 : PySem.W.findIn K (.ref C0) "__init__" = some (some (.ref f16)))
    (i16 : PySem.W.isFn K (.ref f16) = true)
    (l16 : K.lookup f16 = some ⟨oc16, od16, .func (PySem.W.fnOf "__init__" "Trains.__init__" (defArgs s_Trains___init__) (defBody s_Trains___init__) (defScope s_Trains___init__) .none (kV16) dc16 pm16 an16 cd16 ct16), sl16⟩)
    (e16 : PySem.W.codeIn K cd16 "Trains.__init__" = true)
    (k16 : PySem.W.keepIn K (.ref f16) = true)
    (a17 : PySem.W.findIn K (.ref C0) "__eq__" = some (some (.ref f17)))
    (i17 : PySem.W.isFn K (.ref f17) = true)
    (l17 : K.lookup f17 = some ⟨oc17, od17, .func (PySem.W.fnOf "__eq__" "Trains.__eq__" (defArgs s_Trains___eq__) (defBody s_Trains___eq__) (defScope s_Trains___eq__) .none (kV17) dc17 pm17 an17 cd17 ct17), sl17⟩)
    (e17 : PySem.W.codeIn K cd17 "Trains.__eq__" = true)
    (k17 : PySem.W.keepIn K (.ref f17) = true)
    (a18 : PySem.W.nsIn K mainGlobals "_law_odd" = some (some (.ref f18)))
    (l18 : K.lookup f18 = some ⟨oc18, od18, .func (PySem.W.fnOf "_law_odd" "_law_odd" (defArgs s__law_odd) (defBody s__law_odd) (defScope s__law_odd) .none (kV18) dc18 pm18 an18 cd18 ct18), sl18⟩)
    (e18 : PySem.W.codeIn K cd18 "_law_odd" = true)
    (k18 : PySem.W.keepIn K (.ref f18) = true)
    (a19 : PySem.W.nsIn K mainGlobals "law" = some (some (.ref f19)))
    (l19 : K.lookup f19 = some ⟨oc19, od19, .func (PySem.W.fnOf "law" "law" (defArgs s_law) (defBody s_law) (defScope s_law) .none (kV19) dc19 pm19 an19 cd19 ct19), sl19⟩)
    (e19 : PySem.W.codeIn K cd19 "law" = true)
    (k19 : PySem.W.keepIn K (.ref f19) = true)
    (z_ArithmeticError : PySem.W.nsIn K mainGlobals "ArithmeticError" = some none)
    (z_bool : PySem.W.nsIn K mainGlobals "bool" = some none)
    (z_enumerate : PySem.W.nsIn K mainGlobals "enumerate" = some none)
    (z_int : PySem.W.nsIn K mainGlobals "int" = some none)
    (z_isinstance : PySem.W.nsIn K mainGlobals "isinstance" = some none)
    (z_len : PySem.W.nsIn K mainGlobals "len" = some none)
    (z_list : PySem.W.nsIn K mainGlobals "list" = some none)
    (z_range : PySem.W.nsIn K mainGlobals "range" = some none)
    (z_repr : PySem.W.nsIn K mainGlobals "repr" = some none)
    (z_tuple : PySem.W.nsIn K mainGlobals "tuple" = some none)
    (g_MOST_TRAINS : PySem.W.nsIn K mainGlobals "MOST_TRAINS" = some (some (.int 1000 t_MOST_TRAINS)))
    (qin12 : PySem.W.excInitIn K C12 aeT "ArithmeticError.__new__" = true)
    (qov12 : PySem.W.excOver K C12 aeT = true)
    (qhd12 : PySem.W.hasDictIn K C12 = true)
    (qsa12 : PySem.W.findIn K (.ref C12) "__setattr__" = some (some (.builtin "object.__setattr__")))
    (qsb12 : PySem.W.subIn K (.ref C12) (.type "BaseException") = some true)
    (qty12 : PySem.W.typeIn K (.ref C12) = some (.type "type"))
    (qkc12 : PySem.W.keepIn K (.ref C12) = true)
    (qtg8 : PySem.W.specialIn K (.ref C8) "__getattribute__" = some (some (.builtin "type.__getattribute__")))
    (qrd8 : PySem.W.readsIn K C8 (.type "type") = true)
    (qat8 : PySem.W.findCls K (.ref C8) (.type "type") "__init__" = some (.val (.builtin "ArithmeticError.__init__")))
    (tx_InvalidTrains_at : PySem.W.takerIn K C12 "at" = some none)
    (pg0 : PySem.W.plainGet K C0 Str.empty = true)
    (hd0 : PySem.W.hasDictIn K C0 = true)
    (po0 : PySem.W.plainOver K C0 = true)
    (sa0 : PySem.W.findIn K (.ref C0) "__setattr__" = some (some (.builtin "object.__setattr__")))
    (ha0 : PySem.W.findIn K (.ref C0) "__class__" = some (some (.builtin "object.__class__")))
    (hn0 : PySem.W.specialIn K (.builtin "object.__class__") "__get__" = some (some (.builtin "getset_descriptor.__get__")))
    (ht0 : PySem.W.takesIn K (.builtin "object.__class__") = some true)
    (hm0 : PySem.W.mroIn K C0 (.type "object") = some true)
    (nf0_NoneType : PySem.W.subIn K (.type "NoneType") (.ref C0) = some false)
    (nf0_bool : PySem.W.subIn K (.type "bool") (.ref C0) = some false)
    (nf0_int : PySem.W.subIn K (.type "int") (.ref C0) = some false)
    (nf0_str : PySem.W.subIn K (.type "str") (.ref C0) = some false)
    (nf0_list : PySem.W.subIn K (.type "list") (.ref C0) = some false)
    (nf0_tuple : PySem.W.subIn K (.type "tuple") (.ref C0) = some false)
    (na_Trains_listed : PySem.W.findIn K (.ref C0) "listed" = some none)
    (xm_InvalidTrains_InvalidTrains : PySem.W.exmOne K (.ref C12) (.ref C12) = some true)
    (qcl12 : (PySem.W.clsIn K C12).isSome = true)
    (qga12 : PySem.W.findIn K (.ref C12) "__getattribute__" = some (some (.builtin "BaseException.__getattribute__")))
    (qgt12 : PySem.W.findIn K (.ref C12) "__getattr__" = some none)
    (qha12 : PySem.W.findIn K (.ref C12) "__class__" = some (some (.builtin "object.__class__")))
    (qhn : PySem.W.specialIn K (.builtin "object.__class__") "__get__" = some (some (.builtin "getset_descriptor.__get__")))
    (qtk : PySem.W.takesIn K (.builtin "object.__class__") = some true)
    (qhm12 : PySem.W.mroIn K C12 (.type "object") = some true)
    (xk_InvalidTrains_InvalidBound : PySem.W.kitOne K (.ref C12) (.ref C14) = some false)
    (xk_InvalidTrains_ArithmeticError : PySem.W.kitOne K (.ref C12) (.type "ArithmeticError") = some true)
    (xn_InvalidTrains_at : PySem.W.findIn K (.ref C12) "at" = some none)
    (ic0 : PySem.W.isClsIn K C0 = true)
    (ty0 : PySem.W.typeIn K (.ref C0) = some (.type "type"))
    (ne_Trains : PySem.W.findIn K (.ref C0) "__ne__" = some (some (.builtin "object.__ne__")))
    (mk0 : PySem.W.makesIn K C0 = true)
    (kc0 : PySem.W.keepIn K (.ref C0) = true)
    : LawAtG l w K CX0 9 63 "_law_script" mg fa h := by
  have G := TP.g
  have e := hfa.symm.trans (PySem.W.mg_of X G a19)
  cases e
  have T : Txt ⟨K, clOf [C0, 0, 0, 0, 0, 0, 0, 0, C8, 0, 0, 0, C12, 0, C14, 0, 0, 0, 0], [], none⟩ mg := ⟨rfl, PySem.W.mg_none_of X G z_ArithmeticError, PySem.W.mg_none_of X G z_bool, PySem.W.mg_none_of X G z_enumerate, PySem.W.mg_none_of X G z_int, PySem.W.mg_none_of X G z_isinstance, PySem.W.mg_none_of X G z_len, PySem.W.mg_none_of X G z_list, PySem.W.mg_none_of X G z_range, PySem.W.mg_none_of X G z_repr, PySem.W.mg_none_of X G z_tuple, ⟨t_MOST_TRAINS, PySem.W.mg_of X G g_MOST_TRAINS⟩, ⟨qin12, qov12, qhd12, qsa12, qsb12, qty12, qkc12⟩, ⟨qtg8, qrd8, qat8⟩, PySem.W.mg_of X G aC8, PySem.W.mg_of X G aC12, tx_InvalidTrains_at, ⟨⟨pg0, hd0, po0, sa0⟩, ha0, hn0, ht0, hm0, (all_cons nf0_NoneType (all_cons nf0_bool (all_cons nf0_int (all_cons nf0_str (all_cons nf0_list (all_cons nf0_tuple (all_nil _)))))))⟩, na_Trains_listed, xm_InvalidTrains_InvalidTrains, ⟨qcl12, qga12, qgt12, qsb12, qha12, qhn, qtk, qhm12, qhd12⟩, xk_InvalidTrains_InvalidBound, PySem.W.mg_of X G aC14, xk_InvalidTrains_ArithmeticError, ⟨qga12, qgt12, qsb12, qhd12⟩, xn_InvalidTrains_at, kit_me, (all_cons (kit_pl ic0 ty0 rfl nf0_NoneType) (all_cons (kit_pl ic0 ty0 rfl nf0_bool) (all_cons (kit_pl ic0 ty0 rfl nf0_int) (all_cons (kit_pl ic0 ty0 rfl nf0_str) (all_cons (kit_pl ic0 ty0 rfl nf0_list) (all_cons (kit_pl ic0 ty0 rfl nf0_tuple) (all_nil _))))))), PySem.W.mg_of X G aC0, ne_Trains⟩
  refine lawAtG (cs := []) (T := []) (F := F_law) (all_nil _) (all_nil _) (all_nil _) ht ⟨PySem.W.fnOf "law" "law" (defArgs s_law) (defBody s_law) (defScope s_law) .none kV19 dc19 pm19 an19 cd19 ct19, fun s v => .of_eq rfl, fun base _ _ hB TB => ?_⟩
  have F0 := fun_mk (st := s__law_cell_at) l0 e0 k0
  have G0 := ok__law_cell_at (P := l.prog) (w := w) (base := base) (g := ⟨K, clOf [C0, 0, 0, 0, 0, 0, 0, 0, C8, 0, 0, 0, C12, 0, C14, 0, 0, 0, 0], [], none⟩) (k := 0) T F0 
  have F1 := fun_mk (st := s__law_source_of) l1 e1 k1
  have G1 := ok__law_source_of (P := l.prog) (w := w) (base := base) (g := ⟨K, clOf [C0, 0, 0, 0, 0, 0, 0, 0, C8, 0, 0, 0, C12, 0, C14, 0, 0, 0, 0], [], none⟩) (k := 0) T F1 
  have F2 := fun_mk (st := s__law_draw) l2 e2 k2
  have G2 := ok__law_draw (P := l.prog) (w := w) (base := base) (g := ⟨K, clOf [C0, 0, 0, 0, 0, 0, 0, 0, C8, 0, 0, 0, C12, 0, C14, 0, 0, 0, 0], [], none⟩) (k := 0) T F2 
  have h_c__law_draw : Cal l.prog w mg base ⟨K, clOf [C0, 0, 0, 0, 0, 0, 0, 0, C8, 0, 0, 0, C12, 0, C14, 0, 0, 0, 0], [], none⟩ 1 "_law_draw" 2 F__law_draw := ⟨_, _, _, PySem.W.mg_of X G a2, k2, (F2.binds (ps := ["_law_source", "_law_bound"]) fun _ _ _ _ _ _ us hl => match us, hl with | [_, _], _ => rfl), G2⟩
  have F3 := fun_mk (st := s__law_choice) l3 e3 k3
  have G3 := ok__law_choice (P := l.prog) (w := w) (base := base) (g := ⟨K, clOf [C0, 0, 0, 0, 0, 0, 0, 0, C8, 0, 0, 0, C12, 0, C14, 0, 0, 0, 0], [], none⟩) (k := 1) T F3 (h_c__law_draw.mono (by decide))
  have h_c__law_choice : Cal l.prog w mg base ⟨K, clOf [C0, 0, 0, 0, 0, 0, 0, 0, C8, 0, 0, 0, C12, 0, C14, 0, 0, 0, 0], [], none⟩ 2 "_law_choice" 2 F__law_choice := ⟨_, _, _, PySem.W.mg_of X G a3, k3, (F3.binds (ps := ["_law_source", "_law_options"]) fun _ _ _ _ _ _ us hl => match us, hl with | [_, _], _ => rfl), G3⟩
  have F4 := fun_mk (st := s__law_rows) l4 e4 k4
  have G4 := ok__law_rows (P := l.prog) (w := w) (base := base) (g := ⟨K, clOf [C0, 0, 0, 0, 0, 0, 0, 0, C8, 0, 0, 0, C12, 0, C14, 0, 0, 0, 0], [], none⟩) (k := 2) T F4 (h_c__law_draw.mono (by decide)) (h_c__law_choice.mono (by decide))
  have F5 := fun_mk (st := s_InvalidTrains___init__) l5 e5 k5
  have G5 := ok_InvalidTrains___init__ (P := l.prog) (w := w) (base := base) (g := ⟨K, clOf [C0, 0, 0, 0, 0, 0, 0, 0, C8, 0, 0, 0, C12, 0, C14, 0, 0, 0, 0], [], none⟩) (k := 0) T F5 
  have F6 := fun_mk (st := s_is_integer) l6 e6 k6
  have G6 := ok_is_integer (P := l.prog) (w := w) (base := base) (g := ⟨K, clOf [C0, 0, 0, 0, 0, 0, 0, 0, C8, 0, 0, 0, C12, 0, C14, 0, 0, 0, 0], [], none⟩) (k := 0) T F6 
  have h_c_is_integer : Cal l.prog w mg base ⟨K, clOf [C0, 0, 0, 0, 0, 0, 0, 0, C8, 0, 0, 0, C12, 0, C14, 0, 0, 0, 0], [], none⟩ 1 "is_integer" 1 F_is_integer := ⟨_, _, _, PySem.W.mg_of X G a6, k6, (F6.binds (ps := ["value"]) fun _ _ _ _ _ _ us hl => match us, hl with | [_], _ => rfl), G6⟩
  have F7 := fun_mk (st := s_is_train) l7 e7 k7
  have G7 := ok_is_train (P := l.prog) (w := w) (base := base) (g := ⟨K, clOf [C0, 0, 0, 0, 0, 0, 0, 0, C8, 0, 0, 0, C12, 0, C14, 0, 0, 0, 0], [], none⟩) (k := 1) T F7 (h_c_is_integer.mono (by decide))
  have F8 := fun_mk (st := s_last_of) l8 e8 k8
  have G8 := ok_last_of (P := l.prog) (w := w) (base := base) (g := ⟨K, clOf [C0, 0, 0, 0, 0, 0, 0, 0, C8, 0, 0, 0, C12, 0, C14, 0, 0, 0, 0], [], none⟩) (k := 0) T F8 
  have h_xc_InvalidTrains : XCls l.prog w mg base ⟨K, clOf [C0, 0, 0, 0, 0, 0, 0, 0, C8, 0, 0, 0, C12, 0, C14, 0, 0, 0, 0], [], none⟩ 1 12 "InvalidTrains" ["at"] := ⟨_, _, _, PySem.W.mg_of X G aC12, T.ax_InvalidTrains, a5, ti5, (F5.binds (ps := ["self", "at"]) fun _ _ _ _ _ _ us hl => match us, hl with | [_, _], _ => rfl), G5⟩
  have h_c_is_train : Cal l.prog w mg base ⟨K, clOf [C0, 0, 0, 0, 0, 0, 0, 0, C8, 0, 0, 0, C12, 0, C14, 0, 0, 0, 0], [], none⟩ 2 "is_train" 1 F_is_train := ⟨_, _, _, PySem.W.mg_of X G a7, k7, (F7.binds (ps := ["value"]) fun _ _ _ _ _ _ us hl => match us, hl with | [_], _ => rfl), G7⟩
  have h_c_last_of : Cal l.prog w mg base ⟨K, clOf [C0, 0, 0, 0, 0, 0, 0, 0, C8, 0, 0, 0, C12, 0, C14, 0, 0, 0, 0], [], none⟩ 1 "last_of" 1 F_last_of := ⟨_, _, _, PySem.W.mg_of X G a8, k8, (F8.binds (ps := ["train"]) fun _ _ _ _ _ _ us hl => match us, hl with | [_], _ => rfl), G8⟩
  have F9 := fun_mk (st := s_check_trains_x) l9 e9 k9
  have G9 := ok_check_trains_x (P := l.prog) (w := w) (base := base) (g := ⟨K, clOf [C0, 0, 0, 0, 0, 0, 0, 0, C8, 0, 0, 0, C12, 0, C14, 0, 0, 0, 0], [], none⟩) (k := 2) T F9 (h_xc_InvalidTrains.mono (by decide)) (h_c_is_train.mono (by decide)) (h_c_last_of.mono (by decide))
  have F10 := fun_mk (st := s_without_first) l10 e10 k10
  have G10 := ok_without_first (P := l.prog) (w := w) (base := base) (g := ⟨K, clOf [C0, 0, 0, 0, 0, 0, 0, 0, C8, 0, 0, 0, C12, 0, C14, 0, 0, 0, 0], [], none⟩) (k := 0) T F10 
  have h_c_without_first : Cal l.prog w mg base ⟨K, clOf [C0, 0, 0, 0, 0, 0, 0, 0, C8, 0, 0, 0, C12, 0, C14, 0, 0, 0, 0], [], none⟩ 1 "without_first" 1 F_without_first := ⟨_, _, _, PySem.W.mg_of X G a10, k10, (F10.binds (ps := ["train"]) fun _ _ _ _ _ _ us hl => match us, hl with | [_], _ => rfl), G10⟩
  have F11 := fun_mk (st := s_joined) l11 e11 k11
  have G11 := ok_joined (P := l.prog) (w := w) (base := base) (g := ⟨K, clOf [C0, 0, 0, 0, 0, 0, 0, 0, C8, 0, 0, 0, C12, 0, C14, 0, 0, 0, 0], [], none⟩) (k := 1) T F11 (h_c_last_of.mono (by decide)) (h_c_without_first.mono (by decide))
  have h_c_joined : Cal l.prog w mg base ⟨K, clOf [C0, 0, 0, 0, 0, 0, 0, 0, C8, 0, 0, 0, C12, 0, C14, 0, 0, 0, 0], [], none⟩ 2 "joined" 2 F_joined := ⟨_, _, _, PySem.W.mg_of X G a11, k11, (F11.binds (ps := ["found", "train"]) fun _ _ _ _ _ _ us hl => match us, hl with | [_, _], _ => rfl), G11⟩
  have F12 := fun_mk (st := s_all_joined) l12 e12 k12
  have G12 := ok_all_joined (P := l.prog) (w := w) (base := base) (g := ⟨K, clOf [C0, 0, 0, 0, 0, 0, 0, 0, C8, 0, 0, 0, C12, 0, C14, 0, 0, 0, 0], [], none⟩) (k := 2) T F12 (h_c_joined.mono (by decide))
  have h_cx_check_trains_x : CalX l.prog w mg base ⟨K, clOf [C0, 0, 0, 0, 0, 0, 0, 0, C8, 0, 0, 0, C12, 0, C14, 0, 0, 0, 0], [], none⟩ 4 "check_trains" 1 F_check_trains_x := ⟨_, _, _, PySem.W.mg_of X G a9, k9, (F9.binds (ps := ["trains"]) fun _ _ _ _ _ _ us hl => match us, hl with | [_], _ => rfl), G9⟩
  have h_c_all_joined : Cal l.prog w mg base ⟨K, clOf [C0, 0, 0, 0, 0, 0, 0, 0, C8, 0, 0, 0, C12, 0, C14, 0, 0, 0, 0], [], none⟩ 3 "all_joined" 1 F_all_joined := ⟨_, _, _, PySem.W.mg_of X G a12, k12, (F12.binds (ps := ["some"]) fun _ _ _ _ _ _ us hl => match us, hl with | [_], _ => rfl), G12⟩
  have F13 := fun_mk (st := s_Trains___init___x) l13 e13 k13
  have G13 := ok_Trains___init___x (P := l.prog) (w := w) (base := base) (g := ⟨K, clOf [C0, 0, 0, 0, 0, 0, 0, 0, C8, 0, 0, 0, C12, 0, C14, 0, 0, 0, 0], [], none⟩) (k := 4) T F13 (h_cx_check_trains_x.mono (by decide)) (h_c_all_joined.mono (by decide))
  have h_jx_Trains : MkdX l.prog w mg base ⟨K, clOf [C0, 0, 0, 0, 0, 0, 0, 0, C8, 0, 0, 0, C12, 0, C14, 0, 0, 0, 0], [], none⟩ 5 0 "Trains" 1 F_Trains___init___x := ⟨_, _, _, PySem.W.mg_of X G aC0, ⟨mk0, a13, i13, kc0⟩, (F13.binds (ps := ["self", "trains"]) fun _ _ _ _ _ _ us hl => match us, hl with | [_, _], _ => rfl), rfl, G13⟩
  have F14 := fun_mk (st := s__law_told) l14 e14 k14
  have G14 := ok__law_told (P := l.prog) (w := w) (base := base) (g := ⟨K, clOf [C0, 0, 0, 0, 0, 0, 0, 0, C8, 0, 0, 0, C12, 0, C14, 0, 0, 0, 0], [], none⟩) (k := 5) T l14 e14 hB (h_jx_Trains.mono (by decide))
  have F15 := fun_mk (st := s_check_trains) l15 e15 k15
  have G15 := ok_check_trains (P := l.prog) (w := w) (base := base) (g := ⟨K, clOf [C0, 0, 0, 0, 0, 0, 0, 0, C8, 0, 0, 0, C12, 0, C14, 0, 0, 0, 0], [], none⟩) (k := 2) T F15 (h_c_is_train.mono (by decide)) (h_c_last_of.mono (by decide))
  have h_c_check_trains : Cal l.prog w mg base ⟨K, clOf [C0, 0, 0, 0, 0, 0, 0, 0, C8, 0, 0, 0, C12, 0, C14, 0, 0, 0, 0], [], none⟩ 3 "check_trains" 1 F_check_trains := ⟨_, _, _, PySem.W.mg_of X G a15, k15, (F15.binds (ps := ["trains"]) fun _ _ _ _ _ _ us hl => match us, hl with | [_], _ => rfl), G15⟩
  have F16 := fun_mk (st := s_Trains___init__) l16 e16 k16
  have G16 := ok_Trains___init__ (P := l.prog) (w := w) (base := base) (g := ⟨K, clOf [C0, 0, 0, 0, 0, 0, 0, 0, C8, 0, 0, 0, C12, 0, C14, 0, 0, 0, 0], [], none⟩) (k := 3) T F16 (h_c_check_trains.mono (by decide)) (h_c_all_joined.mono (by decide))
  have F17 := fun_mk (st := s_Trains___eq__) l17 e17 k17
  have G17 := ok_Trains___eq__ (P := l.prog) (w := w) (base := base) (g := ⟨K, clOf [C0, 0, 0, 0, 0, 0, 0, 0, C8, 0, 0, 0, C12, 0, C14, 0, 0, 0, 0], [], none⟩) (k := 0) T F17 
  have F18 := fun_mk (st := s__law_odd) l18 e18 k18
  have G18 := ok__law_odd (P := l.prog) (w := w) (base := base) (g := ⟨K, clOf [C0, 0, 0, 0, 0, 0, 0, 0, C8, 0, 0, 0, C12, 0, C14, 0, 0, 0, 0], [], none⟩) (k := 2) T F18 (h_c__law_choice.mono (by decide))
  have h_c__law_cell_at : Cal l.prog w mg base ⟨K, clOf [C0, 0, 0, 0, 0, 0, 0, 0, C8, 0, 0, 0, C12, 0, C14, 0, 0, 0, 0], [], none⟩ 1 "_law_cell_at" 2 F__law_cell_at := ⟨_, _, _, PySem.W.mg_of X G a0, k0, (F0.binds (ps := ["_law_script", "_law_place"]) fun _ _ _ _ _ _ us hl => match us, hl with | [_, _], _ => rfl), G0⟩
  have h_c__law_source_of : Cal l.prog w mg base ⟨K, clOf [C0, 0, 0, 0, 0, 0, 0, 0, C8, 0, 0, 0, C12, 0, C14, 0, 0, 0, 0], [], none⟩ 1 "_law_source_of" 1 F__law_source_of := ⟨_, _, _, PySem.W.mg_of X G a1, k1, (F1.binds (ps := ["_law_cell"]) fun _ _ _ _ _ _ us hl => match us, hl with | [_], _ => rfl), G1⟩
  have h_c__law_rows : Cal l.prog w mg base ⟨K, clOf [C0, 0, 0, 0, 0, 0, 0, 0, C8, 0, 0, 0, C12, 0, C14, 0, 0, 0, 0], [], none⟩ 3 "_law_rows" 3 F__law_rows := ⟨_, _, _, PySem.W.mg_of X G a4, k4, (F4.binds (ps := ["_law_source", "_law_far", "_law_most"]) fun _ _ _ _ _ _ us hl => match us, hl with | [_, _, _], _ => rfl), G4⟩
  have h_cg__law_told : CalG l.prog w mg base ⟨K, clOf [C0, 0, 0, 0, 0, 0, 0, 0, C8, 0, 0, 0, C12, 0, C14, 0, 0, 0, 0], [], none⟩ 7 "_law_told" 1 F__law_told := ⟨_, _, _, PySem.W.mg_of X G a14, k14, (F14.binds (ps := ["_law_value"]) fun _ _ _ _ _ _ us hl => match us, hl with | [_], _ => rfl), G14⟩
  have h_ik_Trains_0_trains : MkdK l.prog w mg base ⟨K, clOf [C0, 0, 0, 0, 0, 0, 0, 0, C8, 0, 0, 0, C12, 0, C14, 0, 0, 0, 0], [], none⟩ 4 0 "Trains" 0 ["trains"] [0] [] F_Trains___init__ := mkdk_of0 F16 (PySem.W.mg_of X G aC0) ⟨mk0, a16, i16, kc0⟩ rfl rfl G16 (fun _ _ _ _ _ _ us ws h1 h2 => match us, ws, h1, h2 with | [_], [_], _, _ => rfl)
  have h_i_Trains : Mkd l.prog w mg base ⟨K, clOf [C0, 0, 0, 0, 0, 0, 0, 0, C8, 0, 0, 0, C12, 0, C14, 0, 0, 0, 0], [], none⟩ 4 0 "Trains" 1 F_Trains___init__ := ⟨_, _, _, PySem.W.mg_of X G aC0, ⟨mk0, a16, i16, kc0⟩, (F16.binds (ps := ["self", "trains"]) fun _ _ _ _ _ _ us hl => match us, hl with | [_, _], _ => rfl), rfl, G16⟩
  have h_m_Trains___eq__ : Mtd l.prog w mg base ⟨K, clOf [C0, 0, 0, 0, 0, 0, 0, 0, C8, 0, 0, 0, C12, 0, C14, 0, 0, 0, 0], [], none⟩ 1 0 "__eq__" 2 F_Trains___eq__ := ⟨_, _, _, T.x_Trains.cl, ⟨a17, i17, k17⟩, (F17.binds (ps := ["self", "other"]) fun _ _ _ _ _ _ us hl => match us, hl with | [_, _], _ => rfl), G17⟩
  have h_c__law_odd : Cal l.prog w mg base ⟨K, clOf [C0, 0, 0, 0, 0, 0, 0, 0, C8, 0, 0, 0, C12, 0, C14, 0, 0, 0, 0], [], none⟩ 3 "_law_odd" 2 F__law_odd := ⟨_, _, _, PySem.W.mg_of X G a18, k18, (F18.binds (ps := ["_law_source", "_law_early"]) fun _ _ _ _ _ _ us hl => match us, hl with | [_, _], _ => rfl), G18⟩
  exact spT_ofG (ok_law (P := l.prog) (w := w) (base := base) (g := ⟨K, clOf [C0, 0, 0, 0, 0, 0, 0, 0, C8, 0, 0, 0, C12, 0, C14, 0, 0, 0, 0], [], none⟩) (k := 7) T l19 e19 hB (h_c__law_cell_at.mono (by decide)) (h_c__law_source_of.mono (by decide)) (h_c__law_rows.mono (by decide)) (h_cg__law_told.mono (by decide)) (h_ik_Trains_0_trains.mono (by decide)) (h_i_Trains.mono (by decide)) (h_m_Trains___eq__.mono (by decide)) (h_c__law_draw.mono (by decide)) (h_c__law_odd.mono (by decide)))
end L
namespace L
open PySem L2 DV
/-! ### trains, in plain words -/
structure Tr where
  s : Int
  p : Int
  n : Option Int
def mT (t : Tr) (x : Int) : Prop := ∃ j : Int, 0 ≤ j ∧ (∀ n, t.n = some n → j < n) ∧ x = t.s + t.p * j
def mR (r : List Tr) (x : Int) : Prop := ∃ t ∈ r, mT t x
def okT (t : Tr) : Prop := 0 ≤ t.s ∧ 1 ≤ t.p ∧ ∀ n, t.n = some n → 1 ≤ n
def bef (a b : Tr) : Prop := ∃ n, a.n = some n ∧ a.s + a.p * (n - 1) < b.s
def Vd : List Tr → Prop
  | [] => True
  | [a] => okT a
  | a :: b :: r => okT a ∧ bef a b ∧ Vd (b :: r)
def cbef (a b : Tr) : Prop := ∃ n, a.n = some n ∧ 2 ≤ n ∧ a.s + a.p * (n - 1) < b.s ∧ b.s ≠ a.s + a.p * n
def Cn : List Tr → Prop
  | [] => True
  | [a] => okT a ∧ (a.n = some 1 → a.p = 1)
  | a :: b :: r => okT a ∧ cbef a b ∧ Cn (b :: r)
theorem mR_nil (x : Int) : ¬ mR [] x := fun ⟨_, h, _⟩ => nomatch h
theorem mR_cons (a : Tr) (r : List Tr) (x : Int) : mR (a :: r) x ↔ mT a x ∨ mR r x := by
  constructor
  · rintro ⟨t, h, q⟩
    rcases List.mem_cons.mp h with rfl | h
    · exact .inl q
    · exact .inr ⟨t, h, q⟩
  · rintro (q | ⟨t, h, q⟩)
    · exact ⟨a, List.mem_cons_self, q⟩
    · exact ⟨t, List.mem_cons_of_mem _ h, q⟩
theorem mR_app (a r : List Tr) (x : Int) : mR (a ++ r) x ↔ mR a x ∨ mR r x := by
  constructor
  · rintro ⟨t, h, q⟩
    rcases List.mem_append.mp h with h | h
    · exact .inl ⟨t, h, q⟩
    · exact .inr ⟨t, h, q⟩
  · rintro (⟨t, h, q⟩ | ⟨t, h, q⟩)
    · exact ⟨t, List.mem_append_left _ h, q⟩
    · exact ⟨t, List.mem_append_right _ h, q⟩
theorem mR_one (a : Tr) (x : Int) : mR [a] x ↔ mT a x := by
  rw [mR_cons]
  exact ⟨fun h => h.elim id fun h => (mR_nil x h).elim, .inl⟩
theorem cbef.bef {a b : Tr} (h : cbef a b) : bef a b := by
  obtain ⟨n, h1, _, h2, _⟩ := h
  exact ⟨n, h1, h2⟩
theorem Cn.vd : ∀ {r : List Tr}, Cn r → Vd r
  | [], _ => trivial
  | [a], h => h.1
  | a :: b :: r, h => ⟨h.1, h.2.1.bef, Cn.vd h.2.2⟩
theorem Vd.ok1 : ∀ {a : Tr} {r : List Tr}, Vd (a :: r) → okT a
  | a, [], h => h
  | a, b :: r, h => h.1
theorem Vd.tail : ∀ {a : Tr} {r : List Tr}, Vd (a :: r) → Vd r
  | a, [], _ => trivial
  | a, b :: r, h => h.2.2
theorem Cn.tail : ∀ {a : Tr} {r : List Tr}, Cn (a :: r) → Cn r
  | a, [], _ => trivial
  | a, b :: r, h => h.2.2
theorem Vd.okm : ∀ {r : List Tr}, Vd r → ∀ t ∈ r, okT t
  | [], _, t, m => nomatch m
  | a :: r, h, t, m => by
    rcases List.mem_cons.mp m with rfl | m
    · exact h.ok1
    · exact Vd.okm h.tail t m
theorem mT_ge {a : Tr} {x : Int} (h : okT a) (m : mT a x) : a.s ≤ x := by
  obtain ⟨j, h0, _, e⟩ := m
  have := Int.mul_nonneg (show 0 ≤ a.p by have := h.2.1; omega) h0
  omega
theorem mT_le {a : Tr} {x n : Int} (h : okT a) (e : a.n = some n) (m : mT a x) : x ≤ a.s + a.p * (n - 1) := by
  obtain ⟨j, h0, h1, rfl⟩ := m
  have h2 := h1 n e
  have : a.p * j ≤ a.p * (n - 1) := Int.mul_le_mul_of_nonneg_left (by omega) (by have := h.2.1; omega)
  omega
theorem mT_s {a : Tr} (h : okT a) : mT a a.s := ⟨0, Int.le_refl _, fun n e => by have := h.2.2 n e; omega, by simp⟩
theorem Vd.ge : ∀ {a : Tr} {r : List Tr} {x : Int}, Vd (a :: r) → mR (a :: r) x → a.s ≤ x
  | a, [], x, h, m => mT_ge h ((mR_one a x).mp m)
  | a, b :: r, x, h, m => by
    rcases (mR_cons _ _ _).mp m with m | m
    · exact mT_ge h.1 m
    · have := Vd.ge h.2.2 m
      obtain ⟨n, e, q⟩ := h.2.1
      have h1 := h.1.2.2 n e
      have := Int.mul_nonneg (show 0 ≤ a.p by have := h.1.2.1; omega) (show 0 ≤ n - 1 by omega)
      omega
/-- what follows is behind the last -/
theorem Vd.gt {a b : Tr} {r : List Tr} {x n : Int} (h : Vd (a :: b :: r)) (e : a.n = some n) (m : mR (b :: r) x) : a.s + a.p * (n - 1) < x := by
  obtain ⟨k, e1, q⟩ := h.2.1
  rw [e] at e1; cases e1
  have := Vd.ge h.2.2 m
  omega
/-- the normal form is told by the times -/
theorem cn_single {a b : Tr} {r : List Tr} (ha : Cn [a]) (hb : Cn (b :: r)) (e : a.n = some 1) (h : ∀ x, mT a x ↔ mR (b :: r) x) : b = a ∧ r = [] := by
  have oa := ha.1
  have vb := hb.vd
  have hs : a.s = b.s := by
    have h1 := vb.ge ((h a.s).mp (mT_s oa))
    have h2 := mT_ge oa ((h b.s).mpr ((mR_cons _ _ _).mpr (.inl (mT_s vb.ok1))))
    omega
  have only : ∀ x, mR (b :: r) x → x = a.s := fun x m => by
    obtain ⟨j, h0, h1, q⟩ := (h x).mpr m
    have := h1 1 e
    have : j = 0 := by omega
    subst this
    simpa using q
  cases r with
  | nil =>
    refine ⟨?_, rfl⟩
    have hn : b.n = some 1 := by
      cases hb' : b.n with
      | none =>
        have := only (b.s + b.p * 1) ((mR_one _ _).mpr ⟨1, by decide, (fun n z => by rw [hb'] at z; cases z), rfl⟩)
        have := hb.1.2.1
        omega
      | some k =>
        by_cases hk : k = 1
        · rw [hk]
        · have h3 := hb.1.2.2 k hb'
          have := only (b.s + b.p * 1) ((mR_one _ _).mpr ⟨1, by decide, fun n z => by rw [hb'] at z; cases z; omega, rfl⟩)
          have := hb.1.2.1
          omega
    have p1 := ha.2 e
    have p2 := hb.2 hn
    obtain ⟨s1, q1, n1⟩ := a
    obtain ⟨s2, q2, n2⟩ := b
    simp only at hs e hn p1 p2
    rw [hs, e, hn, p1, p2]
  | cons c r =>
    obtain ⟨n, e1, h2, h3, _⟩ := hb.2.1
    have := only _ ((mR_cons _ _ _).mpr (.inr ((mR_cons _ _ _).mpr (.inl (mT_s vb.2.2.ok1)))))
    have := Int.mul_nonneg (show 0 ≤ b.p by have := hb.1.2.1; omega) (show 0 ≤ n - 1 by omega)
    omega
theorem two_of {a : Tr} (h : okT a) (n1 : a.n ≠ some 1) : mT a (a.s + a.p) := ⟨1, by decide, fun n e => by
  have := h.2.2 n e
  have : n ≠ 1 := fun z => n1 (by rw [e, z])
  omega, by simp⟩
theorem second {a : Tr} {r : List Tr} {x : Int} (h : Vd (a :: r)) (n1 : a.n ≠ some 1) (m : mR (a :: r) x) (g : a.s < x) : a.s + a.p ≤ x := by
  have oa := h.ok1
  rcases (mR_cons _ _ _).mp m with m | m
  · obtain ⟨j, h0, _, rfl⟩ := m
    have hj : 1 ≤ j := by
      have : j ≠ 0 := fun z => by subst z; simp at g
      omega
    have := Int.mul_le_mul_of_nonneg_left hj (show 0 ≤ a.p by have := oa.2.1; omega)
    omega
  · cases r with
    | nil => exact (mR_nil x m).elim
    | cons b r =>
      obtain ⟨n, e, q⟩ := h.2.1
      have h1 := oa.2.2 n e
      have : n ≠ 1 := fun z => n1 (by rw [e, z])
      have := Vd.gt h e m
      have := Int.mul_le_mul_of_nonneg_left (show 1 ≤ n - 1 by omega) (show 0 ≤ a.p by have := oa.2.1; omega)
      omega
theorem no_gap {a : Tr} {r : List Tr} {n y : Int} (h : Cn (a :: r)) (e : a.n = some n) (m : mR (a :: r) y) (g : a.s + a.p * (n - 1) < y) : ∃ b r', r = b :: r' ∧ mR r y := by
  rcases (mR_cons _ _ _).mp m with m | m
  · have := mT_le h.vd.ok1 e m
    omega
  · cases r with
    | nil => exact (mR_nil _ m).elim
    | cons b r => exact ⟨b, r, rfl, m⟩
theorem mR_own {a : Tr} {r : List Tr} {j : Int} (h0 : 0 ≤ j) (h : ∀ n, a.n = some n → j < n) : mR (a :: r) (a.s + a.p * j) := (mR_cons _ _ _).mpr (.inl ⟨j, h0, h, rfl⟩)
/-- of two canonical lists with the same times and the same first step the first train can't be longer -/
theorem cn_more {a b : Tr} {r1 r2 : List Tr} (h1 : Cn (a :: r1)) (h2 : Cn (b :: r2)) (hs : a.s = b.s) (hp : a.p = b.p) (h : ∀ x, mR (a :: r1) x ↔ mR (b :: r2) x) {n : Int} (e : b.n = some n) (hn : 1 ≤ n) (more : ∀ k, a.n = some k → n < k) : False := by
  have v1 := h1.vd
  have v2 := h2.vd
  have p1 := v1.ok1.2.1
  have e1 : a.p * (n - 1) = a.p * n - a.p := by rw [Int.mul_sub, Int.mul_one]
  have m0 := (h _).mp (mR_own (a := a) (r := r1) (j := n) (by omega) more)
  obtain ⟨c, r', rfl, m1⟩ := no_gap h2 e m0 (by rw [← hs, ← hp]; omega)
  obtain ⟨k, e2, _, g1, g2⟩ := h2.2.1
  rw [e] at e2; cases e2
  have g3 := Vd.ge v2.2.2 m1
  rw [← hs, ← hp] at g1 g2
  have m2 := (h c.s).mpr ((mR_cons _ _ _).mpr (.inr ((mR_cons _ _ _).mpr (.inl (mT_s v2.2.2.ok1)))))
  rcases (mR_cons _ _ _).mp m2 with ⟨j, j0, _, q⟩ | m2
  · have : n - 1 < j := Int.lt_of_mul_lt_mul_left (a := a.p) (by omega) (by omega)
    have : j < n := Int.lt_of_mul_lt_mul_left (a := a.p) (by omega) (by omega)
    omega
  · cases r1 with
    | nil => exact mR_nil _ m2
    | cons d r1 =>
      obtain ⟨k, e3, _, _⟩ := h1.2.1
      have g4 := Vd.gt v1 e3 m2
      have := more k e3
      have := Int.mul_le_mul_of_nonneg_left (show n ≤ k - 1 by omega) (show 0 ≤ a.p by omega)
      omega
theorem cn_uniq : ∀ (r1 r2 : List Tr), Cn r1 → Cn r2 → (∀ x, mR r1 x ↔ mR r2 x) → r1 = r2
  | [], [], _, _, _ => rfl
  | [], b :: r, _, h2, h => (mR_nil _ ((h b.s).mpr ((mR_cons _ _ _).mpr (.inl (mT_s h2.vd.ok1))))).elim
  | a :: r, [], h1, _, h => (mR_nil _ ((h a.s).mp ((mR_cons _ _ _).mpr (.inl (mT_s h1.vd.ok1))))).elim
  | a :: r1, b :: r2, h1, h2, h => by
    have v1 := h1.vd
    have v2 := h2.vd
    by_cases ea : a.n = some 1
    · have : r1 = [] := by
        cases r1 with
        | nil => rfl
        | cons c r => obtain ⟨n, e, q, _⟩ := h1.2.1; rw [ea] at e; cases e; omega
      subst this
      obtain ⟨e1, e2⟩ := cn_single h1 h2 ea fun x => by rw [← mR_one]; exact h x
      rw [e1, e2]
    by_cases eb : b.n = some 1
    · have : r2 = [] := by
        cases r2 with
        | nil => rfl
        | cons c r => obtain ⟨n, e, q, _⟩ := h2.2.1; rw [eb] at e; cases e; omega
      subst this
      obtain ⟨e1, e2⟩ := cn_single h2 h1 eb fun x => by rw [← mR_one]; exact (h x).symm
      rw [e1, e2]
    have hs : a.s = b.s := by
      have q1 := v2.ge ((h a.s).mp ((mR_cons _ _ _).mpr (.inl (mT_s v1.ok1))))
      have q2 := v1.ge ((h b.s).mpr ((mR_cons _ _ _).mpr (.inl (mT_s v2.ok1))))
      omega
    have hp : a.p = b.p := by
      have q1 := second v2 eb ((h _).mp ((mR_cons _ _ _).mpr (.inl (two_of v1.ok1 ea)))) (by have := v1.ok1.2.1; omega)
      have q2 := second v1 ea ((h _).mpr ((mR_cons _ _ _).mpr (.inl (two_of v2.ok1 eb)))) (by have := v2.ok1.2.1; omega)
      omega
    have hn : a.n = b.n := by
      cases ha : a.n with
      | none =>
        cases hb : b.n with
        | none => rfl
        | some n => exact (cn_more h1 h2 hs hp h hb (v2.ok1.2.2 n hb) fun k z => by rw [ha] at z; cases z).elim
      | some m =>
        cases hb : b.n with
        | none => exact (cn_more h2 h1 hs.symm hp.symm (fun x => (h x).symm) ha (v1.ok1.2.2 m ha) fun k z => by rw [hb] at z; cases z).elim
        | some n =>
          congr 1
          rcases Int.lt_trichotomy m n with l | l | l
          · exact (cn_more h2 h1 hs.symm hp.symm (fun x => (h x).symm) ha (v1.ok1.2.2 m ha) fun k z => by rw [hb] at z; cases z; exact l).elim
          · exact l
          · exact (cn_more h1 h2 hs hp h hb (v2.ok1.2.2 n hb) fun k z => by rw [ha] at z; cases z; exact l).elim
    have hab : a = b := by
      obtain ⟨s1, q1, n1⟩ := a
      obtain ⟨s2, q2, n2⟩ := b
      simp only at hs hp hn
      rw [hs, hp, hn]
    subst hab
    congr 1
    refine cn_uniq r1 r2 h1.tail h2.tail fun x => ?_
    have one : ∀ {r r' : List Tr}, Cn (a :: r) → (∀ x, mR (a :: r) x → mR (a :: r') x) → Cn (a :: r') → mR r x → mR r' x := by
      intro r r' c1 k c2 m
      cases r with
      | nil => exact (mR_nil _ m).elim
      | cons c r =>
        obtain ⟨n, e, _, _⟩ := c1.2.1
        have g := Vd.gt c1.vd e m
        exact (no_gap c2 e (k x ((mR_cons _ _ _).mpr (.inr m))) g).choose_spec.choose_spec.2
    exact ⟨one h1 (fun x => (h x).mp) h2, one h2 (fun x => (h x).mpr) h1⟩

/-! ### joining -/
def nf1 (t : Tr) : Tr := ⟨t.s, if t.n = some 1 then 1 else t.p, t.n⟩
def wf (t : Tr) : List Tr := if t.n = some 1 then [] else [⟨t.s + t.p, if t.n = some 2 then 1 else t.p, t.n.map (· - 1)⟩]
def jn (a : Tr) (m : Int) (t : Tr) : List Tr :=
  if 1 < m ∧ t.s - (a.s + a.p * (m - 1)) ≠ a.p then [a, nf1 t]
  else if t.p = t.s - (a.s + a.p * (m - 1)) ∧ t.n ≠ some 1 then [⟨a.s, t.s - (a.s + a.p * (m - 1)), t.n.map (m + ·)⟩]
  else ⟨a.s, t.s - (a.s + a.p * (m - 1)), some (m + 1)⟩ :: wf t
def stepJ (f : List Tr) (t : Tr) : List Tr := match f.getLast? with
  | none => [nf1 t]
  | some a => f.dropLast ++ jn a (a.n.getD 0) t
def allJ (r : List Tr) : List Tr := r.foldl stepJ []
/-- below B: times and steps -/
def RB (B : Int) (r : List Tr) : Prop := ∀ t ∈ r, t.s < B ∧ t.p < B ∧ ∀ n, t.n = some n → t.s + t.p * (n - 1) < B
theorem RB.app {B : Int} {a b : List Tr} (h1 : RB B a) (h2 : RB B b) : RB B (a ++ b) := fun t m => (List.mem_append.mp m).elim (h1 t) (h2 t)
theorem RB.le {B : Int} {a b : List Tr} (h1 : RB B a) (h2 : ∀ t ∈ b, t ∈ a) : RB B b := fun t m => h1 t (h2 t m)
/-- the same of what was joined: a train without end may begin later -/
def RC (B : Int) (r : List Tr) : Prop := ∀ t ∈ r, t.p < B ∧ (t.n = none → t.s < 2 * B) ∧ ∀ n, t.n = some n → t.s + t.p * (n - 1) < B
theorem mT_p1 {s p q : Int} (x : Int) : mT ⟨s, p, some 1⟩ x ↔ mT ⟨s, q, some 1⟩ x := by
  constructor
  · rintro ⟨j, h0, h1, e⟩
    have := h1 1 rfl
    have : j = 0 := by omega
    subst this
    exact ⟨0, h0, h1, by simpa using e⟩
  · rintro ⟨j, h0, h1, e⟩
    have := h1 1 rfl
    have : j = 0 := by omega
    subst this
    exact ⟨0, h0, h1, by simpa using e⟩
theorem nf1_mem (t : Tr) (x : Int) : mT (nf1 t) x ↔ mT t x := by
  obtain ⟨s, p, n⟩ := t
  unfold nf1
  split
  · rename_i h
    simp only at h
    subst h
    exact mT_p1 x
  · exact Iff.rfl
theorem nf1_ok {t : Tr} (h : okT t) : okT (nf1 t) ∧ ((nf1 t).n = some 1 → (nf1 t).p = 1) := by
  unfold nf1
  split
  · exact ⟨⟨h.1, Int.le_refl 1, h.2.2⟩, fun _ => rfl⟩
  · rename_i q
    exact ⟨h, fun z => absurd z q⟩
/-- two parts of one train -/
theorem mT_split {s p m : Int} {n : Option Int} (m0 : 0 ≤ m) (hn : ∀ k, n = some k → 0 ≤ k) (x : Int) : mT ⟨s, p, n.map (m + ·)⟩ x ↔ mT ⟨s, p, some m⟩ x ∨ mT ⟨s + p * m, p, n⟩ x := by
  constructor
  · rintro ⟨j, h0, h1, e⟩
    by_cases hj : j < m
    · exact .inl ⟨j, h0, fun k z => by cases z; exact hj, e⟩
    · refine .inr ⟨j - m, by omega, fun k z => ?_, ?_⟩
      · have := h1 (m + k) (by simp only at z; rw [z]; rfl)
        omega
      · simp only at e ⊢
        rw [e, Int.mul_sub]
        omega
  · rintro (⟨j, h0, h1, e⟩ | ⟨j, h0, h1, e⟩)
    · refine ⟨j, h0, fun k z => ?_, e⟩
      have := h1 m rfl
      simp only at z
      obtain ⟨k', z1, z2⟩ := Option.map_eq_some_iff.mp z
      have := hn k' z1
      omega
    · refine ⟨m + j, by omega, fun k z => ?_, ?_⟩
      · simp only at z
        obtain ⟨k', z1, z2⟩ := Option.map_eq_some_iff.mp z
        have := h1 k' z1
        omega
      · simp only at e ⊢
        rw [e, Int.mul_add]
        omega
theorem wf_mem {t : Tr} (h : okT t) (x : Int) : mT t x ↔ x = t.s ∨ mR (wf t) x := by
  obtain ⟨s, p, n⟩ := t
  have sp : ∀ {n' : Option Int}, (∀ k, n' = some k → 0 ≤ k) → n = n'.map (1 + ·) → (mT ⟨s, p, n⟩ x ↔ x = s ∨ mT ⟨s + p, p, n'⟩ x) := by
    intro n' hn e
    rw [e, mT_split (by decide) hn]
    rw [show s + p * 1 = s + p by omega]
    refine or_congr ⟨?_, ?_⟩ Iff.rfl
    · rintro ⟨j, h0, h1, e⟩
      have := h1 1 rfl
      have : j = 0 := by omega
      subst this
      simpa using e
    · rintro rfl
      exact ⟨0, by decide, fun k z => by cases z; decide, by simp⟩
  unfold wf
  split
  · rename_i h1
    simp only at h1
    subst h1
    constructor
    · rintro ⟨j, h0, h1, e⟩
      have := h1 1 rfl
      have : j = 0 := by omega
      subst this
      exact .inl (by simpa using e)
    · rintro (rfl | h)
      · exact ⟨0, by decide, fun k z => by cases z; decide, by simp⟩
      · exact (mR_nil _ h).elim
  · rename_i h1
    rw [mR_one]
    simp only at h1
    have e : n = (n.map (· - 1)).map (1 + ·) := by
      cases n with
      | none => rfl
      | some k => simp only [Option.map_some, Option.some.injEq]; omega
    rw [sp (n' := n.map (· - 1)) (fun k z => by
      obtain ⟨k', z1, z2⟩ := Option.map_eq_some_iff.mp z
      have := h.2.2 k' z1
      omega) e]
    refine or_congr Iff.rfl ?_
    split
    · rename_i h2
      simp only at h2
      subst h2
      exact mT_p1 x
    · exact Iff.rfl
/-- what stands at the end -/
def endAt (f : List Tr) (t : Tr) : Prop := ∃ b, f.getLast? = some b ∧ (t.n = none → b.n = none) ∧ ∀ n, t.n = some n → ∃ k, b.n = some k ∧ b.s + b.p * (k - 1) = t.s + t.p * (n - 1)
theorem wf_cn {t : Tr} (h : okT t) {a : Tr} {m : Int} (ho : okT a) (he : a.n = some m) (hm : 2 ≤ m) (hl : a.s + a.p * (m - 1) = t.s) (hd : t.n ≠ some 1 → t.p ≠ a.p) : Cn (a :: wf t) := by
  unfold wf
  split
  · rename_i h1
    exact ⟨ho, fun z => by rw [he] at z; cases z; omega⟩
  · rename_i h1
    have e1 : a.p * (m - 1) = a.p * m - a.p := by rw [Int.mul_sub, Int.mul_one]
    have hp := h.2.1
    have hdd := hd h1
    refine ⟨ho, ⟨m, he, hm, ?_, ?_⟩, ⟨?_, ?_, fun n z => ?_⟩, fun z => ?_⟩
    · show a.s + a.p * (m - 1) < t.s + t.p
      omega
    · show t.s + t.p ≠ a.s + a.p * m
      omega
    · show 0 ≤ t.s + t.p
      have := h.1
      omega
    · show 1 ≤ if t.n = some 2 then (1 : Int) else t.p
      split <;> omega
    · obtain ⟨k, z1, z2⟩ := Option.map_eq_some_iff.mp z
      have := h.2.2 k z1
      have : k ≠ 1 := fun q => h1 (by rw [z1, q])
      omega
    · obtain ⟨k, z1, z2⟩ := Option.map_eq_some_iff.mp z
      show (if t.n = some 2 then (1 : Int) else t.p) = 1
      rw [z1, if_pos (by congr 1; omega)]
theorem wf_end {t : Tr} (h : okT t) {a : Tr} {m : Int} (he : a.n = some m) (hl : a.s + a.p * (m - 1) = t.s) : endAt (a :: wf t) t := by
  unfold wf
  split
  · rename_i h1
    refine ⟨a, rfl, (fun z => by rw [h1] at z; cases z), fun n z => ?_⟩
    rw [h1] at z; cases z
    exact ⟨m, he, by rw [hl]; omega⟩
  · rename_i h1
    refine ⟨⟨t.s + t.p, if t.n = some 2 then 1 else t.p, t.n.map (· - 1)⟩, rfl, (fun z => by simp only [z, Option.map_none]), fun n z => ⟨n - 1, by simp only [z, Option.map_some], ?_⟩⟩
    show t.s + t.p + (if t.n = some 2 then (1 : Int) else t.p) * (n - 1 - 1) = t.s + t.p * (n - 1)
    split
    · rename_i h2
      rw [z] at h2; cases h2
      omega
    · rw [Int.mul_sub, Int.mul_sub, Int.mul_one]
      omega
structure Jd (B : Int) (a t : Tr) (r : List Tr) : Prop where
  cn : Cn r
  hd : ∃ b r', r = b :: r' ∧ b.s = a.s
  mem : ∀ x, mR r x ↔ mT a x ∨ mT t x
  en : endAt r t
  len : r.length ≤ 2
  rb : RC B r
theorem jn_ok {B : Int} {a t : Tr} {m : Int} (ha : Cn [a]) (he : a.n = some m) (hb : a.s + a.p * (m - 1) < t.s) (ht : okT t) (ba : RC B [a]) (bt : RB B [t]) : Jd B a t (jn a m t) := by
  have oa := ha.1
  have hm := oa.2.2 m he
  have ba' := ba a List.mem_cons_self
  have bt' := bt t List.mem_cons_self
  have e1 : a.p * (m - 1) = a.p * m - a.p := by rw [Int.mul_sub, Int.mul_one]
  unfold jn
  split
  · rename_i h
    have ok := nf1_ok ht
    refine ⟨⟨oa, ⟨m, he, by omega, hb, ?_⟩, ok⟩, ⟨_, _, rfl, rfl⟩, fun x => by rw [mR_cons, mR_one, nf1_mem], ⟨nf1 t, rfl, fun z => z, fun n z => ⟨n, z, ?_⟩⟩, by simp, ?_⟩
    · show t.s ≠ a.s + a.p * m
      omega
    · show t.s + (if t.n = some 1 then (1 : Int) else t.p) * (n - 1) = t.s + t.p * (n - 1)
      split
      · rename_i h1
        rw [z] at h1; cases h1
        omega
      · rfl
    · intro u hu
      rcases List.mem_cons.mp hu with rfl | hu
      · exact ba'
      · rcases List.mem_cons.mp hu with rfl | hu
        · refine ⟨?_, fun _ => ?_, fun n z => ?_⟩
          · show (if t.n = some 1 then (1 : Int) else t.p) < B
            have := ht.1
            have := ht.2.1
            split <;> omega
          · show t.s < 2 * B
            have := ht.1
            omega
          · show t.s + (if t.n = some 1 then (1 : Int) else t.p) * (n - 1) < B
            split
            · rename_i h1
              have z' : t.n = some n := z
              rw [z'] at h1; cases h1
              have := bt'.1
              omega
            · exact bt'.2.2 n z
        · cases hu
  · rename_i h
    generalize hδ : t.s - (a.s + a.p * (m - 1)) = δ at *
    have hd1 : 1 ≤ δ := by omega
    -- a with the step δ
    have am : ∀ x, mT a x ↔ mT ⟨a.s, δ, some m⟩ x := by
      intro x
      obtain ⟨s, p, n⟩ := a
      simp only at he h
      subst he
      by_cases q : m = 1
      · subst q; exact mT_p1 x
      · have : δ = p := by
          have : ¬ δ ≠ p := fun z => h ⟨by omega, z⟩
          omega
        rw [this]
    have ts : t.s = a.s + δ * m := by
      by_cases q : m = 1
      · subst q; simp at hδ; omega
      · have : δ = a.p := by
          have : ¬ δ ≠ a.p := fun z => h ⟨by omega, z⟩
          omega
        rw [this]
        rw [this] at hδ
        omega
    have el : a.s + δ * (m + 1 - 1) = t.s := by rw [show m + 1 - 1 = m by omega]; omega
    split
    · rename_i h2
      refine ⟨⟨⟨oa.1, hd1, fun n z => ?_⟩, fun z => ?_⟩, ⟨_, _, rfl, rfl⟩, fun x => ?_, ⟨⟨a.s, δ, t.n.map (m + ·)⟩, rfl, (fun z => by simp only [z, Option.map_none]), fun n z => ⟨m + n, by simp only [z, Option.map_some], ?_⟩⟩, by simp, ?_⟩
      · obtain ⟨k, z1, z2⟩ := Option.map_eq_some_iff.mp z
        have := ht.2.2 k z1
        omega
      · obtain ⟨k, z1, z2⟩ := Option.map_eq_some_iff.mp z
        have := ht.2.2 k z1
        omega
      · rw [mR_one, mT_split (by omega) (fun k z => by have := ht.2.2 k z; omega), am, ← ts]
        obtain ⟨s, p, n⟩ := t
        simp only at h2
        rw [h2.1]
      · show a.s + δ * (m + n - 1) = t.s + t.p * (n - 1)
        rw [h2.1, ts, show m + n - 1 = m + (n - 1) by omega, Int.mul_add]
        omega
      · intro u hu
        rcases List.mem_cons.mp hu with rfl | hu
        · refine ⟨?_, fun _ => ?_, fun n z => ?_⟩
          · show δ < B
            have := bt'.2.1
            omega
          · show a.s < 2 * B
            have := bt'.1
            have := oa.1
            have := Int.mul_nonneg (show 0 ≤ a.p by have := oa.2.1; omega) (show 0 ≤ m - 1 by omega)
            omega
          · obtain ⟨k, z1, z2⟩ := Option.map_eq_some_iff.mp z
            have := bt'.2.2 k z1
            show a.s + δ * (n - 1) < B
            rw [← z2, show m + k - 1 = m + (k - 1) by omega, Int.mul_add]
            rw [h2.1, ts] at this
            omega
        · cases hu
    · rename_i h2
      have h3 : t.n ≠ some 1 → t.p ≠ δ := fun z q => h2 ⟨q, z⟩
      have oo : okT ⟨a.s, δ, some (m + 1)⟩ := ⟨oa.1, hd1, fun n z => by cases z; omega⟩
      refine ⟨wf_cn ht oo rfl (by omega) el h3, ⟨_, _, rfl, rfl⟩, fun x => ?_, wf_end ht rfl el, ?_, ?_⟩
      · have := mT_split (s := a.s) (p := δ) (m := m) (n := some 1) (by omega) (fun k z => by cases z; decide) x
        rw [mR_cons, wf_mem ht, am]
        simp only [Option.map_some] at this
        rw [this, ← ts]
        have one : mT ⟨t.s, δ, some 1⟩ x ↔ x = t.s := by
          constructor
          · rintro ⟨j, h0, h1, e⟩
            have := h1 1 rfl
            have : j = 0 := by omega
            subst this
            simpa using e
          · rintro rfl
            exact ⟨0, by decide, fun k z => by cases z; decide, by simp⟩
        rw [one, or_assoc]
      · unfold wf
        split <;> simp
      · intro u hu
        rcases List.mem_cons.mp hu with rfl | hu
        · refine ⟨?_, (fun z => nomatch z), fun n z => ?_⟩
          · show δ < B
            have := bt'.1
            have := oa.1
            have := Int.mul_nonneg (show 0 ≤ a.p by have := oa.2.1; omega) (show 0 ≤ m - 1 by omega)
            omega
          · cases z
            show a.s + δ * (m + 1 - 1) < B
            rw [el]
            exact bt'.1
        · unfold wf at hu
          split at hu
          · cases hu
          · rename_i h1
            rcases List.mem_cons.mp hu with rfl | hu
            · have h0 := ht.1
              have hp := ht.2.1
              refine ⟨?_, fun _ => ?_, fun n z => ?_⟩
              · show (if t.n = some 2 then (1 : Int) else t.p) < B
                split <;> omega
              · show t.s + t.p < 2 * B
                omega
              · obtain ⟨k, z1, z2⟩ := Option.map_eq_some_iff.mp z
                have q := bt'.2.2 k z1
                show t.s + t.p + (if t.n = some 2 then (1 : Int) else t.p) * (n - 1) < B
                have ek : t.p * (k - 1) = t.p * (n - 1) + t.p := by rw [← z2, show k - 1 = (k - 1 - 1) + 1 by omega, Int.mul_add, Int.mul_one, show k - 1 - 1 + 1 - 1 = k - 1 - 1 by omega]
                split
                · rename_i h4
                  rw [z1] at h4; cases h4
                  have : n = 1 := by omega
                  subst this
                  omega
                · omega
            · cases hu

theorem cn_app : ∀ {l : List Tr} {a : Tr} {r : List Tr} {b : Tr}, Cn (l ++ [a]) → b.s = a.s → Cn (b :: r) → Cn (l ++ b :: r)
  | [], a, r, b, _, _, h => h
  | [c], a, r, b, h, e, q => by
    obtain ⟨h1, ⟨n, e1, e2, e3, e4⟩, h2⟩ := h
    exact ⟨h1, ⟨n, e1, e2, by rw [e]; exact e3, by rw [e]; exact e4⟩, q⟩
  | c :: d :: l, a, r, b, h, e, q => ⟨h.1, h.2.1, cn_app (l := d :: l) h.2.2 e q⟩
theorem cn_last : ∀ {l : List Tr} {a : Tr}, Cn (l ++ [a]) → Cn [a]
  | [], a, h => h
  | [c], a, h => h.2.2
  | c :: d :: l, a, h => cn_last (l := d :: l) h.2.2
/-- one step of the fold -/
theorem step_ok {B : Int} {f : List Tr} {t : Tr} (hf : Cn f) (bf : RC B f) (ht : okT t) (bt : RB B [t]) (hb : ∀ a, f.getLast? = some a → bef a t) :
    Cn (stepJ f t) ∧ (∀ x, mR (stepJ f t) x ↔ mR f x ∨ mT t x) ∧ endAt (stepJ f t) t ∧ (stepJ f t).length ≤ f.length + 1 ∧ RC B (stepJ f t) := by
  unfold stepJ
  cases e : f.getLast? with
  | none =>
    have : f = [] := List.getLast?_eq_none_iff.mp e
    subst this
    have bt' := bt t List.mem_cons_self
    refine ⟨nf1_ok ht, fun x => by rw [mR_one, nf1_mem]; exact ⟨.inr, fun h => h.elim (fun h => (mR_nil x h).elim) id⟩, ⟨nf1 t, rfl, fun z => z, fun n z => ⟨n, z, ?_⟩⟩, by simp, ?_⟩
    · show t.s + (if t.n = some 1 then (1 : Int) else t.p) * (n - 1) = t.s + t.p * (n - 1)
      split
      · rename_i h1
        rw [z] at h1; cases h1
        omega
      · rfl
    · intro u hu
      rcases List.mem_cons.mp hu with rfl | hu
      · refine ⟨?_, fun _ => ?_, fun n z => ?_⟩
        · show (if t.n = some 1 then (1 : Int) else t.p) < B
          have := ht.1
          have := ht.2.1
          split <;> omega
        · show t.s < 2 * B
          have := ht.1
          omega
        · show t.s + (if t.n = some 1 then (1 : Int) else t.p) * (n - 1) < B
          split
          · rename_i h1
            have z' : t.n = some n := z
            rw [z'] at h1; cases h1
            have := bt'.1
            omega
          · exact bt'.2.2 n z
      · cases hu
  | some a =>
    obtain ⟨l, rfl⟩ := List.getLast?_eq_some_iff.mp e
    obtain ⟨m, em, hl⟩ := hb a e
    have J := jn_ok (cn_last hf) em hl ht (fun u hu => bf u (List.mem_append_right _ hu)) bt
    obtain ⟨b, r', e1, e2⟩ := J.hd
    simp only [em, Option.getD_some, List.dropLast_concat]
    refine ⟨?_, fun x => ?_, ?_, ?_, fun u hu => ?_⟩
    · rw [e1]
      have c := J.cn
      rw [e1] at c
      exact cn_app hf e2 c
    · rw [mR_app, J.mem, mR_app, mR_one, or_assoc]
    · obtain ⟨c, q1, q2⟩ := J.en
      refine ⟨c, ?_, q2⟩
      rw [List.getLast?_append, q1]
      rfl
    · have := J.len
      simp only [List.length_append, List.length_cons, List.length_nil]
      omega
    · rcases List.mem_append.mp hu with hu | hu
      · exact bf u (List.mem_append_left _ hu)
      · exact J.rb u hu
theorem fold_J {B : Int} : ∀ (r f : List Tr), Cn f → RC B f → Vd r → RB B r → (∀ a t, f.getLast? = some a → r.head? = some t → bef a t) → Cn (r.foldl stepJ f) ∧ (∀ x, mR (r.foldl stepJ f) x ↔ mR f x ∨ mR r x) ∧ (r.foldl stepJ f).length ≤ f.length + r.length ∧ RC B (r.foldl stepJ f)
  | [], f, hf, bf, _, _, _ => ⟨hf, fun x => ⟨.inl, fun h => h.elim id fun h => (mR_nil x h).elim⟩, by simp, bf⟩
  | t :: r, f, hf, bf, hv, br, hb => by
    obtain ⟨s1, s2, s3, s4, s5⟩ := step_ok hf bf hv.ok1 (br.le fun u hu => by simp at hu; subst hu; exact List.mem_cons_self) fun a e => hb a t e rfl
    obtain ⟨i1, i2, i3, i4⟩ := fold_J r (stepJ f t) s1 s5 hv.tail (br.le fun u hu => List.mem_cons_of_mem _ hu) (fun a u e1 e2 => by
      obtain ⟨b, q1, q2, q3⟩ := s3
      rw [q1] at e1; cases e1
      cases r with
      | nil => cases e2
      | cons v r =>
        cases e2
        obtain ⟨n, e3, e4⟩ := hv.2.1
        obtain ⟨k, e5, e6⟩ := q3 n e3
        exact ⟨k, e5, by rw [e6]; exact e4⟩)
    refine ⟨i1, fun x => ?_, ?_, i4⟩
    · rw [List.foldl_cons, i2, s2, mR_cons, or_assoc]
    · rw [List.foldl_cons, List.length_cons]
      omega
theorem allJ_ok {B : Int} {r : List Tr} (hv : Vd r) (br : RB B r) : Cn (allJ r) ∧ (∀ x, mR (allJ r) x ↔ mR r x) ∧ (allJ r).length ≤ r.length ∧ RC B (allJ r) := by
  obtain ⟨h1, h2, h3, h4⟩ := fold_J (B := B) r [] trivial (fun _ h => nomatch h) hv br (fun a t e => nomatch e)
  refine ⟨h1, fun x => ?_, by simp at h3; exact h3, h4⟩
  rw [show allJ r = r.foldl stepJ [] from rfl, h2]
  exact ⟨fun h => h.elim (fun h => (mR_nil x h).elim) id, .inr⟩
/-- a bound there is always -/
theorem rb_ex : ∀ r : List Tr, ∃ B, RB B r
  | [] => ⟨0, fun _ h => nomatch h⟩
  | t :: r => by
    obtain ⟨B, h⟩ := rb_ex r
    let M := max (max B (t.s + 1)) (max (t.p + 1) (match t.n with | none => 0 | some n => t.s + t.p * (n - 1) + 1))
    refine ⟨M, fun u hu => ?_⟩
    have l1 : B ≤ M := Int.le_trans (Int.le_max_left _ _) (Int.le_max_left _ _)
    have l2 : t.s + 1 ≤ M := Int.le_trans (Int.le_max_right _ _) (Int.le_max_left _ _)
    have l3 : t.p + 1 ≤ M := Int.le_trans (Int.le_max_left _ _) (Int.le_max_right _ _)
    have l4 : (match t.n with | none => 0 | some n => t.s + t.p * (n - 1) + 1) ≤ M := Int.le_trans (Int.le_max_right _ _) (Int.le_max_right _ _)
    rcases List.mem_cons.mp hu with rfl | hu
    · refine ⟨by omega, by omega, fun n z => ?_⟩
      rw [z] at l4
      simp only at l4
      omega
    · obtain ⟨h1, h2, h3⟩ := h u hu
      exact ⟨by omega, by omega, fun n z => by have := h3 n z; omega⟩
/-- canonical lists stay as they are -/
theorem allJ_cn {r : List Tr} (h : Cn r) : allJ r = r := by
  obtain ⟨B, hB⟩ := rb_ex r
  obtain ⟨h1, h2, _, _⟩ := allJ_ok h.vd hB
  exact cn_uniq _ _ h1 h h2
theorem allJ_eq {r1 r2 : List Tr} (h1 : Vd r1) (h2 : Vd r2) (h : ∀ x, mR r1 x ↔ mR r2 x) : allJ r1 = allJ r2 := by
  obtain ⟨B1, b1⟩ := rb_ex r1
  obtain ⟨B2, b2⟩ := rb_ex r2
  obtain ⟨c1, m1, _, _⟩ := allJ_ok h1 b1
  obtain ⟨c2, m2, _, _⟩ := allJ_ok h2 b2
  exact cn_uniq _ _ c1 c2 fun x => by rw [m1, m2, h]
theorem allJ_idem {r : List Tr} (h : Vd r) : allJ (allJ r) = allJ r := by
  obtain ⟨B, hB⟩ := rb_ex r
  exact allJ_cn (allJ_ok h hB).1

/-! ### great numbers -/
@[irreducible] def BB : Int := 2 ^ 3000
theorem BB_big : 10 ^ 600 < BB := by unfold BB; decide +kernel
theorem log_bb {a : Int} (h1 : -(1000 * BB) < a) (h2 : a < 1000 * BB) : a.natAbs.log2 < 4000 := by
  by_cases z : a.natAbs = 0
  · rw [z]; decide
  · rw [Nat.log2_lt z]
    have e : (1000 : Int) * BB < 2 ^ 4000 := by unfold BB; decide +kernel
    have : (a.natAbs : Int) < 2 ^ 4000 := by omega
    exact Int.ofNat_lt.mp (by simpa using this)
theorem mul_bb {a b : Int} (h1 : -(1000 * BB) < a) (h2 : a < 1000 * BB) (h3 : -(1000 * BB) < b) (h4 : b < 1000 * BB) : mulOk a b = true := by
  have := log_bb h1 h2
  have := log_bb h3 h4
  unfold mulOk
  rw [decide_eq_true (p := a.natAbs.log2 + b.natAbs.log2 < 1000000) (by omega)]
  simp only [Bool.or_true]
theorem div_bb {b : Int} (h1 : 0 < b) (h2 : b < 1000 * BB) : b.natAbs.log2 < 9000 := by
  have := log_bb (a := b) (by have := BB_big; omega) h2
  omega
/-! ### trains as data -/
def cD : Option Int → D
  | none => .non
  | some n => .int n
abbrev tD (t : Tr) : D := .tup [.int t.s, .int t.p, cD t.n]
abbrev rD (r : List Tr) : D := .lst (r.map tD)
abbrev TO (r : List Tr) : D := .obj 0 ["listed"] [rD r]
theorem i3_0 (x y z : D) : atI [x, y, z] 0 = some x := rfl
theorem i3_1 (x y z : D) : atI [x, y, z] 1 = some y := rfl
theorem i3_2 (x y z : D) : atI [x, y, z] 2 = some z := rfl
theorem i1_m (x : D) : atI [x] (-1) = some x := rfl
theorem cut_init (xs : List D) : cutD xs none (some (-1)) = xs.dropLast := by
  unfold cutD
  rw [HT.sIx_none, List.drop_zero, Nat.sub_zero, List.dropLast_eq_take]
  congr 1
  show (if (-1 : Int) < 0 then (-1 + (xs.length : Int)).toNat else min (-1 : Int).toNat xs.length) = _
  rw [if_pos (by decide)]
  omega
def lastL (xs : List D) : List D := match xs.getLast? with
  | none => []
  | some a => [a]
theorem cut_last (xs : List D) : cutD xs (some (-1)) none = lastL xs := by
  unfold cutD
  rw [HT.sIx_none]
  have e : HT.sIx xs.length 0 (some (-1)) = xs.length - 1 := by
    show (if (-1 : Int) < 0 then (-1 + (xs.length : Int)).toNat else min (-1 : Int).toNat xs.length) = _
    rw [if_pos (by decide)]
    omega
  rw [e, List.take_of_length_le (by rw [List.length_drop]; omega)]
  unfold lastL
  cases h : xs.getLast? with
  | none =>
    rw [List.getLast?_eq_none_iff] at h
    subst h
    rfl
  | some a =>
    obtain ⟨l, rfl⟩ := List.getLast?_eq_some_iff.mp h
    simp
theorem eq_ni (i : Int) : eqd .non (.int i) = false := by simp [eqd]
theorem eq_in (i : Int) : eqd (.int i) .non = false := by simp [eqd]
theorem is_int_i (i : Int) (b : Bool) : F_is_integer [some (.int i, b)] = some (.fz (.bl true), [some (.int i, b)]) := by
  cases b <;> simp [F_is_integer, DV.SC, DV.SE, DV.SX]
theorem is_int_n (b : Bool) : F_is_integer [some (.non, b)] = some (.fz (.bl false), [some (.non, b)]) := by
  cases b <;> simp [F_is_integer, DV.SC, DV.SE, DV.SX]
theorem is_train_ok {t : Tr} (h : okT t) : F_is_train [some (tD t, false)] = some (.fz (.bl true), [some (tD t, false)]) := by
  obtain ⟨s, p, n⟩ := t
  obtain ⟨h1, h2, h3⟩ := h
  simp only at h1 h2 h3
  have a1 : ¬ s < 0 := by omega
  have a2 : ¬ p < 1 := by omega
  cases n with
  | none => simp [F_is_train, DV.SC, DV.SE, DV.SX, i3_0, i3_1, i3_2, is_int_i, a1, a2, cD]
  | some n =>
    have a3 : 1 ≤ n := h3 n rfl
    simp [F_is_train, DV.SC, DV.SE, DV.SX, i3_0, i3_1, i3_2, is_int_i, a1, a2, a3, cD]
theorem last_of_ok {s p n : Int} (m : mulOk p (n - 1) = true) : F_last_of [some (.tup [.int s, .int p, .int n], false)] = some (.fz (.int (s + p * (n - 1))), [some (.tup [.int s, .int p, .int n], false)]) := by
  simp [F_last_of, DV.SC, DV.SE, DV.SX, i3_0, i3_1, i3_2, m]
/-- a train whose numbers are not too great -/
theorem tr_mul {B : Int} (hB : B ≤ 8 * BB) {t : Tr} {n : Int} (h : okT t) (e : t.n = some n) (hl : t.s + t.p * (n - 1) < B) (hp : t.p < B) : mulOk t.p (n - 1) = true := by
  have h1 := h.1
  have h2 := h.2.1
  have h3 := h.2.2 n e
  have : 1 * (n - 1) ≤ t.p * (n - 1) := Int.mul_le_mul_of_nonneg_right h2 (by omega)
  have := BB_big
  exact mul_bb (by omega) (by omega) (by omega) (by omega)
theorem sz : sizeLine = 16777216 := rfl
theorem without_first_ok (t : Tr) : F_without_first [some (tD t, false)] = some (.nw (rD (wf t)), [some (tD t, false)]) := by
  obtain ⟨s, p, n⟩ := t
  cases n with
  | none => simp [F_without_first, DV.SC, DV.SE, DV.SX, eq_ni, wf, cD, sizeLine]
  | some n =>
    by_cases h1 : n = 1
    · subst h1
      simp [F_without_first, DV.SC, DV.SE, DV.SX, eq_ni, wf, cD, sizeLine]
    · by_cases h2 : n = 2
      · subst h2
        simp [F_without_first, DV.SC, DV.SE, DV.SX, eq_ni, wf, cD, sizeLine]
      · simp [F_without_first, DV.SC, DV.SE, DV.SX, eq_ni, wf, cD, sizeLine, h1, h2]
theorem joined_nil (t : Tr) : F_joined [some (.lst [], true), some (tD t, false)] = some (.nw (rD [nf1 t]), [some (.lst [], true), some (tD t, false)]) := by
  obtain ⟨s, p, n⟩ := t
  cases n with
  | none => simp [F_joined, DV.SC, DV.SE, DV.SX, eq_ni, nf1, cD, sizeLine]
  | some n =>
    by_cases h1 : n = 1
    · subst h1
      simp [F_joined, DV.SC, DV.SE, DV.SX, eq_ni, nf1, cD, sizeLine]
    · simp [F_joined, DV.SC, DV.SE, DV.SX, eq_ni, nf1, cD, sizeLine, h1]
theorem joined_one {a t : Tr} {m : Int} (he : a.n = some m) (hm : mulOk a.p (m - 1) = true) : F_joined [some (.lst [tD a], true), some (tD t, false)] = some (.nw (rD (jn a m t)), [some (.lst [tD a], true), some (tD t, false)]) := by
  obtain ⟨s, p, n⟩ := t
  obtain ⟨s1, p1, n1⟩ := a
  simp only at he hm
  subst he
  have lo := last_of_ok (s := s1) hm
  have ok1 : okB 12 (.lst [.tup [.int s1, .int p1, .int m]]) = true := rfl
  have e1 : eqd (.lst [.tup [.int s1, .int p1, .int m]]) (.lst []) = false := by simp [eqd, eqds]
  have ci : cutD [.tup [.int s1, .int p1, .int m]] none (some (-1)) = [] := by rw [cut_init]; rfl
  have wo := without_first_ok ⟨s, p, n⟩
  unfold jn
  simp only [tD, rD, cD] at wo ⊢
  generalize hδ : s - (s1 + p1 * (m - 1)) = δ at *
  by_cases c1 : 1 < m ∧ δ ≠ p1
  · rw [if_pos c1]
    obtain ⟨c1, c2⟩ := c1
    cases n with
    | none => simp [F_joined, DV.SC, DV.SE, DV.SX, eq_ni, nf1, cD, sizeLine, ok1, e1, i1_m, lo, hδ, c1, c2]
    | some n =>
      by_cases h1 : n = 1
      · subst h1
        simp [F_joined, DV.SC, DV.SE, DV.SX, eq_ni, nf1, cD, sizeLine, ok1, e1, i1_m, lo, hδ, c1, c2]
      · simp [F_joined, DV.SC, DV.SE, DV.SX, eq_ni, nf1, cD, sizeLine, ok1, e1, i1_m, lo, hδ, c1, c2, h1]
  · rw [if_neg c1]
    have t1 : 1 < m → (δ == p1) = true := fun q => by
      have : δ = p1 := Decidable.byContradiction fun z => c1 ⟨q, z⟩
      simp [this]
    by_cases c2 : p = δ ∧ n ≠ some 1
    · rw [if_pos c2]
      obtain ⟨c2, c3⟩ := c2
      cases n with
      | none =>
        by_cases q : 1 < m
        · simp [F_joined, DV.SC, DV.SE, DV.SX, eq_ni, cD, sizeLine, ok1, e1, i1_m, lo, hδ, t1 q, q, c2, ci]
        · simp [F_joined, DV.SC, DV.SE, DV.SX, eq_ni, cD, sizeLine, ok1, e1, i1_m, lo, hδ, q, c2, ci]
      | some n =>
        have h1 : ¬ n = 1 := fun z => c3 (by rw [z])
        by_cases q : 1 < m
        · simp [F_joined, DV.SC, DV.SE, DV.SX, eq_ni, cD, sizeLine, ok1, e1, i1_m, lo, hδ, t1 q, q, c2, ci, h1]
        · simp [F_joined, DV.SC, DV.SE, DV.SX, eq_ni, cD, sizeLine, ok1, e1, i1_m, lo, hδ, q, c2, ci, h1]
    · rw [if_neg c2]
      have wl : (wf ⟨s, p, n⟩).length ≤ 1 := by unfold wf; split <;> simp
      generalize hW : wf ⟨s, p, n⟩ = W at *
      have wl2 : W.length + 1 ≤ 16777216 := by omega
      have fin : ∀ (c3 : n = some 1 ∨ (p == δ) = false), F_joined [some (.lst [.tup [.int s1, .int p1, .int m]], true), some (.tup [.int s, .int p, cD n], false)] = some (.nw (.lst ((⟨s1, δ, some (m + 1)⟩ :: W).map tD)), [some (.lst [.tup [.int s1, .int p1, .int m]], true), some (.tup [.int s, .int p, cD n], false)]) := by
        intro c3
        have k1 : okB 12 (cD n) = true := by cases n <;> rfl
        have wo' : F_without_first [some (.tup [.int s, .int p, cD n], false)] = some (.nw (.lst (W.map tD)), [some (.tup [.int s, .int p, cD n], false)]) := wo
        have k2 : (eqd (.int p) (.int δ) && !(eqd (cD n) (.int 1))) = false := by
          rcases c3 with c3 | c3
          · subst c3; simp [cD, eqd]
          · simp [eqd, c3]
        have k3 : (if (p == δ) = true then !eqd (cD n) (.int 1) else false) = false := by
          rcases c3 with c3 | c3
          · subst c3; simp [cD, eqd]
          · simp [c3]
        generalize cD n = N at *
        by_cases q : 1 < m
        · by_cases c4 : (p == δ) = true
          · rw [c4] at k3
            simp only [if_true] at k3
            simp [F_joined, DV.SC, DV.SE, DV.SX, sizeLine, ok1, e1, i1_m, lo, hδ, t1 q, q, c4, k1, k3, ci, wo', wl2, Nat.add_comm, cD]
          · have c4' : (p == δ) = false := by simpa using c4
            simp [F_joined, DV.SC, DV.SE, DV.SX, sizeLine, ok1, e1, i1_m, lo, hδ, t1 q, q, c4', k1, ci, wo', wl2, Nat.add_comm, cD]
        · by_cases c4 : (p == δ) = true
          · rw [c4] at k3
            simp only [if_true] at k3
            simp [F_joined, DV.SC, DV.SE, DV.SX, sizeLine, ok1, e1, i1_m, lo, hδ, q, c4, k1, k3, ci, wo', wl2, Nat.add_comm, cD]
          · have c4' : (p == δ) = false := by simpa using c4
            simp [F_joined, DV.SC, DV.SE, DV.SX, sizeLine, ok1, e1, i1_m, lo, hδ, q, c4', k1, ci, wo', wl2, Nat.add_comm, cD]
      refine fin ?_
      by_cases h1 : n = some 1
      · exact .inl h1
      · exact .inr (by simpa using fun z => c2 ⟨z, h1⟩)

/-! ### making Trains -/
theorem atI_n (xs : List D) (k : Nat) (i : Int) (x : D) (e : i = (k : Int)) (h : xs[k]? = some x) : atI xs i = some x := by rw [e]; exact atI_nat h
abbrev ctG (r : List Tr) (x1 x2 : Sl) : Ct := [some (rD r, false), x1, x2]
theorem check_body0 (pn : List Nat) (r : List Tr) (t : Tr) (ht : okT t) : exs [F_is_train, F_last_of] pn B_check_trains_1 (ctG r (some (.int 0, false)) (some (tD t, false))) = some (.nx (ctG r (some (.int 0, false)) (some (tD t, false)))) := by
  have h := is_train_ok ht
  generalize hD : tD t = T at *
  simp [B_check_trains_1, DV.SC, DV.SE, DV.SX, h]
theorem check_body1' (pn : List Nat) (R : List D) (T : D) (K s p m ts : Int) (c0 : 0 < K) (h : F_is_train [some (T, false)] = some (.fz (.bl true), [some (T, false)])) (i1 : atI R (K - 1) = some (.tup [.int s, .int p, .int m])) (lo : F_last_of [some (.tup [.int s, .int p, .int m], false)] = some (.fz (.int (s + p * (m - 1))), [some (.tup [.int s, .int p, .int m], false)])) (e0 : ixD T (.int 0) = some (.int ts)) (l2 : ¬ ts ≤ s + p * (m - 1)) :
    exs [F_is_train, F_last_of] pn B_check_trains_1 [some (.lst R, false), some (.int K, false), some (T, false)] = some (.nx [some (.lst R, false), some (.int K, false), some (T, false)]) := by
  simp [B_check_trains_1, DV.SC, DV.SE, DV.SX, h, i1, c0, i3_2, lo, e0, l2]
theorem check_body1 (pn : List Nat) (r : List Tr) (a t : Tr) (k : Nat) (m : Int) (ht : okT t) (ha : r[k]? = some a) (em : a.n = some m) (hm : mulOk a.p (m - 1) = true) (hl : a.s + a.p * (m - 1) < t.s) :
    exs [F_is_train, F_last_of] pn B_check_trains_1 (ctG r (some (.int ((k + 1 : Nat) : Int), false)) (some (tD t, false))) = some (.nx (ctG r (some (.int ((k + 1 : Nat) : Int), false)) (some (tD t, false)))) := by
  have i1 : atI (r.map tD) (((k + 1 : Nat) : Int) - 1) = some (tD a) := atI_n _ k _ _ (by omega) (by rw [List.getElem?_map, ha]; rfl)
  have eT : tD a = .tup [.int a.s, .int a.p, .int m] := by simp only [tD, em, cD]
  rw [eT] at i1
  exact check_body1' pn _ _ _ a.s a.p m t.s (by omega) (is_train_ok ht) i1 (last_of_ok hm) (by simp only [tD, ixD, i3_0]) (by omega)
theorem check_loop (pn : List Nat) {B : Int} (hB : B ≤ 8 * BB) (r : List Tr) (hr : RB B r) : ∀ (suf pre : List Tr) (x1 x2 : Sl), r = pre ++ suf → Vd suf → (∀ a t, pre.getLast? = some a → suf.head? = some t → bef a t ∧ okT a) → ∃ y1 y2, forLoop (.tp [.nm 1, .nm 2]) (exs [F_is_train, F_last_of] pn B_check_trains_1) (enumD pre.length (suf.map tD)) (ctG r x1 x2) = some (.nx (ctG r y1 y2))
  | [], pre, x1, x2, _, _, _ => ⟨x1, x2, by simp [enumD, forLoop]⟩
  | t :: suf, pre, x1, x2, e, hv, hb => by
    obtain ⟨y1, y2, ih⟩ := check_loop pn hB r hr suf (pre ++ [t]) (some (.int (pre.length : Int), false)) (some (tD t, false)) (by rw [e]; simp) hv.tail (fun a u q1 q2 => by
      simp at q1; subst q1
      cases suf with
      | nil => cases q2
      | cons v suf => cases q2; exact ⟨hv.2.1, hv.1⟩)
    refine ⟨y1, y2, ?_⟩
    rw [List.map_cons, enumD, ← ih, List.length_append, List.length_cons, List.length_nil]
    refine forLoop_step (Γ1 := ctG r (some (.int (pre.length : Int), false)) (some (tD t, false))) (by simp [DV.SC, DV.SE, DV.SX]) ?_
    cases hp : pre.getLast? with
    | none =>
      have : pre = [] := List.getLast?_eq_none_iff.mp hp
      subst this
      exact check_body0 pn r t hv.ok1
    | some a =>
      obtain ⟨l, rfl⟩ := List.getLast?_eq_some_iff.mp hp
      obtain ⟨⟨m, em, hl⟩, oa⟩ := hb a t hp rfl
      have ha : r[l.length]? = some a := by rw [e]; simp
      have q := hr a (List.mem_of_getElem? ha)
      rw [List.length_append, List.length_cons, List.length_nil]
      exact check_body1 pn r a t l.length m hv.ok1 ha em (tr_mul hB oa em (q.2.2 m em) q.2.1) hl
theorem check_trains_ok {B : Int} (hB : B ≤ 8 * BB) {r : List Tr} (hv : Vd r) (hr : RB B r) (hl : r.length ≤ 1000) (fl : Bool) : F_check_trains [some (rD r, fl)] = some (.fz .non, [some (rD r, false)]) := by
  have hl2 : ¬ (1000 : Int) < (r.length : Int) := by omega
  have run : ∀ pn : List Nat, disjB [1, 2] pn = true → ∃ y1 y2, exs [F_is_train, F_last_of] pn [.ite (.or (.not (.bi (.isi .list) [.var 0])) (.cmp .gt (.bi .len [.var 0]) (.cst (.int 1000)))) [.stuck] [], .for_ (.tp [.nm 1, .nm 2]) .enum [.var 0] B_check_trains_1] [some (rD r, fl), none, none] = some (.nx (ctG r y1 y2)) := by
    intro pn hd
    obtain ⟨y1, y2, e⟩ := check_loop pn hB r hr r [] none none rfl hv (fun a t q => nomatch q)
    refine ⟨y1, y2, (exs_nx (Γ1 := [some (rD r, fl), none, none]) (by cases fl <;> simp [DV.SC, DV.SE, DV.SX, hl2])).trans ?_⟩
    exact (exs_nx (ex_for (Γ2 := ctG r none none) (ds := enumD 0 (r.map tD)) (by cases fl <;> simp [DV.SC, DV.SE, DV.SX]) (by simpa [DV.SC, DV.SE, DV.SX] using hd) e)).trans (by simp only [DV.exs.eq_1])
  cases fl with
  | false =>
    obtain ⟨y1, y2, e⟩ := run [] rfl
    exact runF_by (o := .nx (ctG r y1 y2)) rfl e rfl
  | true =>
    obtain ⟨y1, y2, e⟩ := run [0] rfl
    exact runF_by (o := .nx (ctG r y1 y2)) rfl e rfl
/-! ### all_joined -/
theorem lastL_map (f : List Tr) : lastL (f.map tD) = match f.getLast? with | none => [] | some a => [tD a] := by
  unfold lastL
  rw [List.getLast?_map]
  cases f.getLast? <;> rfl
theorem jn_len (a : Tr) (m : Int) (t : Tr) : (jn a m t).length ≤ 2 := by
  unfold jn wf
  split
  · simp
  · split
    · simp
    · split <;> simp
theorem stepJ_len (f : List Tr) (t : Tr) : (stepJ f t).length ≤ f.length + 1 := by
  unfold stepJ
  split
  · simp
  · rename_i a h
    obtain ⟨l, rfl⟩ := List.getLast?_eq_some_iff.mp h
    have := jn_len a (a.n.getD 0) t
    simp only [List.dropLast_concat, List.length_append, List.length_cons, List.length_nil]
    omega
theorem allj_body (X : List D) (T : D) (Y Z J : List D) (pn : List Nat) (hp : disjB [1] pn = true) (W : Sl) (e1 : cutD X none (some (-1)) = Y) (e2 : cutD X (some (-1)) none = Z) (e3 : F_joined [some (.lst Z, true), some (T, false)] = some (.nw (.lst J), [some (.lst Z, true), some (T, false)])) (hl : Y.length + J.length ≤ 16777216) :
    exs [F_joined] pn B_all_joined_1 [W, some (.lst X, true), some (T, false)] = some (.nx [W, some (.lst (Y ++ J), true), some (T, false)]) := by
  have hp' : ¬ 1 ∈ pn := by simpa [disjB] using hp
  simp [B_all_joined_1, DV.SC, DV.SE, DV.SX, e1, e2, e3, hl, sizeLine, hp']
theorem allj_loop {B : Int} (hB : B ≤ 8 * BB) (pn : List Nat) (hp : disjB [1] pn = true) (W : Sl) : ∀ (r f : List Tr) (x2 : Sl), Cn f → RC B f → Vd r → RB B r → (∀ a t, f.getLast? = some a → r.head? = some t → bef a t) → f.length + r.length ≤ 1000000 →
    ∃ y2, forLoop (.nm 2) (exs [F_joined] pn B_all_joined_1) (r.map tD) [W, some (rD f, true), x2] = some (.nx [W, some (rD (r.foldl stepJ f), true), y2])
  | [], f, x2, _, _, _, _, _, _ => ⟨x2, by simp [forLoop]⟩
  | t :: r, f, x2, hf, bf, hv, br, hb, hl => by
    obtain ⟨s1, s2, s3, s4, s5⟩ := step_ok hf bf hv.ok1 (br.le fun u hu => by simp at hu; subst hu; exact List.mem_cons_self) fun a e => hb a t e rfl
    rw [List.length_cons] at hl
    obtain ⟨y2, ih⟩ := allj_loop hB pn hp W r (stepJ f t) (some (tD t, false)) s1 s5 hv.tail (br.le fun u hu => List.mem_cons_of_mem _ hu) (fun a u e1 e2 => by
      obtain ⟨b, q1, q2, q3⟩ := s3
      rw [q1] at e1; cases e1
      cases r with
      | nil => cases e2
      | cons v r =>
        cases e2
        obtain ⟨n, e3, e4⟩ := hv.2.1
        obtain ⟨k, e5, e6⟩ := q3 n e3
        exact ⟨k, e5, by rw [e6]; exact e4⟩) (by omega)
    refine ⟨y2, ?_⟩
    rw [List.map_cons, List.foldl_cons, ← ih]
    refine forLoop_step (Γ1 := [W, some (rD f, true), some (tD t, false)]) (by simp [DV.SC, DV.SE, DV.SX]) ?_
    cases e : f.getLast? with
    | none =>
      have : f = [] := List.getLast?_eq_none_iff.mp e
      subst this
      exact allj_body _ _ [] [] ([nf1 t].map tD) pn hp W rfl rfl (joined_nil t) (by simp)
    | some a =>
      obtain ⟨m, em, el⟩ := hb a t e rfl
      obtain ⟨l, rfl⟩ := List.getLast?_eq_some_iff.mp e
      have ob := bf a (List.mem_append_right _ List.mem_cons_self)
      have oa : okT a := hf.vd.okm a (List.mem_append_right _ List.mem_cons_self)
      have q := allj_body ((l ++ [a]).map tD) (tD t) (l.map tD) [tD a] ((jn a m t).map tD) pn hp W (by rw [cut_init]; simp) (by rw [cut_last, lastL_map, e]) (joined_one em (tr_mul hB oa em (ob.2.2 m em) ob.1)) (by
        have := jn_len a m t
        simp only [List.length_append, List.length_cons, List.length_nil] at hl
        simp only [List.length_map]
        omega)
      have eS : stepJ (l ++ [a]) t = l ++ jn a m t := by
        unfold stepJ
        simp only [e, em, Option.getD_some, List.dropLast_concat]
      rw [eS, show rD (l ++ jn a m t) = .lst (l.map tD ++ (jn a m t).map tD) by simp only [rD, List.map_append]]
      exact q
theorem all_joined_ok {B : Int} (hB : B ≤ 8 * BB) {r : List Tr} (hv : Vd r) (hr : RB B r) (hl : r.length ≤ 1000000) (fl : Bool) : F_all_joined [some (rD r, fl)] = some (.nw (rD (allJ r)), [some (rD r, false)]) := by
  have run : ∀ pn : List Nat, disjB [1] pn = true → disjB [2] pn = true → ∃ y2, exs [F_joined] pn [.asgO 1 (.lst []), .for_ (.nm 2) .seq [.var 0] B_all_joined_1, .ret (.var 1)] [some (rD r, fl), none, none] = some (.rt (.sl 1) [some (rD r, false), some (rD (allJ r), true), y2]) := by
    intro pn h1 h2
    obtain ⟨y2, e⟩ := allj_loop hB pn h1 (some (rD r, false)) r [] none trivial (fun _ h => nomatch h) hv hr (fun a t q => nomatch q) (by simpa using hl)
    have hp' : ¬ 1 ∈ pn := by simpa [disjB] using h1
    refine ⟨y2, (exs_nx (Γ1 := [some (rD r, fl), some (rD [], true), none]) (by simp [DV.SC, DV.SE, DV.SX, sizeLine, hp'])).trans ?_⟩
    refine (exs_nx (ex_for (Γ2 := [some (rD r, false), some (rD [], true), none]) (ds := r.map tD) (by cases fl <;> simp [DV.SC, DV.SE, DV.SX]) (by simpa [DV.SC, DV.SE, DV.SX] using h2) e)).trans ?_
    simp [DV.SC, DV.SE, DV.SX, allJ]
  cases fl with
  | false =>
    obtain ⟨y2, e⟩ := run [] rfl rfl
    exact runF_by (o := .rt (.sl 1) [some (rD r, false), some (rD (allJ r), true), y2]) rfl e rfl
  | true =>
    obtain ⟨y2, e⟩ := run [0] rfl rfl
    exact runF_by (o := .rt (.sl 1) [some (rD r, false), some (rD (allJ r), true), y2]) rfl e rfl
/-! ### Trains -/
theorem init_ok {B : Int} (hB : B ≤ 8 * BB) {r : List Tr} (hv : Vd r) (hr : RB B r) (hl : r.length ≤ 1000) (fl : Bool) : F_Trains___init__ [some (.obj 0 [] [], true), some (rD r, fl)] = some (.fz .non, [some (TO (allJ r), true), some (rD r, false)]) := by
  have e1 := check_trains_ok hB hv hr hl fl
  have e2 := all_joined_ok hB hv hr (by omega) false
  cases fl <;> simp [F_Trains___init__, DV.SC, DV.SE, DV.SX, e1, e2]

/-! ### made -/
theorem RC.rb {B : Int} {r : List Tr} (h : RC B r) (hv : Vd r) (hB : 0 < B) : RB (2 * B) r := fun t m => by
  obtain ⟨h1, h2, h3⟩ := h t m
  have ok := hv.okm t m
  refine ⟨?_, by omega, fun n z => by have := h3 n z; omega⟩
  cases e : t.n with
  | none => exact h2 e
  | some n =>
    have := h3 n e
    have := ok.2.2 n e
    have := Int.mul_nonneg (show 0 ≤ t.p by have := ok.2.1; omega) (show 0 ≤ n - 1 by omega)
    omega
theorem RB.mono {B C : Int} {r : List Tr} (h : RB B r) (l : B ≤ C) : RB C r := fun t m => by
  obtain ⟨h1, h2, h3⟩ := h t m
  exact ⟨by omega, by omega, fun n z => by have := h3 n z; omega⟩
/-! ### parts of trains -/
def bfI (t : Tr) (x : Int) : Int := if x ≤ t.s then 0 else match t.n with
  | none => (x - t.s + t.p - 1) / t.p
  | some n => if (x - t.s + t.p - 1) / t.p < n then (x - t.s + t.p - 1) / t.p else n
theorem bf_spec {t : Tr} (h : okT t) (x j : Int) (j0 : 0 ≤ j) (jn : ∀ n, t.n = some n → j < n) : t.s + t.p * j < x ↔ j < bfI t x := by
  obtain ⟨s, p, n⟩ := t
  obtain ⟨h1, h2, h3⟩ := h
  simp only at h1 h2 h3 jn ⊢
  have pj := Int.mul_nonneg (show 0 ≤ p by omega) j0
  have key : ¬ x ≤ s → (s + p * j < x ↔ j < (x - s + p - 1) / p) := fun c => by
    rw [Int.lt_iff_add_one_le, Int.lt_iff_add_one_le, Int.le_ediv_iff_mul_le (by omega), Int.mul_comm (j + 1) p, Int.mul_add, Int.mul_one]
    omega
  unfold bfI
  simp only
  split
  · rename_i c
    constructor
    · intro q; omega
    · intro q; omega
  · rename_i c
    rw [key c]
    cases n with
    | none => exact Iff.rfl
    | some n =>
      have := jn n rfl
      simp only
      split <;> omega
theorem bf_nonneg {t : Tr} (h : okT t) (x : Int) : 0 ≤ bfI t x := by
  unfold bfI
  have := h.2.1
  split
  · exact Int.le_refl 0
  · have q : 0 ≤ (x - t.s + t.p - 1) / t.p := Int.ediv_nonneg (by omega) (by omega)
    cases e : t.n with
    | none => exact q
    | some n =>
      have := h.2.2 n e
      simp only
      split <;> omega
theorem bf_le {t : Tr} {n : Int} (h : okT t) (e : t.n = some n) (x : Int) : bfI t x ≤ n := by
  have := h.2.2 n e
  unfold bfI
  split
  · omega
  · rw [e]
    simp only
    split <;> omega
def slT (t : Tr) (low : Int) (high : Option Int) : List Tr :=
  let h := match high with
    | none => t.n
    | some v => match t.n with
      | none => some v
      | some n => if n < v then some n else some v
  match h with
  | none => [⟨t.s + low * t.p, t.p, none⟩]
  | some v => if v ≤ low then [] else [⟨t.s + low * t.p, t.p, some (v - low)⟩]

/-! ### pieces of trains -/
def Pc (t : Tr) (l : List Tr) : Prop := l = [] ∨ ∃ u, l = [u] ∧ okT u ∧ t.s ≤ u.s ∧ ∀ n, t.n = some n → ∃ k, u.n = some k ∧ u.s + u.p * (k - 1) ≤ t.s + t.p * (n - 1)
theorem vd_mem_ge {a : Tr} {r : List Tr} (h : Vd (a :: r)) : ∀ t ∈ a :: r, a.s ≤ t.s := fun t m => h.ge ⟨t, m, mT_s (h.okm t m)⟩
theorem vd_flat {f : Tr → List Tr} : ∀ {r : List Tr}, Vd r → (∀ t ∈ r, Pc t (f t)) → Vd (r.flatMap f)
  | [], _, _ => trivial
  | t :: r, h, hp => by
    have ih := vd_flat h.tail fun u m => hp u (List.mem_cons_of_mem _ m)
    rw [List.flatMap_cons]
    rcases hp t List.mem_cons_self with e | ⟨u, e, ou, su, lu⟩
    · rw [e]; exact ih
    · rw [e]
      show Vd (u :: r.flatMap f)
      cases hR : r.flatMap f with
      | nil => exact ou
      | cons v R =>
        rw [hR] at ih
        refine ⟨ou, ?_, ih⟩
        have mv : v ∈ r.flatMap f := by rw [hR]; exact List.mem_cons_self
        obtain ⟨w, mw, mq⟩ := List.mem_flatMap.mp mv
        cases r with
        | nil => cases mw
        | cons b r =>
          obtain ⟨n, en, el⟩ := h.2.1
          obtain ⟨k, ek, lk⟩ := lu n en
          have g1 := vd_mem_ge h.2.2 w mw
          have g2 : w.s ≤ v.s := by
            rcases hp w (List.mem_cons_of_mem _ mw) with e2 | ⟨u2, e2, _, s2, _⟩
            · rw [e2] at mq; cases mq
            · rw [e2] at mq; simp at mq; subst mq; exact s2
          exact ⟨k, ek, by omega⟩
theorem mR_flat {f : Tr → List Tr} (r : List Tr) (x : Int) : mR (r.flatMap f) x ↔ ∃ t ∈ r, mR (f t) x := by
  constructor
  · rintro ⟨u, m, q⟩
    obtain ⟨t, mt, mu⟩ := List.mem_flatMap.mp m
    exact ⟨t, mt, u, mu, q⟩
  · rintro ⟨t, mt, u, mu, q⟩
    exact ⟨u, List.mem_flatMap.mpr ⟨t, mt, mu⟩, q⟩
/-- a part of a train, by its indices -/
theorem slT_mem {t : Tr} {low : Int} (h0 : 0 ≤ low) (high : Option Int) (x : Int) : mR (slT t low high) x ↔ ∃ j, low ≤ j ∧ (∀ n, t.n = some n → j < n) ∧ (∀ v, high = some v → j < v) ∧ x = t.s + t.p * j := by
  obtain ⟨s, p, n⟩ := t
  have one : ∀ (m : Option Int), mT ⟨s + low * p, p, m.map (· - low)⟩ x ↔ ∃ j, low ≤ j ∧ (∀ v, m = some v → j < v) ∧ x = s + p * j := by
    intro m
    constructor
    · rintro ⟨j, j0, j1, e⟩
      refine ⟨low + j, by omega, fun v z => ?_, ?_⟩
      · have := j1 (v - low) (by simp [z])
        omega
      · simp only at e
        rw [e, Int.mul_add, Int.mul_comm low p]
        omega
    · rintro ⟨j, j0, j1, e⟩
      refine ⟨j - low, by omega, fun v z => ?_, ?_⟩
      · simp only at z
        obtain ⟨w, z1, z2⟩ := Option.map_eq_some_iff.mp z
        have := j1 w z1
        omega
      · simp only
        rw [e, Int.mul_sub, Int.mul_comm low p]
        omega
  have two : ∀ v : Int, mR (if v ≤ low then [] else [⟨s + low * p, p, some (v - low)⟩]) x ↔ ∃ j, low ≤ j ∧ j < v ∧ x = s + p * j := by
    intro v
    split
    · rename_i c
      constructor
      · intro q; exact (mR_nil _ q).elim
      · rintro ⟨j, j0, j1, _⟩; omega
    · rw [mR_one]
      have := one (some v)
      simp only [Option.map_some, Option.some.injEq, forall_eq'] at this
      exact this
  unfold slT
  cases high with
  | none =>
    cases n with
    | none =>
      simp only
      rw [mR_one]
      have := one none
      simp only [Option.map_none] at this
      rw [this]
      simp
    | some n =>
      simp only
      rw [two]
      simp
  | some v =>
    cases n with
    | none =>
      simp only
      rw [two]
      simp
    | some n =>
      by_cases c : n < v
      · simp only [if_pos c]
        rw [two]
        constructor
        · rintro ⟨j, j0, j1, e⟩; exact ⟨j, j0, fun n' z => by cases z; exact j1, fun v' z => by cases z; omega, e⟩
        · rintro ⟨j, j0, j1, j2, e⟩; exact ⟨j, j0, j1 n rfl, e⟩
      · simp only [if_neg c]
        rw [two]
        constructor
        · rintro ⟨j, j0, j1, e⟩; exact ⟨j, j0, fun n' z => by cases z; omega, fun v' z => by cases z; exact j1, e⟩
        · rintro ⟨j, j0, j1, j2, e⟩; exact ⟨j, j0, j2 v rfl, e⟩
theorem slT_pc {t : Tr} (h : okT t) {low : Int} (h0 : 0 ≤ low) (high : Option Int) : Pc t (slT t low high) := by
  obtain ⟨s, p, n⟩ := t
  obtain ⟨h1, h2, h3⟩ := h
  simp only at h1 h2 h3
  have hlp := Int.mul_nonneg h0 (show 0 ≤ p by omega)
  have two : ∀ v : Int, (∀ n', n = some n' → v ≤ n') → Pc ⟨s, p, n⟩ (if v ≤ low then [] else [⟨s + low * p, p, some (v - low)⟩]) := by
    intro v hv
    split
    · exact .inl rfl
    · rename_i c
      refine .inr ⟨_, rfl, ⟨by show 0 ≤ s + low * p; omega, h2, fun k z => by cases z; omega⟩, by show s ≤ s + low * p; omega, fun n' z => ⟨_, rfl, ?_⟩⟩
      have := hv n' z
      show s + low * p + p * (v - low - 1) ≤ s + p * (n' - 1)
      have e1 : p * (v - low - 1) = p * (v - 1) - p * low := by rw [← Int.mul_sub]; congr 1; omega
      have e2 : p * (v - 1) ≤ p * (n' - 1) := Int.mul_le_mul_of_nonneg_left (by omega) (by omega)
      have e3 := Int.mul_comm low p
      omega
  unfold slT
  cases high with
  | none =>
    cases n with
    | none => exact .inr ⟨_, rfl, ⟨by show 0 ≤ s + low * p; omega, h2, fun k z => by cases z⟩, by show s ≤ s + low * p; omega, fun n' z => by cases z⟩
    | some n => exact two n fun n' z => by cases z; exact Int.le_refl _
  | some v =>
    cases n with
    | none => exact two v fun n' z => by cases z
    | some n =>
      by_cases c : n < v
      · simp only [if_pos c]
        exact two n fun n' z => by cases z; exact Int.le_refl _
      · simp only [if_neg c]
        exact two v fun n' z => by cases z; omega
theorem slT_rb {t : Tr} {B : Int} (h : okT t) {low : Int} (h0 : 0 ≤ low) (high : Option Int) (hs : t.s + low * t.p < B) (hp : t.p < B) (hl : ∀ n, t.n = some n → t.s + t.p * (n - 1) < B) (hv : t.n = none → ∀ v, high = some v → t.s + t.p * (v - 1) < B) : RB B (slT t low high) := by
  intro u hu
  have pc := slT_pc h h0 high
  rcases pc with e | ⟨w, e, ow, sw, lw⟩
  · rw [e] at hu; cases hu
  · have huw : u = w := by rw [e] at hu; simpa using hu
    subst huw
    obtain ⟨s, p, n⟩ := t
    have three : ∀ {v : Int} {w : Tr}, (if v ≤ low then [] else [⟨s + low * p, p, some (v - low)⟩]) = [w] → w = ⟨s + low * p, p, some (v - low)⟩ := by
      intro v w h
      split at h
      · cases h
      · simpa using h.symm
    have fin : ∀ v : Int, s + p * (v - 1) < B → u = ⟨s + low * p, p, some (v - low)⟩ → u.s < B ∧ u.p < B ∧ ∀ n, u.n = some n → u.s + u.p * (n - 1) < B := by
      rintro v hv rfl
      refine ⟨hs, hp, fun k z => ?_⟩
      cases z
      show s + low * p + p * (v - low - 1) < B
      have e1 : p * (v - low - 1) = p * (v - 1) - p * low := by rw [← Int.mul_sub]; congr 1; omega
      have e3 := Int.mul_comm low p
      omega
    unfold slT at e
    cases high with
    | none =>
      cases n with
      | none =>
        simp only [List.cons.injEq, and_true] at e
        subst e
        exact ⟨hs, hp, fun k z => by cases z⟩
      | some n => exact fin n (hl n rfl) (three e)
    | some v =>
      cases n with
      | none => exact fin v (hv rfl v rfl) (three e)
      | some n =>
        by_cases c : n < v
        · simp only [if_pos c] at e
          exact fin n (hl n rfl) (three e)
        · simp only [if_neg c] at e
          refine fin v ?_ (three e)
          have := hl n rfl
          simp only at this
          have e2 : p * (v - 1) ≤ p * (n - 1) := Int.mul_le_mul_of_nonneg_left (by omega) (by have := h.2.1; simp only at this; omega)
          omega
/-! ### windows -/
def winT (a : Int) (b : Option Int) (t : Tr) : List Tr := slT t (bfI t a) (b.map (bfI t))
theorem winT_mem {t : Tr} (h : okT t) (a : Int) (b : Option Int) (x : Int) : mR (winT a b t) x ↔ mT t x ∧ a ≤ x ∧ ∀ y, b = some y → x < y := by
  unfold winT
  rw [slT_mem (bf_nonneg h a)]
  constructor
  · rintro ⟨j, j0, j1, j2, e⟩
    have k0 : 0 ≤ j := by have := bf_nonneg h a; omega
    refine ⟨⟨j, k0, j1, e⟩, ?_, fun y z => ?_⟩
    · have := bf_spec h a j k0 j1
      rw [← e] at this
      omega
    · have := j2 (bfI t y) (by rw [z]; rfl)
      have q := (bf_spec h y j k0 j1).mpr this
      rw [e]; exact q
  · rintro ⟨⟨j, k0, j1, e⟩, ha, hb⟩
    refine ⟨j, ?_, j1, fun v z => ?_, e⟩
    · have := bf_spec h a j k0 j1
      rw [← e] at this
      omega
    · obtain ⟨y, z1, z2⟩ := Option.map_eq_some_iff.mp z
      have := (bf_spec h y j k0 j1).mp (by rw [← e]; exact hb y z1)
      omega
theorem win_vd {r : List Tr} (h : Vd r) (a : Int) (b : Option Int) : Vd (r.flatMap (winT a b)) := vd_flat h fun t m => slT_pc (h.okm t m) (bf_nonneg (h.okm t m) a) _
theorem win_mem {r : List Tr} (h : Vd r) (a : Int) (b : Option Int) (x : Int) : mR (r.flatMap (winT a b)) x ↔ mR r x ∧ a ≤ x ∧ ∀ y, b = some y → x < y := by
  rw [mR_flat]
  constructor
  · rintro ⟨t, m, q⟩
    obtain ⟨q1, q2⟩ := (winT_mem (h.okm t m) a b x).mp q
    exact ⟨⟨t, m, q1⟩, q2⟩
  · rintro ⟨⟨t, m, q1⟩, q2⟩
    exact ⟨t, m, (winT_mem (h.okm t m) a b x).mpr ⟨q1, q2⟩⟩
theorem bf_small {t : Tr} (h : okT t) {x : Int} (h0 : 0 ≤ x) : bfI t x ≤ x := by
  unfold bfI
  have h1 := h.1
  have h2 := h.2.1
  split
  · exact h0
  · rename_i c
    have key : (x - t.s + t.p - 1) / t.p ≤ x := by
      rw [Int.ediv_le_iff_le_mul (by omega)]
      have e := Int.mul_le_mul_of_nonneg_left h2 (show 0 ≤ x - 1 by omega)
      have e2 : (x - 1) * t.p = x * t.p - t.p := by rw [Int.sub_mul, Int.one_mul]
      omega
    cases e : t.n with
    | none => exact key
    | some n =>
      simp only
      split <;> omega
theorem bf_reach {t : Tr} (h : okT t) (x : Int) : t.s + bfI t x * t.p < max (t.s + 1) (x + t.p) := by
  have h2 := h.2.1
  have b0 := bf_nonneg h x
  by_cases z : bfI t x = 0
  · rw [z]; omega
  · have jn : ∀ n, t.n = some n → bfI t x - 1 < n := fun n e => by have := bf_le h e x; omega
    have := (bf_spec h x (bfI t x - 1) (by omega) jn).mpr (by omega)
    rw [Int.mul_sub, Int.mul_one, Int.mul_comm] at this
    omega
theorem win_rb {r : List Tr} {B : Int} (h : Vd r) (hr : RB B r) (a : Int) (b : Option Int) (hb : ∀ y, b = some y → y ≤ B) (ha : a ≤ B) (h0 : 0 < B) : RB (2 * B) (r.flatMap (winT a b)) := by
  intro u hu
  obtain ⟨t, mt, mu⟩ := List.mem_flatMap.mp hu
  have ok := h.okm t mt
  obtain ⟨q1, q2, q3⟩ := hr t mt
  have := ok.1
  have := ok.2.1
  refine slT_rb ok (bf_nonneg ok a) _ ?_ (by omega) (fun n z => by have := q3 n z; omega) (fun z v zv => ?_) u mu
  · have := bf_reach ok a
    omega
  · obtain ⟨y, z1, z2⟩ := Option.map_eq_some_iff.mp zv
    have g := bf_reach ok y
    have := hb y z1
    rw [z2] at g
    have e : t.p * (v - 1) = v * t.p - t.p := by rw [Int.mul_sub, Int.mul_one, Int.mul_comm]
    omega

/-! ### times listed -/
abbrev Inc (l : List Int) : Prop := l.Pairwise (· < ·)
theorem inc_ext : ∀ {l1 l2 : List Int}, Inc l1 → Inc l2 → (∀ x, x ∈ l1 ↔ x ∈ l2) → l1 = l2
  | [], [], _, _, _ => rfl
  | [], b :: l, _, _, h => absurd ((h b).mpr List.mem_cons_self) (by simp)
  | a :: l, [], _, _, h => absurd ((h a).mp List.mem_cons_self) (by simp)
  | a :: l1, b :: l2, h1, h2, h => by
    obtain ⟨a1, i1⟩ := List.pairwise_cons.mp h1
    obtain ⟨a2, i2⟩ := List.pairwise_cons.mp h2
    have e : a = b := by
      rcases List.mem_cons.mp ((h a).mp List.mem_cons_self) with q | q
      · exact q
      · rcases List.mem_cons.mp ((h b).mpr List.mem_cons_self) with z | z
        · exact z.symm
        · have := a1 b z
          have := a2 a q
          omega
    subst e
    congr 1
    refine inc_ext i1 i2 fun x => ⟨fun m => ?_, fun m => ?_⟩
    · rcases List.mem_cons.mp ((h x).mp (List.mem_cons_of_mem _ m)) with z | z
      · subst z; have := a1 x m; omega
      · exact z
    · rcases List.mem_cons.mp ((h x).mpr (List.mem_cons_of_mem _ m)) with z | z
      · subst z; have := a2 x m; omega
      · exact z
def rngT (s p : Int) (k : Nat) : List Int := (List.range k).map fun (j : Nat) => s + p * (j : Int)
theorem mem_rngT {s p x : Int} {k : Nat} : x ∈ rngT s p k ↔ ∃ j : Int, 0 ≤ j ∧ j < k ∧ x = s + p * j := by
  unfold rngT
  rw [List.mem_map]
  constructor
  · rintro ⟨j, m, e⟩
    rw [List.mem_range] at m
    exact ⟨j, by omega, by omega, e.symm⟩
  · rintro ⟨j, j0, j1, e⟩
    refine ⟨j.toNat, List.mem_range.mpr (by omega), ?_⟩
    rw [Int.toNat_of_nonneg j0]
    exact e.symm
theorem inc_rngT {s p : Int} (hp : 1 ≤ p) (k : Nat) : Inc (rngT s p k) := by
  unfold rngT Inc
  rw [List.pairwise_map]
  refine List.Pairwise.imp ?_ List.pairwise_lt_range
  intro a b h
  have := Int.mul_lt_mul_of_pos_left (show (a : Int) < (b : Int) by omega) (show 0 < p by omega)
  omega
theorem inc_app {l1 l2 : List Int} (h1 : Inc l1) (h2 : Inc l2) (h : ∀ x ∈ l1, ∀ y ∈ l2, x < y) : Inc (l1 ++ l2) := List.pairwise_append.mpr ⟨h1, h2, h⟩
def tlB (X : Int) (t : Tr) : List Int := rngT t.s t.p (bfI t X).toNat
def tmB (r : List Tr) (X : Int) : List Int := r.flatMap (tlB X)
theorem mem_tlB {t : Tr} (h : okT t) (X x : Int) : x ∈ tlB X t ↔ mT t x ∧ x < X := by
  unfold tlB
  rw [mem_rngT]
  have b0 := bf_nonneg h X
  constructor
  · rintro ⟨j, j0, j1, e⟩
    have jn : ∀ n, t.n = some n → j < n := fun n z => by have := bf_le h z X; omega
    refine ⟨⟨j, j0, jn, e⟩, ?_⟩
    rw [e]
    exact (bf_spec h X j j0 jn).mpr (by omega)
  · rintro ⟨⟨j, j0, jn, e⟩, hx⟩
    have := (bf_spec h X j j0 jn).mp (by rw [← e]; exact hx)
    exact ⟨j, j0, by omega, e⟩
theorem mem_tmB {r : List Tr} (h : Vd r) (X x : Int) : x ∈ tmB r X ↔ mR r x ∧ x < X := by
  unfold tmB
  rw [List.mem_flatMap]
  constructor
  · rintro ⟨t, m, q⟩
    obtain ⟨q1, q2⟩ := (mem_tlB (h.okm t m) X x).mp q
    exact ⟨⟨t, m, q1⟩, q2⟩
  · rintro ⟨⟨t, m, q1⟩, q2⟩
    exact ⟨t, m, (mem_tlB (h.okm t m) X x).mpr ⟨q1, q2⟩⟩
theorem inc_flat {f : Tr → List Int} : ∀ {r : List Tr}, Vd r → (∀ t ∈ r, Inc (f t) ∧ ∀ x ∈ f t, mT t x) → Inc (r.flatMap f)
  | [], _, _ => List.Pairwise.nil
  | t :: r, h, hf => by
    rw [List.flatMap_cons]
    refine inc_app (hf t List.mem_cons_self).1 (inc_flat h.tail fun u m => hf u (List.mem_cons_of_mem _ m)) fun x mx y my => ?_
    have m1 := (hf t List.mem_cons_self).2 x mx
    obtain ⟨u, mu, my⟩ := List.mem_flatMap.mp my
    have m2 := (hf u (List.mem_cons_of_mem _ mu)).2 y my
    cases r with
    | nil => cases mu
    | cons b r =>
      obtain ⟨n, e, _⟩ := h.2.1
      have := Vd.gt h e ⟨u, mu, m2⟩
      have := mT_le h.1 e m1
      omega
theorem inc_tmB {r : List Tr} (h : Vd r) (X : Int) : Inc (tmB r X) := inc_flat h fun t m => ⟨inc_rngT (h.okm t m).2.1 _, fun x q => ((mem_tlB (h.okm t m) X x).mp q).1⟩
theorem tmB_eq {r1 r2 : List Tr} (h1 : Vd r1) (h2 : Vd r2) (h : ∀ x, mR r1 x ↔ mR r2 x) (X : Int) : tmB r1 X = tmB r2 X := inc_ext (inc_tmB h1 X) (inc_tmB h2 X) fun x => by rw [mem_tmB h1, mem_tmB h2, h]
/-! ### trains that end -/
def Fi (r : List Tr) : Prop := ∀ t ∈ r, ∃ n, t.n = some n
def flat (r : List Tr) : List Int := r.flatMap fun t => rngT t.s t.p (t.n.getD 0).toNat
theorem mem_flat {r : List Tr} (h : Vd r) (hf : Fi r) (x : Int) : x ∈ flat r ↔ mR r x := by
  unfold flat
  rw [List.mem_flatMap]
  have one : ∀ t ∈ r, (x ∈ rngT t.s t.p (t.n.getD 0).toNat ↔ mT t x) := fun t m => by
    obtain ⟨n, e⟩ := hf t m
    have := (h.okm t m).2.2 n e
    rw [mem_rngT, e]
    simp only [Option.getD_some]
    constructor
    · rintro ⟨j, j0, j1, q⟩; exact ⟨j, j0, fun k z => by rw [e] at z; cases z; omega, q⟩
    · rintro ⟨j, j0, j1, q⟩; exact ⟨j, j0, by have := j1 n e; omega, q⟩
  constructor
  · rintro ⟨t, m, q⟩; exact ⟨t, m, (one t m).mp q⟩
  · rintro ⟨t, m, q⟩; exact ⟨t, m, (one t m).mpr q⟩
theorem inc_flat' {r : List Tr} (h : Vd r) (hf : Fi r) : Inc (flat r) := inc_flat h fun t m => ⟨inc_rngT (h.okm t m).2.1 _, fun x q => by
  obtain ⟨n, e⟩ := hf t m
  have := (h.okm t m).2.2 n e
  rw [mem_rngT, e] at q
  simp only [Option.getD_some] at q
  obtain ⟨j, j0, j1, q⟩ := q
  exact ⟨j, j0, fun k z => by rw [e] at z; cases z; omega, q⟩⟩
theorem flat_is {r : List Tr} (h : Vd r) (hf : Fi r) {l : List Int} (hl : Inc l) (hm : ∀ x, mR r x ↔ x ∈ l) : flat r = l := inc_ext (inc_flat' h hf) hl fun x => by rw [mem_flat h hf, hm]
/-- bounded times: the trains end -/
theorem fi_of {r : List Tr} (h : Vd r) {X : Int} (hx : ∀ x, mR r x → x < X) : Fi r := fun t m => by
  cases e : t.n with
  | some n => exact ⟨n, rfl⟩
  | none =>
    have ok := h.okm t m
    have := hx _ ⟨t, m, (X.natAbs : Int), by omega, (fun n z => by rw [e] at z; cases z), rfl⟩
    have h1 := ok.1
    have h2 := ok.2.1
    have := Int.mul_le_mul_of_nonneg_right h2 (show (0 : Int) ≤ (X.natAbs : Int) by omega)
    omega
/-! ### counts -/
def tcnt (r : List Tr) : Option Int := if r.any (·.n.isNone) then none else some ((r.map (·.n.getD 0)).sum)
def thd : D → D
  | .tup [_, _, c] => c
  | _ => .non
theorem any_none (r : List Tr) : ((r.map fun t => cD t.n).any fun y => eqd y .non) = r.any (·.n.isNone) := by
  rw [List.any_map]
  congr 1
  funext t
  simp only [Function.comp]
  cases t.n with
  | none => simp [cD, eqd]
  | some n => simp [cD, eq_in]
theorem all_flatD (r : List Tr) : (r.map fun t => cD t.n).all flatD = true := by
  rw [List.all_map, List.all_eq_true]
  intro t _
  simp only [Function.comp]
  cases t.n <;> rfl
theorem intsD_c : ∀ r : List Tr, r.any (·.n.isNone) = false → intsD (r.map fun t => cD t.n) = some (r.map (·.n.getD 0))
  | [], _ => rfl
  | t :: r, h => by
    simp only [List.any_cons, Bool.or_eq_false_iff] at h
    have ih := intsD_c r h.2
    cases e : t.n with
    | none => rw [e] at h; simp at h
    | some n =>
      have q : cD t.n = .int n := by rw [e]; rfl
      rw [List.map_cons, q, intsD, ih, List.map_cons, e]
      rfl
theorem tcnt_flat {r : List Tr} (h : Vd r) (hf : Fi r) : tcnt r = some ((flat r).length : Int) := by
  have hn : r.any (·.n.isNone) = false := by
    rw [List.any_eq_false]
    intro t m
    obtain ⟨n, e⟩ := hf t m
    rw [e]; simp
  unfold tcnt
  rw [if_neg (by rw [hn]; simp)]
  congr 1
  clear hn
  induction r with
  | nil => rfl
  | cons t r ih =>
    obtain ⟨n, e⟩ := hf t List.mem_cons_self
    have := h.ok1.2.2 n e
    have ih := ih h.tail fun u m => hf u (List.mem_cons_of_mem _ m)
    unfold flat at ih ⊢
    rw [List.map_cons, List.sum_cons, ih, List.flatMap_cons, List.length_append, e]
    simp only [Option.getD_some, rngT, List.length_map, List.length_range]
    omega

/-! ### t[index], == -/
def nthT : List Tr → Int → Option Int
  | [], _ => none
  | t :: r, i => match t.n with
    | none => some (t.s + i * t.p)
    | some n => if i < n then some (t.s + i * t.p) else nthT r (i - n)
theorem nth_flat : ∀ {r : List Tr} (h : Vd r) (hf : Fi r) {i : Int} {v : Int}, 0 ≤ i → (flat r)[i.toNat]? = some v → nthT r i = some v
  | [], _, _, i, v, _, e => by simp [flat] at e
  | t :: r, h, hf, i, v, i0, e => by
    obtain ⟨n, en⟩ := hf t List.mem_cons_self
    have n1 := h.ok1.2.2 n en
    unfold flat at e
    rw [List.flatMap_cons, en] at e
    simp only [Option.getD_some] at e
    unfold nthT
    rw [en]
    simp only
    have hl : (rngT t.s t.p n.toNat).length = n.toNat := by simp [rngT]
    by_cases c : i < n
    · rw [if_pos c]
      rw [List.getElem?_append_left (by rw [hl]; omega)] at e
      unfold rngT at e
      rw [List.getElem?_map, List.getElem?_range (by omega)] at e
      simp only [Option.map_some, Option.some.injEq] at e
      rw [← e, Int.toNat_of_nonneg i0, Int.mul_comm]
    · rw [if_neg c]
      rw [List.getElem?_append_right (by rw [hl]; omega), hl] at e
      refine nth_flat h.tail (fun u m => hf u (List.mem_cons_of_mem _ m)) (by omega) ?_
      rw [show (i - n).toNat = i.toNat - n.toNat by omega]
      exact e
/-! ### == of Trains -/
theorem okB_t (n : Nat) (t : Tr) : okB (n + 1) (tD t) = true := by
  obtain ⟨s, p, c⟩ := t
  cases c <;> simp [tD, cD, okB]
theorem okB_r (n : Nat) (r : List Tr) : okB (n + 2) (rD r) = true := by
  simp only [rD, okB, List.all_eq_true, List.mem_map]
  rintro d ⟨t, _, rfl⟩
  exact okB_t n t
theorem eqd_c (a b : Option Int) : eqd (cD a) (cD b) = true ↔ a = b := by
  cases a <;> cases b <;> simp [cD, eqd]
theorem eqd_t (a b : Tr) : eqd (tD a) (tD b) = true ↔ a = b := by
  obtain ⟨s, p, n⟩ := a
  obtain ⟨s', p', n'⟩ := b
  simp only [tD, eqd, eqds, Bool.and_true, Bool.and_eq_true, beq_iff_eq, eqd_c, Tr.mk.injEq]
theorem eqds_r : ∀ (a b : List Tr), eqds (a.map tD) (b.map tD) = true ↔ a = b
  | [], [] => by simp [eqds]
  | [], b :: l => by simp [eqds]
  | a :: l, [] => by simp [eqds]
  | a :: l, b :: m => by
    rw [List.map_cons, List.map_cons, eqds, Bool.and_eq_true, eqd_t, eqds_r l m, List.cons.injEq]
theorem eqd_r (a b : List Tr) : eqd (rD a) (rD b) = true ↔ a = b := by
  simp only [rD, eqd]
  exact eqds_r a b
/-! ### thinned, in plain words -/
def pass (w : Int) : Int → List Int → List Int
  | _, [] => []
  | since, x :: l => if w ≤ x - since then x :: pass w x l else pass w since l
theorem pass_cons (w since x : Int) (l : List Int) : pass w since (x :: l) = if w ≤ x - since then x :: pass w x l else pass w since l := rfl
theorem pass_app (w : Int) : ∀ (l1 l2 : List Int) (since : Int), pass w since (l1 ++ l2) = pass w since l1 ++ pass w ((pass w since l1).getLast?.getD since) l2
  | [], l2, since => rfl
  | x :: l1, l2, since => by
    rw [List.cons_append, pass_cons, pass_cons]
    by_cases c : w ≤ x - since
    · rw [if_pos c, if_pos c, pass_app w l1 l2 x, List.cons_append]
      congr 2
      cases h : pass w x l1 with
      | nil => rfl
      | cons y l => simp [List.getLast?_cons]
    · rw [if_neg c, if_neg c]
      exact pass_app w l1 l2 since
theorem rngT_succ (s p : Int) (k : Nat) : rngT s p (k + 1) = s :: rngT (s + p) p k := by
  unfold rngT
  rw [List.range_succ_eq_map, List.map_cons, List.map_map]
  congr 1
  · simp
  · apply List.map_congr_left
    intro j _
    simp only [Function.comp, Nat.succ_eq_add_one]
    rw [show ((j + 1 : Nat) : Int) = (j : Int) + 1 by omega, Int.mul_add]
    omega
def cl (m d : Nat) : Nat := (m + d - 1) / d
theorem pass_ap {w p : Int} (hp : 1 ≤ p) {st : Nat} (hs0 : 1 ≤ st) (hs1 : p * ((st : Int) - 1) < w) (hs2 : w ≤ p * (st : Int)) : ∀ (k : Nat) (s since : Int) (low : Nat), (∀ j : Nat, j < low → s + p * (j : Int) - since < w) → w ≤ s + p * (low : Int) - since → pass w since (rngT s p k) = rngT (s + p * (low : Int)) (p * (st : Int)) (cl (k - low) st)
  | 0, s, since, low, _, _ => by
    have : cl (0 - low) st = 0 := by unfold cl; rw [Nat.zero_sub, Nat.zero_add]; exact Nat.div_eq_of_lt (by omega)
    rw [this]
    rfl
  | k + 1, s, since, low, h1, h2 => by
    rw [rngT_succ, pass_cons]
    cases low with
    | zero =>
      rw [if_pos (by simpa using h2)]
      have a1 : ∀ j : Nat, j < st - 1 → s + p + p * (j : Int) - s < w := fun j hj => by
        have : p * (j : Int) ≤ p * ((st : Int) - 2) := Int.mul_le_mul_of_nonneg_left (by omega) (by omega)
        have e : p * ((st : Int) - 2) = p * ((st : Int) - 1) - p := by rw [show (st : Int) - 2 = ((st : Int) - 1) - 1 by omega, Int.mul_sub p, Int.mul_one]
        omega
      have a2 : w ≤ s + p + p * ((st - 1 : Nat) : Int) - s := by
        have e : p * ((st - 1 : Nat) : Int) = p * (st : Int) - p := by rw [show ((st - 1 : Nat) : Int) = (st : Int) - 1 by omega, Int.mul_sub, Int.mul_one]
        omega
      · rw [pass_ap hp hs0 hs1 hs2 k (s + p) s (st - 1) a1 a2]
        have e1 : s + p + p * ((st - 1 : Nat) : Int) = s + p * (st : Int) := by
          rw [show ((st - 1 : Nat) : Int) = (st : Int) - 1 by omega, Int.mul_sub]
          omega
        have e2 : cl (k + 1 - 0) st = cl (k - (st - 1)) st + 1 := by
          unfold cl
          rcases Nat.lt_or_ge k st with c | c
          · rw [show k - (st - 1) = 0 by omega, Nat.zero_add, Nat.div_eq_of_lt (show st - 1 < st by omega)]
            rw [show k + 1 - 0 + st - 1 = k + st by omega, Nat.add_div_right _ (by omega), Nat.div_eq_of_lt c]
          · rw [show k + 1 - 0 + st - 1 = (k - (st - 1) + st - 1) + st by omega, Nat.add_div_right _ (by omega)]
        rw [e1, e2, rngT_succ]
        simp
    | succ l =>
      rw [if_neg (by have := h1 0 (by omega); simp at this; omega)]
      have a1 : ∀ j : Nat, j < l → s + p + p * (j : Int) - since < w := fun j hj => by
        have := h1 (j + 1) (by omega)
        rw [show ((j + 1 : Nat) : Int) = (j : Int) + 1 by omega, Int.mul_add, Int.mul_one] at this
        omega
      have e : p * ((l + 1 : Nat) : Int) = p * (l : Int) + p := by rw [show ((l + 1 : Nat) : Int) = (l : Int) + 1 by omega, Int.mul_add, Int.mul_one]
      rw [e] at h2
      rw [pass_ap hp hs0 hs1 hs2 k (s + p) since l a1 (by omega), show k + 1 - (l + 1) = k - l by omega, e]
      congr 1
      omega
theorem cl_lt {m d i : Nat} (hd : 1 ≤ d) : i < cl m d ↔ i * d < m := by
  unfold cl
  rw [Nat.lt_iff_add_one_le, Nat.le_div_iff_mul_le (by omega), Nat.add_mul]
  omega
/-- how far on, and how far between -/
def lowT (w since : Int) (t : Tr) : Int := max 0 ((since + w - t.s + t.p - 1) / t.p)
def strT (w : Int) (t : Tr) : Int := (w + t.p - 1) / t.p
def thT (w since : Int) (t : Tr) : Option Tr := match t.n with
  | none => some ⟨t.s + lowT w since t * t.p, t.p * strT w t, none⟩
  | some n => if lowT w since t < n then some ⟨t.s + lowT w since t * t.p, t.p * strT w t, some ((n - 1 - lowT w since t) / strT w t + 1)⟩ else none
def nextS (since : Int) (u : Tr) : Int := match u.n with
  | none => since
  | some k => u.s + u.p * (k - 1)
def thR (w : Int) : Int → List Tr → List Tr
  | _, [] => []
  | since, t :: r => match thT w since t with
    | none => thR w since r
    | some u => u :: thR w (nextS since u) r
theorem str_ok {w : Int} {t : Tr} (h : okT t) (hw : 1 ≤ w) : 1 ≤ strT w t ∧ t.p * (strT w t - 1) < w ∧ w ≤ t.p * strT w t := by
  have hp := h.2.1
  have e := Int.mul_ediv_add_emod (w + t.p - 1) t.p
  have e0 := Int.emod_nonneg (w + t.p - 1) (show t.p ≠ 0 by omega)
  have e1 := Int.emod_lt_of_pos (w + t.p - 1) (show 0 < t.p by omega)
  unfold strT
  refine ⟨?_, ?_, by omega⟩
  · rw [Int.le_ediv_iff_mul_le (by omega)]; omega
  · rw [Int.mul_sub, Int.mul_one]; omega
theorem low_ok {w since : Int} {t : Tr} (h : okT t) : 0 ≤ lowT w since t ∧ (∀ j : Int, 0 ≤ j → j < lowT w since t → t.s + t.p * j - since < w) ∧ w ≤ t.s + t.p * lowT w since t - since := by
  have hp := h.2.1
  have e := Int.mul_ediv_add_emod (since + w - t.s + t.p - 1) t.p
  have e0 := Int.emod_nonneg (since + w - t.s + t.p - 1) (show t.p ≠ 0 by omega)
  have e1 := Int.emod_lt_of_pos (since + w - t.s + t.p - 1) (show 0 < t.p by omega)
  unfold lowT
  generalize (since + w - t.s + t.p - 1) / t.p = q at *
  refine ⟨Int.le_max_left _ _, fun j j0 j1 => ?_, ?_⟩
  · have : j ≤ q - 1 := by omega
    have := Int.mul_le_mul_of_nonneg_left this (show 0 ≤ t.p by omega)
    rw [Int.mul_sub, Int.mul_one] at this
    omega
  · have : t.p * q ≤ t.p * max 0 q := Int.mul_le_mul_of_nonneg_left (Int.le_max_right _ _) (by omega)
    omega
/-- one train -/
theorem pass_tlB {w since X : Int} {t : Tr} (h : okT t) (hw : 1 ≤ w) : pass w since (tlB X t) = match thT w since t with | none => [] | some u => tlB X u := by
  obtain ⟨s1, s2, s3⟩ := str_ok h hw
  obtain ⟨l0, l1, l2⟩ := low_ok (w := w) (since := since) h
  have hp := h.2.1
  have b0 := bf_nonneg h X
  have key := pass_ap (w := w) hp (st := (strT w t).toNat) (by omega) (by rw [Int.toNat_of_nonneg (by omega)]; exact s2) (by rw [Int.toNat_of_nonneg (by omega)]; exact s3) (bfI t X).toNat t.s since (lowT w since t).toNat (fun j hj => l1 j (by omega) (by omega)) (by rw [Int.toNat_of_nonneg l0]; exact l2)
  unfold tlB
  rw [key, Int.toNat_of_nonneg l0, Int.toNat_of_nonneg (show 0 ≤ strT w t by omega)]
  generalize hL : lowT w since t = L at *
  generalize hS : strT w t = S at *
  have ps : 1 ≤ t.p * S := by
    have := Int.mul_le_mul hp s1 (by decide) (by omega)
    omega
  have pL := Int.mul_nonneg l0 (show 0 ≤ t.p by omega)
  have emp : ∀ n, t.n = some n → n ≤ L → cl ((bfI t X).toNat - L.toNat) S.toNat = 0 := fun n e c => by
    have := bf_le h e X
    have : (bfI t X).toNat - L.toNat = 0 := by omega
    unfold cl
    rw [this, Nat.zero_add]
    exact Nat.div_eq_of_lt (by omega)
  have main : ∀ u : Tr, okT u → u.s = t.s + L * t.p → u.p = t.p * S → (∀ i : Int, 0 ≤ i → ((∀ n, t.n = some n → L + i * S < n) ↔ ∀ k, u.n = some k → i < k)) → rngT (t.s + t.p * L) (t.p * S) (cl ((bfI t X).toNat - L.toNat) S.toNat) = rngT u.s u.p (bfI u X).toNat := by
    intro u ou us up un
    refine inc_ext (inc_rngT ps _) (inc_rngT ou.2.1 _) fun x => ?_
    have := mem_tlB ou X x
    unfold tlB at this
    rw [this, mem_rngT]
    constructor
    · rintro ⟨i, i0, i1, e⟩
      have c : i.toNat * S.toNat < (bfI t X).toNat - L.toNat := (cl_lt (by omega)).mp (by omega)
      have c2 : L + i * S < bfI t X := by
        have : ((i.toNat * S.toNat : Nat) : Int) = i * S := by rw [Int.natCast_mul, Int.toNat_of_nonneg i0, Int.toNat_of_nonneg (show 0 ≤ S by omega)]
        omega
      have j0 : 0 ≤ L + i * S := by have := Int.mul_nonneg i0 (show 0 ≤ S by omega); omega
      have jn : ∀ n, t.n = some n → L + i * S < n := fun n z => by have := bf_le h z X; omega
      have lt := (bf_spec h X (L + i * S) j0 jn).mpr c2
      have ex : t.p * (L + i * S) = L * t.p + t.p * S * i := by rw [Int.mul_add, Int.mul_comm t.p L, Int.mul_assoc t.p S i, Int.mul_comm S i]
      have ec := Int.mul_comm L t.p
      refine ⟨⟨i, i0, (un i i0).mp jn, by rw [us, up]; omega⟩, by omega⟩
    · rintro ⟨⟨i, i0, i1, e⟩, hx⟩
      have jn := (un i i0).mpr i1
      have j0 : 0 ≤ L + i * S := by have := Int.mul_nonneg i0 (show 0 ≤ S by omega); omega
      rw [us, up] at e
      have ex : t.p * (L + i * S) = L * t.p + t.p * S * i := by rw [Int.mul_add, Int.mul_comm t.p L, Int.mul_assoc t.p S i, Int.mul_comm S i]
      have c2 := (bf_spec h X (L + i * S) j0 jn).mp (by omega)
      have ec := Int.mul_comm L t.p
      refine ⟨i, i0, ?_, by omega⟩
      have c : i.toNat < cl ((bfI t X).toNat - L.toNat) S.toNat := (cl_lt (by omega)).mpr (by
        have : ((i.toNat * S.toNat : Nat) : Int) = i * S := by rw [Int.natCast_mul, Int.toNat_of_nonneg i0, Int.toNat_of_nonneg (show 0 ≤ S by omega)]
        omega)
      omega
  unfold thT
  rw [hL, hS]
  cases e : t.n with
  | none =>
    simp only
    exact main ⟨t.s + L * t.p, t.p * S, none⟩ ⟨by have := h.1; simp only; omega, ps, fun n z => by cases z⟩ rfl rfl fun i _ => by simp [e]
  | some n =>
    by_cases c : L < n
    · simp only [if_pos c]
      have dv : ∀ i : Int, i ≤ (n - 1 - L) / S ↔ i * S ≤ n - 1 - L := fun i => Int.le_ediv_iff_mul_le (by omega)
      have d0 : 0 ≤ (n - 1 - L) / S := Int.ediv_nonneg (by omega) (by omega)
      exact main ⟨t.s + L * t.p, t.p * S, some ((n - 1 - L) / S + 1)⟩ ⟨by have := h.1; simp only; omega, ps, fun k z => by cases z; omega⟩ rfl rfl fun i _ => by
        simp only [e, Option.some.injEq, forall_eq']
        have := dv i
        omega
    · simp only [if_neg c]
      rw [emp n e (by omega)]
      rfl

theorem thT_pc {w since : Int} {t : Tr} (h : okT t) (hw : 1 ≤ w) : ∀ u, thT w since t = some u → okT u ∧ t.s ≤ u.s ∧ (t.n = none → u.n = none) ∧ (∀ x, mT u x → mT t x) ∧ ∀ n, t.n = some n → ∃ k, u.n = some k ∧ u.s + u.p * (k - 1) ≤ t.s + t.p * (n - 1) := by
  obtain ⟨s1, s2, s3⟩ := str_ok h hw
  obtain ⟨l0, l1, l2⟩ := low_ok (w := w) (since := since) h
  have hp := h.2.1
  intro u
  unfold thT
  generalize hL : lowT w since t = L at *
  generalize hS : strT w t = S at *
  have ps : 1 ≤ t.p * S := by
    have := Int.mul_le_mul hp s1 (by decide) (by omega)
    omega
  have pL := Int.mul_nonneg l0 (show 0 ≤ t.p by omega)
  have h0 := h.1
  have mem : ∀ (i : Int) (u : Tr), u.s = t.s + L * t.p → u.p = t.p * S → u.s + u.p * i = t.s + t.p * (L + i * S) := fun i u e1 e2 => by
    rw [e1, e2, Int.mul_add, Int.mul_comm t.p L, Int.mul_assoc t.p S i, Int.mul_comm S i]
    omega
  cases e : t.n with
  | none =>
    intro q
    simp only [Option.some.injEq] at q
    subst q
    refine ⟨⟨by simp only; omega, ps, fun n z => by cases z⟩, by simp only; omega, fun _ => rfl, fun x => ?_, fun n z => by cases z⟩
    rintro ⟨i, i0, _, rfl⟩
    exact ⟨L + i * S, by have := Int.mul_nonneg i0 (show 0 ≤ S by omega); omega, (fun n z => by rw [e] at z; cases z), mem i _ rfl rfl⟩
  | some n =>
    intro q
    by_cases c : L < n
    · simp only [if_pos c, Option.some.injEq] at q
      subst q
      have d0 : 0 ≤ (n - 1 - L) / S := Int.ediv_nonneg (by omega) (by omega)
      have dv : ∀ i : Int, i ≤ (n - 1 - L) / S ↔ i * S ≤ n - 1 - L := fun i => Int.le_ediv_iff_mul_le (by omega)
      refine ⟨⟨by simp only; omega, ps, fun k z => by cases z; omega⟩, by simp only; omega, (fun z => nomatch z), fun x => ?_, fun n' z => ⟨_, rfl, ?_⟩⟩
      · rintro ⟨i, i0, i1, rfl⟩
        have := i1 _ rfl
        have := (dv i).mp (by omega)
        exact ⟨L + i * S, by have := Int.mul_nonneg i0 (show 0 ≤ S by omega); omega, (fun n' z => by rw [e] at z; cases z; omega), mem i _ rfl rfl⟩
      · cases z
        rw [mem _ _ rfl rfl]
        have := (dv ((n - 1 - L) / S)).mp (Int.le_refl _)
        have : t.p * (L + ((n - 1 - L) / S + 1 - 1) * S) ≤ t.p * (n - 1) := Int.mul_le_mul_of_nonneg_left (by rw [show (n - 1 - L) / S + 1 - 1 = (n - 1 - L) / S by omega]; omega) (by omega)
        omega
    · simp only [if_neg c] at q
      cases q
theorem thR_sub {w : Int} (hw : 1 ≤ w) : ∀ {r : List Tr} {since : Int}, (∀ t ∈ r, okT t) → (∀ x, mR (thR w since r) x → mR r x) ∧ (∀ u ∈ thR w since r, okT u ∧ ∃ t ∈ r, t.s ≤ u.s)
  | [], since, _ => ⟨fun x h => h, fun u h => nomatch h⟩
  | t :: r, since, hv => by
    unfold thR
    have ih := fun s => thR_sub hw (r := r) (since := s) fun u m => hv u (List.mem_cons_of_mem _ m)
    cases e : thT w since t with
    | none =>
      simp only
      exact ⟨fun x q => (mR_cons _ _ _).mpr (.inr ((ih since).1 x q)), fun u m => ⟨((ih since).2 u m).1, by obtain ⟨a, b, c⟩ := ((ih since).2 u m).2; exact ⟨a, List.mem_cons_of_mem _ b, c⟩⟩⟩
    | some u =>
      simp only
      obtain ⟨p1, p2, p3, p4, p5⟩ := thT_pc (hv t List.mem_cons_self) hw u e
      refine ⟨fun x q => ?_, fun v m => ?_⟩
      · rcases (mR_cons _ _ _).mp q with q | q
        · exact (mR_cons _ _ _).mpr (.inl (p4 x q))
        · exact (mR_cons _ _ _).mpr (.inr ((ih _).1 x q))
      · rcases List.mem_cons.mp m with rfl | m
        · exact ⟨p1, t, List.mem_cons_self, p2⟩
        · exact ⟨((ih _).2 v m).1, by obtain ⟨a, b, c⟩ := ((ih _).2 v m).2; exact ⟨a, List.mem_cons_of_mem _ b, c⟩⟩
theorem thR_vd {w : Int} (hw : 1 ≤ w) : ∀ {r : List Tr} {since : Int}, Vd r → Vd (thR w since r)
  | [], _, _ => trivial
  | t :: r, since, h => by
    unfold thR
    cases e : thT w since t with
    | none => simp only; exact thR_vd hw h.tail
    | some u =>
      simp only
      obtain ⟨p1, p2, p3, p4, p5⟩ := thT_pc h.ok1 hw u e
      have ih := thR_vd hw (since := nextS since u) h.tail
      have sub := (thR_sub hw (r := r) (since := nextS since u) fun v m => h.okm v (List.mem_cons_of_mem _ m)).2
      cases hR : thR w (nextS since u) r with
      | nil => exact p1
      | cons v R =>
        rw [hR] at ih sub
        obtain ⟨_, a, ma, sa⟩ := sub v List.mem_cons_self
        refine ⟨p1, ?_, ih⟩
        cases r with
        | nil => cases ma
        | cons b r =>
          obtain ⟨n, en, el⟩ := h.2.1
          obtain ⟨k, ek, lk⟩ := p5 n en
          have := vd_mem_ge h.2.2 a ma
          exact ⟨k, ek, by omega⟩
theorem thR_len (w : Int) : ∀ (r : List Tr) (since : Int), (thR w since r).length ≤ r.length
  | [], _ => by simp [thR]
  | t :: r, since => by
    unfold thR
    cases thT w since t with
    | none => have := thR_len w r since; simp only [List.length_cons]; omega
    | some u => have := thR_len w r (nextS since u); simp only [List.length_cons]; omega
/-- all trains -/
theorem pass_tmB {w X : Int} (hw : 1 ≤ w) : ∀ (r : List Tr) (since : Int), Vd r → pass w since (tmB r X) = tmB (thR w since r) X
  | [], _, _ => rfl
  | t :: r, since, h => by
    have hp := pass_tlB (w := w) (since := since) (X := X) h.ok1 hw
    show pass w since (tlB X t ++ tmB r X) = _
    rw [pass_app, hp]
    unfold thR
    cases e : thT w since t with
    | none =>
      simp only [List.nil_append]
      exact pass_tmB hw r since h.tail
    | some u =>
      simp only
      obtain ⟨p1, p2, p3, p4, p5⟩ := thT_pc h.ok1 hw u e
      show _ = tlB X u ++ tmB (thR w (nextS since u) r) X
      congr 1
      cases hE : tmB r X with
      | nil =>
        have : tmB (thR w (nextS since u) r) X = [] := by
          rw [List.eq_nil_iff_forall_not_mem]
          intro x m
          have q := (mem_tmB (thR_vd hw h.tail) X x).mp m
          have z : x ∈ tmB r X := (mem_tmB h.tail X x).mpr ⟨(thR_sub hw fun v m => h.okm v (List.mem_cons_of_mem _ m)).1 x q.1, q.2⟩
          rw [hE] at z
          cases z
        rw [this]
        rfl
      | cons y l =>
        rw [← hE, ← pass_tmB hw r (nextS since u) h.tail]
        congr 1
        -- the train ends below X
        have my : y ∈ tmB r X := by rw [hE]; exact List.mem_cons_self
        obtain ⟨q1, q2⟩ := (mem_tmB h.tail X y).mp my
        cases r with
        | nil => exact (mR_nil _ q1).elim
        | cons b r =>
          obtain ⟨n, en, el⟩ := h.2.1
          obtain ⟨k, ek, lk⟩ := p5 n en
          have g := Vd.gt h en q1
          have k1 := p1.2.2 k ek
          have full : bfI u X = k := by
            have := bf_le p1 ek X
            have := (bf_spec p1 X (k - 1) (by omega) (fun m z => by rw [ek] at z; cases z; omega)).mp (by omega)
            omega
          unfold tlB nextS
          rw [full, ek]
          obtain ⟨k', hk⟩ : ∃ k' : Nat, k = (k' : Int) + 1 := ⟨(k - 1).toNat, by omega⟩
          subst hk
          rw [show ((k' : Int) + 1).toNat = k' + 1 by omega]
          unfold rngT
          rw [List.range_succ, List.map_append]
          simp
theorem pass_sub (w : Int) : ∀ (T : List Int) (since : Int), ∀ x ∈ pass w since T, x ∈ T
  | [], _, x, m => m
  | y :: T, since, x, m => by
    rw [pass_cons] at m
    split at m
    · rcases List.mem_cons.mp m with rfl | m
      · exact List.mem_cons_self
      · exact List.mem_cons_of_mem _ (pass_sub w T y x m)
    · exact List.mem_cons_of_mem _ (pass_sub w T since x m)
theorem pass_inc (w : Int) : ∀ {T : List Int} {since : Int}, Inc T → Inc (pass w since T)
  | [], _, _ => List.Pairwise.nil
  | y :: T, since, h => by
    obtain ⟨h1, h2⟩ := List.pairwise_cons.mp h
    rw [pass_cons]
    split
    · exact List.pairwise_cons.mpr ⟨fun x m => h1 x (pass_sub w T y x m), pass_inc w h2⟩
    · exact pass_inc w h2
theorem pass_len (w : Int) : ∀ (T : List Int) (since : Int), (pass w since T).length ≤ T.length
  | [], _ => by simp [pass]
  | y :: T, since => by
    rw [pass_cons]
    split
    · have := pass_len w T y; simp only [List.length_cons]; omega
    · have := pass_len w T since; simp only [List.length_cons]; omega

theorem eq_ok (a b : List Tr) : F_Trains___eq__ [some (TO a, false), some (TO b, false)] = some (.fz (.bl (eqd (rD a) (rD b))), [some (TO a, false), some (TO b, false)]) := by
  have o1 : okB 12 (rD a) = true := okB_r 10 a
  have o2 : okB 12 (rD b) = true := okB_r 10 b
  simp [F_Trains___eq__, DV.SC, DV.SX, DV.cmpD.eq_1, o1, o2]


/-! ### the law's source -/
abbrev wl (a c k : Int) : D := .lst [.int a, .int c, .int k]
abbrev primes : List D := [.int 2147483647, .int 2147483629, .int 2147483587, .int 2147483579, .int 2147483563, .int 2147483549, .int 2147483543]
theorem prime_ok (k : Int) : ∃ p : Int, atI primes (k % 7) = some (.int p) ∧ 0 < p ∧ p < 2 ^ 31 := by
  have h0 := Int.emod_nonneg k (show (7 : Int) ≠ 0 by decide)
  have h1 := Int.emod_lt_of_pos k (show (0 : Int) < 7 by decide)
  generalize k % 7 = q at *
  obtain ⟨n, rfl⟩ : ∃ n : Nat, q = n := ⟨q.toNat, by omega⟩
  have hn : n = 0 ∨ n = 1 ∨ n = 2 ∨ n = 3 ∨ n = 4 ∨ n = 5 ∨ n = 6 := by omega
  rcases hn with rfl | rfl | rfl | rfl | rfl | rfl | rfl <;> exact ⟨_, rfl, by decide, by decide⟩
abbrev dG (a c k m r q : Int) (x4 x5 : Sl) : Ct := [some (wl a c k, true), some (.int m, false), some (.int r, false), some (.int q, false), x4, x5]
theorem jx0 : ixN 3 0 = some 0 := rfl
theorem jx2 : ixN 3 2 = some 2 := rfl
theorem draw_body (a c k m r q : Int) (x4 x5 : Sl) (hc0 : 0 ≤ c) (hc1 : c < 2147483647) (k0 : 0 ≤ k) (k1 : k < 2 ^ 41) : ∃ r' y4 y5, exs [] [0] B__law_draw_1 (dG a c k m r q x4 x5) = some (.nx (dG a c (k + 1) m r' (q * 300000007) y4 y5)) := by
  obtain ⟨p, ep, p0, p1⟩ := prime_ok (k + 1)
  have b : (c + 7919 * (k + 1) + 1).natAbs < 2 ^ 64 := by omega
  have m1 : mulOk 7919 (k + 1) = true := mulOk_l (by decide) (by decide)
  generalize hx : (c + 7919 * (k + 1) + 1) = x at b
  have m3 : ∀ y z : Int, mulOk (y % p + (k + 1)) z = true := fun y z => mulOk_l (by have := Int.emod_nonneg y (show p ≠ 0 by omega); omega) (by have := Int.emod_lt_of_pos y p0; omega)
  have m4 : ∀ y : Int, mulOk y 300000007 = true := fun y => mulOk_r (by decide) (by decide)
  have g1 : Nat.log2 1009 < 9000 := by decide +kernel
  have g2 : Nat.log2 7 < 9000 := by decide +kernel
  refine ⟨r * 300000007 + (x ^ 5 % p + (k + 1)) * (x ^ 5 % p / 1009 + 69621) % p / 7, some (.int p, false), some (.int ((x ^ 5 % p + (k + 1)) * (x ^ 5 % p / 1009 + 69621) % p), false), ?_⟩
  simp [B__law_draw_1, DV.SC, DV.SE, DV.SX, i3_0, i3_1, i3_2, jx2, ep, p0, m1, hx, b, m3, m4, g1, g2, sizeLine]
theorem draw_loop (c m : Int) (hc0 : 0 ≤ c) (hc1 : c < 2147483647) (t : Nat) : ∀ (a k r q : Int) (n : Nat) (x4 x5 : Sl), 0 ≤ k → k + t < 2 ^ 41 → 0 < q → m ≤ q * 300000007 ^ t → t < n → ∃ k' r' q' y4 y5, whlLoop (tst [] C__law_draw_2) (exs [] [0] B__law_draw_1) n (dG a c k m r q x4 x5) = some (.nx (dG a c k' m r' q' y4 y5)) ∧ 0 ≤ k' ∧ k' ≤ k + t := by
  induction t with
  | zero =>
    intro a k r q n x4 x5 h0 h1 hq hm hn
    obtain ⟨n, rfl⟩ : ∃ j, n = j + 1 := ⟨n - 1, by omega⟩
    refine ⟨k, r, q, x4, x5, whl_done ?_, h0, by omega⟩
    have : ¬ q < m := by simp at hm; omega
    simp [tst, C__law_draw_2, DV.SC, DV.SE, DV.SX, this]
  | succ t ih =>
    intro a k r q n x4 x5 h0 h1 hq hm hn
    obtain ⟨n, rfl⟩ : ∃ j, n = j + 1 := ⟨n - 1, by omega⟩
    by_cases hc : q < m
    · obtain ⟨r1, z4, z5, e1⟩ := draw_body a c k m r q x4 x5 hc0 hc1 h0 (by omega)
      obtain ⟨k2, r2, q2, y4, y5, e2, l0, l1⟩ := ih a (k + 1) r1 (q * 300000007) n z4 z5 (by omega) (by omega) (by omega) (by rw [Int.pow_succ] at hm; rw [Int.mul_assoc, Int.mul_comm (300000007 : Int)]; exact hm) (by omega)
      refine ⟨k2, r2, q2, y4, y5, ?_, l0, by omega⟩
      rw [← e2]
      refine whl_step (Γ1 := dG a c k m r q x4 x5) ?_ e1
      simp [tst, C__law_draw_2, DV.SC, DV.SE, DV.SX, hc]
    · refine ⟨k, r, q, x4, x5, whl_done ?_, h0, by omega⟩
      simp [tst, C__law_draw_2, DV.SC, DV.SE, DV.SX, hc]
/-- a source in good order -/
structure Wl (c k : Int) (N : Nat) : Prop where
  c0 : 0 ≤ c
  c1 : c < 2147483647
  k0 : 0 ≤ k
  k1 : k + 120 * N < 2 ^ 40
theorem pow_bb : (4 : Int) * BB ≤ 1 * 300000007 ^ 120 := by
  unfold BB
  decide +kernel
theorem draw_ok (a : Int) {c k m : Int} {N : Nat} (w : Wl c k (N + 1)) (m0 : 0 < m) (m1 : m ≤ 4 * BB) : ∃ r a' k', F__law_draw [some (wl a c k, true), some (.int m, false)] = some (.fz (.int r), [some (wl a' c k', true), some (.int m, false)]) ∧ 0 ≤ r ∧ r < m ∧ Wl c k' N := by
  have bb := BB_big
  have lg := div_bb m0 (by omega)
  have w1 := w.k1
  have w0 := w.k0
  by_cases ha : 0 < a
  · refine ⟨a % m, a / m, k, ?_, Int.emod_nonneg _ (by omega), Int.emod_lt_of_pos _ m0, w.c0, w.c1, w.k0, by omega⟩
    simp [F__law_draw, DV.SC, DV.SE, DV.SX, ha, i3_0, i3_1, i3_2, jx0, lg, m0]
  · obtain ⟨k', r', q', y4, y5, e, l0, l1⟩ := draw_loop c m w.c0 w.c1 120 a k 0 1 fuel none none w0 (by omega) (by decide) (Int.le_trans m1 pow_bb) (by decide)
    refine ⟨r' % m, a, k', ?_, Int.emod_nonneg _ (by omega), Int.emod_lt_of_pos _ m0, w.c0, w.c1, l0, by omega⟩
    refine runF_by (o := .rt (.fz (.int (r' % m))) (dG a c k' m r' q' y4 y5)) rfl (?_ : exs _ [0] _ [some (wl a c k, true), some (.int m, false), none, none, none, none] = _) rfl
    refine (exs_nx (Γ1 := [some (wl a c k, true), some (.int m, false), none, none, none, none]) (by simp [DV.SC, DV.SE, DV.SX, ha, i3_0])).trans ?_
    refine (exs_nx (Γ1 := dG a c k m 0 1 none none) (by simp [DV.SC, DV.SE, DV.SX, sizeLine])).trans ?_
    refine (exs_nx (ex_whl e)).trans ?_
    simp [DV.SC, DV.SE, DV.SX, m0]
theorem choice_ok (a : Int) {c k : Int} {N : Nat} (w : Wl c k (N + 1)) (ds : List D) (fl : Bool) (m0 : 0 < ds.length) (m1 : ds.length < 1000) : ∃ d a' k', F__law_choice [some (wl a c k, true), some (.lst ds, fl)] = some (.fz d, [some (wl a' c k', true), some (.lst ds, fl)]) ∧ d ∈ ds ∧ Wl c k' N := by
  have bb := BB_big
  obtain ⟨r, a', k', e, r0, r1, w'⟩ := draw_ok a w (m := ds.length) (by omega) (by omega)
  obtain ⟨j, rfl⟩ : ∃ j : Nat, r = j := ⟨r.toNat, by omega⟩
  have hj : j < ds.length := by omega
  refine ⟨ds[j], a', k', ?_, List.getElem_mem hj, w'⟩
  have i1 : atI ds (j : Int) = some ds[j] := atI_nat (List.getElem?_eq_getElem hj)
  cases fl <;> simp [F__law_choice, DV.SC, DV.SE, DV.SX, e, i1]
theorem source_ok (cell : Int) : ∃ a c, F__law_source_of [some (.int cell, false)] = some (.nw (wl a c 0), [some (.int cell, false)]) ∧ 0 ≤ c ∧ c < 2147483647 := by
  have c0 := Int.emod_nonneg cell (show (2147483647 : Int) ≠ 0 by decide)
  have c1 := Int.emod_lt_of_pos cell (show (0 : Int) < 2147483647 by decide)
  by_cases h : 1000000000000000000 ≤ cell
  · have m : mulOk cell 1 = true := mulOk_r (by decide) (by decide)
    exact ⟨cell, cell % 2147483647, by simp [F__law_source_of, DV.SC, DV.SE, DV.SX, h, m, sizeLine], c0, c1⟩
  · have m : mulOk cell 0 = true := mulOk_r (by decide) (by decide)
    exact ⟨0, cell % 2147483647, by simp [F__law_source_of, DV.SC, DV.SE, DV.SX, h, m, sizeLine], c0, c1⟩
theorem cell_at_ok (ns : List Int) : ∃ c, F__law_cell_at [some (.scr ns, false), some (.int 0, false)] = some (.fz (.int c), [some (.scr ns, false), some (.int 0, false)]) := by
  cases ns with
  | nil => exact ⟨0, by simp [F__law_cell_at, DV.SC, DV.SE, DV.SX]⟩
  | cons n ns =>
    have i0 : atI (n :: ns) 0 = some n := atI_nat (j := 0) rfl
    refine ⟨n, ?_⟩
    simp [F__law_cell_at, DV.SC, DV.SE, DV.SX, i0]

/-! ### drawn trains -/
theorem Wl.le {c k : Int} {N M : Nat} (w : Wl c k N) (h : M ≤ N) : Wl c k M := ⟨w.c0, w.c1, w.k0, by have := w.k1; omega⟩
/-- a drawn number, below one of some bounds -/
theorem pick_ok (a : Int) {c k : Int} {N : Nat} (w : Wl c k (N + 2)) (bs : List Int) (M : Int) (l0 : 0 < bs.length) (l1 : bs.length < 1000) (hb : ∀ b ∈ bs, 0 < b ∧ b ≤ M) (hM : M ≤ 4 * BB) :
    ∃ d r a1 k1 a2 k2, F__law_choice [some (wl a c k, true), some (.lst (bs.map D.int), true)] = some (.fz (.int d), [some (wl a1 c k1, true), some (.lst (bs.map D.int), true)]) ∧ F__law_draw [some (wl a1 c k1, true), some (.int d, false)] = some (.fz (.int r), [some (wl a2 c k2, true), some (.int d, false)]) ∧ 0 ≤ r ∧ r < M ∧ Wl c k2 N := by
  obtain ⟨d, a1, k1, e1, m1, w1⟩ := choice_ok a w (bs.map D.int) true (by simpa using l0) (by simpa using l1)
  obtain ⟨b, mb, rfl⟩ := List.mem_map.mp m1
  obtain ⟨b0, b1⟩ := hb b mb
  obtain ⟨r, a2, k2, e2, r0, r1, w2⟩ := draw_ok a1 w1 b0 (by omega)
  exact ⟨b, r, a1, k1, a2, k2, e1, e2, r0, by omega, w2⟩
abbrev lrG (W : D) (far most : Int) (x3 : Sl) (F : List Tr) (b : Int) (x6 x7 : Sl) : Ct := [some (W, true), some (.int far, false), some (.int most, false), x3, some (rD F, true), some (.int b, false), x6, x7]
theorem rows_body (a : Int) {c k : Int} {N : Nat} (w : Wl c k (N + 6)) (far most : Int) (f0 : 0 < far) (f1 : far + 5 ≤ 4 * BB) (x3 x6 x7 : Sl) (F : List Tr) (b : Int) (hl : F.length < 16777216) :
    ∃ s m e a' k', exs [F__law_draw, F__law_choice] [0] B__law_rows_1 (lrG (wl a c k) far most x3 F b x6 x7) = some (.nx (lrG (wl a' c k') far most x3 (F ++ [⟨b, s, some m⟩]) (b + s * (m - 1) + 1 + e) (some (.int s, false)) (some (.int m, false)))) ∧ Wl c k' N ∧ 1 ≤ s ∧ s ≤ far + 3 ∧ 1 ≤ m ∧ m ≤ far + 5 ∧ 0 ≤ e ∧ e ≤ far + 5 := by
  have bb := BB_big
  obtain ⟨d1, r1, a1, k1, a2, k2, e1, e2, q0, q1, w1⟩ := pick_ok a (N := N + 4) (by exact w) [3, far] (far + 3) (by simp) (by simp) (by simp; omega) (by omega)
  obtain ⟨d2, r2, a3, k3, a4, k4, e3, e4, q2, q3, w2⟩ := pick_ok a2 (N := N + 2) (by exact w1) [2, 5, far] (far + 5) (by simp) (by simp) (by simp; omega) (by omega)
  obtain ⟨d3, r3, a5, k5, a6, k6, e5, e6, q4, q5, w3⟩ := pick_ok a4 (N := N) (by exact w2) [2, 1 + r1, far] (far + 5) (by simp) (by simp) (by simp; omega) (by omega)
  simp only [List.map_cons, List.map_nil] at e1 e3 e5
  have m1 : mulOk (1 + r1) (1 + r2 - 1) = true := mul_bb (by omega) (by omega) (by omega) (by omega)
  refine ⟨1 + r1, 1 + r2, r3, a6, k6, ?_, w3, by omega, by omega, by omega, by omega, q4, by omega⟩
  have el : rD (F ++ [⟨b, 1 + r1, some (1 + r2)⟩]) = .lst (F.map tD ++ [.tup [.int b, .int (1 + r1), .int (1 + r2)]]) := by simp [rD, tD, cD]
  have hl2 : (F.map tD).length < 16777216 := by simpa using hl
  simp only [lrG]
  rw [el]
  simp [B__law_rows_1, DV.SC, DV.SE, DV.SX, e1, e2, e3, e4, e5, e6, sizeLine, hl, m1]
theorem Vd.snoc : ∀ {r : List Tr} {t : Tr}, Vd r → okT t → (∀ a, r.getLast? = some a → bef a t) → Vd (r ++ [t])
  | [], t, _, h, _ => h
  | [a], t, h, q, hb => ⟨h, hb a rfl, q⟩
  | a :: b :: r, t, h, q, hb => ⟨h.1, h.2.1, Vd.snoc (r := b :: r) h.2.2 q (fun x e => hb x (by simpa using e))⟩
/-- no gap is greater than g -/
def gp (g : Int) : Int → List Tr → Prop
  | _, [] => True
  | p, t :: r => t.s ≤ p + g ∧ t.p ≤ g ∧ ∀ n, t.n = some n → gp g (t.s + t.p * (n - 1)) r
def endOf : Int → List Tr → Int
  | p, [] => p
  | _, t :: r => endOf (t.s + t.p * (t.n.getD 1 - 1)) r
theorem gp_snoc {g : Int} {t : Tr} : ∀ {p : Int} {F : List Tr}, gp g p F → (∀ u ∈ F, ∃ m, u.n = some m) → t.s ≤ endOf p F + g → t.p ≤ g → gp g p (F ++ [t])
  | p, [], _, _, h1, h2 => ⟨h1, h2, fun _ _ => trivial⟩
  | p, u :: F, h, hf, h1, h2 => ⟨h.1, h.2.1, fun n e => by
    have q := h.2.2 n e
    unfold endOf at h1
    rw [e] at h1
    exact gp_snoc q (fun v m => hf v (List.mem_cons_of_mem _ m)) h1 h2⟩
theorem endOf_snoc (t : Tr) : ∀ (p : Int) (F : List Tr), endOf p (F ++ [t]) = t.s + t.p * (t.n.getD 1 - 1)
  | p, [] => rfl
  | p, u :: F => endOf_snoc t _ F
theorem gp_endless {g s q : Int} {n : Option Int} : ∀ {p : Int} {F : List Tr}, gp g p (F ++ [⟨s, q, n⟩]) → gp g p (F ++ [⟨s, q, none⟩])
  | p, [], h => ⟨h.1, h.2.1, fun _ z => nomatch z⟩
  | p, u :: F, h => ⟨h.1, h.2.1, fun n e => gp_endless (h.2.2 n e)⟩
theorem rows_loop (far most : Int) (f0 : 0 < far) (f1 : far + 5 ≤ 4 * BB) (c : Int) (S : Int) (hS : (far + 5) * (far + 5) + far + 6 ≤ S) : ∀ (n : Nat) (lo a k b : Int) (N : Nat) (F : List Tr) (x3 x6 x7 : Sl), Wl c k (N + 6 * n) → F.length + n ≤ 1000000 → Vd F → 0 ≤ b → (∀ u, F.getLast? = some u → ∃ m, u.n = some m ∧ u.s + u.p * (m - 1) < b) → (∀ u ∈ F, u.s < b ∧ u.p ≤ far + 3 ∧ ∃ m, u.n = some m ∧ m ≤ far + 5 ∧ u.s + u.p * (m - 1) < b) → gp (far + 6) 0 F → b ≤ endOf 0 F + (far + 6) →
    ∃ F' b' a' k' y3 y6 y7, forLoop (.nm 3) (exs [F__law_draw, F__law_choice] [0] B__law_rows_1) (rngD lo 1 n) (lrG (wl a c k) far most x3 F b x6 x7) = some (.nx (lrG (wl a' c k') far most y3 F' b' y6 y7)) ∧ Wl c k' N ∧ Vd F' ∧ F'.length = F.length + n ∧ b' ≤ b + S * n ∧ (∀ u ∈ F', u.s < b' ∧ u.p ≤ far + 3 ∧ ∃ m, u.n = some m ∧ m ≤ far + 5 ∧ u.s + u.p * (m - 1) < b') ∧ gp (far + 6) 0 F'
  | 0, lo, a, k, b, N, F, x3, x6, x7, w, hl, hv, b0, hb, hu, hg, he => ⟨F, b, a, k, x3, x6, x7, by simp [rngD, forLoop], w, hv, by simp, by simp, hu, hg⟩
  | n + 1, lo, a, k, b, N, F, x3, x6, x7, w, hl, hv, b0, hb, hu, hg, he => by
    obtain ⟨s, m, e, a1, k1, e1, w1, s0, s1, m0, m1, e0, e2⟩ := rows_body a (N := N + 6 * n) (by exact (show N + 6 * (n + 1) = N + 6 * n + 6 by omega) ▸ w) far most f0 f1 (some (.int lo, false)) x6 x7 F b (by omega)
    have sm : 0 ≤ s * (m - 1) := Int.mul_nonneg (by omega) (by omega)
    have sm2 : s * (m - 1) ≤ (far + 5) * (far + 5) := Int.mul_le_mul (by omega) (by omega) (by omega) (by omega)
    obtain ⟨F', b', a', k', y3, y6, y7, e3, w3, v3, l3, b3, u3, g3⟩ := rows_loop far most f0 f1 c S hS n (lo + 1) a1 k1 (b + s * (m - 1) + 1 + e) N (F ++ [⟨b, s, some m⟩]) (some (.int lo, false)) (some (.int s, false)) (some (.int m, false)) w1 (by simp; omega)
      (hv.snoc ⟨b0, s0, fun n z => by cases z; exact m0⟩ fun u z => by obtain ⟨m', q1, q2⟩ := hb u z; exact ⟨m', q1, q2⟩) (by omega)
      (fun u z => by simp at z; subst z; exact ⟨m, rfl, by simp only; omega⟩)
      (fun u hm => by
        rcases List.mem_append.mp hm with hm | hm
        · obtain ⟨q1, q2, m', q3, q4, q5⟩ := hu u hm
          exact ⟨by omega, q2, m', q3, q4, by omega⟩
        · simp at hm; subst hm
          exact ⟨by simp only; omega, s1, m, rfl, m1, by simp only; omega⟩)
      (gp_snoc hg (fun u hm => by obtain ⟨_, _, m', q3, _⟩ := hu u hm; exact ⟨m', q3⟩) he (by simp only; omega)) (by rw [endOf_snoc]; simp only [Option.getD_some]; omega)
    refine ⟨F', b', a', k', y3, y6, y7, ?_, w3, v3, by rw [l3]; simp; omega, ?_, u3, g3⟩
    · rw [rngD, ← e3]
      exact forLoop_step (Γ1 := lrG (wl a c k) far most (some (.int lo, false)) F b x6 x7) (by simp [DV.SC, DV.SE, DV.SX]) e1
    · have : S * ((n + 1 : Nat) : Int) = S * (n : Int) + S := by rw [show ((n + 1 : Nat) : Int) = (n : Int) + 1 by omega, Int.mul_add, Int.mul_one]
      omega
theorem Vd.endless : ∀ {r : List Tr} {a b : Tr}, Vd (r ++ [a]) → b.s = a.s → okT b → Vd (r ++ [b])
  | [], a, b, _, _, h => h
  | [c], a, b, h, e, q => by
    obtain ⟨h1, ⟨n, e1, e2⟩, _⟩ := h
    exact ⟨h1, ⟨n, e1, by rw [e]; exact e2⟩, q⟩
  | c :: d :: r, a, b, h, e, q => ⟨h.1, h.2.1, Vd.endless (r := d :: r) h.2.2 e q⟩
theorem cmp_ne_nil (F : List Tr) : cmpD .ne (rD F) (.lst []) = some (!F.isEmpty) := by
  have o := okB_r 10 F
  have o2 : okB 12 (.lst []) = true := rfl
  simp only [cmpD, o, o2, Bool.and_self, if_true, Option.some.injEq]
  cases F with
  | nil => rfl
  | cons t F => simp [eqd, eqds]
theorem rows_ok (a : Int) {c k : Int} {N : Nat} (far : Int) (most : Nat) (w : Wl c k (N + 6 * most + 3)) (f0 : 0 < far) (hm : most ≤ 1000) (B : Int) (hB : B ≤ 4 * BB) (fB : far + ((far + 5) * (far + 5) + far + 6) * (most + 1) ≤ B) :
    ∃ r a' k', F__law_rows [some (wl a c k, true), some (.int far, false), some (.int (most : Int), false)] = some (.nw (rD r), [some (wl a' c k', true), some (.int far, false), some (.int (most : Int), false)]) ∧ Wl c k' N ∧ Vd r ∧ RB B r ∧ r.length ≤ most ∧ (∀ u ∈ r, u.p ≤ far + 3 ∧ ∀ n, u.n = some n → n ≤ far + 5) ∧ gp (far + 6) 0 r := by
  have bb := BB_big
  generalize hS : (far + 5) * (far + 5) + far + 6 = S at *
  have S0 : 0 ≤ (far + 5) * (far + 5) := Int.mul_nonneg (by omega) (by omega)
  have SB : S * (most : Int) + S ≤ B - far := by rw [Int.mul_add, Int.mul_one] at fB; omega
  have Sm : 0 ≤ S * (most : Int) := Int.mul_nonneg (by omega) (by omega)
  have f1 : far + 5 ≤ 4 * BB := by omega
  obtain ⟨r1, a1, k1, e1, p1, q1, w1⟩ := draw_ok a (N := N + 6 * most + 2) w (m := far) f0 (by omega)
  obtain ⟨r2, a2, k2, e2, p2, q2, w2⟩ := draw_ok a1 (N := N + 6 * most + 1) w1 (m := (most : Int) + 1) (by omega) (by omega)
  obtain ⟨n, rfl⟩ : ∃ n : Nat, r2 = n := ⟨r2.toNat, by omega⟩
  obtain ⟨F, b', a3, k3, y3, y6, y7, e3, w3, v3, l3, b3, u3, g3⟩ := rows_loop far most f0 f1 c S (by omega) n 0 a2 k2 r1 (N + 1) [] none none none (w2.le (by omega)) (by simp; omega) trivial p1 (fun u z => nomatch z) (fun u z => nomatch z) trivial (by show r1 ≤ 0 + (far + 6); omega)
  have Sn : S * (n : Int) ≤ S * (most : Int) := Int.mul_le_mul_of_nonneg_left (by omega) (by omega)
  have hn := fun Γ => rngN1 Γ n (by omega)
  have l4 : F.length = n := by simpa using l3
  have rbF : RB B F := fun u hu => by
    obtain ⟨z1, z2, m, z3, z4, z5⟩ := u3 u hu
    exact ⟨by omega, by omega, fun n' q => by rw [z3] at q; cases q; omega⟩
  have uF : ∀ u ∈ F, u.p ≤ far + 3 ∧ ∀ n, u.n = some n → n ≤ far + 5 := fun u hu => by
    obtain ⟨z1, z2, m, z3, z4, z5⟩ := u3 u hu
    exact ⟨z2, fun n' q => by rw [z3] at q; cases q; exact z4⟩
  have s1 : exs [F__law_draw, F__law_choice] [0] [.par [(4, true), (5, true)] [.lst [], .call 0 [.var 0, .var 1]],
  .for_ (.nm 3) .rng [.call 0 [.var 0, .bin .add (.var 2) (.cst (.int 1))]] B__law_rows_1,
  .ite (.and (.cmp .ne (.var 4) (.lst [])) (.cmp .eq (.call 0 [.var 0, .cst (.int 2)]) (.cst (.int 0)))) [.asgO 4 (.bin .add (.slc (.var 4) [] [.neg (.cst (.int 1))]) (.lst [.bin .add (.slc (.ix (.var 4) (.neg (.cst (.int 1)))) [] [.cst (.int 2)]) (.tup [.cst .non])]))] [],
  .ret (.var 4)] [some (wl a c k, true), some (.int far, false), some (.int (most : Int), false), none, none, none, none, none] = exs [F__law_draw, F__law_choice] [0] [.ite (.and (.cmp .ne (.var 4) (.lst [])) (.cmp .eq (.call 0 [.var 0, .cst (.int 2)]) (.cst (.int 0)))) [.asgO 4 (.bin .add (.slc (.var 4) [] [.neg (.cst (.int 1))]) (.lst [.bin .add (.slc (.ix (.var 4) (.neg (.cst (.int 1)))) [] [.cst (.int 2)]) (.tup [.cst .non])]))] [],
  .ret (.var 4)] (lrG (wl a3 c k3) far most y3 F b' y6 y7) := by
    refine (exs_nx (Γ1 := lrG (wl a1 c k1) far most none [] r1 none none) (by simp [DV.SC, DV.SE, DV.SX, e1, sizeLine])).trans ?_
    exact exs_nx (ex_for (Γ2 := lrG (wl a2 c k2) far most none [] r1 none none) (ds := rngD 0 1 n) (by simp [DV.SC, DV.SE, DV.SX, e2, hn]) rfl e3)
  have cn := cmp_ne_nil F
  by_cases hF : F = []
  · subst hF
    refine ⟨[], a3, k3, ?_, w3.le (by omega), trivial, (fun _ h => nomatch h), by simp, (fun _ h => nomatch h), trivial⟩
    refine runF_by (o := .rt (.sl 4) (lrG (wl a3 c k3) far most y3 [] b' y6 y7)) rfl (s1.trans ?_) rfl
    simp [DV.SC, DV.SX, cn, sizeLine]
  · obtain ⟨r4, a4, k4, e4, p4, q4, w4⟩ := draw_ok a3 (N := N) w3 (m := 2) (by decide) (by omega)
    obtain ⟨l, u, rfl⟩ : ∃ l u, F = l ++ [u] := ⟨F.dropLast, F.getLast hF, (List.dropLast_concat_getLast hF).symm⟩
    have ce : (l ++ [u]).isEmpty = false := by cases l <;> rfl
    rw [ce] at cn
    by_cases h4 : r4 = 0
    · subst h4
      obtain ⟨su, pu, nu⟩ := u
      have ou := v3.okm ⟨su, pu, nu⟩ (List.mem_append_right _ List.mem_cons_self)
      refine ⟨l ++ [⟨su, pu, none⟩], a4, k4, ?_, w4, v3.endless rfl ⟨ou.1, ou.2.1, fun n z => nomatch z⟩, ?_, by simp at l4 ⊢; omega, ?_, gp_endless g3⟩
      · refine runF_by (o := .rt (.sl 4) (lrG (wl a4 c k4) far most y3 (l ++ [⟨su, pu, none⟩]) b' y6 y7)) rfl (s1.trans ?_) rfl
        have el : rD (l ++ [⟨su, pu, none⟩]) = .lst (l.map tD ++ [.tup [.int su, .int pu, .non]]) := by simp [rD, tD, cD]
        have er : rD (l ++ [⟨su, pu, nu⟩]) = .lst (l.map tD ++ [.tup [.int su, .int pu, cD nu]]) := by simp [rD, tD]
        have ci : cutD (l.map tD ++ [.tup [.int su, .int pu, cD nu]]) none (some (-1)) = l.map tD := by rw [cut_init]; simp
        have ia := atI_last (l.map tD) (.tup [.int su, .int pu, cD nu])
        have cs : slcD (.tup [.int su, .int pu, cD nu]) none (some 2) = some (.fz (.tup [.int su, .int pu])) := rfl
        have hz : (l.map tD).length + 1 ≤ 16777216 := by simp at l4 ⊢; omega
        simp only [lrG]
        rw [er] at cn ⊢
        rw [el]
        generalize l.map tD = X at *
        generalize cD nu = Y at *
        simp [DV.SC, DV.SX, DV.cmpD.eq_1, DV.okB.eq_3, DV.eqd.eq_5, cn, e4, ci, ia, cs, hz, sizeLine]
      · intro v hv
        rcases List.mem_append.mp hv with hv | hv
        · exact rbF v (List.mem_append_left _ hv)
        · simp at hv; subst hv
          have q := rbF ⟨su, pu, nu⟩ (List.mem_append_right _ List.mem_cons_self)
          exact ⟨q.1, q.2.1, fun n z => nomatch z⟩
      · intro v hv
        rcases List.mem_append.mp hv with hv | hv
        · exact uF v (List.mem_append_left _ hv)
        · simp at hv; subst hv
          exact ⟨(uF ⟨su, pu, nu⟩ (List.mem_append_right _ List.mem_cons_self)).1, fun n z => nomatch z⟩
    · refine ⟨l ++ [u], a4, k4, ?_, w4, v3, rbF, by omega, uF, g3⟩
      refine runF_by (o := .rt (.sl 4) (lrG (wl a4 c k4) far most y3 (l ++ [u]) b' y6 y7)) rfl (s1.trans ?_) rfl
      generalize l ++ [u] = G at *
      simp [DV.SC, DV.SX, DV.cmpD.eq_1, DV.okB.eq_3, DV.eqd.eq_5, cn, e4, h4, sizeLine]

/-! ### k09: the check, where it may raise -/
theorem runXb {fs : List FS} {np n : Nat} {body : List DV.S} {G0 : Ct} {o : Out} {r : RV × Ct} (hl : G0.length = np) (e : exs fs (ownPs 0 G0) body (G0 ++ List.replicate (n - np) none) = some o) (f : DV.finishX np G0 o = some r) : DV.runX fs np n body G0 = some r := by
  unfold DV.runX
  rw [if_pos hl, e]
  exact f
abbrev cG (L : List D) (x1 x2 : Sl) : Ct := [some (.lst L, false), x1, x2]
abbrev fsC : List FS := [F_is_train, F_last_of]
def IsT (d : D) (b : Bool) : Prop := F_is_train [some (d, false)] = some (.fz (.bl b), [some (d, false)])
theorem chk_0 (L : List D) (T : D) (h : IsT T true) : exs fsC [] B_check_trains_x_1 (cG L (some (.int 0, false)) (some (T, false))) = some (.nx (cG L (some (.int 0, false)) (some (T, false)))) := by
  unfold IsT at h
  simp [B_check_trains_x_1, DV.SC, DV.SE, DV.SX, h]
theorem chk_1 (L : List D) (T : D) (K s p m ts : Int) (c0 : 0 < K) (h : IsT T true) (i1 : atI L (K - 1) = some (.tup [.int s, .int p, .int m])) (lo : F_last_of [some (.tup [.int s, .int p, .int m], false)] = some (.fz (.int (s + p * (m - 1))), [some (.tup [.int s, .int p, .int m], false)])) (e0 : ixD T (.int 0) = some (.int ts)) (l2 : ¬ ts ≤ s + p * (m - 1)) :
    exs fsC [] B_check_trains_x_1 (cG L (some (.int K, false)) (some (T, false))) = some (.nx (cG L (some (.int K, false)) (some (T, false)))) := by
  unfold IsT at h
  simp [B_check_trains_x_1, DV.SC, DV.SE, DV.SX, h, i1, c0, i3_2, lo, e0, l2]
theorem chk_no (L : List D) (T : D) (K : Int) (h : IsT T false) : exs fsC [] B_check_trains_x_1 (cG L (some (.int K, false)) (some (T, false))) = some (.xc 12 ["at"] [.int K] (cG L (some (.int K, false)) (some (T, false)))) := by
  unfold IsT at h
  simp [B_check_trains_x_1, DV.SC, DV.SE, DV.SX, h, DV.ex.eq_20, excOk]
theorem chk_end (L : List D) (T : D) (K s p : Int) (c0 : 0 < K) (h : IsT T true) (i1 : atI L (K - 1) = some (.tup [.int s, .int p, .non])) : exs fsC [] B_check_trains_x_1 (cG L (some (.int K, false)) (some (T, false))) = some (.xc 12 ["at"] [.int K] (cG L (some (.int K, false)) (some (T, false)))) := by
  unfold IsT at h
  simp [B_check_trains_x_1, DV.SC, DV.SE, DV.SX, h, i1, c0, i3_2, DV.ex.eq_20, excOk]
theorem chk_early (L : List D) (T : D) (K s p m ts : Int) (c0 : 0 < K) (h : IsT T true) (i1 : atI L (K - 1) = some (.tup [.int s, .int p, .int m])) (lo : F_last_of [some (.tup [.int s, .int p, .int m], false)] = some (.fz (.int (s + p * (m - 1))), [some (.tup [.int s, .int p, .int m], false)])) (e0 : ixD T (.int 0) = some (.int ts)) (l2 : ts ≤ s + p * (m - 1)) :
    exs fsC [] B_check_trains_x_1 (cG L (some (.int K, false)) (some (T, false))) = some (.xc 12 ["at"] [.int K] (cG L (some (.int K, false)) (some (T, false)))) := by
  unfold IsT at h
  simp [B_check_trains_x_1, DV.SC, DV.SE, DV.SX, h, i1, c0, i3_2, lo, e0, l2, DV.ex.eq_20, excOk]
theorem chk_loop {B : Int} (hB : B ≤ 8 * BB) (r : List Tr) (hr : RB B r) (rest : List D) : ∀ (suf pre : List Tr) (x1 x2 : Sl), r = pre ++ suf → Vd suf → (∀ a t, pre.getLast? = some a → suf.head? = some t → bef a t ∧ okT a) →
    ∃ y1 y2, forLoop (.tp [.nm 1, .nm 2]) (exs fsC [] B_check_trains_x_1) (enumD pre.length (suf.map tD ++ rest)) (cG (r.map tD ++ rest) x1 x2) = forLoop (.tp [.nm 1, .nm 2]) (exs fsC [] B_check_trains_x_1) (enumD r.length rest) (cG (r.map tD ++ rest) y1 y2)
  | [], pre, x1, x2, e, _, _ => ⟨x1, x2, by rw [e]; simp⟩
  | t :: suf, pre, x1, x2, e, hv, hb => by
    obtain ⟨y1, y2, ih⟩ := chk_loop hB r hr rest suf (pre ++ [t]) (some (.int (pre.length : Int), false)) (some (tD t, false)) (by rw [e]; simp) hv.tail (fun a u q1 q2 => by
      simp at q1; subst q1
      cases suf with
      | nil => cases q2
      | cons v suf => cases q2; exact ⟨hv.2.1, hv.1⟩)
    refine ⟨y1, y2, ?_⟩
    rw [List.map_cons, List.cons_append, enumD, ← ih, List.length_append, List.length_cons, List.length_nil]
    refine forLoop_step (Γ1 := cG (r.map tD ++ rest) (some (.int (pre.length : Int), false)) (some (tD t, false))) (by simp [DV.SC, DV.SE, DV.SX]) ?_
    cases hp : pre.getLast? with
    | none =>
      have : pre = [] := List.getLast?_eq_none_iff.mp hp
      subst this
      exact chk_0 _ (tD t) (is_train_ok hv.ok1)
    | some a =>
      obtain ⟨l, rfl⟩ := List.getLast?_eq_some_iff.mp hp
      obtain ⟨⟨m, em, hl⟩, oa⟩ := hb a t hp rfl
      have ha : r[l.length]? = some a := by rw [e]; simp
      have hlt : l.length < r.length := (List.getElem?_eq_some_iff.mp ha).1
      have q := hr a (List.mem_of_getElem? ha)
      have i1 : atI (r.map tD ++ rest) ((((l ++ [a]).length : Nat) : Int) - 1) = some (.tup [.int a.s, .int a.p, .int m]) := by
        have e1 : tD a = .tup [.int a.s, .int a.p, .int m] := by simp only [tD, em, cD]
        rw [← e1]
        refine atI_n _ l.length _ _ (by simp) ?_
        rw [List.getElem?_append_left (by rw [List.length_map]; exact hlt), List.getElem?_map, ha]
        rfl
      exact chk_1 _ _ _ a.s a.p m t.s (by rw [List.length_append, List.length_cons]; omega) (is_train_ok hv.ok1) i1 (last_of_ok (tr_mul hB oa em (q.2.2 m em) q.2.1)) (by simp only [tD, ixD, i3_0]) (by omega)
theorem chk_ok {B : Int} (hB : B ≤ 8 * BB) {r : List Tr} (hv : Vd r) (hr : RB B r) (hl : r.length ≤ 1000) : F_check_trains_x [some (rD r, false)] = some (.fz .non, [some (rD r, false)]) := by
  have hl2 : ¬ (1000 : Int) < (r.length : Int) := by omega
  obtain ⟨y1, y2, e⟩ := chk_loop hB r hr [] r [] none none rfl hv (fun a t q => nomatch q)
  rw [List.append_nil] at e
  have lp : forLoop (.tp [.nm 1, .nm 2]) (exs fsC [] B_check_trains_x_1) (enumD 0 (r.map tD)) (cG (r.map tD) none none) = some (.nx (cG (r.map tD) y1 y2)) := by
    refine e.trans ?_
    simp [enumD, forLoop]
  have run : exs fsC [] [.ite (.or (.not (.bi (.isi .list) [.var 0])) (.cmp .gt (.bi .len [.var 0]) (.cst (.int 1000)))) [.rse 12 ["at"] [.neg (.cst (.int 1))]] [], .for_ (.tp [.nm 1, .nm 2]) .enum [.var 0] B_check_trains_x_1] (cG (r.map tD) none none) = some (.nx (cG (r.map tD) y1 y2)) := by
    refine (exs_nx (Γ1 := cG (r.map tD) none none) (by simp [DV.SC, DV.SE, DV.SX, hl2])).trans ?_
    exact (exs_nx (ex_for (Γ2 := cG (r.map tD) none none) (ds := enumD 0 (r.map tD)) (by simp [DV.SC, DV.SE, DV.SX]) rfl lp)).trans (by simp only [DV.exs.eq_1])
  exact runXb rfl run rfl
theorem chk_bad {B : Int} (hB : B ≤ 8 * BB) {r : List Tr} (hv : Vd r) (hr : RB B r) {d : D} {rest : List D} (hl : r.length + rest.length + 1 ≤ 1000)
    (hd : ∀ L, L = r.map tD ++ d :: rest → exs fsC [] B_check_trains_x_1 (cG L (some (.int (r.length : Int), false)) (some (d, false))) = some (.xc 12 ["at"] [.int (r.length : Int)] (cG L (some (.int (r.length : Int), false)) (some (d, false))))) :
    F_check_trains_x [some (.lst (r.map tD ++ d :: rest), false)] = some (.fz (.exc 12 ["at"] [.int (r.length : Int)]), [none]) := by
  obtain ⟨y1, y2, e⟩ := chk_loop hB r hr (d :: rest) r [] none none rfl hv (fun a t q => nomatch q)
  have hd := hd _ rfl
  have ln : ((r.map tD ++ d :: rest).length : Int) = r.length + rest.length + 1 := by simp; omega
  generalize r.map tD ++ d :: rest = L at *
  have hl2 : ¬ (1000 : Int) < (L.length : Int) := by omega
  have run : exs fsC [] [.ite (.or (.not (.bi (.isi .list) [.var 0])) (.cmp .gt (.bi .len [.var 0]) (.cst (.int 1000)))) [.rse 12 ["at"] [.neg (.cst (.int 1))]] [], .for_ (.tp [.nm 1, .nm 2]) .enum [.var 0] B_check_trains_x_1] (cG L none none) = some (.xc 12 ["at"] [.int (r.length : Int)] (cG L (some (.int (r.length : Int), false)) (some (d, false)))) := by
    refine (exs_nx (Γ1 := cG L none none) (by simp [DV.SC, DV.SE, DV.SX, hl2])).trans ?_
    have lp : forLoop (.tp [.nm 1, .nm 2]) (exs fsC [] B_check_trains_x_1) (enumD 0 L) (cG L none none) = some (.xc 12 ["at"] [.int (r.length : Int)] (cG L (some (.int (r.length : Int), false)) (some (d, false)))) := by
      refine e.trans ?_
      rw [enumD]
      have st : asgT (.tp [.nm 1, .nm 2]) (.tup [.int (r.length : Int), d]) (cG L y1 y2) = some (cG L (some (.int (r.length : Int), false)) (some (d, false))) := by simp [DV.SC, DV.SE, DV.SX]
      simp only [forLoop, st, Option.bind_some, hd]
    have ef : ex fsC [] (.for_ (.tp [.nm 1, .nm 2]) .enum [.var 0] B_check_trains_x_1) (cG L none none) = some (.xc 12 ["at"] [.int (r.length : Int)] (cG L (some (.int (r.length : Int), false)) (some (d, false)))) := ex_for (ds := enumD 0 L) (Γ2 := cG L none none) (by simp [DV.SC, DV.SE, DV.SX]) rfl lp
    simp only [DV.exs.eq_2, ef, Option.bind_some]
  exact runXb rfl run rfl
theorem chk_not {v : D} (h : isiD .list v = false) (hs : shallow v = true) : F_check_trains_x [some (v, false)] = some (.fz (.exc 12 ["at"] [.int (-1)]), [none]) := by
  have run : exs fsC [] [.ite (.or (.not (.bi (.isi .list) [.var 0])) (.cmp .gt (.bi .len [.var 0]) (.cst (.int 1000)))) [.rse 12 ["at"] [.neg (.cst (.int 1))]] [], .for_ (.tp [.nm 1, .nm 2]) .enum [.var 0] B_check_trains_x_1] [some (v, false), none, none] = some (.xc 12 ["at"] [.int (-1)] [some (v, false), none, none]) := by
    have e1 : ev fsC (.bi (.isi .list) [.var 0]) [some (v, false), none, none] = some (.fz (.bl false), [some (v, false), none, none]) := by
      rw [DV.ev.eq_17]
      simp [DV.SC, DV.SE, DV.SX, hs, h]
    have s1 : ex fsC [] (.ite (.or (.not (.bi (.isi .list) [.var 0])) (.cmp .gt (.bi .len [.var 0]) (.cst (.int 1000)))) [.rse 12 ["at"] [.neg (.cst (.int 1))]] []) [some (v, false), none, none] = some (.xc 12 ["at"] [.int (-1)] [some (v, false), none, none]) := by
      refine (ex_ite (x := .fz (.bl true)) (t := true) (Γ1 := [some (v, false), none, none]) ?_ rfl ?_)
      · exact ev_or_t (by simp [DV.SC, DV.SE, DV.SX, e1]) rfl
      · simp [DV.SC, DV.SE, DV.SX, DV.ex.eq_20, excOk]
    simp only [DV.exs.eq_2, s1, Option.bind_some]
  exact runXb rfl run rfl
theorem chk_long {L : List D} (h : (1000 : Int) < (L.length : Int)) : F_check_trains_x [some (.lst L, false)] = some (.fz (.exc 12 ["at"] [.int (-1)]), [none]) := by
  have run : exs fsC [] [.ite (.or (.not (.bi (.isi .list) [.var 0])) (.cmp .gt (.bi .len [.var 0]) (.cst (.int 1000)))) [.rse 12 ["at"] [.neg (.cst (.int 1))]] [], .for_ (.tp [.nm 1, .nm 2]) .enum [.var 0] B_check_trains_x_1] (cG L none none) = some (.xc 12 ["at"] [.int (-1)] (cG L none none)) := by
    have s1 : ex fsC [] (.ite (.or (.not (.bi (.isi .list) [.var 0])) (.cmp .gt (.bi .len [.var 0]) (.cst (.int 1000)))) [.rse 12 ["at"] [.neg (.cst (.int 1))]] []) (cG L none none) = some (.xc 12 ["at"] [.int (-1)] (cG L none none)) := by simp [DV.SC, DV.SE, DV.SX, h, DV.ex.eq_20, excOk]
    simp only [DV.exs.eq_2, s1, Option.bind_some]
  exact runXb rfl run rfl
/-! ### made trains -/
theorem mk_no {v : D} {k : Int} (h : F_check_trains_x [some (v, false)] = some (.fz (.exc 12 ["at"] [.int k]), [none])) : F_Trains___init___x [some (.obj 0 [] [], true), some (v, false)] = some (.fz (.exc 12 ["at"] [.int k]), [none, none]) := by
  simp [F_Trains___init___x, DV.runX, DV.SC, DV.SE, DV.SX, h, DV.ex.eq_21, DV.finishX]
theorem mk_yes {B : Int} (hB : B ≤ 8 * BB) {r : List Tr} (hv : Vd r) (hr : RB B r) (hl : r.length ≤ 1000) : F_Trains___init___x [some (.obj 0 [] [], true), some (rD r, false)] = some (.fz .non, [some (TO (allJ r), true), some (rD r, false)]) := by
  have e1 := chk_ok hB hv hr hl
  have e2 := all_joined_ok hB hv hr (by omega) false
  simp [F_Trains___init___x, DV.runX, DV.SC, DV.SE, DV.SX, e1, e2, DV.ex.eq_21, DV.finishX, isXc]

/-! ### k09: what repr shows of lists -/
theorem shownAll_map : ∀ ps : List PyData, PyData.shownAll ps = ps.map PyData.shown
  | [] => by simp [PyData.shownAll]
  | p :: ps => by simp [PyData.shownAll, shownAll_map ps]
def Sm (p : PyData) : Prop := p.showable = true ∧ p.shown.length ≤ 300 ∧ p.depth ≤ 5
theorem sm_all : ∀ {ps : List PyData}, (∀ p ∈ ps, Sm p) → PyData.showableAll ps = true ∧ ((ps.map PyData.shown).map (·.length)).sum ≤ 300 * ps.length ∧ PyData.depthAll ps ≤ 5
  | [], _ => by simp [PyData.showableAll, PyData.depthAll]
  | p :: ps, h => by
    obtain ⟨h1, h2, h3⟩ := h p List.mem_cons_self
    obtain ⟨q1, q2, q3⟩ := sm_all fun q m => h q (List.mem_cons_of_mem _ m)
    refine ⟨by simp [PyData.showableAll, h1, q1], ?_, ?_⟩
    · simp only [List.map_cons, List.sum_cons, List.length_cons]
      omega
    · simp only [PyData.depthAll]
      omega
theorem shw_lst {ps : List PyData} (h : ∀ p ∈ ps, Sm p) (hl : ps.length ≤ 2000) : shwOk (.list ps) = true := by
  obtain ⟨q1, q2, q3⟩ := sm_all h
  have l := listText_len_le (ps.map PyData.shown)
  rw [List.length_map] at l
  unfold shwOk
  simp only [Bool.and_eq_true, decide_eq_true_eq]
  refine ⟨by simpa only [PyData.showable] using q1, ?_, by simp only [PyData.depth]; omega⟩
  simp only [PyData.shown, shownAll_map]
  rw [sizeLine_eq]
  omega
theorem shw_tup {ps : List PyData} (h : ∀ p ∈ ps, Sm p) (hl : ps.length ≤ 2000) : shwOk (.tuple ps) = true := by
  obtain ⟨q1, q2, q3⟩ := sm_all h
  have l := tupleText_len_le (ps.map PyData.shown)
  rw [List.length_map] at l
  unfold shwOk
  simp only [Bool.and_eq_true, decide_eq_true_eq]
  refine ⟨by simpa only [PyData.showable] using q1, ?_, by simp only [PyData.depth]; omega⟩
  simp only [PyData.shown, shownAll_map]
  rw [sizeLine_eq]
  omega
theorem int_len {i : Int} (h : i.natAbs < 10 ^ 40) : (PyData.shown (.int i)).length ≤ 41 := by
  simp only [PyData.shown]
  have := int_text_length_le10 (k := 40) (by decide) h
  rw [ofString_length]
  omega
theorem int_log {i : Int} (h : i.natAbs < 10 ^ 40) : i.natAbs.log2 < 1920 := by
  by_cases z : i.natAbs = 0
  · rw [z]; decide
  · have := (Nat.log2_lt z (k := 1900)).mpr (Nat.lt_trans h (by decide +kernel))
    omega
/-- a train's text -/
def pyC : Option Int → PyData
  | none => .none
  | some n => .int n
abbrev pyTr (t : Tr) : PyData := .tuple [.int t.s, .int t.p, pyC t.n]
theorem pyO_t (t : Tr) : pyO (tD t) = some (pyTr t) := by
  obtain ⟨s, p, n⟩ := t
  cases n <;> simp [pyO, pyOs, cD, pyC]
theorem sm_tr {t : Tr} (h1 : t.s.natAbs < 10 ^ 40) (h2 : t.p.natAbs < 10 ^ 40) (h3 : ∀ n, t.n = some n → n.natAbs < 10 ^ 40) : Sm (pyTr t) := by
  have a1 := int_len h1
  have a2 := int_len h2
  have b1 := int_log h1
  have b2 := int_log h2
  obtain ⟨c1, c2, c3⟩ : (pyC t.n).showable = true ∧ (pyC t.n).shown.length ≤ 41 ∧ (pyC t.n).depth = 0 := by
    cases e : t.n with
    | none => exact ⟨rfl, by decide +kernel, by simp [pyC, PyData.depth]⟩
    | some n => exact ⟨by simp [pyC, PyData.showable, int_log (h3 n e)], int_len (h3 n e), by simp [pyC, PyData.depth]⟩
  refine ⟨by simp [PyData.showable, PyData.showableAll, b1, b2, c1], ?_, by simp [PyData.depth, PyData.depthAll, c3]⟩
  have l := tupleText_len_le [PyData.shown (.int t.s), PyData.shown (.int t.p), PyData.shown (pyC t.n)]
  simp only [List.map_cons, List.map_nil, List.sum_cons, List.sum_nil, List.length_cons, List.length_nil] at l
  rw [show (pyTr t).shown = tupleText [PyData.shown (.int t.s), PyData.shown (.int t.p), PyData.shown (pyC t.n)] by simp [PyData.shown, PyData.shownAll]]
  omega
theorem pyOs_app : ∀ (a b : List D) (p q : List PyData), pyOs a = some p → pyOs b = some q → pyOs (a ++ b) = some (p ++ q)
  | [], b, p, q, h1, h2 => by
    simp only [pyOs, Option.some.injEq] at h1
    subst h1
    exact h2
  | d :: a, b, p, q, h1, h2 => by
    simp only [pyOs] at h1
    obtain ⟨x, e1, h1⟩ := Option.bind_eq_some_iff.mp h1
    obtain ⟨xs, e2, rfl⟩ := Option.map_eq_some_iff.mp h1
    simp only [List.cons_append, pyOs, e1, Option.bind_some, pyOs_app a b xs q e2 h2, Option.map_some]
theorem pyOs_r : ∀ r : List Tr, pyOs (r.map tD) = some (r.map pyTr)
  | [] => by simp [pyOs]
  | t :: r => by
    rw [List.map_cons, List.map_cons]
    simp only [pyOs, pyO_t, Option.bind_some, pyOs_r r, Option.map_some]
theorem cmp_str (x : Str) : cmpD .eq (.str x) (.str x) = some true := by
  by_cases h : okB 12 (.str x) = true
  · exact cmp_eq_self h
  · simp only [cmpD, h, Bool.and_self, Bool.false_eq_true, if_false, lenNe, strEq, beq_self_eq_true]
/-! ### what is told -/
theorem told_no {v : D} {p : PyData} {k : Int} (h : F_check_trains_x [some (v, false)] = some (.fz (.exc 12 ["at"] [.int k]), [none])) (hp : pyO v = some p) (hs : shwOk p = true) (hn : noE v = true) : F__law_told [some (v, false)] = some (.fz (.int k), [some (v, false)]) := by
  have e0 := mk_no h
  have c1 := cmp_str p.shown
  have fl : fldL "at" ["at"] [D.int k] = some (.int k) := by simp [fldL]
  have e1 : ev [F_Trains___init___x] (.mkx 0 0 [.var 0]) [some (v, false), none, some (.str "none", false), some (.str p.shown, false)] = some (.fz (.exc 12 ["at"] [.int k]), [some (v, false), none, some (.str "none", false), some (.str p.shown, false)]) := by
    rw [DV.ev.eq_41]
    simp [DV.SC, DV.SE, DV.SX, mkX, e0]
  have e2 : exs [F_Trains___init___x] [] B__law_told_1 [some (v, false), some (.err 12 ["at"] [.int k], false), some (.str "none", false), some (.str p.shown, false)] = some (.nx [some (v, false), some (.err 12 ["at"] [.int k], false), some (.int k, false), some (.str p.shown, false)]) := by
    unfold B__law_told_1
    simp [DV.SC, DV.SE, DV.SX, DV.ev.eq_42, DV.ev.eq_43, xisD, xfldD, fl]
  have s2 : ex [F_Trains___init___x] [] (.try_ (.mkx 0 0 [.var 0]) [12] 1 B__law_told_1) [some (v, false), none, some (.str "none", false), some (.str p.shown, false)] = some (.nx [some (v, false), none, some (.int k, false), some (.str p.shown, false)]) := by
    rw [DV.ex.eq_22, e1]
    simp [disjB, e2, noG, hn, noE]
  have run : exs [F_Trains___init___x] [] [.par [(2, true), (3, true)] [.cst (.str "none"), .bi .rpr [.var 0]], .try_ (.mkx 0 0 [.var 0]) [12] 1 B__law_told_1, .ret (.ite (.cmp .eq (.bi .rpr [.var 0]) (.var 3)) (.var 2) (.cst (.str "changed")))] [some (v, false), none, none, none] = some (.rt (.sl 2) [some (v, false), none, some (.int k, false), some (.str p.shown, false)]) := by
    refine (exs_nx (Γ1 := [some (v, false), none, some (.str "none", false), some (.str p.shown, false)]) (by simp [DV.SC, DV.SX, DV.biD.eq_27, hp, hs])).trans ?_
    refine (exs_nx s2).trans ?_
    simp [DV.SC, DV.SX, DV.biD.eq_27, hp, hs, c1]
  exact runF_by rfl run rfl
theorem told_yes {v o : D} {p : PyData} (h : F_Trains___init___x [some (.obj 0 [] [], true), some (v, false)] = some (.fz .non, [some (TO [], true), some (v, false)]) ∨ ∃ r, F_Trains___init___x [some (.obj 0 [] [], true), some (v, false)] = some (.fz .non, [some (TO r, true), some (v, false)])) (hp : pyO v = some p) (hs : shwOk p = true) : F__law_told [some (v, false)] = some (.fz (.str "none"), [some (v, false)]) := by
  obtain ⟨r, e0⟩ : ∃ r, F_Trains___init___x [some (.obj 0 [] [], true), some (v, false)] = some (.fz .non, [some (TO r, true), some (v, false)]) := h.elim (fun z => ⟨[], z⟩) id
  have c1 := cmp_str p.shown
  have e1 : ev [F_Trains___init___x] (.mkx 0 0 [.var 0]) [some (v, false), none, some (.str "none", false), some (.str p.shown, false)] = some (.nw (TO r), [some (v, false), none, some (.str "none", false), some (.str p.shown, false)]) := by
    rw [DV.ev.eq_41]
    simp [DV.SC, DV.SE, DV.SX, mkX, e0]
  have s2 : ex [F_Trains___init___x] [] (.try_ (.mkx 0 0 [.var 0]) [12] 1 B__law_told_1) [some (v, false), none, some (.str "none", false), some (.str p.shown, false)] = some (.nx [some (v, false), none, some (.str "none", false), some (.str p.shown, false)]) := by
    rw [DV.ex.eq_22, e1]
    simp
  have run : exs [F_Trains___init___x] [] [.par [(2, true), (3, true)] [.cst (.str "none"), .bi .rpr [.var 0]], .try_ (.mkx 0 0 [.var 0]) [12] 1 B__law_told_1, .ret (.ite (.cmp .eq (.bi .rpr [.var 0]) (.var 3)) (.var 2) (.cst (.str "changed")))] [some (v, false), none, none, none] = some (.rt (.sl 2) [some (v, false), none, some (.str "none", false), some (.str p.shown, false)]) := by
    refine (exs_nx (Γ1 := [some (v, false), none, some (.str "none", false), some (.str p.shown, false)]) (by simp [DV.SC, DV.SX, DV.biD.eq_27, hp, hs])).trans ?_
    refine (exs_nx s2).trans ?_
    simp [DV.SC, DV.SX, DV.biD.eq_27, hp, hs, c1]
  exact runF_by rfl run rfl

/-! ### k09: what is no train -/
abbrev i1 : D := .int 1
abbrev O19 : List D := [.non, .int 5, .str "train", .tup [], .tup [i1, i1], .tup [i1, i1, i1, i1], .lst [i1, i1, i1], .tup [.int (-1), i1, i1], .tup [i1, .int 0, i1], .tup [i1, i1, .int 0], .tup [i1, i1, .int (-1)],
  .tup [.bl true, i1, i1], .tup [i1, .bl true, i1], .tup [i1, i1, .bl true], .tup [.str "1", i1, i1], .tup [i1, .non, i1], .tup [.non, i1, i1], .tup [i1, i1, .str "1"], .dct]
theorem odd_no : ∀ d ∈ O19, IsT d false := by
  intro d m
  simp only [O19, List.mem_cons, List.not_mem_nil, or_false] at m
  unfold IsT
  rcases m with rfl | rfl | rfl | rfl | rfl | rfl | rfl | rfl | rfl | rfl | rfl | rfl | rfl | rfl | rfl | rfl | rfl | rfl | rfl <;> rfl
theorem sm_of {p : PyData} (h : p.showable && decide (p.shown.length ≤ 300) && decide (p.depth ≤ 5) = true) : Sm p := by
  simp only [Bool.and_eq_true, decide_eq_true_eq] at h
  exact ⟨h.1.1, h.1.2, h.2⟩
theorem odd_py : ∀ d ∈ O19, ∃ p, pyO d = some p ∧ Sm p := by
  intro d m
  simp only [O19, List.mem_cons, List.not_mem_nil, or_false] at m
  rcases m with rfl | rfl | rfl | rfl | rfl | rfl | rfl | rfl | rfl | rfl | rfl | rfl | rfl | rfl | rfl | rfl | rfl | rfl | rfl <;> exact ⟨_, rfl, sm_of (by decide +kernel)⟩
mutual
theorem noE_py : ∀ (d : D) (p : PyData), pyO d = some p → noE d = true
  | .non, p, _ => rfl
  | .bl _, p, _ => rfl
  | .int _, p, _ => rfl
  | .str _, p, _ => rfl
  | .dct, p, _ => rfl
  | .lst ds, p, h => by
    simp only [pyO] at h
    obtain ⟨ps, h, _⟩ := Option.map_eq_some_iff.mp h
    simp only [noE]
    exact noEs_py ds ps h
  | .tup ds, p, h => by
    simp only [pyO] at h
    obtain ⟨ps, h, _⟩ := Option.map_eq_some_iff.mp h
    simp only [noE]
    exact noEs_py ds ps h
  | .obj _ _ _, p, h => by simp [pyO] at h
  | .scr _, p, h => by simp [pyO] at h
  | .dic _ _, p, h => by simp [pyO] at h
  | .exc _ _ _, p, h => by simp [pyO] at h
  | .err _ _ _, p, h => by simp [pyO] at h
theorem noEs_py : ∀ (ds : List D) (ps : List PyData), pyOs ds = some ps → noEs ds = true
  | [], ps, _ => rfl
  | d :: ds, ps, h => by
    simp only [pyOs] at h
    obtain ⟨p, h1, h⟩ := Option.bind_eq_some_iff.mp h
    obtain ⟨qs, h2, _⟩ := Option.map_eq_some_iff.mp h
    simp only [noEs, noE_py d p h1, noEs_py ds qs h2, Bool.and_self]
end
abbrev eT (e : Int) : D := .tup [.int e, i1, i1]
theorem odd_ne (e : Int) : ∀ d ∈ O19, ∃ b, cmpD .ne d (eT e) = some b := by
  intro d m
  have s1 : PyData.strOk "train" = true := by decide +kernel
  have s2 : PyData.strOk "1" = true := by decide +kernel
  simp only [O19, List.mem_cons, List.not_mem_nil, or_false] at m
  rcases m with rfl | rfl | rfl | rfl | rfl | rfl | rfl | rfl | rfl | rfl | rfl | rfl | rfl | rfl | rfl | rfl | rfl | rfl | rfl <;> simp [cmpD, okB, s1, s2, lenNe, dtNe]
theorem odd_ok (a : Int) {c k : Int} {N : Nat} (w : Wl c k (N + 1)) (e : Int) : ∃ d a' k', F__law_odd [some (wl a c k, true), some (.int e, false)] = some (.fz d, [some (wl a' c k', true), some (.int e, false)]) ∧ (d ∈ O19 ∨ d = eT e) ∧ Wl c k' N := by
  obtain ⟨d, a', k', e1, md, w1⟩ := choice_ok a w (O19 ++ [eT e, eT e, eT e, eT e, eT e, eT e]) true (by simp) (by simp)
  refine ⟨d, a', k', ?_, ?_, w1⟩
  · simp only [O19, List.cons_append, List.nil_append] at e1
    have hr : (List.replicate 6 [D.tup [D.int e, D.int 1, D.int 1]]).flatten = [eT e, eT e, eT e, eT e, eT e, eT e] := rfl
    simp [F__law_odd, DV.SC, DV.SE, DV.SX, DV.ev.eq_33, sizeLine, hr, e1]
  · rcases List.mem_append.mp md with m | m
    · exact .inl m
    · refine .inr ?_
      simpa using m

/-! ### k09: lists put together -/
theorem sn_of {Γ : Ct} {v : Nat} {x : Sl} (h : Γ[v]? = some x) : (Γ.set v none).set v x = Γ := by
  have hvl : v < Γ.length := (List.getElem?_eq_some_iff.mp h).1
  apply List.ext_getElem?
  intro i
  by_cases q : v = i
  · subst q; rw [List.getElem?_set_self (by rw [List.length_set]; exact hvl), h]
  · rw [List.getElem?_set_ne q, List.getElem?_set_ne q]
theorem comp_rngT (fs : List FS) (n : Nat) (f : Int → D) (its : List E) (elt : E) (v : Nat) (Γ : Ct) (x : Sl) (hn : n < 1000000) (e1 : (evs fs its Γ).bind (fun p => iterD .rng p.1 p.2) = some (rngD 0 1 n, Γ)) (hv : Γ[v]? = some x) (hx : plainIx Γ [v] = true)
    (he : ∀ j : Int, 0 ≤ j → j < n → ev fs elt ((Γ.set v none).set v (some (.int j, false))) = some (.fz (f j), (Γ.set v none).set v (some (.int j, false)))) :
    ev fs (.comp [v] (.nm v) .rng its [] elt) Γ = some (.nw (.lst ((List.range n).map fun (j : Nat) => f (j : Int))), Γ) := by
  have hvl : v < (Γ.set v none).length := by rw [List.length_set]; exact (List.getElem?_eq_some_iff.mp hv).1
  have sn : ∀ y : Sl, ((Γ.set v none).set v y).set v none = Γ.set v none := by
    intro y
    apply List.ext_getElem?
    intro i
    by_cases q : v = i
    · subst q; rw [List.getElem?_set_self (by rw [List.length_set]; exact hvl), List.getElem?_set_self (by simpa using hvl)]
    · rw [List.getElem?_set_ne q, List.getElem?_set_ne q]
  have hct : ∀ G, evc fs [] G = some (true, G) := fun _ => by simp only [evc]
  have key : ∀ (m : Nat) (lo : Nat) (acc : List D), lo + m ≤ n → compLoop [v] (.nm v) (evc fs []) (ev fs elt) (rngD (lo : Int) 1 m) acc (Γ.set v none) = some (acc ++ (List.range' lo m).map (fun (j : Nat) => f (j : Int)), Γ.set v none) := by
    intro m
    induction m with
    | zero => intro lo acc _; simp [rngD, compLoop]
    | succ m ih =>
      intro lo acc hle
      rw [rngD, List.range'_succ, List.map_cons]
      have q := he (lo : Int) (by omega) (by omega)
      have := ih (lo + 1) (acc ++ [f lo]) (by omega)
      rw [show (((lo + 1 : Nat)) : Int) = (lo : Int) + 1 by omega] at this
      simp only [compLoop, asgT, hvl, if_true, Option.bind_some, hct, q, fre]
      have pl : plainIx ((Γ.set v none).set v (some (.int (lo : Int), false))) [v] = true := by simp only [plainIx, List.all_cons, List.all_nil, Bool.and_true]; rw [List.getElem?_set_self hvl]
      rw [if_pos pl]
      rw [show wipeG ((Γ.set v none).set v (some (.int (lo : Int), false))) [v] = Γ.set v none by simp only [wipeG, sn]]
      rw [this]
      simp
  obtain ⟨⟨xs, Γ1⟩, a1, a2⟩ := Option.bind_eq_some_iff.mp e1
  have rl : ∀ (m : Nat) (lo : Int), (rngD lo 1 m).length = m := by
    intro m
    induction m with
    | zero => intro lo; rfl
    | succ m ih => intro lo; rw [rngD, List.length_cons, ih]
  rw [DV.ev.eq_18]
  simp only [a1, Option.bind_some, a2]
  rw [if_pos (by simp [hx, rl, sz, tgIx]; omega)]
  have := key n 0 [] (by omega)
  simp only [Int.natCast_zero, List.nil_append] at this
  rw [show wipeG Γ [v] = Γ.set v none from rfl, this]
  have rg : restG Γ (Γ.set v none) [v] = Γ := by
    simp only [restG, List.getD_eq_getElem?_getD, hv, Option.getD_some]
    exact sn_of hv
  simp only [Option.map_some, rg]
  rw [List.range_eq_range']
/-- nine later -/
def sh9 (t : Tr) : Tr := ⟨t.s + 9, t.p, t.n⟩
abbrev fsL : List FS := [F__law_cell_at, F__law_source_of, F__law_rows, F__law_told, F_Trains___init__, F_Trains___eq__, F__law_draw, F__law_odd]
abbrev lG (S : D) (x1 x2 x3 x4 x5 x6 x7 x8 x9 x10 x11 : Sl) : Ct := [some (S, false), x1, x2, x3, x4, x5, x6, x7, x8, x9, x10, x11]
def Pl (x : Sl) : Prop := ∀ d, x ≠ some (d, true)
theorem comp_9 (S : D) (x1 : Sl) {W W1 : D} {r : List Tr} (x3 x4 x5 x6 x7 x8 x9 x10 x11 : Sl) (p9 : Pl x9) (p10 : Pl x10) (p11 : Pl x11) (hl : r.length ≤ 1000) (e : F__law_rows [some (W, true), some (.int 9, false), some (.int 6, false)] = some (.nw (rD r), [some (W1, true), some (.int 9, false), some (.int 6, false)])) :
    ev fsL (.comp [9, 10, 11] (.tp [.nm 9, .nm 10, .nm 11]) .seq [.call 2 [.var 2, .cst (.int 9), .cst (.int 6)]] [] (.tup [.bin .add (.var 9) (.cst (.int 9)), .var 10, .var 11])) (lG S x1 (some (W, true)) x3 x4 x5 x6 x7 x8 x9 x10 x11) = some (.nw (rD (r.map sh9)), lG S x1 (some (W1, true)) x3 x4 x5 x6 x7 x8 x9 x10 x11) := by
  have key : compLoop [9, 10, 11] (.tp [.nm 9, .nm 10, .nm 11]) (evc fsL []) (ev fsL (.tup [.bin .add (.var 9) (.cst (.int 9)), .var 10, .var 11])) (r.map tD) [] (lG S x1 (some (W1, true)) x3 x4 x5 x6 x7 x8 none none none) = some ((r.map tD).map (fun d => match d with | .tup [.int s, p, n] => .tup [.int (s + 9), p, n] | d => d), lG S x1 (some (W1, true)) x3 x4 x5 x6 x7 x8 none none none) := by
    have := compLoop_map (own := [9, 10, 11]) (tg := .tp [.nm 9, .nm 10, .nm 11]) (ct := evc fsL []) (el := ev fsL (.tup [.bin .add (.var 9) (.cst (.int 9)), .var 10, .var 11])) (Γ := lG S x1 (some (W1, true)) x3 x4 x5 x6 x7 x8 none none none) (fun d => match d with | .tup [.int s, p, n] => .tup [.int (s + 9), p, n] | d => d) (ds := r.map tD) (acc := []) (fun d hd acc rest => by
      obtain ⟨t, _, rfl⟩ := List.mem_map.mp hd
      simp [compLoop, DV.SC, DV.SX, sizeLine])
    simpa using this
  have im : (r.map tD).map (fun d => match d with | .tup [.int s, p, n] => .tup [.int (s + 9), p, n] | d => d) = (r.map sh9).map tD := by
    rw [List.map_map, List.map_map]
    rfl
  rw [im] at key
  have e2 : (evs fsL [.call 2 [.var 2, .cst (.int 9), .cst (.int 6)]] (lG S x1 (some (W, true)) x3 x4 x5 x6 x7 x8 x9 x10 x11)).bind (fun p => iterD .seq p.1 p.2) = some (r.map tD, lG S x1 (some (W1, true)) x3 x4 x5 x6 x7 x8 x9 x10 x11) := by simp [DV.SC, DV.SE, DV.SX, e]
  obtain ⟨⟨xs, Γ1⟩, a1, a2⟩ := Option.bind_eq_some_iff.mp e2
  have pl : plainIx (lG S x1 (some (W1, true)) x3 x4 x5 x6 x7 x8 x9 x10 x11) [9, 10, 11] = true := by
    have q : ∀ x : Sl, Pl x → (match (some x : Option Sl) with | some (some (_, true)) => false | some _ => true | none => false) = true := by
      intro x h
      match x, h with
      | none, _ => rfl
      | some (d, false), _ => rfl
      | some (d, true), h => exact absurd rfl (h d)
    have a := q _ p9
    have b := q _ p10
    have c := q _ p11
    simp only [plainIx, List.all_cons, List.all_nil, Bool.and_true, Bool.and_eq_true]
    exact ⟨a, b, c⟩
  rw [DV.ev.eq_18]
  simp only [a1, Option.bind_some, a2]
  rw [if_pos (by simp [pl, sz, tgIx, tgIx.tgIxs]; omega)]
  rw [show wipeG (lG S x1 (some (W1, true)) x3 x4 x5 x6 x7 x8 x9 x10 x11) [9, 10, 11] = lG S x1 (some (W1, true)) x3 x4 x5 x6 x7 x8 none none none from rfl, key]
  rfl
theorem vd9 : ∀ {r : List Tr}, Vd r → Vd (r.map sh9)
  | [], _ => trivial
  | [a], h => by
    have h' : okT a := h
    exact ⟨by have := h'.1; simp only [sh9]; omega, h'.2.1, h'.2.2⟩
  | a :: b :: r, h => by
    obtain ⟨n, en, hn⟩ := h.2.1
    refine ⟨⟨by have := h.1.1; simp only [sh9]; omega, h.1.2.1, h.1.2.2⟩, ⟨n, en, ?_⟩, vd9 h.2.2⟩
    simp only [sh9]
    omega
theorem rb9 {B : Int} {r : List Tr} (h : RB B r) : RB (B + 9) (r.map sh9) := fun t m => by
  obtain ⟨u, mu, rfl⟩ := List.mem_map.mp m
  obtain ⟨q1, q2, q3⟩ := h u mu
  refine ⟨by simp only [sh9]; omega, by simp only [sh9]; omega, fun n e => ?_⟩
  have := q3 n e
  simp only [sh9]
  omega
/-- the first train of all -/
abbrev t3 : Tr := ⟨3, 1, some 2⟩
theorem vd3 {r : List Tr} (h : Vd r) : Vd (t3 :: r.map sh9) := by
  have o3 : okT t3 := ⟨by decide, by decide, fun n e => by cases e; decide⟩
  cases r with
  | nil => exact o3
  | cons a r =>
    refine ⟨o3, ⟨2, rfl, ?_⟩, vd9 h⟩
    have := h.ok1.1
    simp only [sh9]
    omega
theorem rb3 {B : Int} (hB : 10 ≤ B) {r : List Tr} (h : RB B r) : RB (B + 9) (t3 :: r.map sh9) := fun t m => by
  rcases List.mem_cons.mp m with rfl | m
  · exact ⟨by simp; omega, by simp; omega, fun n e => by cases e; simp; omega⟩
  · exact rb9 h t m

/-! ### k09: what is told of lists -/
theorem abs_lt {i : Int} (h0 : -1 ≤ i) (h : i ≤ 10 ^ 39) : i.natAbs < 10 ^ 40 := by omega
theorem sm_rb {B : Int} (hB : B ≤ 10 ^ 39) {r : List Tr} (hv : Vd r) (hr : RB B r) : ∀ p ∈ r.map pyTr, Sm p := by
  intro p m
  obtain ⟨t, mt, rfl⟩ := List.mem_map.mp m
  have ok := hv.okm t mt
  obtain ⟨q1, q2, q3⟩ := hr t mt
  have o1 := ok.1
  have o2 := ok.2.1
  refine sm_tr (abs_lt (by omega) (by omega)) (abs_lt (by omega) (by omega)) fun n e => ?_
  have n1 := ok.2.2 n e
  have := q3 n e
  have := Int.mul_le_mul_of_nonneg_right o2 (show 0 ≤ n - 1 by omega)
  exact abs_lt (by omega) (by omega)
theorem py_r (r : List Tr) : pyO (rD r) = some (.list (r.map pyTr)) := by simp only [pyO, pyOs_r, Option.map_some]
theorem told_r {B : Int} (hB : B ≤ 10 ^ 39) {r : List Tr} (hv : Vd r) (hr : RB B r) (hl : r.length ≤ 1000) : F__law_told [some (rD r, false)] = some (.fz (.str "none"), [some (rD r, false)]) := by
  have bb := BB_big
  have h8 : B ≤ 8 * BB := by
    have : (10 : Int) ^ 39 ≤ 10 ^ 600 := by decide +kernel
    omega
  exact told_yes (o := .non) (.inr ⟨_, mk_yes h8 hv hr hl⟩) (py_r r) (shw_lst (sm_rb hB hv hr) (by rw [List.length_map]; omega))
theorem told_bent {B : Int} (hB : B ≤ 10 ^ 39) {r1 r2 : List Tr} (hv1 : Vd r1) (hr1 : RB B r1) (hv2 : Vd r2) (hr2 : RB B r2) (hl : r1.length + r2.length ≤ 100) {d : D} {p : PyData} (hp : pyO d = some p) (hs : Sm p)
    (hd : ∀ L, L = r1.map tD ++ d :: r2.map tD → exs fsC [] B_check_trains_x_1 (cG L (some (.int (r1.length : Int), false)) (some (d, false))) = some (.xc 12 ["at"] [.int (r1.length : Int)] (cG L (some (.int (r1.length : Int), false)) (some (d, false))))) :
    F__law_told [some (.lst (r1.map tD ++ d :: r2.map tD), false)] = some (.fz (.int (r1.length : Int)), [some (.lst (r1.map tD ++ d :: r2.map tD), false)]) := by
  have bb := BB_big
  have h8 : B ≤ 8 * BB := by
    have : (10 : Int) ^ 39 ≤ 10 ^ 600 := by decide +kernel
    omega
  have c := chk_bad h8 hv1 hr1 (d := d) (rest := r2.map tD) (by rw [List.length_map]; omega) hd
  have pl : pyO (.lst (r1.map tD ++ d :: r2.map tD)) = some (.list (r1.map pyTr ++ p :: r2.map pyTr)) := by
    simp only [pyO, pyOs_app _ _ _ _ (pyOs_r r1) (show pyOs (d :: r2.map tD) = some (p :: r2.map pyTr) by simp only [pyOs, hp, Option.bind_some, pyOs_r, Option.map_some]), Option.map_some]
  refine told_no c pl (shw_lst (fun q m => ?_) (by simp; omega)) (noE_py _ _ pl)
  rcases List.mem_append.mp m with m | m
  · exact sm_rb hB hv1 hr1 q m
  · rcases List.mem_cons.mp m with rfl | m
    · exact hs
    · exact sm_rb hB hv2 hr2 q m
theorem sm_non : Sm .none := sm_of (by decide +kernel)
/-- the item alone, or nothing, ahead of None -/
theorem told_two {d : D} {p : PyData} (b : Bool) (hp : pyO d = some p) (hs : Sm p) (h : b = true → IsT d false) : F__law_told [some (.lst ((List.replicate (if b then 1 else 0) [d]).flatten ++ [.non]), false)] = some (.fz (.int 0), [some (.lst ((List.replicate (if b then 1 else 0) [d]).flatten ++ [.non]), false)]) := by
  have no : IsT .non false := odd_no _ (by simp [O19])
  have v0 : Vd [] := trivial
  have r0 : RB 1 [] := fun _ m => nomatch m
  have bb := BB_big
  cases b with
  | false =>
    have c := chk_bad (B := 1) (by omega) v0 r0 (d := .non) (rest := []) (by decide) (fun L hL => chk_no L .non _ no)
    exact told_no c (p := .list [.none]) (by simp [pyO, pyOs]) (shw_lst (fun q m => by rw [List.mem_singleton] at m; rw [m]; exact sm_non) (by decide)) rfl
  | true =>
    have c := chk_bad (B := 1) (by omega) v0 r0 (d := d) (rest := [.non]) (by decide) (fun L hL => chk_no L d _ (h rfl))
    have pl : pyO (.lst [d, .non]) = some (.list [p, .none]) := by simp [pyO, pyOs, hp]
    exact told_no c pl (shw_lst (fun q m => by
      rcases List.mem_cons.mp m with rfl | m
      · exact hs
      · rw [List.mem_singleton] at m; rw [m]; exact sm_non) (by simp)) (noE_py _ _ pl)
/-- an early train -/
theorem early_bad {r1 r2 : List Tr} {a : Tr} {pre : List Tr} (e1 : r1 = pre ++ [a]) {B : Int} (hB : B ≤ 10 ^ 39) (hv1 : Vd r1) (hr1 : RB B r1) {e : Int} (e0 : 0 ≤ e) (he : ∀ m, a.n = some m → e ≤ a.s + a.p * (m - 1)) (L : List D) (hL : L = r1.map tD ++ eT e :: r2.map tD) :
    exs fsC [] B_check_trains_x_1 (cG L (some (.int (r1.length : Int), false)) (some (eT e, false))) = some (.xc 12 ["at"] [.int (r1.length : Int)] (cG L (some (.int (r1.length : Int), false)) (some (eT e, false)))) := by
  have bb := BB_big
  have h8 : B ≤ 8 * BB := by
    have : (10 : Int) ^ 39 ≤ 10 ^ 600 := by decide +kernel
    omega
  have it : IsT (eT e) true := is_train_ok (t := ⟨e, 1, some 1⟩) ⟨e0, by simp, fun n q => by cases q; simp⟩
  have ma : a ∈ r1 := by rw [e1]; simp
  have oa := hv1.okm a ma
  have q := hr1 a ma
  have i0 : atI L ((r1.length : Int) - 1) = some (tD a) := by
    refine atI_n _ pre.length _ _ (by rw [e1]; simp) ?_
    rw [hL, List.getElem?_append_left (by rw [List.length_map, e1]; simp), List.getElem?_map, e1]
    simp
  have c0 : (0 : Int) < r1.length := by rw [e1, List.length_append, List.length_cons]; omega
  cases em : a.n with
  | none =>
    have e2 : tD a = .tup [.int a.s, .int a.p, .non] := by simp only [tD, em, cD]
    rw [e2] at i0
    exact chk_end L (eT e) _ a.s a.p c0 it i0
  | some m =>
    have e2 : tD a = .tup [.int a.s, .int a.p, .int m] := by simp only [tD, em, cD]
    rw [e2] at i0
    exact chk_early L (eT e) _ a.s a.p m e c0 it i0 (last_of_ok (tr_mul h8 oa em (q.2.2 m em) q.2.1)) (by simp only [eT, ixD, i3_0]) (he m em)
theorem cut_to (L : List D) (j : Nat) : cutD L none (some (j : Int)) = L.take j := by
  unfold cutD
  rw [HT.sIx_none, HT.sIx_nat, List.drop_zero, Nat.sub_zero]
  by_cases h : j ≤ L.length
  · rw [Nat.min_eq_left h]
  · rw [Nat.min_eq_right (by omega), List.take_of_length_le (Nat.le_refl _), List.take_of_length_le (by omega)]
theorem cut_from (L : List D) (j : Nat) : cutD L (some (j : Int)) none = L.drop j := by
  unfold cutD
  rw [HT.sIx_none, HT.sIx_nat]
  by_cases h : j ≤ L.length
  · rw [Nat.min_eq_left h]
    exact List.take_of_length_le (by rw [List.length_drop]; exact Nat.le_refl _)
  · rw [Nat.min_eq_right (by omega), List.drop_of_length_le (Nat.le_refl _), List.drop_of_length_le (by omega)]
    simp
theorem vd_take : ∀ {r : List Tr} (j : Nat), Vd r → Vd (r.take j)
  | _, 0, _ => trivial
  | [], j + 1, _ => trivial
  | [a], j + 1, h => by simpa using h
  | a :: b :: r, 1, h => h.1
  | a :: b :: r, j + 2, h => ⟨h.1, h.2.1, vd_take (j + 1) h.2.2⟩
theorem vd_drop : ∀ {r : List Tr} (j : Nat), Vd r → Vd (r.drop j)
  | _, 0, h => h
  | [], j + 1, _ => trivial
  | a :: r, j + 1, h => vd_drop j h.tail
theorem rb_take {B : Int} {r : List Tr} (j : Nat) (h : RB B r) : RB B (r.take j) := fun t m => h t (List.mem_of_mem_take m)
theorem rb_drop {B : Int} {r : List Tr} (j : Nat) (h : RB B r) : RB B (r.drop j) := fun t m => h t (List.mem_of_mem_drop m)

/-! ### k09: one bent list -/
theorem get_mem {r : List Tr} {i : Nat} (h : i < r.length) : ∃ a, r[i]? = some a ∧ a ∈ r ∧ r.take (i + 1) = r.take i ++ [a] := by
  refine ⟨r[i], List.getElem?_eq_getElem h, List.getElem_mem h, ?_⟩
  rw [List.take_succ, List.getElem?_eq_getElem h]
  rfl
theorem bent_body (S : D) (x1 : Sl) (a : Int) {c k : Int} {N : Nat} (w : Wl c k (N + 3)) {B : Int} (hB : B ≤ 10 ^ 30) {r : List Tr} (hv : Vd r) (hr : RB B r) (h0 : 0 < r.length) (h7 : r.length ≤ 7) (x4 x5 x6 x7 x8 x9 x10 x11 : Sl) :
    ∃ a' k' y6 y7 y8 y9 y10 y11, exs fsL [] B_law_1 (lG S x1 (some (wl a c k, true)) (some (rD r, false)) x4 x5 x6 x7 x8 x9 x10 x11) = some (.nx (lG S x1 (some (wl a' c k', true)) (some (rD r, false)) x4 x5 (some (y6, false)) (some (y7, false)) (some (y8, false)) (some (y9, false)) (some (y10, false)) (some (y11, false)))) ∧ Wl c k' N := by
  have bb := BB_big
  have b3 : (10 : Int) ^ 30 ≤ 10 ^ 600 := by decide +kernel
  obtain ⟨d0, a1, k1, e1, p0, p1, w1⟩ := draw_ok a w (m := (r.length : Int)) (by omega) (by omega)
  obtain ⟨i, hi⟩ : ∃ i : Nat, d0 = (i : Int) := ⟨d0.toNat, by omega⟩
  subst hi
  have hlt : i < r.length := by omega
  obtain ⟨t, ht, mt, tk⟩ := get_mem hlt
  have ok := hv.okm t mt
  obtain ⟨q1, q2, q3⟩ := hr t mt
  have t0 := ok.1
  have t1 := ok.2.1
  -- the draw behind the train
  obtain ⟨m, hm, m0, m1, mn⟩ : ∃ m : Int, (∀ Γ : Ct, Γ[11]? = some (some (cD t.n, false)) → ev fsL (.ite (.cmp .is (.var 11) (.cst .non)) (.cst (.int 9)) (.var 11)) Γ = some ((match t.n with | none => .fz (.int 9) | some _ => .sl 11), Γ)) ∧ 0 < m ∧ m ≤ 10 ^ 31 ∧ (match t.n with | none => m = 9 | some n => m = n) := by
    cases e : t.n with
    | none => exact ⟨9, fun Γ h => by simp [DV.SC, DV.SE, DV.SX, h, cD], by decide, by decide, rfl⟩
    | some n =>
      have n1 := ok.2.2 n e
      have := q3 n e
      have := Int.mul_le_mul_of_nonneg_right t1 (show 0 ≤ n - 1 by omega)
      exact ⟨n, fun Γ h => by simp [DV.SC, DV.SE, DV.SX, h, cD], by omega, by omega, rfl⟩
  obtain ⟨j, a2, k2, e2, j0, j1, w2⟩ := draw_ok a1 w1 (m := m) m0 (by omega)
  obtain ⟨d, a3, k3, e3, hd, w3⟩ := odd_ok a2 w2 (t.s + t.p * j)
  have mk : mulOk t.p j = true := mul_bb (by omega) (by omega) (by omega) (by omega)
  have pj0 := Int.mul_nonneg (show 0 ≤ t.p by omega) j0
  have en : ∀ n, t.n = some n → t.s + t.p * j ≤ t.s + t.p * (n - 1) := fun n e => by
    rw [e] at mn
    simp only at mn
    have := Int.mul_le_mul_of_nonneg_left (show j ≤ n - 1 by omega) (show 0 ≤ t.p by omega)
    omega
  have eb : t.s + t.p * j ≤ 10 ^ 39 := by
    cases e : t.n with
    | none =>
      rw [e] at mn
      simp only at mn
      have := Int.mul_le_mul_of_nonneg_left (show j ≤ 9 by omega) (show 0 ≤ t.p by omega)
      omega
    | some n =>
      have := en n e
      have := q3 n e
      omega
  obtain ⟨p, hp, hs⟩ : ∃ p, pyO d = some p ∧ Sm p := by
    rcases hd with hd | rfl
    · exact odd_py d hd
    · exact ⟨_, pyO_t ⟨t.s + t.p * j, 1, some 1⟩, sm_tr (abs_lt (by simp only; omega) eb) (by simp) (fun n e => by cases e; simp)⟩
  have hB' : B ≤ 10 ^ 39 := by omega
  have l1 : (r.take (i + 1)).length = i + 1 := by rw [List.length_take]; omega
  have told1 := told_bent (r1 := r.take (i + 1)) (r2 := r.drop (i + 1)) hB' (vd_take _ hv) (rb_take _ hr) (vd_drop _ hv) (rb_drop _ hr) (by rw [List.length_take, List.length_drop]; omega) hp hs (fun L hL => by
    rcases hd with hd | rfl
    · exact chk_no L d _ (odd_no d hd)
    · exact early_bad tk hB' (vd_take _ hv) (rb_take _ hr) (by omega) en L hL)
  obtain ⟨b, hb, hbd⟩ : ∃ b, cmpD .ne d (eT (t.s + t.p * j)) = some b ∧ (b = true → IsT d false) := by
    rcases hd with hd | rfl
    · obtain ⟨b, hb⟩ := odd_ne (t.s + t.p * j) d hd
      exact ⟨b, hb, fun _ => odd_no d hd⟩
    · refine ⟨false, cmp_ne_self (by simp [okB]), nofun⟩
  have told2 := told_two b hp hs hbd
  rw [l1] at told1
  have c6 : ((i : Int) + 1) = ((i + 1 : Nat) : Int) := by omega
  have c7 : (1 : Int) + (i : Int) = ((i + 1 : Nat) : Int) := by omega
  have ai : atI (r.map tD) (((i + 1 : Nat) : Int) - 1) = some (tD t) := atI_n _ i _ _ (by omega) (by rw [List.getElem?_map, ht]; rfl)
  have cu1 : cutD (r.map tD) none (some ((i + 1 : Nat) : Int)) = (r.take (i + 1)).map tD := by rw [cut_to, List.map_take]
  have cu2 : cutD (r.map tD) (some ((i + 1 : Nat) : Int)) none = (r.drop (i + 1)).map tD := by rw [cut_from, List.map_drop]
  have lL : ((r.take (i + 1)).map tD).length + 1 ≤ 16777216 := by rw [List.length_map, l1]; omega
  have lR : ((r.take (i + 1)).map tD).length + 1 + ((r.drop (i + 1)).map tD).length ≤ 16777216 := by rw [List.length_map, l1, List.length_map, List.length_drop]; omega
  have ab : atI ((r.take (i + 1)).map tD ++ d :: (r.drop (i + 1)).map tD) ((i + 1 : Nat) : Int) = some d := atI_n _ (i + 1) _ _ rfl (by rw [List.getElem?_append_right (by rw [List.length_map, l1]; exact Nat.le_refl _), List.length_map, l1]; simp)
  have lr : ((r.map tD).length : Int) = (r.length : Int) := by rw [List.length_map]
  refine ⟨a3, k3, .int ((i + 1 : Nat) : Int), .int (t.s + t.p * j), .lst ((r.take (i + 1)).map tD ++ d :: (r.drop (i + 1)).map tD), .int t.s, .int t.p, cD t.n, ?_, w3⟩
  generalize hJ : ((i + 1 : Nat) : Int) = J at *
  generalize hL1 : (r.take (i + 1)).map tD = L1 at *
  generalize hL2 : (r.drop (i + 1)).map tD = L2 at *
  have s1 : ex fsL [] (.asg (.nm 6) (.bin .add (.cst (.int 1)) (.call 6 [.var 2, .bi .len [.var 3]]))) (lG S x1 (some (wl a c k, true)) (some (rD r, false)) x4 x5 x6 x7 x8 x9 x10 x11) = some (.nx (lG S x1 (some (wl a1 c k1, true)) (some (rD r, false)) x4 x5 (some (.int J, false)) x7 x8 x9 x10 x11)) := by
    simp [DV.SC, DV.SE, DV.SX, e1, c7]
  have s2 : ex fsL [] (.asg (.tp [.nm 9, .nm 10, .nm 11]) (.ix (.var 3) (.bin .sub (.var 6) (.cst (.int 1))))) (lG S x1 (some (wl a1 c k1, true)) (some (rD r, false)) x4 x5 (some (.int J, false)) x7 x8 x9 x10 x11) = some (.nx (lG S x1 (some (wl a1 c k1, true)) (some (rD r, false)) x4 x5 (some (.int J, false)) x7 x8 (some (.int t.s, false)) (some (.int t.p, false)) (some (cD t.n, false)))) := by
    simp [DV.SC, DV.SE, DV.SX, ai]
  have s3 : ex fsL [] (.asg (.nm 7) (.bin .add (.var 9) (.bin .mul (.var 10) (.call 6 [.var 2, .ite (.cmp .is (.var 11) (.cst .non)) (.cst (.int 9)) (.var 11)])))) (lG S x1 (some (wl a1 c k1, true)) (some (rD r, false)) x4 x5 (some (.int J, false)) x7 x8 (some (.int t.s, false)) (some (.int t.p, false)) (some (cD t.n, false))) = some (.nx (lG S x1 (some (wl a2 c k2, true)) (some (rD r, false)) x4 x5 (some (.int J, false)) (some (.int (t.s + t.p * j), false)) x8 (some (.int t.s, false)) (some (.int t.p, false)) (some (cD t.n, false)))) := by
    cases e : t.n with
    | none =>
      rw [e] at mn
      simp only at mn
      subst mn
      simp [DV.SC, DV.SE, DV.SX, cD, e2, mk]
    | some n =>
      rw [e] at mn
      simp only at mn
      subst mn
      simp [DV.SC, DV.SE, DV.SX, cD, e2, mk]
  have s4 : ex fsL [] (.asg (.nm 8) (.bin .add (.bin .add (.slc (.var 3) [] [.var 6]) (.lst [.call 7 [.var 2, .var 7]])) (.slc (.var 3) [.var 6] []))) (lG S x1 (some (wl a2 c k2, true)) (some (rD r, false)) x4 x5 (some (.int J, false)) (some (.int (t.s + t.p * j), false)) x8 (some (.int t.s, false)) (some (.int t.p, false)) (some (cD t.n, false))) = some (.nx (lG S x1 (some (wl a3 c k3, true)) (some (rD r, false)) x4 x5 (some (.int J, false)) (some (.int (t.s + t.p * j), false)) (some (.lst (L1 ++ d :: L2), false)) (some (.int t.s, false)) (some (.int t.p, false)) (some (cD t.n, false)))) := by
    generalize t.s + t.p * j = E at *
    simp [DV.SC, DV.SE, DV.SX, cu1, cu2, e3, sizeLine, lL, lR]
  have s5 : ex fsL [] (.ite (.or (.cmp .ne (.call 3 [.var 8]) (.var 6)) (.cmp .ne (.call 3 [.shr (.bin .add (.bin .mul (.lst [.ix (.var 8) (.var 6)]) (.bi .int1 [.cmp .ne (.ix (.var 8) (.var 6)) (.tup [.var 7, .cst (.int 1), .cst (.int 1)])])) (.lst [.cst .non]))]) (.cst (.int 0)))) [.ret (.cst (.bl false))] []) (lG S x1 (some (wl a3 c k3, true)) (some (rD r, false)) x4 x5 (some (.int J, false)) (some (.int (t.s + t.p * j), false)) (some (.lst (L1 ++ d :: L2), false)) (some (.int t.s, false)) (some (.int t.p, false)) (some (cD t.n, false))) = some (.nx (lG S x1 (some (wl a3 c k3, true)) (some (rD r, false)) x4 x5 (some (.int J, false)) (some (.int (t.s + t.p * j), false)) (some (.lst (L1 ++ d :: L2), false)) (some (.int t.s, false)) (some (.int t.p, false)) (some (cD t.n, false)))) := by
    generalize t.s + t.p * j = E at *
    generalize hLL : L1 ++ d :: L2 = LL at *
    have z : cmpD .ne (.int J) (.int J) = some false := cmp_ne_self rfl
    have z0 : cmpD .ne (.int 0) (.int 0) = some false := cmp_ne_self rfl
    cases b with
    | false =>
      simp only [Bool.false_eq_true, if_false, List.replicate_zero, List.flatten_nil, List.nil_append] at told2
      simp [DV.SC, DV.SX, told1, z, z0, ab, hb, told2, sizeLine, DV.ev.eq_39]
    | true =>
      simp only [if_true, List.replicate_succ, List.replicate_zero, List.flatten_cons, List.flatten_nil, List.append_nil, List.cons_append, List.nil_append] at told2
      simp [DV.SC, DV.SX, told1, z, z0, ab, hb, told2, sizeLine, DV.ev.eq_39]
  unfold B_law_1
  refine (exs_nx s1).trans ?_
  refine (exs_nx s2).trans ?_
  refine (exs_nx s3).trans ?_
  refine (exs_nx s4).trans ?_
  exact (exs_nx s5).trans (by simp only [DV.exs.eq_1])

/-! ### k09: the law -/
theorem pl_some (d : D) : Pl (some (d, false)) := fun e h => by cases h
theorem pl_none : Pl none := fun e h => by cases h
theorem rep_loop (S : D) (x1 : Sl) {B : Int} (hB : B ≤ 10 ^ 30) {r : List Tr} (hv : Vd r) (hr : RB B r) (h0 : 0 < r.length) (h7 : r.length ≤ 7) (x5 : Sl) {c : Int} : ∀ (n : Nat) (lo a k : Int) (N : Nat) (x4 x6 x7 x8 x9 x10 x11 : Sl), Wl c k (N + 3 * n) → Pl x6 → Pl x9 → Pl x10 → Pl x11 →
    ∃ a' k' y4 y6 y7 y8 y9 y10 y11, forLoop (.nm 4) (exs fsL [] B_law_1) (rngD lo 1 n) (lG S x1 (some (wl a c k, true)) (some (rD r, false)) x4 x5 x6 x7 x8 x9 x10 x11) = some (.nx (lG S x1 (some (wl a' c k', true)) (some (rD r, false)) y4 x5 y6 y7 y8 y9 y10 y11)) ∧ Wl c k' N ∧ Pl y6 ∧ Pl y9 ∧ Pl y10 ∧ Pl y11
  | 0, lo, a, k, N, x4, x6, x7, x8, x9, x10, x11, w, p6, p9, p10, p11 => ⟨a, k, x4, x6, x7, x8, x9, x10, x11, by simp [rngD, forLoop], w, p6, p9, p10, p11⟩
  | n + 1, lo, a, k, N, x4, x6, x7, x8, x9, x10, x11, w, p6, p9, p10, p11 => by
    obtain ⟨a1, k1, z6, z7, z8, z9, z10, z11, e1, w1⟩ := bent_body S x1 a (c := c) (k := k) (N := N + 3 * n) (w.le (by omega)) hB hv hr h0 h7 (some (.int lo, false)) x5 x6 x7 x8 x9 x10 x11
    obtain ⟨a2, k2, y4, y6, y7, y8, y9, y10, y11, e2, w2, q6, q9, q10, q11⟩ := rep_loop S x1 hB hv hr h0 h7 x5 n (lo + 1) a1 k1 N (some (.int lo, false)) (some (z6, false)) (some (z7, false)) (some (z8, false)) (some (z9, false)) (some (z10, false)) (some (z11, false)) w1 (pl_some _) (pl_some _) (pl_some _) (pl_some _)
    refine ⟨a2, k2, y4, y6, y7, y8, y9, y10, y11, ?_, w2, q6, q9, q10, q11⟩
    rw [rngD, ← e2]
    exact forLoop_step (Γ1 := lG S x1 (some (wl a c k, true)) (some (rD r, false)) (some (.int lo, false)) x5 x6 x7 x8 x9 x10 x11) (by simp [DV.SC, DV.SE, DV.SX]) e1
def M1 (v : D) : Prop := F__law_told [some (v, false)] = some (.fz (.int (-1)), [some (v, false)])
theorem here_loop (S : D) (x1 x2 x3 x4 x6 x7 x8 x9 x10 x11 : Sl) : ∀ (ds : List D), (∀ d ∈ ds, M1 d) → ∀ x5 : Sl, ∃ y5, forLoop (.nm 5) (exs fsL [] B_law_2) ds (lG S x1 x2 x3 x4 x5 x6 x7 x8 x9 x10 x11) = some (.nx (lG S x1 x2 x3 x4 y5 x6 x7 x8 x9 x10 x11))
  | [], _, x5 => ⟨x5, by simp [forLoop]⟩
  | d :: ds, h, x5 => by
    obtain ⟨y5, e⟩ := here_loop S x1 x2 x3 x4 x6 x7 x8 x9 x10 x11 ds (fun u m => h u (List.mem_cons_of_mem _ m)) (some (d, false))
    refine ⟨y5, ?_⟩
    have b := h d List.mem_cons_self
    unfold M1 at b
    rw [← e]
    refine forLoop_step (Γ1 := lG S x1 x2 x3 x4 (some (d, false)) x6 x7 x8 x9 x10 x11) (by simp [DV.SC, DV.SE, DV.SX]) ?_
    unfold B_law_2
    simp [DV.SC, DV.SE, DV.SX, b]
/-- trains of one time each -/
@[irreducible] def ones (m : Int) (n : Nat) : List Tr := (List.range n).map fun (j : Nat) => ⟨m * (j : Int), 1, some 1⟩
theorem ones_D (m : Int) (n : Nat) : ((List.range n).map fun (j : Nat) => D.tup [.int (m * (j : Int)), i1, i1]) = (ones m n).map tD := by
  unfold ones
  rw [List.map_map]
  rfl
theorem ones_sm (m : Int) (hm : 0 ≤ m ∧ m ≤ 2) (n : Nat) (hn : n ≤ 2000) : ∀ p ∈ (ones m n).map pyTr, Sm p := by
  intro p h
  obtain ⟨t, mt, rfl⟩ := List.mem_map.mp h
  unfold ones at mt
  obtain ⟨j, mj, rfl⟩ := List.mem_map.mp mt
  have := List.mem_range.mp mj
  have j0 : 0 ≤ m * (j : Int) := Int.mul_nonneg hm.1 (by omega)
  have j1 : m * (j : Int) ≤ 2 * 2000 := Int.le_trans (Int.mul_le_mul_of_nonneg_right hm.2 (by omega)) (by omega)
  exact sm_tr (abs_lt (by simp only; omega) (by simp only; omega)) (by simp) (fun n e => by cases e; simp)
theorem ones_vd (n : Nat) : Vd (ones 2 n) := by
  have q : ∀ (n lo : Nat), Vd ((List.range' lo n).map fun (j : Nat) => (⟨2 * (j : Int), 1, some 1⟩ : Tr)) := by
    intro n
    induction n with
    | zero => intro lo; trivial
    | succ n ih =>
      intro lo
      have ok : okT ⟨2 * (lo : Int), 1, some 1⟩ := ⟨by simp only; omega, by simp, fun n e => by cases e; simp⟩
      rw [List.range'_succ, List.map_cons]
      cases n with
      | zero => exact ok
      | succ n =>
        have := ih (lo + 1)
        rw [List.range'_succ, List.map_cons] at this ⊢
        exact ⟨ok, ⟨1, rfl, by simp only; omega⟩, this⟩
  unfold ones
  rw [List.range_eq_range']
  exact q n 0
theorem ones_rb (n : Nat) (hn : n ≤ 2000) : RB 10000 (ones 2 n) := fun t m => by
  unfold ones at m
  obtain ⟨j, mj, rfl⟩ := List.mem_map.mp m
  have := List.mem_range.mp mj
  exact ⟨by simp only; omega, by simp, fun n e => by cases e; simp only; omega⟩
theorem sh_0 {p : PyData} (h : (p.showable && (decide (p.shown.length ≤ sizeLine) && decide (p.depth ≤ 40))) = true) : shwOk p = true := by
  unfold shwOk; exact h
theorem here_all {r : List Tr} {B : Int} (hB : B ≤ 10 ^ 39) (hv : Vd r) (hr : RB B r) (hl : r.length ≤ 1000) : ∀ d ∈ [D.non, .int 5, .str "[]", .tup [], .tup (r.map tD), .dct, .bl true, .lst ((ones 1 1001).map tD)], M1 d := by
  intro d m
  simp only [List.mem_cons, List.not_mem_nil, or_false] at m
  unfold M1
  rcases m with rfl | rfl | rfl | rfl | rfl | rfl | rfl | rfl
  · exact told_no (chk_not rfl rfl) (p := .none) rfl (sh_0 (by decide +kernel)) rfl
  · exact told_no (chk_not rfl rfl) (p := .int 5) rfl (sh_0 (by decide +kernel)) rfl
  · exact told_no (chk_not rfl rfl) (p := .str "[]") rfl (sh_0 (by decide +kernel)) rfl
  · exact told_no (chk_not rfl rfl) (p := .tuple []) rfl (sh_0 (by decide +kernel)) rfl
  · have e : pyO (.tup (r.map tD)) = some (.tuple (r.map pyTr)) := by simp only [pyO, pyOs_r, Option.map_some]
    exact told_no (chk_not rfl rfl) e (shw_tup (sm_rb hB hv hr) (by rw [List.length_map]; omega)) (noE_py _ _ e)
  · exact told_no (chk_not rfl rfl) (p := .dict []) rfl (sh_0 (by decide +kernel)) rfl
  · exact told_no (chk_not rfl rfl) (p := .bool true) rfl (sh_0 (by decide +kernel)) rfl
  · have ln : (ones 1 1001).length = 1001 := by simp [ones]
    exact told_no (chk_long (by rw [List.length_map, ln]; decide)) (py_r _) (shw_lst (ones_sm 1 (by decide) 1001 (by decide)) (by rw [List.length_map, ln]; decide)) (noE_py _ _ (py_r _))
theorem comp_ones (m : Int) (hm : m = 1 ∨ m = 2) (elt : E) (S : D) (x1 x2 x3 x4 x5 x6 x7 x8 x9 x10 x11 : Sl) (z : Int) (n : Nat) (hz : z = (n : Int)) (hn : n < 5000) (p6 : Pl x6) (he : ∀ j : Int, 0 ≤ j → j < n → ev fsL elt (lG S x1 x2 x3 x4 x5 (some (.int j, false)) x7 x8 x9 x10 x11) = some (.fz (.tup [.int (m * j), i1, i1]), lG S x1 x2 x3 x4 x5 (some (.int j, false)) x7 x8 x9 x10 x11)) :
    ev fsL (.comp [6] (.nm 6) .rng [.cst (.int z)] [] elt) (lG S x1 x2 x3 x4 x5 x6 x7 x8 x9 x10 x11) = some (.nw (.lst ((ones m n).map tD)), lG S x1 x2 x3 x4 x5 x6 x7 x8 x9 x10 x11) := by
  subst hz
  have hr : ∀ Γ, rngO Γ [.int (n : Int)] = some (rngD 0 1 n, Γ) := fun Γ => rngN1 Γ n (by omega)
  have pl : plainIx (lG S x1 x2 x3 x4 x5 x6 x7 x8 x9 x10 x11) [6] = true := by
    have q : ∀ x : Sl, Pl x → (match (some x : Option Sl) with | some (some (_, true)) => false | some _ => true | none => false) = true := by
      intro x h
      match x, h with
      | none, _ => rfl
      | some (d, false), _ => rfl
      | some (d, true), h => exact absurd rfl (h d)
    simp only [plainIx, List.all_cons, List.all_nil, Bool.and_true]
    exact q _ p6
  have := comp_rngT fsL n (fun j => .tup [.int (m * j), i1, i1]) [.cst (.int (n : Int))] elt 6 (lG S x1 x2 x3 x4 x5 x6 x7 x8 x9 x10 x11) x6 (by omega) (by simp [DV.SC, DV.SE, DV.SX, hr]) rfl pl (fun j j0 j1 => he j j0 j1)
  rw [this, ones_D]
theorem c_none : cmpD .ne (.str "none") (.str "none") = some false := cmp_ne_self (show PyData.strOk "none" = true by decide +kernel)

theorem last_ev (O : List D) (CE : DV.E) (S : D) (x1 x2 x3 x4 x5 x6 x7 x8 x9 x10 x11 : Sl) (c2 : ev fsL CE (lG S x1 x2 x3 x4 x5 x6 x7 x8 x9 x10 x11) = some (.nw (.lst O), lG S x1 x2 x3 x4 x5 x6 x7 x8 x9 x10 x11)) (t2 : F__law_told [some (.lst O, false)] = some (.fz (.str "none"), [some (.lst O, false)])) :
    ex fsL [] (.ite (.cmp .ne (.call 3 [.shr CE]) (.cst (.str "none"))) [.ret (.cst (.bl false))] []) (lG S x1 x2 x3 x4 x5 x6 x7 x8 x9 x10 x11) = some (.nx (lG S x1 x2 x3 x4 x5 x6 x7 x8 x9 x10 x11)) := by
  have cn := c_none
  simp [DV.SC, DV.SX, c2, t2, cn]
theorem here_ev (O R : List D) (CE : DV.E) (S : D) (x1 x2 x4 x5 x6 x7 x8 x9 x10 x11 : Sl) (c1 : ev fsL CE (lG S x1 x2 (some (.lst R, false)) x4 x5 x6 x7 x8 x9 x10 x11) = some (.nw (.lst O), lG S x1 x2 (some (.lst R, false)) x4 x5 x6 x7 x8 x9 x10 x11)) :
    ((evs fsL [.tup [.cst .non, .cst (.int 5), .cst (.str "[]"), .tup [], .bi .tuple [.var 3], .dct, .cst (.bl true), CE]] (lG S x1 x2 (some (.lst R, false)) x4 x5 x6 x7 x8 x9 x10 x11)).bind fun p => iterD .seq p.1 p.2) = some ([D.non, .int 5, .str "[]", .tup [], .tup R, .dct, .bl true, .lst O], lG S x1 x2 (some (.lst R, false)) x4 x5 x6 x7 x8 x9 x10 x11) := by
  simp [DV.SC, DV.SE, DV.SX, c1, sizeLine]
theorem first_ev (L : List D) (CE : DV.E) (S : D) (x1 x2 y2 x3 x4 x5 x6 x7 x8 x9 x10 x11 : Sl) (hz : 1 + L.length ≤ 16777216) (ec : ev fsL CE (lG S x1 x2 x3 x4 x5 x6 x7 x8 x9 x10 x11) = some (.nw (.lst L), lG S x1 y2 x3 x4 x5 x6 x7 x8 x9 x10 x11)) :
    ex fsL [] (.asg (.nm 3) (.bin .add (.lst [.tup [.cst (.int 3), .cst (.int 1), .cst (.int 2)]]) CE)) (lG S x1 x2 x3 x4 x5 x6 x7 x8 x9 x10 x11) = some (.nx (lG S x1 y2 (some (.lst ([D.tup [.int 3, .int 1, .int 2]] ++ L), false)) x4 x5 x6 x7 x8 x9 x10 x11)) := by
  have hz2 : L.length + 1 ≤ 16777216 := by omega
  simp [DV.SC, DV.SE, DV.SX, ec, sizeLine, hz, hz2, Nat.add_comm]
theorem k09_cell (S : D) (cell : Int) (x2 x3 x4 x5 x6 x7 x8 x9 x10 x11 : Sl) (p6 : Pl x6) (p9 : Pl x9) (p10 : Pl x10) (p11 : Pl x11) : ∃ y2 y3 y4 y5 y6 y7 y8 y9 y10 y11, exs fsL [] B_law_3 (lG S (some (.int cell, false)) x2 x3 x4 x5 x6 x7 x8 x9 x10 x11) = some (.nx (lG S (some (.int cell, false)) y2 y3 y4 y5 y6 y7 y8 y9 y10 y11)) ∧ Pl y6 ∧ Pl y9 ∧ Pl y10 ∧ Pl y11 := by
  have bb := BB_big
  obtain ⟨a, c, e1, c0, c1⟩ := source_ok cell
  obtain ⟨r, a1, k1, e2, w1, hv0, hr0, hl, hu, hg⟩ := rows_ok a (c := c) (k := 0) (N := 18) 9 6 ⟨c0, c1, by decide, by decide⟩ (by decide) (by decide) 2000 (by omega) (by decide)
  have e2 : F__law_rows [some (wl a c 0, true), some (.int 9, false), some (.int 6, false)] = some (.nw (rD r), [some (wl a1 c k1, true), some (.int 9, false), some (.int 6, false)]) := e2
  have ec := comp_9 S (some (.int cell, false)) (W := wl a c 0) (W1 := wl a1 c k1) x3 x4 x5 x6 x7 x8 x9 x10 x11 p9 p10 p11 (by omega) e2
  have hv := vd3 hv0
  have hr := rb3 (B := 2000) (by decide) hr0
  have hn : (t3 :: r.map sh9).length = r.length + 1 := by simp
  have hz : 1 + ((r.map sh9).map tD).length ≤ 16777216 := by rw [List.length_map, List.length_map]; omega
  have s1 := first_ev _ _ S (some (.int cell, false)) _ _ x3 x4 x5 x6 x7 x8 x9 x10 x11 hz ec
  have s1 : ex fsL [] (.asg (.nm 3) (.bin .add (.lst [.tup [.cst (.int 3), .cst (.int 1), .cst (.int 2)]]) (.comp [9, 10, 11] (.tp [.nm 9, .nm 10, .nm 11]) .seq [.call 2 [.var 2, .cst (.int 9), .cst (.int 6)]] [] (.tup [.bin .add (.var 9) (.cst (.int 9)), .var 10, .var 11])))) (lG S (some (.int cell, false)) (some (wl a c 0, true)) x3 x4 x5 x6 x7 x8 x9 x10 x11) = some (.nx (lG S (some (.int cell, false)) (some (wl a1 c k1, true)) (some (rD (t3 :: r.map sh9), false)) x4 x5 x6 x7 x8 x9 x10 x11)) := s1
  generalize hR : t3 :: r.map sh9 = R at *
  have hl7 : R.length ≤ 7 := by omega
  have e3 := init_ok (B := 2009) (by omega) hv hr (by omega) false
  have e4 := eq_ok (allJ R) (allJ R)
  rw [(eqd_r _ _).mpr rfl] at e4
  have t1 := told_r (B := 2009) (by decide) hv hr (by omega)
  have s2 : ex fsL [] (.ite (.or (.cmp .ne (.call 3 [.var 3]) (.cst (.str "none"))) (.own .ne 0 5 (.mkp 0 4 [0] ([.var 3] ++ dfl [])) (.mk 0 4 [.var 3]))) [.ret (.cst (.bl false))] []) (lG S (some (.int cell, false)) (some (wl a1 c k1, true)) (some (rD R, false)) x4 x5 x6 x7 x8 x9 x10 x11) = some (.nx (lG S (some (.int cell, false)) (some (wl a1 c k1, true)) (some (rD R, false)) x4 x5 x6 x7 x8 x9 x10 x11)) := by
    have cn := c_none
    simp [DV.SC, DV.SX, t1, cn, e3, e4, okO]
  obtain ⟨a2, k2, y4, y6, y7, y8, y9, y10, y11, e5, w2, q6, q9, q10, q11⟩ := rep_loop S (some (.int cell, false)) (B := 2009) (by decide) hv hr (by omega) hl7 x5 (c := c) 6 0 a1 k1 0 x4 x6 x7 x8 x9 x10 x11 w1 p6 p9 p10 p11
  have hn6 : ∀ Γ, rngO Γ [.int 6] = some (rngD 0 1 6, Γ) := fun Γ => rngN1 Γ 6 (by omega)
  obtain ⟨y5, e6⟩ := here_loop S (some (.int cell, false)) (some (wl a2 c k2, true)) (some (rD R, false)) y4 y6 y7 y8 y9 y10 y11 _ (here_all (B := 2009) (by decide) hv hr (by omega)) x5
  have c1 := comp_ones 1 (.inl rfl) (.tup [.var 6, .cst (.int 1), .cst (.int 1)]) S (some (.int cell, false)) (some (wl a2 c k2, true)) (some (rD R, false)) y4 x5 y6 y7 y8 y9 y10 y11 1001 1001 rfl (by decide) q6 (fun j _ _ => by simp [DV.SC, DV.SE, DV.SX, sizeLine])
  have c2 := comp_ones 2 (.inr rfl) (.tup [.bin .mul (.cst (.int 2)) (.var 6), .cst (.int 1), .cst (.int 1)]) S (some (.int cell, false)) (some (wl a2 c k2, true)) (some (rD R, false)) y4 y5 y6 y7 y8 y9 y10 y11 1000 1000 rfl (by decide) q6 (fun j j0 j1 => by
    have m : mulOk 2 j = true := mulOk_l (by decide) (by decide)
    simp [DV.SC, DV.SE, DV.SX, sizeLine, m])
  have t2 := told_r (B := 10000) (r := ones 2 1000) (by decide) (ones_vd _) (ones_rb _ (by decide)) (by simp [ones])
  refine ⟨some (wl a2 c k2, true), some (rD R, false), y4, y5, y6, y7, y8, y9, y10, y11, ?_, q6, q9, q10, q11⟩
  unfold B_law_3
  refine (exs_nx (Γ1 := lG S (some (.int cell, false)) (some (wl a c 0, true)) x3 x4 x5 x6 x7 x8 x9 x10 x11) (by simp [DV.SC, DV.SE, DV.SX, e1])).trans ?_
  refine (exs_nx s1).trans ?_
  refine (exs_nx s2).trans ?_
  refine (exs_nx (ex_for (Γ2 := lG S (some (.int cell, false)) (some (wl a1 c k1, true)) (some (rD R, false)) x4 x5 x6 x7 x8 x9 x10 x11) (ds := rngD 0 1 6) (by simp [DV.SC, DV.SE, DV.SX, hn6]) rfl e5)).trans ?_
  refine (exs_nx (ex_for (Γ2 := lG S (some (.int cell, false)) (some (wl a2 c k2, true)) (some (rD R, false)) y4 x5 y6 y7 y8 y9 y10 y11) (here_ev _ _ _ S _ _ _ _ _ _ _ _ _ _ c1) rfl e6)).trans ?_
  exact (exs_nx (last_ev _ _ S _ _ _ _ _ _ _ _ _ _ _ c2 t2)).trans (by simp only [DV.exs.eq_1])
theorem k09_cells (S : D) : ∀ (cs : List Int) (x1 x2 x3 x4 x5 x6 x7 x8 x9 x10 x11 : Sl), Pl x6 → Pl x9 → Pl x10 → Pl x11 → ∃ y1 y2 y3 y4 y5 y6 y7 y8 y9 y10 y11, forLoop (.nm 1) (exs fsL [] B_law_3) (cs.map D.int) (lG S x1 x2 x3 x4 x5 x6 x7 x8 x9 x10 x11) = some (.nx (lG S y1 y2 y3 y4 y5 y6 y7 y8 y9 y10 y11))
  | [], x1, x2, x3, x4, x5, x6, x7, x8, x9, x10, x11, _, _, _, _ => ⟨x1, x2, x3, x4, x5, x6, x7, x8, x9, x10, x11, by simp [forLoop]⟩
  | c :: cs, x1, x2, x3, x4, x5, x6, x7, x8, x9, x10, x11, p6, p9, p10, p11 => by
    obtain ⟨z2, z3, z4, z5, z6, z7, z8, z9, z10, z11, e1, q6, q9, q10, q11⟩ := k09_cell S c x2 x3 x4 x5 x6 x7 x8 x9 x10 x11 p6 p9 p10 p11
    obtain ⟨y1, y2, y3, y4, y5, y6, y7, y8, y9, y10, y11, e2⟩ := k09_cells S cs (some (.int c, false)) z2 z3 z4 z5 z6 z7 z8 z9 z10 z11 q6 q9 q10 q11
    refine ⟨y1, y2, y3, y4, y5, y6, y7, y8, y9, y10, y11, ?_⟩
    rw [List.map_cons, ← e2]
    exact forLoop_step (Γ1 := lG S (some (.int c, false)) x2 x3 x4 x5 x6 x7 x8 x9 x10 x11) (by simp [DV.SC, DV.SE, DV.SX]) e1
theorem cut_scr (ns : List Int) (lo hi : Nat) : ∃ cs : List Int, cutD (ns.map D.int) (some (lo : Int)) (some (hi : Int)) = cs.map D.int ∧ cs.length ≤ hi := by
  unfold cutD
  rw [HT.sIx_nat, HT.sIx_nat, ← List.map_drop, ← List.map_take]
  exact ⟨_, rfl, by rw [List.length_take]; omega⟩
theorem law_true (ns : List Int) (hl : ns.length ≤ 63) (hb : ∀ z ∈ ns, Builtin.Int.intBits z ≤ 1048576) : ∃ os, F_law [some (.scr ns, false)] = some (.fz (.bl true), os) := by
  obtain ⟨c0, e0⟩ := cell_at_ok ns
  obtain ⟨cs, e1, l1⟩ := cut_scr ns 1 6
  obtain ⟨y1, y2, y3, y4, y5, y6, y7, y8, y9, y10, y11, e⟩ := k09_cells (.scr ns) (c0 :: cs) none none none none none none none none none none none pl_none pl_none pl_none pl_none
  refine ⟨[some (.scr ns, false)], ?_⟩
  refine runF_by (o := .rt (.fz (.bl true)) (lG (.scr ns) y1 y2 y3 y4 y5 y6 y7 y8 y9 y10 y11)) rfl (?_ : exs _ [] _ (lG (.scr ns) none none none none none none none none none none none) = _) rfl
  refine (exs_nx (ex_for (Γ2 := lG (.scr ns) none none none none none none none none none none none) (ds := (c0 :: cs).map D.int) ?_ rfl e)).trans (by simp [DV.SC, DV.SE, DV.SX])
  have e1 : cutD (ns.map D.int) (some 1) (some 6) = cs.map D.int := e1
  have hz : 1 + cs.length ≤ 16777216 := by omega
  have hz2 : cs.length + 1 ≤ 16777216 := by omega
  simp [DV.SC, DV.SE, DV.SX, e0, e1, hz, hz2, sizeLine, Nat.add_comm]

end L
open PySem PySem.W PyProof.Rows
set_option maxHeartbeats 0 in
theorem PySem.Challenge.cw_breakerrow_k09_trains_refused_holds : PySem.Challenge.rw_breakerrow_k09_trains_refused.Holds := by
  refine L_top ?_
  k_fill
  refine DV.walk_ofG (ll := PySem.Challenge.rw_breakerrow_k09_trains_refused) (nn := 63) (kk := 9) (xx := "_law_script") (CX := fun _ => L2.CX0) rfl (by decide) rfl ⟨rfl, by decide, by decide⟩ (fun w h Y => PySem.W.kIn_of Y) (by decide +kernel) ?F (fun _ _ _ _ _ h => h)
  case F =>
    intro w mg mb mean fa h TP KX hmg
    refine' L.all_mk KX TP hmg (fun ns hl hb => L.law_true ns hl hb) ?aC0 ?aC8 ?aC12 ?aC14 ?a0 ?l0 ?e0 ?k0 ?a1 ?l1 ?e1 ?k1 ?a2 ?l2 ?e2 ?k2 ?a3 ?l3 ?e3 ?k3 ?a4 ?l4 ?e4 ?k4 ?a5 ?i5 ?l5 ?e5 ?ti5 ?k5 ?a6 ?l6 ?e6 ?k6 ?a7 ?l7 ?e7 ?k7 ?a8 ?l8 ?e8 ?k8 ?a9 ?l9 ?e9 ?k9 ?a10 ?l10 ?e10 ?k10 ?a11 ?l11 ?e11 ?k11 ?a12 ?l12 ?e12 ?k12 ?a13 ?i13 ?l13 ?e13 ?k13 ?a14 ?l14 ?e14 ?k14 ?a15 ?l15 ?e15 ?k15 ?a16 ?i16 ?l16 ?e16 ?k16 ?a17 ?i17 ?l17 ?e17 ?k17 ?a18 ?l18 ?e18 ?k18 ?a19 ?l19 ?e19 ?k19 ?z_ArithmeticError ?z_bool ?z_enumerate ?z_int ?z_isinstance ?z_len ?z_list ?z_range ?z_repr ?z_tuple ?g_MOST_TRAINS ?qin12 ?qov12 ?qhd12 ?qsa12 ?qsb12 ?qty12 ?qkc12 ?qtg8 ?qrd8 ?qat8 ?tx_InvalidTrains_at ?pg0 ?hd0 ?po0 ?sa0 ?ha0 ?hn0 ?ht0 ?hm0 ?nf0_NoneType ?nf0_bool ?nf0_int ?nf0_str ?nf0_list ?nf0_tuple ?na_Trains_listed ?xm_InvalidTrains_InvalidTrains ?qcl12 ?qga12 ?qgt12 ?qha12 ?qhn ?qtk ?qhm12 ?xk_InvalidTrains_InvalidBound ?xk_InvalidTrains_ArithmeticError ?xn_InvalidTrains_at ?ic0 ?ty0 ?ne_Trains ?mk0 ?kc0
    (case aC0 => k_is)
    (case aC8 => k_is)
    (case aC12 => k_is)
    (case aC14 => k_is)
    (case a0 => k_is)
    (case l0 => k_is)
    (case e0 => k_is)
    (case k0 => k_is)
    (case a1 => k_is)
    (case l1 => k_is)
    (case e1 => k_is)
    (case k1 => k_is)
    (case a2 => k_is)
    (case l2 => k_is)
    (case e2 => k_is)
    (case k2 => k_is)
    (case a3 => k_is)
    (case l3 => k_is)
    (case e3 => k_is)
    (case k3 => k_is)
    (case a4 => k_is)
    (case l4 => k_is)
    (case e4 => k_is)
    (case k4 => k_is)
    (case a5 => k_is)
    (case i5 => k_is)
    (case l5 => k_is)
    (case e5 => k_is)
    (case ti5 => k_is)
    (case k5 => k_is)
    (case a6 => k_is)
    (case l6 => k_is)
    (case e6 => k_is)
    (case k6 => k_is)
    (case a7 => k_is)
    (case l7 => k_is)
    (case e7 => k_is)
    (case k7 => k_is)
    (case a8 => k_is)
    (case l8 => k_is)
    (case e8 => k_is)
    (case k8 => k_is)
    (case a9 => k_is)
    (case l9 => k_is)
    (case e9 => k_is)
    (case k9 => k_is)
    (case a10 => k_is)
    (case l10 => k_is)
    (case e10 => k_is)
    (case k10 => k_is)
    (case a11 => k_is)
    (case l11 => k_is)
    (case e11 => k_is)
    (case k11 => k_is)
    (case a12 => k_is)
    (case l12 => k_is)
    (case e12 => k_is)
    (case k12 => k_is)
    (case a13 => k_is)
    (case i13 => k_is)
    (case l13 => k_is)
    (case e13 => k_is)
    (case k13 => k_is)
    (case a14 => k_is)
    (case l14 => k_is)
    (case e14 => k_is)
    (case k14 => k_is)
    (case a15 => k_is)
    (case l15 => k_is)
    (case e15 => k_is)
    (case k15 => k_is)
    (case a16 => k_is)
    (case i16 => k_is)
    (case l16 => k_is)
    (case e16 => k_is)
    (case k16 => k_is)
    (case a17 => k_is)
    (case i17 => k_is)
    (case l17 => k_is)
    (case e17 => k_is)
    (case k17 => k_is)
    (case a18 => k_is)
    (case l18 => k_is)
    (case e18 => k_is)
    (case k18 => k_is)
    (case a19 => k_is)
    (case l19 => k_is)
    (case e19 => k_is)
    (case k19 => k_is)
    (case z_ArithmeticError => k_is)
    (case z_bool => k_is)
    (case z_enumerate => k_is)
    (case z_int => k_is)
    (case z_isinstance => k_is)
    (case z_len => k_is)
    (case z_list => k_is)
    (case z_range => k_is)
    (case z_repr => k_is)
    (case z_tuple => k_is)
    (case g_MOST_TRAINS => k_is)
    (case qin12 => kx_is)
    (case qov12 => kx_is)
    (case qhd12 => k_is)
    (case qsa12 => k_is)
    (case qsb12 => k_is)
    (case qty12 => k_is)
    (case qkc12 => k_is)
    (case qtg8 => k_is)
    (case qrd8 => k_is)
    (case qat8 => k_is)
    (case tx_InvalidTrains_at => k_is)
    (case pg0 => k_is)
    (case hd0 => k_is)
    (case po0 => k_is)
    (case sa0 => k_is)
    (case ha0 => k_is)
    (case hn0 => k_is)
    (case ht0 => k_is)
    (case hm0 => k_is)
    (case nf0_NoneType => k_is)
    (case nf0_bool => k_is)
    (case nf0_int => k_is)
    (case nf0_str => k_is)
    (case nf0_list => k_is)
    (case nf0_tuple => k_is)
    (case na_Trains_listed => k_is)
    (case xm_InvalidTrains_InvalidTrains => kernel_rfl)
    (case qcl12 => kernel_rfl)
    (case qga12 => k_is)
    (case qgt12 => k_is)
    (case qha12 => k_is)
    (case qhn => k_is)
    (case qtk => k_is)
    (case qhm12 => k_is)
    (case xk_InvalidTrains_InvalidBound => kit_is)
    (case xk_InvalidTrains_ArithmeticError => kit_is)
    (case xn_InvalidTrains_at => k_is)
    (case ic0 => k_is)
    (case ty0 => k_is)
    (case ne_Trains => k_is)
    (case mk0 => k_is)
    (case kc0 => k_is)
