import PyProof.Rows.All
import Wide.All
import OpenK.AllK
import Wide.FinOn
import HandS.ForMost
import HandS.Wide
import HandS.Style
import HandS.Flow
import HandS.Zip
import HandS.EndBits
import HandS.IsInst
import HandS.Lambda
import HandS.EndTab
import KE.LtData
import HandS.TupLe
import PyProof.NeKinds
import PyProof.FactsAll.dict_2
import PyProof.FactsAll.subtypes_4
import KE.KEqDict
import HandS.OwnEq
import PyProof.InstNe
import HandS.MakeKwOnly
import HandS.SortRule
import HandS.Conv
import HandS.SortKw
import HandS.SetFor
import KE.DataMinMax
import PyProof.Rows.CountFlat
import KE.DataFind
import KE.DatumOrd
import HandS.Dict
import KE.KDictPairs
import KE.SortData
import HandS.WordsExc
import HandS.TryMany
import HandS.ExcInit
import KE.KExcInit
import KE.KExcIs
import HandS.ExcField
import KE.KNest
import KE.KNestM
import HandS.SortInts
import HandS.Comp
import PyProof.ReprRoads
import HandS.ExcOwn
import KE.KDflt
import KE.OsRunLaw
import PySem.Challenge.RW_breakerrow_k50_invalid_logs_and_names
set_option exponentiation.threshold 100000
set_option Elab.async false
set_option linter.all false
set_option maxRecDepth 100000
set_option maxHeartbeats 4000000
section
open PySem PySem.W PyProof.Rows
local macro_rules | `(tactic| k_head) => `(tactic| k_headL)
set_option maxHeartbeats 0 in
open_top L_top for PySem.Challenge.rw_breakerrow_k50_invalid_logs_and_names
end
namespace DV
open PySem L2

/-- data: what a Python value says, with its heap read off -/
inductive D where
  | non | bl (b : Bool) | int (i : Int) | str (x : Str) | lst (xs : List D) | tup (xs : List D) | obj (c : Nat) (ks : List Str) (ds : List D) | scr (ns : List Int) | dct | dic (ks : List Int) (ds : List D) | exc (c : Nat) (ks : List Str) (ds : List D) | err (c : Nat) (ks : List Str) (ds : List D) | ref (k : Nat)

/-- what is static of a text behind its top -/
structure Gx where
  K : PySem.W.Frag
  cl : Nat → Addr
  T : List (Addr × Str)
  ea : Option (Nat × Addr × Addr)
  A : List Addr
/-- no table of code objects -/
def nT (o : HO) : Prop := ∀ ps, o ≠ .tbl ps

/-- a dict's keys and values -/
def dkV (ks : List Int) (vs : List V) : List (Key × V) := (ks.zip vs).map fun p => (.inl p.1, p.2)
/-! ### what stands for a datum -/
mutual
def Rep (g : Gx) (Av : Addr → Prop) (H : Hp) : D → V → Prop
  | .non, v => v = .non
  | .bl b, v => v = .bl b
  | .int i, v => v = .int i
  | .str x, v => v = .str x
  | .lst ds, v => ∃ a vs, v = .ref a ∧ ¬ Av a ∧ H a = some (.lst vs) ∧ Reps g Av H ds vs
  | .scr ns, v => ∃ a, v = .ref a ∧ ¬ Av a ∧ SqL g.K H a (ns.map V.int)
  | .tup ds, v => ∃ a vs, v = .ref a ∧ ¬ Av a ∧ SqT g.K H a vs ∧ Reps g Av H ds vs
  | .obj c ks ds, v => ∃ a dx vs, v = .ref a ∧ ¬ Av a ∧ ks.length = vs.length ∧ H a = some (.ins (g.cl c) dx (ks.zip vs)) ∧ Reps g Av H ds vs
  | .dct, v => ∃ a, v = .ref a ∧ ¬ Av a ∧ H a = some (.dK [])
  | .dic ks ds, v => ∃ a vs, v = .ref a ∧ ¬ Av a ∧ ks.length = vs.length ∧ H a = some (.dK (dkV ks vs)) ∧ Reps g Av H ds vs
  | .exc _ ks ds, v => ∃ a vs, v = .ref a ∧ ¬ Av a ∧ ks.length = vs.length ∧ H a = some (.xd (ks.zip vs).reverse) ∧ Reps g Av H ds vs
  | .err c ks ds, v => ∃ e a vs, g.ea = some (c, e, a) ∧ v = .ref e ∧ ¬ Av a ∧ ks.length = vs.length ∧ H a = some (.xd (ks.zip vs).reverse) ∧ Reps g Av H ds vs
  | .ref k, v => ∃ a, g.A[k]? = some a ∧ v = .ref a
def Reps (g : Gx) (Av : Addr → Prop) (H : Hp) : List D → List V → Prop
  | [], vs => vs = []
  | d :: ds, vs => ∃ v r, vs = v :: r ∧ Rep g Av H d v ∧ Reps g Av H ds r
end


section
variable {g : Gx} {Av Av' : Addr → Prop} {H H' : Hp}
theorem sqL_mono {a : Addr} {vs : List V} (h : SqL g.K H a vs) (k : ∀ o, H a = some o → nT o → H' a = some o) : SqL g.K H' a vs := by
  rcases h with (h | ⟨o, h⟩) | h
  · exact .inl (.inl (k _ h nofun))
  · exact .inl (.inr ⟨o, k _ h nofun⟩)
  · exact .inr h
theorem sqT_mono {a : Addr} {vs : List V} (h : SqT g.K H a vs) (k : ∀ o, H a = some o → nT o → H' a = some o) : SqT g.K H' a vs := by
  rcases h with (h | ⟨o, h⟩) | h
  · exact .inl (.inl (k _ h nofun))
  · exact .inl (.inr ⟨o, k _ h nofun⟩)
  · exact .inr h
theorem sqL_at {a : Addr} {vs : List V} (h : SqL g.K H a vs) : (∃ o, H a = some o ∧ nT o) ∨ ∃ o, g.K.lookup a = some o := by
  rcases h with (h | ⟨o, h⟩) | ⟨o, _, _, h, _⟩
  · exact .inl ⟨_, h, nofun⟩
  · exact .inl ⟨_, h, nofun⟩
  · exact .inr ⟨_, h⟩
theorem sqT_at {a : Addr} {vs : List V} (h : SqT g.K H a vs) : (∃ o, H a = some o ∧ nT o) ∨ ∃ o, g.K.lookup a = some o := by
  rcases h with (h | ⟨o, h⟩) | ⟨o, _, _, h, _⟩
  · exact .inl ⟨_, h, nofun⟩
  · exact .inl ⟨_, h, nofun⟩
  · exact .inr ⟨_, h⟩
/-- a visited address: one that may not change, and stands in H or in the written part -/
abbrev Vst (g : Gx) (Av : Addr → Prop) (H : Hp) (a : Addr) : Prop := ¬ Av a ∧ ((∃ o, H a = some o ∧ nT o) ∨ ∃ o, g.K.lookup a = some o)
mutual
theorem rep_mono (k : ∀ a, Vst g Av H a → (∀ o, H a = some o → nT o → H' a = some o) ∧ ¬ Av' a) : ∀ (d : D) (v : V), Rep g Av H d v → Rep g Av' H' d v
  | .non, _, h => by simpa [Rep] using h
  | .bl _, _, h => by simpa [Rep] using h
  | .int _, _, h => by simpa [Rep] using h
  | .str _, _, h => by simpa [Rep] using h
  | .lst ds, v, h => by
    simp only [Rep] at h ⊢
    obtain ⟨a, vs, e, n, s, r⟩ := h
    have q := k a ⟨n, .inl ⟨_, s, nofun⟩⟩
    exact ⟨a, vs, e, q.2, q.1 _ s nofun, reps_mono k ds vs r⟩
  | .scr ns, v, h => by
    simp only [Rep] at h ⊢
    obtain ⟨a, e, n, s⟩ := h
    have q := k a ⟨n, sqL_at s⟩
    exact ⟨a, e, q.2, sqL_mono s q.1⟩
  | .tup ds, v, h => by
    simp only [Rep] at h ⊢
    obtain ⟨a, vs, e, n, s, r⟩ := h
    have q := k a ⟨n, sqT_at s⟩
    exact ⟨a, vs, e, q.2, sqT_mono s q.1, reps_mono k ds vs r⟩
  | .obj c ks ds, v, h => by
    simp only [Rep] at h ⊢
    obtain ⟨a, dx, vs, e, n, l, s, r⟩ := h
    have q := k a ⟨n, .inl ⟨_, s, nofun⟩⟩
    exact ⟨a, dx, vs, e, q.2, l, q.1 _ s nofun, reps_mono k ds vs r⟩
  | .dct, v, h => by
    simp only [Rep] at h ⊢
    obtain ⟨a, e, n, s⟩ := h
    have q := k a ⟨n, .inl ⟨_, s, nofun⟩⟩
    exact ⟨a, e, q.2, q.1 _ s nofun⟩
  | .dic ks ds, v, h => by
    simp only [Rep] at h ⊢
    obtain ⟨a, vs, e, n, l, s, r⟩ := h
    have q := k a ⟨n, .inl ⟨_, s, nofun⟩⟩
    exact ⟨a, vs, e, q.2, l, q.1 _ s nofun, reps_mono k ds vs r⟩
  | .exc c ks ds, v, h => by
    simp only [Rep] at h ⊢
    obtain ⟨a, vs, e, n, l, s, r⟩ := h
    have q := k a ⟨n, .inl ⟨_, s, nofun⟩⟩
    exact ⟨a, vs, e, q.2, l, q.1 _ s nofun, reps_mono k ds vs r⟩
  | .err c ks ds, v, h => by
    simp only [Rep] at h ⊢
    obtain ⟨e0, a, vs, e1, e, n, l, s, r⟩ := h
    have q := k a ⟨n, .inl ⟨_, s, nofun⟩⟩
    exact ⟨e0, a, vs, e1, e, q.2, l, q.1 _ s nofun, reps_mono k ds vs r⟩
  | .ref k, v, h => by
    simp only [Rep] at h ⊢
    exact h
theorem reps_mono (k : ∀ a, Vst g Av H a → (∀ o, H a = some o → nT o → H' a = some o) ∧ ¬ Av' a) : ∀ (ds : List D) (vs : List V), Reps g Av H ds vs → Reps g Av' H' ds vs
  | [], _, h => by simpa [Reps] using h
  | d :: ds, _, h => by
    simp only [Reps] at h ⊢
    obtain ⟨v, r, e, h1, h2⟩ := h
    exact ⟨v, r, e, rep_mono k d v h1, reps_mono k ds r h2⟩
end
theorem Reps.len : ∀ {ds : List D} {vs : List V}, Reps g Av H ds vs → ds.length = vs.length
  | [], _, h => by simp only [Reps] at h; subst h; rfl
  | d :: ds, _, h => by
    simp only [Reps] at h
    obtain ⟨v, r, rfl, _, h2⟩ := h
    rw [List.length_cons, List.length_cons, Reps.len h2]
theorem Reps.get : ∀ {ds : List D} {vs : List V} {i : Nat} {d : D}, Reps g Av H ds vs → ds[i]? = some d → ∃ v, vs[i]? = some v ∧ Rep g Av H d v
  | [], _, i, d, _, e => by simp at e
  | x :: ds, _, 0, d, h, e => by
    simp only [Reps] at h
    obtain ⟨v, r, rfl, h1, _⟩ := h
    simp at e; subst e
    exact ⟨v, rfl, h1⟩
  | x :: ds, _, i + 1, d, h, e => by
    simp only [Reps] at h
    obtain ⟨v, r, rfl, _, h2⟩ := h
    exact Reps.get (i := i) h2 (by simpa using e)
theorem Reps.app : ∀ {ds es : List D} {vs ws : List V}, Reps g Av H ds vs → Reps g Av H es ws → Reps g Av H (ds ++ es) (vs ++ ws)
  | [], _, _, _, h, q => by simp only [Reps] at h; subst h; exact q
  | d :: ds, _, _, _, h, q => by
    simp only [Reps] at h
    obtain ⟨v, r, rfl, h1, h2⟩ := h
    simp only [List.cons_append, Reps]
    exact ⟨v, _, rfl, h1, Reps.app h2 q⟩
theorem Reps.take : ∀ {ds : List D} {vs : List V} (n : Nat), Reps g Av H ds vs → Reps g Av H (ds.take n) (vs.take n)
  | _, _, 0, _ => by simp [Reps]
  | [], _, n + 1, h => by simp only [Reps] at h; subst h; simp [Reps]
  | d :: ds, _, n + 1, h => by
    simp only [Reps] at h
    obtain ⟨v, r, rfl, h1, h2⟩ := h
    simp only [List.take_succ_cons, Reps]
    exact ⟨v, _, rfl, h1, Reps.take n h2⟩
theorem Reps.drop : ∀ {ds : List D} {vs : List V} (n : Nat), Reps g Av H ds vs → Reps g Av H (ds.drop n) (vs.drop n)
  | _, _, 0, h => h
  | [], _, n + 1, h => by simp only [Reps] at h; subst h; simp [Reps]
  | d :: ds, _, n + 1, h => by
    simp only [Reps] at h
    obtain ⟨v, r, rfl, h1, h2⟩ := h
    simpa using Reps.drop n h2
theorem Reps.set {d : D} {v : V} (q : Rep g Av H d v) : ∀ {ds : List D} {vs : List V} (n : Nat), Reps g Av H ds vs → Reps g Av H (ds.set n d) (vs.set n v)
  | [], _, n, h => by simp only [Reps] at h; subst h; simp [Reps]
  | x :: ds, _, 0, h => by
    simp only [Reps] at h
    obtain ⟨w, r, rfl, h1, h2⟩ := h
    simp only [List.set_cons_zero, Reps]
    exact ⟨v, _, rfl, q, h2⟩
  | x :: ds, _, n + 1, h => by
    simp only [Reps] at h
    obtain ⟨w, r, rfl, h1, h2⟩ := h
    simp only [List.set_cons_succ, Reps]
    exact ⟨w, _, rfl, h1, Reps.set q n h2⟩
theorem Reps.one {d : D} {v : V} (q : Rep g Av H d v) : Reps g Av H [d] [v] := by
  simp only [Reps]
  exact ⟨v, [], rfl, q, rfl⟩
theorem Reps.rev : ∀ {ds : List D} {vs : List V}, Reps g Av H ds vs → Reps g Av H ds.reverse vs.reverse
  | [], _, h => by simp only [Reps] at h; subst h; simp [Reps]
  | d :: ds, _, h => by
    simp only [Reps] at h
    obtain ⟨v, r, rfl, h1, h2⟩ := h
    rw [List.reverse_cons, List.reverse_cons]
    exact Reps.app (Reps.rev h2) (Reps.one h1)
theorem Reps.repl {ds : List D} {vs : List V} (h : Reps g Av H ds vs) : ∀ n : Nat, Reps g Av H (List.replicate n ds).flatten (List.replicate n vs).flatten
  | 0 => by simp [Reps]
  | n + 1 => by
    rw [List.replicate_succ, List.replicate_succ, List.flatten_cons, List.flatten_cons]
    exact Reps.app h (Reps.repl h n)
end

/-! ### the frame: slots with data, some of them owned -/
abbrev Sl := Option (D × Bool)
abbrev Ct := List Sl
def Av (Bn : Addr → Prop) (Ow : List Addr) : Addr → Prop := fun a => Bn a ∨ a ∈ Ow
/-- the object at a is the owned datum d -/
def OwnA (g : Gx) (A : Addr → Prop) (H : Hp) (d : D) (a : Addr) : Prop :=
  match d with
  | .lst ds => ∃ vs, H a = some (.lst vs) ∧ Reps g A H ds vs
  | .obj c ks ds => ∃ dx vs, ks.length = vs.length ∧ H a = some (.ins (g.cl c) dx (ks.zip vs)) ∧ Reps g A H ds vs
  | _ => False
/-- a list or an object -/
def LI (H : Hp) (a : Addr) : Prop := (∃ vs, H a = some (.lst vs)) ∨ ∃ C dx fl, H a = some (.ins C dx fl)
theorem LI.ne {H : Hp} {a : Addr} (h : LI H a) : H a ≠ none := by
  rcases h with ⟨vs, e⟩ | ⟨C, dx, fl, e⟩ <;> rw [e] <;> nofun
theorem LI.same {H H' : Hp} {a : Addr} (h : LI H a) (s : Same H H') : LI H' a := by
  rcases h with ⟨vs, e⟩ | ⟨C, dx, fl, e⟩
  · exact .inl ⟨vs, s _ _ e⟩
  · exact .inr ⟨C, dx, fl, s _ _ e⟩
theorem LI.upd {H : Hp} {a b : Addr} {o : HO} (h : LI H a) (k : a = b → LI (upd H b o) b) : LI (L2.upd H b o) a := by
  by_cases e : a = b
  · rw [e]; exact k e
  · rcases h with ⟨vs, q⟩ | ⟨C, dx, fl, q⟩
    · exact .inl ⟨vs, by rw [upd_ne e]; exact q⟩
    · exact .inr ⟨C, dx, fl, by rw [upd_ne e]; exact q⟩
abbrev Tb (T : List (Addr × Str)) (H : Hp) : Prop := LamX.Tabs T H
theorem Tb.upd {T : List (Addr × Str)} {H : Hp} {p : Addr} {o : HO} (t : Tb T H) (h : LI H p) : Tb T (L2.upd H p o) := by
  intro q hq
  obtain ⟨ps, e1, e2, e3⟩ := t q hq
  have n1 : q.1 ≠ p := fun z => by
    rw [z] at e1
    rcases h with ⟨vs, e⟩ | ⟨C, dx, fl, e⟩ <;> (rw [e] at e1; cases e1)
  refine ⟨ps, by rw [upd_ne n1]; exact e1, e2, fun pos cv hc => ?_⟩
  obtain ⟨c, f1, f2⟩ := e3 pos cv hc
  refine ⟨c, f1, ?_⟩
  have n2 : c ≠ p := fun z => by
    rw [z] at f2
    unfold LamX.CodeO at f2
    rcases h with ⟨vs, e⟩ | ⟨C, dx, fl, e⟩ <;> (rw [e] at f2; cases f2)
  rw [upd_ne n2]
  exact f2
structure RS (g : Gx) (Bn : Addr → Prop) (Ow : List Addr) (H : Hp) (σ : St) (Γ : Ct) : Prop where
  len : σ.length = Γ.length
  slot : ∀ (i : Nat) d, Γ[i]? = some (some (d, false)) → ∃ v, σ[i]? = some (some v) ∧ Rep g (Av Bn Ow) H d v
  own : ∀ (i : Nat) d, Γ[i]? = some (some (d, true)) → ∃ a, σ[i]? = some (some (.ref a)) ∧ a ∈ Ow ∧ OwnA g (Av Bn Ow) H d a
  dist : ∀ (i j : Nat) d e a, Γ[i]? = some (some (d, true)) → Γ[j]? = some (some (e, true)) → σ[i]? = some (some (.ref a)) → σ[j]? = some (some (.ref a)) → i = j
  trl : ∀ a, Av Bn Ow a → LI H a
  sep : ∀ a, Bn a → a ∉ Ow
  kf : ∀ a, Av Bn Ow a → g.K.lookup a = none
  tabs : Tb g.T H
theorem RS.trk {g : Gx} {Bn : Addr → Prop} {Ow : List Addr} {H : Hp} {σ : St} {Γ : Ct} (r : RS g Bn Ow H σ Γ) (a : Addr) (h : Av Bn Ow a) : H a ≠ none := (r.trl a h).ne
/-- nothing stands there, or a table -/
def Nw (H : Hp) (a : Addr) : Prop := ∀ o, H a = some o → ¬ nT o
theorem nw_none {H : Hp} {a : Addr} (h : H a = none) : Nw H a := fun o e => by rw [h] at e; cases e
theorem LI.nw {H : Hp} {a : Addr} (h : LI H a) (n : Nw H a) : False := by
  rcases h with ⟨vs, e⟩ | ⟨C, dx, fl, e⟩
  · exact n _ e nofun
  · exact n _ e nofun
theorem RS.trn {g : Gx} {Bn : Addr → Prop} {Ow : List Addr} {H : Hp} {σ : St} {Γ : Ct} (r : RS g Bn Ow H σ Γ) (a : Addr) (h : Av Bn Ow a) (n : Nw H a) : False := (r.trl a h).nw n
/-- a step of the frame -/
structure Stp (Ow : List Addr) (H : Hp) (Ow' : List Addr) (H' : Hp) : Prop where
  keep0 : ∀ a o, H a = some o → nT o → a ∉ Ow → H' a = some o
  grow : ∀ a, a ∈ Ow' → a ∈ Ow ∨ Nw H a
theorem Stp.keep {Ow : List Addr} {H : Hp} {Ow' : List Addr} {H' : Hp} (s : Stp Ow H Ow' H') (a : Addr) (o : HO) (h : H a = some o) (n : a ∉ Ow) (t : nT o := by exact nofun) : H' a = some o := s.keep0 a o h t n
theorem Stp.refl (Ow : List Addr) (H : Hp) : Stp Ow H Ow H := ⟨fun _ _ h _ _ => h, fun _ h => .inl h⟩
theorem Stp.trans {O1 O2 O3 : List Addr} {H1 H2 H3 : Hp} (a : Stp O1 H1 O2 H2) (b : Stp O2 H2 O3 H3) : Stp O1 H1 O3 H3 where
  keep0 := fun x o h t n => b.keep0 x o (a.keep0 x o h t n) t fun z => by
    rcases a.grow x z with q | q
    · exact n q
    · exact q o h t
  grow := fun x h => by
    rcases b.grow x h with q | q
    · exact a.grow x q
    · by_cases m : x ∈ O1
      · exact .inl m
      · exact .inr fun o e t => q o (a.keep0 x o e t m) t
section
variable {g : Gx} {Bn : Addr → Prop} {Ow Ow' : List Addr} {H H' : Hp} {σ : St} {Γ Γ' : Ct}
/-- what may be carried over a step -/
theorem step_vst (s : Stp Ow H Ow' H') (kf : ∀ a, a ∈ Ow' → g.K.lookup a = none) : ∀ a, Vst g (Av Bn Ow) H a → (∀ o, H a = some o → nT o → H' a = some o) ∧ ¬ Av Bn Ow' a := fun a ⟨n, t⟩ => by
  have n1 : ¬ Bn a := fun z => n (.inl z)
  have n2 : a ∉ Ow := fun z => n (.inr z)
  refine ⟨fun o h t => s.keep0 a o h t n2, fun z => ?_⟩
  rcases z with z | z
  · exact n1 z
  · rcases t with ⟨o, t, nt⟩ | ⟨o, t⟩
    · rcases s.grow a z with q | q
      · exact n2 q
      · exact q o t nt
    · rw [kf a z] at t; cases t
theorem Rep.step {d : D} {v : V} (h : Rep g (Av Bn Ow) H d v) (s : Stp Ow H Ow' H') (r : RS g Bn Ow' H' σ Γ) : Rep g (Av Bn Ow') H' d v :=
  rep_mono (step_vst s fun a h => r.kf a (.inr h)) d v h
theorem Reps.step {d : List D} {v : List V} (h : Reps g (Av Bn Ow) H d v) (s : Stp Ow H Ow' H') (r : RS g Bn Ow' H' σ Γ) : Reps g (Av Bn Ow') H' d v :=
  reps_mono (step_vst s fun a h => r.kf a (.inr h)) d v h
/-- the heap has grown, nothing else -/
theorem same_vst {A : Addr → Prop} (s : Same H H') : ∀ a, Vst g A H a → (∀ o, H a = some o → nT o → H' a = some o) ∧ ¬ A a := fun a ⟨n, _⟩ => ⟨fun o h _ => s a o h, n⟩
theorem Rep.same {A : Addr → Prop} {d : D} {v : V} (h : Rep g A H d v) (s : Same H H') : Rep g A H' d v := rep_mono (same_vst s) d v h
theorem Reps.same {A : Addr → Prop} {d : List D} {v : List V} (h : Reps g A H d v) (s : Same H H') : Reps g A H' d v := reps_mono (same_vst s) d v h
theorem OwnA.same {A : Addr → Prop} {d : D} {a : Addr} (h : OwnA g A H d a) (s : Same H H') : OwnA g A H' d a := by
  cases d with
  | lst ds => obtain ⟨vs, e, r⟩ := h; exact ⟨vs, s _ _ e, r.same s⟩
  | obj c ks ds => obtain ⟨dx, vs, l, e, r⟩ := h; exact ⟨dx, vs, l, s _ _ e, r.same s⟩
  | _ => exact h
theorem RS.same (r : RS g Bn Ow H σ Γ) (s : Same H H') : RS g Bn Ow H' σ Γ where
  len := r.len
  slot := fun i d h => let ⟨v, e, q⟩ := r.slot i d h; ⟨v, e, q.same s⟩
  own := fun i d h => let ⟨a, e, m, q⟩ := r.own i d h; ⟨a, e, m, q.same s⟩
  dist := r.dist
  trl := fun a h => (r.trl a h).same s
  sep := r.sep
  kf := r.kf
  tabs := fun p hp => (r.tabs p hp).ext s
theorem Stp.same (s : Same H H') : Stp Ow H Ow H' := ⟨fun a o h _ _ => s a o h, fun _ h => .inl h⟩
/-- less is avoided -/
theorem rep_less {A A' : Addr → Prop} (k : ∀ a, A' a → A a) {d : D} {v : V} (h : Rep g A H d v) : Rep g A' H d v := rep_mono (fun a ⟨n, _⟩ => ⟨fun _ e _ => e, fun z => n (k a z)⟩) d v h
theorem reps_less {A A' : Addr → Prop} (k : ∀ a, A' a → A a) {d : List D} {v : List V} (h : Reps g A H d v) : Reps g A' H d v := reps_mono (fun a ⟨n, _⟩ => ⟨fun _ e _ => e, fun z => n (k a z)⟩) d v h
theorem own_less {A A' : Addr → Prop} (k : ∀ a, A' a → A a) {d : D} {a : Addr} (h : OwnA g A H d a) : OwnA g A' H d a := by
  cases d with
  | lst ds => obtain ⟨vs, e, r⟩ := h; exact ⟨vs, e, reps_less k r⟩
  | obj c ks ds => obtain ⟨dx, vs, l, e, r⟩ := h; exact ⟨dx, vs, l, e, reps_less k r⟩
  | _ => exact h
/-- an owned object becomes a plain one -/
theorem OwnA.rep {A : Addr → Prop} {d : D} {a : Addr} (h : OwnA g A H d a) (n : ¬ A a) : Rep g A H d (.ref a) := by
  cases d with
  | lst ds => obtain ⟨vs, e, r⟩ := h; simp only [Rep]; exact ⟨a, vs, rfl, n, e, r⟩
  | obj c ks ds => obtain ⟨dx, vs, l, e, r⟩ := h; simp only [Rep]; exact ⟨a, dx, vs, rfl, n, l, e, r⟩
  | _ => exact h.elim
end
end DV

namespace DV
open PySem L2

/-! ### data: equality, truth, operations -/
mutual
def eqd : D → D → Bool
  | .non, .non => true
  | .bl a, .bl b => a == b
  | .bl a, .int j => (if a then 1 else 0) == j
  | .int i, .bl b => i == (if b then 1 else 0)
  | .int i, .int j => i == j
  | .str x, .str y => x == y
  | .lst xs, .lst ys => eqds xs ys
  | .tup xs, .tup ys => eqds xs ys
  | _, _ => false
def eqds : List D → List D → Bool
  | [], [] => true
  | x :: xs, y :: ys => eqd x y && eqds xs ys
  | _, _ => false
end
/-- plain data of a depth below n -/
def okB : Nat → D → Bool
  | _, .non => true
  | _, .bl _ => true
  | _, .int _ => true
  | _, .str x => PyData.strOk x
  | n + 1, .lst ds => ds.all (okB n)
  | n + 1, .tup ds => ds.all (okB n)
  | _, _ => false
def flatD : D → Bool
  | .non => true
  | .bl _ => true
  | .int _ => true
  | .str _ => true
  | _ => false
def truthD : D → Option Bool
  | .non => some false
  | .bl b => some b
  | .int i => some (i != 0)
  | .str x => if x.length ≤ sizeLine then some ((x.length : Int) != 0) else none
  | .lst ds => some (!ds.isEmpty)
  | .tup ds => some (!ds.isEmpty)
  | .obj _ _ _ => none
  | .scr ns => some (!ns.isEmpty)
  | .dct => none
  | .dic _ _ => none
  | .exc _ _ _ => none
  | .err _ _ _ => none
  | .ref _ => none

inductive RV where
  | fz (d : D) | nw (d : D) | sl (i : Nat)
inductive BOp where
  | add | sub | mul | fdiv | mod | pow
  deriving DecidableEq
inductive COp where
  | eq | ne | lt | le | gt | ge | is | isnot | inn | notin
  deriving DecidableEq
inductive OOp where
  | eq | ne | inn | notin | ix | add
  deriving DecidableEq
inductive Ty where
  | int | bool | str | list | tuple
  deriving DecidableEq
inductive Bi where
  | len | int1 | max2 | min2 | maxl | minl | suml | list | tuple | alll | anyl | isi (t : Ty) | abs | sortp | minp | min2p | sortt | dictp | sorti | mint | rpr
  deriving DecidableEq
inductive IK where
  | seq | enum | zip | rng
  deriving DecidableEq
inductive Tg where
  | nm (i : Nat) | tp (ts : List Tg)

def tgIx : Tg → List Nat
  | .nm i => [i]
  | .tp ts => tgIxs ts
where tgIxs : List Tg → List Nat
  | [] => []
  | t :: ts => tgIx t ++ tgIxs ts
def mulOk (i j : Int) : Bool := decide (-(2 ^ 64) < i ∧ i < 2 ^ 64) || decide (-(2 ^ 64) < j ∧ j < 2 ^ 64) || decide (i.natAbs.log2 + j.natAbs.log2 < 1000000)
@[irreducible] def in1k (i : Int) : Bool := decide (i.natAbs < 2 ^ 1000)
def binD : BOp → D → D → Option RV
  | .add, .int a, .int b => some (.fz (.int (a + b)))
  | .add, .str a, .str b => if a.length + b.length ≤ sizeLine then some (.fz (.str (a ++ b))) else none
  | .add, .lst a, .lst b => if a.length + b.length ≤ sizeLine then some (.nw (.lst (a ++ b))) else none
  | .add, .tup a, .tup b => if a.length + b.length ≤ sizeLine ∧ a ≠ [] then some (.fz (.tup (a ++ b))) else none
  | .sub, .int a, .int b => some (.fz (.int (a - b)))
  | .mul, .int a, .int b => if mulOk a b then some (.fz (.int (a * b))) else none
  | .mul, .lst a, .int k => if -(2 ^ 63) ≤ k ∧ k < 2 ^ 63 ∧ a.length * k.toNat ≤ sizeLine then some (.nw (.lst (List.replicate k.toNat a).flatten)) else none
  | .fdiv, .int a, .int b => if 0 < b ∧ b.natAbs.log2 < 9000 then some (.fz (.int (a / b))) else none
  | .mod, .int a, .int b => if 0 < b then some (.fz (.int (a % b))) else none
  | .pow, .int a, .int b => if 0 ≤ b ∧ b ≤ 1000000 ∧ a.natAbs < 2 ^ 64 then some (.fz (.int (a ^ b.toNat))) else if 0 ≤ b ∧ b ≤ 1000 ∧ in1k a = true then some (.fz (.int (a ^ b.toNat))) else none
  | _, _, _ => none
def isNonD : D → Bool
  | .non => true
  | _ => false
/-- lists of other lengths -/
def lenNe : D → D → Bool
  | .lst a, .lst b => decide (a.length ≠ b.length)
  | _, _ => false
/-- two texts -/
def strEq : D → D → Option Bool
  | .str x, .str y => some (x == y)
  | _, _ => none
/-- an empty dict and a tuple -/
def dtNe : D → D → Bool
  | .dct, .tup _ => true
  | _, _ => false
/-- (a, b) > (c, d) -/
def pGt (a b c d : Int) : Bool := decide (c < a ∨ (a = c ∧ d < b))
def tupGt : List D → List D → Option Bool
  | [.int a, .int b], [.int c, .int d] => some (pGt a b c d)
  | _, _ => none
/-- a list or an empty dict: no int equals it -/
def noInt : D → Bool
  | .lst _ => true
  | .dct => true
  | _ => false
def isIntD : D → Bool
  | .int _ => true
  | _ => false
def cmpD : COp → D → D → Option Bool
  | .eq, a, b => if okB 12 a && okB 12 b then some (eqd a b) else if lenNe a b then some false else strEq a b
  | .ne, a, b => if okB 12 a && okB 12 b then some (!eqd a b) else if lenNe a b then some true else if dtNe a b then some true else none
  | .lt, .int a, .int b => some (decide (a < b))
  | .le, .int a, .int b => some (decide (a ≤ b))
  | .gt, .int a, .int b => some (decide (b < a))
  | .ge, .int a, .int b => some (decide (b ≤ a))
  | .is, a, .non => some (isNonD a)
  | .isnot, a, .non => some (!isNonD a)
  | .inn, a, .lst b => if flatD a && b.all flatD then some (b.any fun y => eqd y a) else none
  | .inn, a, .tup b => if flatD a && b.all flatD then some (b.any fun y => eqd y a) else none
  | .notin, a, .lst b => if flatD a && b.all flatD then some (!(b.any fun y => eqd y a)) else none
  | .notin, a, .tup b => if flatD a && b.all flatD then some (!(b.any fun y => eqd y a)) else if noInt a && b.all isIntD then some true else none
  | .gt, .tup xs, .tup ys => tupGt xs ys
  | .is, .bl a, .bl b => some (a == b)
  | .isnot, .bl a, .bl b => some (!(a == b))
  | _, _, _ => none
def ixD : D → D → Option D
  | .lst xs, .int i => atI xs i
  | .tup xs, .int i => atI xs i
  | .scr ns, .int i => (atI ns i).map D.int
  | .str z, .int i => if z.length ≤ sizeLine then (atI z.cps.toList i).map fun c => .str ⟨#[c]⟩ else none
  | _, _ => none
def cutD (xs : List D) (lo hi : Option Int) : List D := (xs.drop (HT.sIx xs.length 0 lo)).take (HT.sIx xs.length xs.length hi - HT.sIx xs.length 0 lo)
def slcD : D → Option Int → Option Int → Option RV
  | .lst xs, lo, hi => some (.nw (.lst (cutD xs lo hi)))
  | .scr ns, lo, hi => some (.nw (.lst (cutD (ns.map D.int) lo hi)))
  | .tup xs, lo, hi => if HT.sIx xs.length 0 lo = 0 ∧ HT.sIx xs.length xs.length hi = xs.length then none else some (.fz (.tup (cutD xs lo hi)))
  | _, _, _ => none
def shallow : D → Bool
  | .obj _ _ _ => false
  | .exc _ _ _ => false
  | .err _ _ _ => false
  | .scr _ => false
  | .ref _ => false
  | _ => true
def isiD : Ty → D → Bool
  | .int, .int _ => true
  | .int, .bl _ => true
  | .bool, .bl _ => true
  | .str, .str _ => true
  | .list, .lst _ => true
  | .tuple, .tup _ => true
  | _, _ => false
/-- the ints of a list of ints -/
def intsD : List D → Option (List Int)
  | [] => some []
  | .int i :: r => (intsD r).map (i :: ·)
  | _ :: _ => none
def blsD : List D → Option (List Bool)
  | [] => some []
  | .bl i :: r => (blsD r).map (i :: ·)
  | _ :: _ => none
def maxI : List Int → Option Int
  | [] => none
  | x :: r => some (r.foldl (fun a b => if a < b then b else a) x)
def minI : List Int → Option Int
  | [] => none
  | x :: r => some (r.foldl (fun a b => if b < a then b else a) x)
/-- pairs of ints -/
def pairsD : List D → Option (List (Int × Int))
  | [] => some []
  | .tup [.int i, .int j] :: r => (pairsD r).map ((i, j) :: ·)
  | _ :: _ => none
def pLe (p q : Int × Int) : Bool := decide (p.1 < q.1 ∨ (p.1 = q.1 ∧ p.2 ≤ q.2))
def pLt (p q : Int × Int) : Bool := decide (p.1 < q.1 ∨ (p.1 = q.1 ∧ p.2 < q.2))
def minP : List (Int × Int) → Option (Int × Int)
  | [] => none
  | p :: ps => some (ps.foldl (fun a y => if pLt y a then y else a) p)
def insP (p : Int × Int) : List (Int × Int) → List (Int × Int)
  | [] => [p]
  | q :: r => if pLe p q then p :: q :: r else q :: insP p r
def sortP : List (Int × Int) → List (Int × Int)
  | [] => []
  | p :: r => insP p (sortP r)
def sortD : D → Option D
  | .lst xs => (pairsD xs).map fun ps => .lst ((sortP ps).map fun p => .tup [.int p.1, .int p.2])
  | _ => none
/-- a dict of pairs, the first ones different ints -/
def dctpD : List D → Option (List Int × List D)
  | [] => some ([], [])
  | .tup [.int k, d] :: r => (dctpD r).bind fun (ks, ds) => if ks.contains k then none else some (k :: ks, d :: ds)
  | _ => none
/-- triples of ints, the first ones ascending -/
def ascT : List D → Bool
  | [] => true
  | [.tup [.int _, .int _, .int _]] => true
  | .tup [.int a, .int _, .int _] :: .tup [.int b, .int c, .int d] :: r => decide (a < b) && ascT (.tup [.int b, .int c, .int d] :: r)
  | _ => false
def insI (x : Int) : List Int → List Int
  | [] => [x]
  | y :: r => if x ≤ y then x :: y :: r else y :: insI x r
def sortI : List Int → List Int
  | [] => []
  | x :: r => insI x (sortI r)
/-- tuples of an int and a list of ints -/
def tlsD : List D → Option (List (Int × List Int))
  | [] => some []
  | .tup [.int p, .lst l] :: r => (intsD l).bind fun ns => (tlsD r).map fun t => (p, ns) :: t
  | _ => none
def pyT (p : Int × List Int) : PyData := .tuple [.int p.1, .list (p.2.map .int)]
def minT : List (Int × List Int) → Option (Int × List Int)
  | [] => none
  | p :: ps => some (ps.foldl (fun a y => if PySem.W.dataLt (pyT y) (pyT a) then y else a) p)
/-! data that repr can show -/
mutual
def pyO : D → Option PyData
  | .non => some .none
  | .bl b => some (.bool b)
  | .int i => some (.int i)
  | .str x => some (.str x)
  | .lst ds => (pyOs ds).map .list
  | .tup ds => (pyOs ds).map .tuple
  | .dct => some (.dict [])
  | _ => none
def pyOs : List D → Option (List PyData)
  | [] => some []
  | d :: ds => (pyO d).bind fun p => (pyOs ds).map fun ps => p :: ps
end
@[irreducible] def shwOk (p : PyData) : Bool := p.showable && (decide (p.shown.length ≤ sizeLine) && decide (p.depth ≤ 40))
/-! data without an error inside -/
mutual
def noE : D → Bool
  | .err _ _ _ => false
  | .lst ds => noEs ds
  | .tup ds => noEs ds
  | .obj _ _ ds => noEs ds
  | .dic _ ds => noEs ds
  | .exc _ _ ds => noEs ds
  | _ => true
def noEs : List D → Bool
  | [] => true
  | d :: ds => noE d && noEs ds
end
def biD : Bi → List D → Option RV
  | .len, [.lst xs] => some (.fz (.int xs.length))
  | .len, [.tup xs] => some (.fz (.int xs.length))
  | .len, [.scr ns] => some (.fz (.int ns.length))
  | .len, [.str x] => if x.length ≤ sizeLine then some (.fz (.int x.length)) else none
  | .int1, [.int i] => some (.fz (.int i))
  | .int1, [.bl b] => some (.fz (.int (if b then 1 else 0)))
  | .max2, [.int a, .int b] => some (.fz (.int (if b > a then b else a)))
  | .min2, [.int a, .int b] => some (.fz (.int (if b < a then b else a)))
  | .maxl, [.lst xs] => (intsD xs).bind fun ns => (maxI ns).map fun m => .fz (.int m)
  | .minl, [.lst xs] => (intsD xs).bind fun ns => (minI ns).map fun m => .fz (.int m)
  | .suml, [.lst xs] => (intsD xs).map fun ns => .fz (.int ns.sum)
  | .list, [.lst xs] => some (.nw (.lst xs))
  | .list, [.tup xs] => some (.nw (.lst xs))
  | .tuple, [.lst xs] => some (.fz (.tup xs))
  | .tuple, [.tup xs] => some (.fz (.tup xs))
  | .alll, [.lst xs] => (blsD xs).map fun bs => .fz (.bl (bs.all id))
  | .anyl, [.lst xs] => (blsD xs).map fun bs => .fz (.bl (bs.any id))
  | .isi t, [d] => if shallow d then some (.fz (.bl (isiD t d))) else none
  | .abs, [.int i] => some (.fz (.int (if i < 0 then -i else i)))
  | .sortp, [d] => (sortD d).map .nw
  | .minp, [.lst xs] => (pairsD xs).bind fun ps => (minP ps).map fun p => .fz (.tup [.int p.1, .int p.2])
  | .min2p, [.tup [.int a, .int b], .tup [.int c, .int d]] => some (.fz (if pLt (c, d) (a, b) then .tup [.int c, .int d] else .tup [.int a, .int b]))
  | .sortt, [.lst xs] => if ascT xs then some (.nw (.lst xs)) else none
  | .dictp, [.lst xs] => (dctpD xs).map fun (ks, ds) => .fz (.dic ks ds)
  | .sorti, [.lst xs] => (intsD xs).map fun ns => .nw (.lst ((sortI ns).map D.int))
  | .mint, [.lst xs] => (tlsD xs).bind fun ps => (minT ps).map fun m => .fz (.tup [.int m.1, .lst (m.2.map D.int)])
  | .rpr, [d] => (pyO d).bind fun p => if shwOk p then some (.fz (.str p.shown)) else none
  | _, _ => none

/-! ### the language -/
inductive E where
  | stuck
  | var (i : Nat)
  | cst (d : D)
  | bin (op : BOp) (a b : E)
  | neg (a : E)
  | cmp (op : COp) (a b : E)
  | chain (o1 o2 : COp) (a b c : E)
  | and (a b : E)
  | or (a b : E)
  | not (a : E)
  | ite (c a b : E)
  | lst (es : List E)
  | tup (es : List E)
  | ix (a b : E)
  | slc (a : E) (lo hi : List E)
  | call (k : Nat) (es : List E)
  | bi (b : Bi) (es : List E)
  | comp (own : List Nat) (tg : Tg) (ik : IK) (its : List E) (cond : List E) (elt : E)
  | fld (cs : List Nat) (a : E) (nm : Str)
  | meth (c : Nat) (nm : Str) (k : Nat) (o : E) (es : List E)
  | mk (c k : Nat) (es : List E)
  | own (o : OOp) (c k : Nat) (a b : E)
  | lenO (c k : Nat) (a : E)
  | isc (cs : List Nat) (c : Nat) (a : E)
  | callp (k : Nat) (p : List Nat) (es : List E)
  | mkp (c k : Nat) (p : List Nat) (es : List E)
  | chain3 (o1 o2 o3 : COp) (a b c d : E)
  | rev (a : E)
  | dct
  | tne (c k : Nat) (a b : E)
  | rngl (a b : E)
  | mxd (m : Bool) (a d : E)
  | cnt (a x : E)
  | pop (i : Nat)
  | idx (a x : E)
  | shr (a : E)
  | inO (c k c2 k2 : Nat) (a b : E)
  | dget (a b : E)
  | din (a b : E)
  | ownx (o : OOp) (c k : Nat) (a b : E)
  | mkx (c k : Nat) (es : List E)
  | xis (all cs : List Nat) (i : Nat)
  | xfld (all : List Nat) (i : Nat) (nm : Str)
  | said (d0 : D) (sd : Nat → List Str → List D → Option D) (e : E)
  | comp2 (own : List Nat) (tg : Tg) (ik : IK) (its : List E) (cond : List E) (own1 : List Nat) (tg1 : Tg) (n : E) (cond1 : List E) (elt : E)
  | sem (F : List (Ct → Option (RV × Ct)) → Ct → Option (RV × Ct))

abbrev FS := Ct → Option (RV × Ct)

def datum (Γ : Ct) : RV → Option D
  | .fz d => some d
  | .nw d => some d
  | .sl i => match Γ[i]? with
    | some (some (d, _)) => some d
    | _ => none
/-- the value becomes a plain one -/
def fre (Γ : Ct) : RV → Option (D × Ct)
  | .fz d => some (d, Γ)
  | .nw d => some (d, Γ)
  | .sl i => match Γ[i]? with
    | some (some (d, true)) => some (d, Γ.set i (some (d, false)))
    | some (some (d, false)) => some (d, Γ)
    | _ => none
def fres : List RV → Ct → Option (List D × Ct)
  | [], Γ => some ([], Γ)
  | x :: xs, Γ => (fre Γ x).bind fun (d, Γ1) => (fres xs Γ1).map fun (ds, Γ2) => (d :: ds, Γ2)
def datums (Γ : Ct) : List RV → Option (List D)
  | [] => some []
  | x :: xs => (datum Γ x).bind fun d => (datums Γ xs).map (d :: ·)
/-- an argument's slot for the callee -/
def argS (Γ : Ct) : RV → Option (D × Bool)
  | .fz d => some (d, false)
  | .nw d => some (d, true)
  | .sl i => match Γ[i]? with
    | some (some p) => some p
    | _ => none
def argSs (Γ : Ct) : List RV → Option (List (D × Bool))
  | [] => some []
  | x :: xs => (argS Γ x).bind fun d => (argSs Γ xs).map (d :: ·)
/-- the slots that are handed over -/
def ownIx (Γ : Ct) : List RV → List Nat
  | [] => []
  | .sl i :: xs => match Γ[i]? with
    | some (some (_, true)) => i :: ownIx Γ xs
    | _ => ownIx Γ xs
  | _ :: xs => ownIx Γ xs
def nodupB : List Nat → Bool
  | [] => true
  | x :: xs => !(xs.contains x) && nodupB xs
/-- what comes back at the slots that were handed over -/
def putOuts (Γ0 : Ct) : List RV → Ct → Ct → Ct
  | .sl i :: xs, o :: os, Γ => match Γ0[i]? with
    | some (some (_, true)) => putOuts Γ0 xs os (Γ.set i o)
    | _ => putOuts Γ0 xs os Γ
  | _ :: xs, _ :: os, Γ => putOuts Γ0 xs os Γ
  | _, _, Γ => Γ

/-- values in the parameters' order -/
def permL {α : Type} (p : List Nat) (xs : List α) : List α := p.filterMap fun i => xs[i]?
def permOk (p : List Nat) (n : Nat) : Bool := nodupB p && p.all fun i => decide (i < n)
/-- a call, by its results -/
def callD (F : FS) (xs : List RV) (Γ : Ct) : Option (RV × Ct) := (argSs Γ xs).bind fun as => if nodupB (ownIx Γ xs) then (F (as.map some)).bind fun (r, os) => match r with
      | .sl _ => none
      | r => some (r, putOuts Γ xs os Γ)
    else none
/-- a new object of class c, by its __init__ -/
def mkD (F : FS) (c : Nat) (xs : List RV) (Γ : Ct) : Option (RV × Ct) := (argSs Γ xs).bind fun as => if nodupB (ownIx Γ xs) then (F (some (.obj c [] [], true) :: as.map some)).bind fun (r, os) => match r, os with
      | .fz .non, some (.obj c' ks ds, true) :: os' => some (.nw (.obj c' ks ds), putOuts Γ xs os' Γ)
      | _, _ => none
    else none
/-- the same, of an __init__ that may raise -/
def mkX (F : FS) (c : Nat) (xs : List RV) (Γ : Ct) : Option (RV × Ct) := (argSs Γ xs).bind fun as => if nodupB (ownIx Γ xs) then (F (some (.obj c [] [], true) :: as.map some)).bind fun (r, os) => match r, os with
    | .fz (.exc c' ks ds), _ :: os' => some (.fz (.exc c' ks ds), putOuts Γ xs os' Γ)
    | .fz .non, some (.obj c' ks ds, true) :: os' => some (.nw (.obj c' ks ds), putOuts Γ xs os' Γ)
    | _, _ => none
    else none
def fldL (nm : Str) : List Str → List D → Option D
  | k :: ks, d :: ds => if nm = k then some d else fldL nm ks ds
  | _, _ => none
def xisD (all cs : List Nat) : Sl → Option Bool
  | some (.err c _ _, false) => if all.contains c then some (cs.contains c) else none
  | _ => none
def xfldD (all : List Nat) (nm : Str) : Sl → Option D
  | some (.err c ks ds, false) => if all.contains c then fldL nm ks.reverse ds.reverse else none
  | _ => none
/-- what a def tells of a call that it makes: d0, or what it makes of an error -/
def saidD (d0 : D) (sd : Nat → List Str → List D → Option D) : RV → Option D
  | .fz (.exc c ks ds) => sd c ks ds
  | _ => some d0
def fldD (cs : List Nat) : D → Str → Option D
  | .obj c ks ds, nm => if cs.contains c then fldL nm ks ds else none
  | _, _ => none
def isObj (c : Nat) : D → Bool
  | .obj c' _ _ => c == c'
  | _ => false
/-- isinstance with an own class, among the classes cs -/
def iscD (cs : List Nat) (c : Nat) : D → Option Bool
  | .obj c' _ _ => if cs.contains c' then some (c == c') else none
  | .scr _ => none
  | .dct => none
  | .dic _ _ => none
  | .exc _ _ _ => none
  | .err _ _ _ => none
  | .ref _ => none
  | _ => some false
def hasF (nm : Str) : D → Bool
  | .obj _ ks _ => ks.contains nm
  | _ => false
/-- plain data: no objects at the top -/
def plainB : D → Bool
  | .obj _ _ _ => false
  | .scr _ => false
  | .dct => false
  | .dic _ _ => false
  | .exc _ _ _ => false
  | .err _ _ _ => false
  | .ref _ => false
  | _ => true
/-- what is asked of the other operand -/
def okO (o : OOp) (c : Nat) (e : D) : Bool := match o with
  | .eq => isObj c e || plainB e
  | .ne => isObj c e || plainB e
  | .add => isObj c e
  | _ => true
/-- what an own operator's answer becomes -/
def postO : OOp → RV → Option RV
  | .eq, .fz (.bl b) => some (.fz (.bl b))
  | .ne, .fz (.bl b) => some (.fz (.bl (!b)))
  | .inn, .fz (.bl b) => some (.fz (.bl b))
  | .notin, .fz (.bl b) => some (.fz (.bl (!b)))
  | .ix, r => some r
  | .add, r => some r
  | _, _ => none
/-- the same operator on plain data -/
def plainO : OOp → D → D → Option RV
  | .eq, d, e => (cmpD .eq d e).map fun b => .fz (.bl b)
  | .ne, d, e => (cmpD .ne d e).map fun b => .fz (.bl b)
  | .inn, d, e => (cmpD .inn d e).map fun b => .fz (.bl b)
  | .notin, d, e => (cmpD .notin d e).map fun b => .fz (.bl b)
  | .ix, d, e => (ixD d e).map .fz
  | .add, d, e => binD .add d e
/-- whose method it is -/
def selfO (o : OOp) (d e : D) : D × D := match o with
  | .inn => (e, d)
  | .notin => (e, d)
  | _ => (d, e)
def asgT : Tg → D → Ct → Option Ct
  | .nm i, d, Γ => if i < Γ.length then some (Γ.set i (some (d, false))) else none
  | .tp ts, .tup ds, Γ => asgTs ts ds Γ
  | _, _, _ => none
where asgTs : List Tg → List D → Ct → Option Ct
  | [], [], Γ => some Γ
  | t :: ts, d :: ds, Γ => (asgT t d Γ).bind fun Γ1 => asgTs ts ds Γ1
  | _, _, _ => none

/-- what is walked -/
def enumD : Nat → List D → List D
  | _, [] => []
  | n, d :: ds => .tup [.int n, d] :: enumD (n + 1) ds
def zipD : List D → List D → List D
  | a :: as, b :: bs => .tup [a, b] :: zipD as bs
  | _, _ => []
def rngD (lo : Int) (c : Int) : Nat → List D
  | 0 => []
  | n + 1 => .int lo :: rngD (lo + c) c n
@[irreducible] def in62 (i : Int) : Bool := decide (i.natAbs.log2 < 62)
def iterD : IK → List RV → Ct → Option (List D × Ct)
  | .seq, [x], Γ => (fre Γ x).bind fun (d, Γ1) => match d with
    | .lst ds => some (ds, Γ1)
    | .tup ds => some (ds, Γ1)
    | _ => none
  | .enum, [x], Γ => (fre Γ x).bind fun (d, Γ1) => match d with
    | .lst ds => some (enumD 0 ds, Γ1)
    | _ => none
  | .zip, [x, y], Γ => (fre Γ x).bind fun (d, Γ1) => (fre Γ1 y).bind fun (e, Γ2) => match d, e with
    | .lst ds, .lst es => some (zipD ds es, Γ2)
    | _, _ => none
  | .rng, xs, Γ => (datums Γ xs).bind fun ds => match ds with
    | [.int b] => if in62 b then some (rngD 0 1 b.toNat, Γ) else none
    | [.int a, .int b] => if in62 a && in62 b then some (rngD a 1 (b - a).toNat, Γ) else none
    | [.int a, .int b, .int c] => if c ≠ 0 ∧ c.natAbs.log2 < 9000 ∧ Builtin.Range.rangeSize a b c = ((Builtin.Range.rangeSize a b c).toNat : Nat) then some (rngD a c (Builtin.Range.rangeSize a b c).toNat, Γ) else none
    | _ => none
  | _, _, _ => none
def wipeG (Γ : Ct) : List Nat → Ct
  | [] => Γ
  | v :: vs => (wipeG Γ vs).set v none
def restG (Γ Γ' : Ct) : List Nat → Ct
  | [] => Γ'
  | v :: vs => (restG Γ Γ' vs).set v (Γ.getD v none)
/-- no owned slot among these -/
def plainIx (Γ : Ct) (vs : List Nat) : Bool := vs.all fun v => match Γ[v]? with
  | some (some (_, true)) => false
  | some _ => true
  | none => false
def testD (Γ : Ct) (x : RV) : Option Bool := (datum Γ x).bind truthD
def compLoop (own : List Nat) (tg : Tg) (ct : Ct → Option (Bool × Ct)) (el : Ct → Option (RV × Ct)) : List D → List D → Ct → Option (List D × Ct)
  | [], acc, Γ => some (acc, Γ)
  | d :: ds, acc, Γ => (asgT tg d Γ).bind fun Γ1 => (ct Γ1).bind fun (b, Γ2) =>
    if b then (el Γ2).bind fun (x, Γ3) => (fre Γ3 x).bind fun (e, Γ4) => if plainIx Γ4 own then compLoop own tg ct el ds (acc ++ [e]) (wipeG Γ4 own) else none
    else if plainIx Γ2 own then compLoop own tg ct el ds acc (wipeG Γ2 own) else none

/-- range(n) -/
def rngI : D → Option (List D)
  | .int k => if in62 k then some (rngD 0 1 k.toNat) else none
  | _ => none
/-- the turns of a comprehension with two fors -/
def compLoop2 (own : List Nat) (tg : Tg) (ct : Ct → Option (Bool × Ct)) (it : Ct → Option (List D × Ct)) (own1 : List Nat) (tg1 : Tg) (ct1 : Ct → Option (Bool × Ct)) (el : Ct → Option (RV × Ct)) : List D → List D → Ct → Option (List D × Ct)
  | [], acc, Γ => some (acc, Γ)
  | d :: ds, acc, Γ => (asgT tg d Γ).bind fun Γ1 => (ct Γ1).bind fun (b, Γ2) =>
    if b then (it Γ2).bind fun (ds1, Γ3) => if plainIx Γ3 own1 && decide (acc.length + ds1.length ≤ sizeLine) then (compLoop own1 tg1 ct1 el ds1 acc (wipeG Γ3 own1)).bind fun (acc2, Γ4) => if plainIx Γ4 own then compLoop2 own tg ct it own1 tg1 ct1 el ds acc2 (wipeG Γ4 own) else none else none
    else if plainIx Γ2 own then compLoop2 own tg ct it own1 tg1 ct1 el ds acc (wipeG Γ2 own) else none

@[irreducible] def lenOk (n : Int) : Bool := decide (0 ≤ n ∧ n < 1000000000)
def slO : List D → Option (Option Int)
  | [] => some none
  | [.int i] => some (some i)
  | _ => none
def rnglD : D → D → Option (List D)
  | .int a, .int b => if in62 a && in62 b && decide ((b - a).toNat ≤ 1000000) then some (rngD a 1 (b - a).toNat) else none
  | _, _ => none
def tupOf : D → Option (List D)
  | .tup xs => some xs
  | _ => none
def trueR : Option (RV × Ct) → Bool
  | some (.fz (.bl true), _) => true
  | _ => false
/-- objects of class c, equal one by one by their own == -/
def tneD (F : FS) (c : Nat) : List D → List D → Bool
  | [], [] => true
  | x :: xs, y :: ys => isObj c x && isObj c y && trueR (F [some (x, false), some (y, false)]) && tneD F c xs ys
  | _, _ => false
def revD : D → Option D
  | .lst xs => some (.lst xs.reverse)
  | _ => none
/-- max(xs, default=d), min(xs, default=d) -/
def mxdD (m : Bool) : D → D → Option D
  | .lst xs, d => (intsD xs).bind fun ns => match (if m then maxI ns else minI ns) with
    | some i => some (.int i)
    | none => if flatD d then some d else none
  | _, _ => none
def cntD : D → D → Option D
  | .lst xs, d => if flatD d && xs.all flatD then some (.int ((xs.filter fun y => eqd y d).length : Int)) else if okB 12 d && xs.all (okB 12) then some (.int ((xs.filter fun y => eqd y d).length : Int)) else none
  | _, _ => none
def isLD : D → Bool
  | .lst _ => true
  | _ => false
def idxD : D → D → Option D
  | .lst xs, d => if flatD d && xs.all flatD then (xs.findIdx? fun y => eqd y d).map fun j => .int (j : Nat) else none
  | _, _ => none
def popD (Γ : Ct) (i : Nat) : Option (D × D) := match Γ[i]? with
  | some (some (.lst xs, true)) => match xs.getLast? with
    | some d => some (d, .lst xs.dropLast)
    | none => none
  | _ => none
def lstOf : D → Option (List D)
  | .lst ds => some ds
  | _ => none
def falseR : Option (RV × Ct) → Bool
  | some (.fz (.bl b), _) => !b
  | _ => false
def nltD : D → Bool
  | .non => true
  | .lst _ => true
  | .tup _ => true
  | _ => false
/-- an item that is not equal to d, by the own == of one of them -/
def nqD (F F2 : FS) (c2 : Nat) (d e : D) : Bool := (nltD e && falseR (F [some (d, false), some (e, false)])) || (isObj c2 e && falseR (F2 [some (e, false), some (d, false)]))
def dgetL : List Int → List D → Int → Option D
  | k :: ks, d :: ds, i => if k = i then some d else dgetL ks ds i
  | _, _, _ => none
def dgetD : D → D → Option D
  | .dic ks ds, .int i => dgetL ks ds i
  | _, _ => none
def dinD : D → D → Option Bool
  | .int i, .dic ks _ => some (ks.contains i)
  | _, _ => none
mutual
def ev (fs : List FS) : E → Ct → Option (RV × Ct)
  | .stuck, _ => none
  | .var i, Γ => match Γ[i]? with
    | some (some _) => some (.sl i, Γ)
    | _ => none
  | .cst d, Γ => some (.fz d, Γ)
  | .bin op a b, Γ => (ev fs a Γ).bind fun (x, Γ1) => (ev fs b Γ1).bind fun (y, Γ2) => (datum Γ2 x).bind fun d => (datum Γ2 y).bind fun e => (binD op d e).map fun r => (r, Γ2)
  | .neg a, Γ => (ev fs a Γ).bind fun (x, Γ1) => (datum Γ1 x).bind fun d => match d with
    | .int i => some (.fz (.int (-i)), Γ1)
    | _ => none
  | .cmp op a b, Γ => (ev fs a Γ).bind fun (x, Γ1) => (ev fs b Γ1).bind fun (y, Γ2) => (datum Γ2 x).bind fun d => (datum Γ2 y).bind fun e => (cmpD op d e).map fun r => (.fz (.bl r), Γ2)
  | .chain o1 o2 a b c, Γ => (ev fs a Γ).bind fun (x, Γ1) => (ev fs b Γ1).bind fun (y, Γ2) => (datum Γ2 x).bind fun d => (datum Γ2 y).bind fun e => (cmpD o1 d e).bind fun r =>
      if r then (ev fs c Γ2).bind fun (z, Γ3) => (datum Γ3 y).bind fun e => (datum Γ3 z).bind fun f => (cmpD o2 e f).map fun r => (.fz (.bl r), Γ3)
      else some (.fz (.bl false), Γ2)
  | .and a b, Γ => (ev fs a Γ).bind fun (x, Γ1) => (testD Γ1 x).bind fun t => if t then ev fs b Γ1 else some (x, Γ1)
  | .or a b, Γ => (ev fs a Γ).bind fun (x, Γ1) => (testD Γ1 x).bind fun t => if t then some (x, Γ1) else ev fs b Γ1
  | .not a, Γ => (ev fs a Γ).bind fun (x, Γ1) => (testD Γ1 x).map fun t => (.fz (.bl (!t)), Γ1)
  | .ite c a b, Γ => (ev fs c Γ).bind fun (x, Γ1) => (testD Γ1 x).bind fun t => if t then ev fs a Γ1 else ev fs b Γ1
  | .lst es, Γ => (evs fs es Γ).bind fun (xs, Γ1) => (fres xs Γ1).bind fun (ds, Γ2) => if ds.length ≤ sizeLine then some (.nw (.lst ds), Γ2) else none
  | .tup es, Γ => (evs fs es Γ).bind fun (xs, Γ1) => (fres xs Γ1).bind fun (ds, Γ2) => if ds.length ≤ sizeLine then some (.fz (.tup ds), Γ2) else none
  | .ix a b, Γ => (ev fs a Γ).bind fun (x, Γ1) => (ev fs b Γ1).bind fun (y, Γ2) => (datum Γ2 x).bind fun d => (datum Γ2 y).bind fun e => (ixD d e).map fun r => (.fz r, Γ2)
  | .slc a lo hi, Γ => (ev fs a Γ).bind fun (x, Γ1) => (evs fs lo Γ1).bind fun (ys, Γ2) => (datums Γ2 ys).bind fun l => (evs fs hi Γ2).bind fun (zs, Γ3) => (datum Γ3 x).bind fun d => (datums Γ3 zs).bind fun h =>
      (slO l).bind fun lo' => (slO h).bind fun hi' => (slcD d lo' hi').map fun r => (r, Γ3)
  | .call k es, Γ => (evs fs es Γ).bind fun (xs, Γ1) => (fs[k]?).bind fun F => (argSs Γ1 xs).bind fun as => if nodupB (ownIx Γ1 xs) then (F (as.map some)).bind fun (r, os) => match r with
      | .sl _ => none
      | r => some (r, putOuts Γ1 xs os Γ1)
    else none
  | .bi b es, Γ => (evs fs es Γ).bind fun (xs, Γ1) => (datums Γ1 xs).bind fun ds => (biD b ds).map fun r => (r, Γ1)
  | .comp own tg ik its cond elt, Γ => (evs fs its Γ).bind fun (xs, Γ1) => (iterD ik xs Γ1).bind fun (ds, Γ2) =>
      if plainIx Γ2 own && decide (ds.length ≤ sizeLine) && (tgIx tg).all (fun i => own.contains i) then
        (compLoop own tg (evc fs cond) (ev fs elt) ds [] (wipeG Γ2 own)).map fun (acc, Γ3) => (.nw (.lst acc), restG Γ2 Γ3 own)
      else none
  | .fld cs a nm, Γ => (ev fs a Γ).bind fun (x, Γ1) => (datum Γ1 x).bind fun d => (fldD cs d nm).map fun r => (.fz r, Γ1)
  | .meth c nm k o es, Γ => (ev fs o Γ).bind fun (x, Γ0) => (fre Γ0 x).bind fun (d, Γ1) => if isObj c d && !(hasF nm d) then (evs fs es Γ1).bind fun (ys, Γ2) => (fs[k]?).bind fun F => callD F (.fz d :: ys) Γ2 else none
  | .mk c k es, Γ => (evs fs es Γ).bind fun (ys, Γ1) => (fs[k]?).bind fun F => mkD F c ys Γ1
  | .own o c k a b, Γ => (ev fs a Γ).bind fun (x, Γ1) => (ev fs b Γ1).bind fun (y, Γ2) => (datum Γ2 x).bind fun d => (datum Γ2 y).bind fun e =>
      if isObj c (selfO o d e).1 then (fre Γ2 x).bind fun (d', Γ3) => (fre Γ3 y).bind fun (e', Γ4) => if isObj c (selfO o d' e').1 && okO o c (selfO o d' e').2 then (fs[k]?).bind fun F => (callD F [.fz (selfO o d' e').1, .fz (selfO o d' e').2] Γ4).bind fun (r, Γ5) => (postO o r).map fun r' => (r', Γ5) else none
      else (plainO o d e).map fun r => (r, Γ2)
  | .lenO c k a, Γ => (ev fs a Γ).bind fun (x, Γ1) => (datum Γ1 x).bind fun d =>
      if isObj c d then (fre Γ1 x).bind fun (_, Γ2) => (fs[k]?).bind fun F => (callD F [.fz d] Γ2).bind fun (r, Γ3) => match r with
        | .fz (.int n) => if lenOk n then some (.fz (.int n), Γ3) else none
        | _ => none
      else (biD .len [d]).map fun r => (r, Γ1)
  | .isc cs c a, Γ => (ev fs a Γ).bind fun (x, Γ1) => (datum Γ1 x).bind fun d => (iscD cs c d).map fun b => (.fz (.bl b), Γ1)
  | .callp k p es, Γ => (evs fs es Γ).bind fun (xs, Γ1) => (fs[k]?).bind fun F => if permOk p xs.length then callD F (permL p xs) Γ1 else none
  | .mkp c k p es, Γ => (evs fs es Γ).bind fun (xs, Γ1) => (fs[k]?).bind fun F => if permOk p xs.length then mkD F c (permL p xs) Γ1 else none
  | .chain3 o1 o2 o3 a b c d, Γ => (ev fs a Γ).bind fun (x, Γ1) => (ev fs b Γ1).bind fun (y, Γ2) => (datum Γ2 x).bind fun dx => (datum Γ2 y).bind fun dy => (cmpD o1 dx dy).bind fun r =>
      if r then (ev fs c Γ2).bind fun (z, Γ3) => (datum Γ3 y).bind fun dy => (datum Γ3 z).bind fun dz => (cmpD o2 dy dz).bind fun r =>
        if r then (ev fs d Γ3).bind fun (u, Γ4) => (datum Γ4 z).bind fun dz => (datum Γ4 u).bind fun du => (cmpD o3 dz du).map fun r => (.fz (.bl r), Γ4)
        else some (.fz (.bl false), Γ3)
      else some (.fz (.bl false), Γ2)
  | .rev a, Γ => (ev fs a Γ).bind fun (x, Γ1) => (datum Γ1 x).bind fun d => (revD d).map fun r => (.nw r, Γ1)
  | .dct, Γ => some (.fz .dct, Γ)
  | .tne c k a b, Γ => (ev fs a Γ).bind fun (x, Γ1) => (ev fs b Γ1).bind fun (y, Γ2) => (datum Γ2 x).bind fun d => (datum Γ2 y).bind fun e => (tupOf d).bind fun ds => (tupOf e).bind fun es => (fs[k]?).bind fun F => if tneD F c ds es then some (.fz (.bl false), Γ2) else none
  | .rngl a b, Γ => (ev fs a Γ).bind fun (x, Γ1) => (ev fs b Γ1).bind fun (y, Γ2) => (datum Γ2 x).bind fun d => (datum Γ2 y).bind fun e => (rnglD d e).map fun ds => (.nw (.lst ds), Γ2)
  | .mxd m a d, Γ => (ev fs a Γ).bind fun (x, Γ1) => (ev fs d Γ1).bind fun (y, Γ2) => (datum Γ2 x).bind fun dx => (datum Γ2 y).bind fun dy => (mxdD m dx dy).map fun r => (.fz r, Γ2)
  | .cnt a b, Γ => (ev fs a Γ).bind fun (x, Γ1) => (datum Γ1 x).bind fun d0 => if isLD d0 then (ev fs b Γ1).bind fun (y, Γ2) => (datum Γ2 x).bind fun dx => (datum Γ2 y).bind fun dy => (cntD dx dy).map fun r => (.fz r, Γ2) else none
  | .pop i, Γ => (popD Γ i).map fun (d, c) => (.fz d, Γ.set i (some (c, true)))
  | .idx a b, Γ => (ev fs a Γ).bind fun (x, Γ1) => (datum Γ1 x).bind fun d0 => if isLD d0 then (ev fs b Γ1).bind fun (y, Γ2) => (datum Γ2 x).bind fun dx => (datum Γ2 y).bind fun dy => (idxD dx dy).map fun r => (.fz r, Γ2) else none
  | .shr a, Γ => (ev fs a Γ).bind fun (x, Γ1) => (fre Γ1 x).map fun (d, Γ2) => (.fz d, Γ2)
  | .inO c k c2 k2 a b, Γ => (ev fs a Γ).bind fun (x, Γ1) => (ev fs b Γ1).bind fun (y, Γ2) => (fre Γ2 x).bind fun (d, Γ3) => (fre Γ3 y).bind fun (e, Γ4) => (lstOf e).bind fun es => (fs[k]?).bind fun F => (fs[k2]?).bind fun F2 => if isObj c d && es.all (nqD F F2 c2 d) then some (.fz (.bl false), Γ4) else none
  | .dget a b, Γ => (ev fs a Γ).bind fun (x, Γ1) => (ev fs b Γ1).bind fun (y, Γ2) => (datum Γ2 x).bind fun d => (datum Γ2 y).bind fun e => (dgetD d e).map fun r => (.fz r, Γ2)
  | .din a b, Γ => (ev fs a Γ).bind fun (x, Γ1) => (ev fs b Γ1).bind fun (y, Γ2) => (datum Γ2 x).bind fun d => (datum Γ2 y).bind fun e => (dinD d e).map fun r => (.fz (.bl r), Γ2)
  | .ownx o c k a b, Γ => (ev fs a Γ).bind fun (x, Γ1) => (ev fs b Γ1).bind fun (y, Γ2) => (fre Γ2 x).bind fun (d, Γ3) => (fre Γ3 y).bind fun (e, Γ4) => if isObj c d && okO o c e then (fs[k]?).bind fun F => callD F [.fz d, .fz e] Γ4 else none
  | .mkx c k es, Γ => (evs fs es Γ).bind fun (ys, Γ1) => (fs[k]?).bind fun F => mkX F c ys Γ1
  | .xis all cs i, Γ => (xisD all cs (Γ.getD i none)).map fun b => (.fz (.bl b), Γ)
  | .xfld all i nm, Γ => (xfldD all nm (Γ.getD i none)).map fun r => (.fz r, Γ)
  | .said d0 sd a, Γ => (ev fs a Γ).bind fun (x, Γ1) => (saidD d0 sd x).map fun d => (.fz d, Γ1)
  | .comp2 own tg ik its cond own1 tg1 n cond1 elt, Γ => (evs fs its Γ).bind fun (xs, Γ1) => (iterD ik xs Γ1).bind fun (ds, Γ2) =>
      if plainIx Γ2 own && (tgIx tg).all (fun i => own.contains i) && (tgIx tg1).all (fun i => own1.contains i) && own1.all (fun i => own.contains i) then
        (compLoop2 own tg (evc fs cond) (fun Γ => (ev fs n Γ).bind fun (x, Γ1) => (datum Γ1 x).bind fun d => (rngI d).map fun ds => (ds, Γ1)) own1 tg1 (evc fs cond1) (ev fs elt) ds [] (wipeG Γ2 own)).map fun (acc, Γ3) => (.nw (.lst acc), restG Γ2 Γ3 own)
      else none
  | .sem F, Γ => F fs Γ
def evs (fs : List FS) : List E → Ct → Option (List RV × Ct)
  | [], Γ => some ([], Γ)
  | e :: es, Γ => (ev fs e Γ).bind fun (x, Γ1) => (evs fs es Γ1).map fun (xs, Γ2) => (x :: xs, Γ2)
def evc (fs : List FS) : List E → Ct → Option (Bool × Ct)
  | [], Γ => some (true, Γ)
  | [e], Γ => (ev fs e Γ).bind fun (x, Γ1) => (testD Γ1 x).map fun t => (t, Γ1)
  | _, _ => none
end

/-! ### statements -/
/-- what is done with the value of a call that may raise -/
inductive XDst where
  | drop | asg (tg : Tg) | asgO (i : Nat) | ret
inductive Out where
  | nx (Γ : Ct) | rt (r : RV) (Γ : Ct) | bk (Γ : Ct) | ct (Γ : Ct) | xc (c : Nat) (ks : List Str) (ds : List D) (Γ : Ct)
inductive S where
  | stuck | pass | brk | cont | retN
  | asg (tg : Tg) (e : E)
  | asgO (i : Nat) (e : E)
  | par (is : List (Nat × Bool)) (es : List E)
  | expr (e : E)
  | app (i : Nat) (e : E)
  | ext (i : Nat) (e : E)
  | seti (i : Nat) (k e : E)
  | ret (e : E)
  | ite (c : E) (a b : List S)
  | whl (c : E) (b : List S)
  | for_ (tg : Tg) (ik : IK) (its : List E) (b : List S)
  | setf (c : Nat) (i : Nat) (nm : Str) (e : E)
  | xapp (a : E) (d : D)
  | grow (c i : Nat) (nm : Str) (e0 : E) (tg : Tg) (e1 e2 : E) (k : Nat) (es : List E)
  | rse (c : Nat) (ks : List Str) (es : List E)
  | xex (e : E) (k : XDst)
  | try_ (e : E) (all : List Nat) (i : Nat) (b : List S)
  | sem (is : List Nat) (F : List FS → Ct → Option Out)

def disjB (xs ys : List Nat) : Bool := xs.all fun x => !(ys.contains x)
def forLoop (tg : Tg) (body : Ct → Option Out) : List D → Ct → Option Out
  | [], Γ => some (.nx Γ)
  | d :: ds, Γ => (asgT tg d Γ).bind fun Γ1 => (body Γ1).bind fun o => match o with
    | .nx Γ2 => forLoop tg body ds Γ2
    | .ct Γ2 => forLoop tg body ds Γ2
    | .bk Γ2 => some (.nx Γ2)
    | .rt r Γ2 => some (.rt r Γ2)
    | .xc c ks ds Γ2 => some (.xc c ks ds Γ2)
def whlLoop (c : Ct → Option (Bool × Ct)) (body : Ct → Option Out) : Nat → Ct → Option Out
  | 0, _ => none
  | n + 1, Γ => (c Γ).bind fun (b, Γ1) => if b then (body Γ1).bind fun o => match o with
    | .nx Γ2 => whlLoop c body n Γ2
    | .ct Γ2 => whlLoop c body n Γ2
    | .bk Γ2 => some (.nx Γ2)
    | .rt r Γ2 => some (.rt r Γ2)
    | .xc c ks ds Γ2 => some (.xc c ks ds Γ2)
   else some (.nx Γ1)
def fuel : Nat := 1000000000
def nrf : RV → Bool
  | .fz (.ref _) => false
  | _ => true
/-- the values of a parallel assignment, one after another: plain ones, but for new ones that are to be owned; then they are stored -/
def evn (fs : List FS) : List (Nat × Bool) → List E → Ct → Option (List RV × Ct)
  | [], [], Γ => some ([], Γ)
  | (i, b) :: is, e :: es, Γ => (ev fs e Γ).bind fun (x, Γ1) => match b, x with
    | true, .nw d => (evn fs is es Γ1).bind fun (ys, Γ2) => if ys.all nrf then some (.nw d :: ys, Γ2) else none
    | _, x => (fre Γ1 x).bind fun (d, Γ2) => (evn fs is es Γ2).map fun (ys, Γ3) => (.fz d :: ys, Γ3)
  | _, _, _ => none
def parS : List (Nat × Bool) → List RV → Ct → Option Ct
  | [], [], Γ => some Γ
  | (i, _) :: is, .nw d :: xs, Γ => if i < Γ.length then parS is xs (Γ.set i (some (d, true))) else none
  | (i, _) :: is, .fz d :: xs, Γ => if i < Γ.length then parS is xs (Γ.set i (some (d, false))) else none
  | _, _, _ => none
def isLst (Γ : Ct) (i : Nat) : Bool := match Γ[i]? with
  | some (some (.lst _, _)) => true
  | _ => false
def appD : D → D → Option D
  | .lst xs, d => if xs.length < sizeLine then some (.lst (xs ++ [d])) else none
  | _, _ => none
def extD : D → D → Option D
  | .lst xs, .lst ys => if xs.length + ys.length ≤ sizeLine then some (.lst (xs ++ ys)) else none
  | _, _ => none
def setD : D → D → D → Option D
  | .lst xs, .int k, d => (ixN xs.length k).map fun j => .lst (xs.set j d)
  | _, _, _ => none
def putL (nm : Str) (d : D) : List Str → List D → List Str × List D
  | k :: ks, x :: xs => if k = nm then (k :: ks, d :: xs) else let r := putL nm d ks xs; (k :: r.1, x :: r.2)
  | _, _ => ([nm], [d])
def putD (c0 : Nat) : D → Str → D → Option D
  | .obj c ks ds, nm, d => if c = c0 ∧ ks.length < 1000 ∧ ks.length = ds.length then some (.obj c (putL nm d ks ds).1 (putL nm d ks ds).2) else none
  | _, _, _ => none
/-- no error in the frame -/
def noG (Γ : Ct) : Bool := Γ.all fun s => match s with
  | some (d, _) => noE d
  | none => true
/-- an exception's fields -/
def excOk (ks : List Str) (ds : List D) : Bool := decide (ks.length = ds.length)
/-- a list in a field grows: its last item goes to a call, whose answer is appended -/
def growLoop (tg : Tg) (F : FS) (el : Ct → Option (List RV × Ct)) : List D → List D → Ct → Option (List D × Ct)
  | [], L, Γ => some (L, Γ)
  | d :: rest, L, Γ => (asgT tg d Γ).bind fun Γ1 => (L.getLast?).bind fun l => (el Γ1).bind fun (ys, Γ2) => (callD F (.fz l :: ys) Γ2).bind fun (r, Γ3) => (fre Γ3 r).bind fun (y, Γ4) => if L.length < sizeLine then growLoop tg F el rest (L ++ [y]) Γ4 else none
mutual
def ex (fs : List FS) (pn : List Nat) : S → Ct → Option Out
  | .stuck, _ => none
  | .pass, Γ => some (.nx Γ)
  | .brk, Γ => some (.bk Γ)
  | .cont, Γ => some (.ct Γ)
  | .retN, Γ => some (.rt (.fz .non) Γ)
  | .asg tg e, Γ => (ev fs e Γ).bind fun (x, Γ1) => (fre Γ1 x).bind fun (d, Γ2) => if disjB (tgIx tg) pn then (asgT tg d Γ2).map .nx else none
  | .asgO i e, Γ => (ev fs e Γ).bind fun (x, Γ1) => match x with
    | .nw d => if i < Γ1.length ∧ disjB [i] pn = true then some (.nx (Γ1.set i (some (d, true)))) else none
    | x => (fre Γ1 x).bind fun (d, Γ2) => if i < Γ2.length ∧ disjB [i] pn = true then some (.nx (Γ2.set i (some (d, false)))) else none
  | .par is es, Γ => if disjB (is.map (·.1)) pn then (evn fs is es Γ).bind fun (ys, Γ2) => (parS is ys Γ2).map .nx else none
  | .expr e, Γ => (ev fs e Γ).map fun (_, Γ1) => .nx Γ1
  | .app i e, Γ => if isLst Γ i then (ev fs e Γ).bind fun (x, Γ1) => (fre Γ1 x).bind fun (d, Γ2) => match Γ2[i]? with
    | some (some (c, true)) => (appD c d).map fun c' => .nx (Γ2.set i (some (c', true)))
    | _ => none
   else none
  | .ext i e, Γ => if isLst Γ i then (ev fs e Γ).bind fun (x, Γ1) => (datum Γ1 x).bind fun d => match Γ1[i]? with
    | some (some (c, true)) => (extD c d).map fun c' => .nx (Γ1.set i (some (c', true)))
    | _ => none
   else none
  | .seti i k e, Γ => (ev fs e Γ).bind fun (x, Γ1) => (fre Γ1 x).bind fun (d, Γ2) => if isLst Γ2 i then (ev fs k Γ2).bind fun (y, Γ3) => (datum Γ3 y).bind fun kd => match Γ3[i]? with
    | some (some (c, true)) => (setD c kd d).map fun c' => .nx (Γ3.set i (some (c', true)))
    | _ => none
   else none
  | .ret e, Γ => (ev fs e Γ).map fun (x, Γ1) => .rt x Γ1
  | .ite c a b, Γ => (ev fs c Γ).bind fun (x, Γ1) => (testD Γ1 x).bind fun t => if t then exs fs pn a Γ1 else exs fs pn b Γ1
  | .whl c b, Γ => whlLoop (fun Γ => (ev fs c Γ).bind fun (x, Γ1) => (testD Γ1 x).map fun t => (t, Γ1)) (exs fs pn b) fuel Γ
  | .for_ tg ik its b, Γ => (evs fs its Γ).bind fun (xs, Γ1) => (iterD ik xs Γ1).bind fun (ds, Γ2) => if disjB (tgIx tg) pn then forLoop tg (exs fs pn b) ds Γ2 else none
  | .setf c0 i nm e, Γ => (ev fs e Γ).bind fun (x, Γ1) => (fre Γ1 x).bind fun (d, Γ2) => match Γ2[i]? with
    | some (some (c, true)) => (putD c0 c nm d).map fun c' => .nx (Γ2.set i (some (c', true)))
    | _ => none
  | .xapp a d, Γ => (ev fs a Γ).bind fun (x, Γ1) => match x with
    | .nw (.lst xs) => if xs.length < sizeLine ∧ flatD d = true then some (.nx Γ1) else none
    | _ => none
  | .grow c i nm e0 tg e1 e2 k es, Γ => (ev fs e0 Γ).bind fun (x, Γ1) => match x, Γ1[i]? with
    | .nw (.lst L0), some (some (.obj c1 ks ds, true)) =>
      if c1 = c ∧ ks.length < 900 ∧ ks.length = ds.length ∧ ks.contains nm = false ∧ disjB (tgIx tg) (i :: pn) = true then
        (evs fs [e1, e2] (Γ1.set i none)).bind fun (xs, Γ2) => (iterD .zip xs Γ2).bind fun (zs, Γ3) => (fs[k]?).bind fun F =>
          (growLoop tg F (evs fs es) zs L0 Γ3).map fun (L, Γ4) => .nx (Γ4.set i (some (.obj c (ks ++ [nm]) (ds ++ [.lst L]), true)))
      else none
    | _, _ => none
  | .rse c ks es, Γ => (evs fs es Γ).bind fun (xs, Γ1) => (fres xs Γ1).bind fun (ds, Γ2) => if excOk ks ds then some (.xc c ks ds Γ2) else none
  | .xex e k, Γ => (ev fs e Γ).bind fun (x, Γ1) => match x with
    | .fz (.exc c ks ds) => some (.xc c ks ds Γ1)
    | x => match k with
      | .drop => some (.nx Γ1)
      | .ret => some (.rt x Γ1)
      | .asg tg => (fre Γ1 x).bind fun (d, Γ2) => if disjB (tgIx tg) pn then (asgT tg d Γ2).map .nx else none
      | .asgO i => match x with
        | .nw d => if i < Γ1.length ∧ disjB [i] pn = true then some (.nx (Γ1.set i (some (d, true)))) else none
        | x => (fre Γ1 x).bind fun (d, Γ2) => if i < Γ2.length ∧ disjB [i] pn = true then some (.nx (Γ2.set i (some (d, false)))) else none
  | .try_ e all i b, Γ => (ev fs e Γ).bind fun (x, Γ1) => match x with
    | .fz (.exc c ks ds) => if all.contains c ∧ disjB [i] pn = true ∧ i < Γ1.length then (exs fs pn b (Γ1.set i (some (.err c ks ds, false)))).bind fun o => match o with
      | .nx Γ2 => if noG (Γ2.set i none) then some (.nx (Γ2.set i none)) else none
      | _ => none
     else none
    | _ => some (.nx Γ1)
  | .sem is F, Γ => if disjB is pn then F fs Γ else none
def exs (fs : List FS) (pn : List Nat) : List S → Ct → Option Out
  | [], Γ => some (.nx Γ)
  | s :: ss, Γ => (ex fs pn s Γ).bind fun o => match o with
    | .nx Γ1 => exs fs pn ss Γ1
    | o => some o
end
/-- the slots of the arguments that are handed over -/
def ownPs : Nat → Ct → List Nat
  | _, [] => []
  | n, some (_, true) :: r => n :: ownPs (n + 1) r
  | n, _ :: r => ownPs (n + 1) r
/-- what comes back at the arguments -/
def outsOf : Ct → Ct → Ct
  | some (_, true) :: r, x :: xs => x :: outsOf r xs
  | y :: r, _ :: xs => y :: outsOf r xs
  | _, _ => []
def finish (np : Nat) (G0 : Ct) : Out → Option (RV × Ct)
  | .nx Γ => some (.fz .non, outsOf G0 Γ)
  | .rt (.fz d) Γ => some (.fz d, outsOf G0 Γ)
  | .rt (.nw d) Γ => some (.nw d, outsOf G0 Γ)
  | .rt (.sl i) Γ => match Γ[i]? with
    | some (some (d, true)) => if i < np then some (.fz d, outsOf G0 (Γ.set i (some (d, false)))) else some (.nw d, outsOf G0 Γ)
    | some (some (d, false)) => some (.fz d, outsOf G0 Γ)
    | _ => none
  | _ => none
/-- a def: np parameters, n slots -/
def runF (fs : List FS) (np n : Nat) (body : List S) : FS := fun G0 =>
  if G0.length = np then (exs fs (ownPs 0 G0) body (G0 ++ List.replicate (n - np) none)).bind (finish np G0) else none
end DV

namespace DV
open PySem L2

/-! ### results -/
def Val (g : Gx) (Bn : Addr → Prop) (Ow : List Addr) (H : Hp) (σ : St) (Γ : Ct) : RV → V → Prop
  | .fz d, v => Rep g (Av Bn Ow) H d v
  | .nw d, v => ∃ a, v = .ref a ∧ a ∈ Ow ∧ OwnA g (Av Bn Ow) H d a ∧ ∀ (i : Nat) e, Γ[i]? = some (some (e, true)) → σ[i]? ≠ some (some (.ref a))
  | .sl i, v => σ[i]? = some (some v)
def RV.dn : RV → RV
  | .nw d => .fz d
  | r => r
theorem datum_dn (Γ : Ct) (r : RV) : datum Γ r.dn = datum Γ r := by cases r <;> rfl
theorem fre_dn (Γ : Ct) (r : RV) : fre Γ r.dn = fre Γ r := by cases r <;> rfl
/-- a value that can be read: its top may be owned -/
def Rdb (g : Gx) (A : Addr → Prop) (H : Hp) (d : D) (v : V) : Prop :=
  match d with
  | .lst ds => ∃ a vs, v = .ref a ∧ H a = some (.lst vs) ∧ Reps g A H ds vs
  | .obj c ks ds => ∃ a dx vs, v = .ref a ∧ ks.length = vs.length ∧ H a = some (.ins (g.cl c) dx (ks.zip vs)) ∧ Reps g A H ds vs
  | d => Rep g A H d v
section
variable {g : Gx} {Bn : Addr → Prop} {Ow Ow' : List Addr} {H H' : Hp} {σ : St} {Γ Γ' : Ct} {A : Addr → Prop}
theorem Rep.rdb {d : D} {v : V} (h : Rep g A H d v) : Rdb g A H d v := by
  cases d with
  | lst ds => simp only [Rep] at h; obtain ⟨a, vs, e, _, s, r⟩ := h; exact ⟨a, vs, e, s, r⟩
  | obj c ks ds => simp only [Rep] at h; obtain ⟨a, dx, vs, e, _, l, s, r⟩ := h; exact ⟨a, dx, vs, e, l, s, r⟩
  | _ => exact h
theorem OwnA.rdb {d : D} {a : Addr} (h : OwnA g A H d a) : Rdb g A H d (.ref a) := by
  cases d with
  | lst ds => obtain ⟨vs, e, r⟩ := h; exact ⟨a, vs, rfl, e, r⟩
  | obj c ks ds => obtain ⟨dx, vs, l, e, r⟩ := h; exact ⟨a, dx, vs, rfl, l, e, r⟩
  | _ => exact h.elim
theorem Rdb.same {d : D} {v : V} (h : Rdb g A H d v) (s : Same H H') : Rdb g A H' d v := by
  cases d with
  | lst ds => obtain ⟨a, vs, e, s1, r⟩ := h; exact ⟨a, vs, e, s _ _ s1, r.same s⟩
  | obj c ks ds => obtain ⟨a, dx, vs, e, l, s1, r⟩ := h; exact ⟨a, dx, vs, e, l, s _ _ s1, r.same s⟩
  | _ => exact Rep.same h s
theorem Val.rdb {r : RV} {v : V} {d : D} (rs : RS g Bn Ow H σ Γ) (h : Val g Bn Ow H σ Γ r v) (e : datum Γ r = some d) : Rdb g (Av Bn Ow) H d v := by
  cases r with
  | fz x => simp only [datum, Option.some.injEq] at e; subst e; exact Rep.rdb h
  | nw x => simp only [datum, Option.some.injEq] at e; subst e; obtain ⟨a, rfl, _, o, _⟩ := h; exact o.rdb
  | sl i =>
    simp only [datum] at e
    have h : σ[i]? = some (some v) := h
    split at e
    · rename_i x b q
      cases e
      cases b with
      | false => obtain ⟨w, e1, r1⟩ := rs.slot i _ q; rw [h] at e1; cases e1; exact r1.rdb
      | true => obtain ⟨a, e1, _, o⟩ := rs.own i _ q; rw [h] at e1; cases e1; exact o.rdb
    · cases e
/-- pending values over a step -/
theorem Val.step {r : RV} {v : V} (h : Val g Bn Ow H σ Γ r.dn v) (s : Stp Ow H Ow' H') (rs : RS g Bn Ow' H' σ Γ') : Val g Bn Ow' H' σ Γ' r.dn v := by
  cases r with
  | fz x => exact Rep.step h s rs
  | nw x => exact Rep.step h s rs
  | sl i => exact h
/-- fewer owned -/
theorem RS.less (rs : RS g Bn Ow H σ Γ) (k : ∀ a, a ∈ Ow' → a ∈ Ow) (ks : ∀ (i : Nat) d a, Γ[i]? = some (some (d, true)) → σ[i]? = some (some (.ref a)) → a ∈ Ow → a ∈ Ow') : RS g Bn Ow' H σ Γ := by
  have kk : ∀ a, Av Bn Ow' a → Av Bn Ow a := fun a h => h.elim .inl fun z => .inr (k a z)
  refine ⟨rs.len, fun i d h => ?_, fun i d h => ?_, rs.dist, fun a h => rs.trl a (kk a h), fun a h z => rs.sep a h (k a z), fun a h => rs.kf a (kk a h), rs.tabs⟩
  · obtain ⟨v, e, r⟩ := rs.slot i d h; exact ⟨v, e, rep_less kk r⟩
  · obtain ⟨a, e, m, r⟩ := rs.own i d h; exact ⟨a, e, ks i d a h e m, own_less kk r⟩
theorem stp_less (k : ∀ a, a ∈ Ow' → a ∈ Ow) : Stp Ow H Ow' H := ⟨fun _ _ h _ _ => h, fun a h => .inl (k a h)⟩
theorem mem_ne {a b : Addr} (h : a ∈ Ow.filter (fun x => decide (x ≠ b))) : a ∈ Ow ∧ a ≠ b := by
  have := List.mem_filter.mp h
  exact ⟨this.1, of_decide_eq_true this.2⟩
theorem ne_mem {a b : Addr} (h : a ∈ Ow) (n : a ≠ b) : a ∈ Ow.filter (fun x => decide (x ≠ b)) := List.mem_filter.mpr ⟨h, decide_eq_true n⟩
/-- a value becomes a plain one -/
theorem fre_ok {r : RV} {v : V} {d : D} (rs : RS g Bn Ow H σ Γ) (h : Val g Bn Ow H σ Γ r v) (e : fre Γ r = some (d, Γ')) : ∃ Ow', Stp Ow H Ow' H ∧ RS g Bn Ow' H σ Γ' ∧ Rep g (Av Bn Ow') H d v := by
  cases r with
  | fz x => simp only [fre, Option.some.injEq, Prod.mk.injEq] at e; obtain ⟨rfl, rfl⟩ := e; exact ⟨Ow, .refl _ _, rs, h⟩
  | nw x =>
    simp only [fre, Option.some.injEq, Prod.mk.injEq] at e; obtain ⟨rfl, rfl⟩ := e
    obtain ⟨a, rfl, m, o, no⟩ := h
    have kk : ∀ b, b ∈ Ow.filter (fun x => decide (x ≠ a)) → b ∈ Ow := fun b z => (mem_ne z).1
    refine ⟨Ow.filter (fun x => decide (x ≠ a)), stp_less kk, rs.less kk (fun i d b q1 q2 q3 => ne_mem q3 fun z => ?_), (own_less (fun b z => z.elim .inl fun z => .inr (kk b z)) o).rep fun z => ?_⟩
    · subst z; exact no i d q1 q2
    · rcases z with z | z
      · exact rs.sep a z m
      · exact (mem_ne z).2 rfl
  | sl i =>
    simp only [fre] at e
    have h : σ[i]? = some (some v) := h
    split at e
    · rename_i x q
      simp only [Option.some.injEq, Prod.mk.injEq] at e; obtain ⟨rfl, rfl⟩ := e
      obtain ⟨a, e1, m, o⟩ := rs.own i _ q
      rw [h] at e1; cases e1
      have kk : ∀ b, b ∈ Ow.filter (fun x => decide (x ≠ a)) → b ∈ Ow := fun b z => (mem_ne z).1
      have ka : ∀ b, Av Bn (Ow.filter (fun x => decide (x ≠ a))) b → Av Bn Ow b := fun b z => z.elim .inl fun z => .inr (kk b z)
      have hil : i < Γ.length := (List.getElem?_eq_some_iff.mp q).1
      have rp : Rep g (Av Bn (Ow.filter (fun x => decide (x ≠ a)))) H x (.ref a) := (own_less ka o).rep fun z => by
        rcases z with z | z
        · exact rs.sep a z m
        · exact (mem_ne z).2 rfl
      refine ⟨Ow.filter (fun x => decide (x ≠ a)), stp_less kk, ⟨by rw [List.length_set]; exact rs.len, fun j d' h' => ?_, fun j d' h' => ?_, fun j k d1 d2 b h1 h2 h3 h4 => ?_, fun b z => rs.trl b (ka b z), fun b z w => rs.sep b z (kk b w), fun b z => rs.kf b (ka b z), rs.tabs⟩, rp⟩
      · by_cases hj : i = j
        · subst hj
          rw [List.getElem?_set_self hil] at h'
          cases h'
          exact ⟨_, h, rp⟩
        · rw [List.getElem?_set_ne hj] at h'
          obtain ⟨w, e2, r2⟩ := rs.slot j d' h'
          exact ⟨w, e2, rep_less ka r2⟩
      · by_cases hj : i = j
        · subst hj
          rw [List.getElem?_set_self hil] at h'
          cases h'
        · rw [List.getElem?_set_ne hj] at h'
          obtain ⟨b, e2, m2, r2⟩ := rs.own j d' h'
          exact ⟨b, e2, ne_mem m2 fun z => hj (by subst z; exact rs.dist i j _ _ _ q h' h e2), own_less ka r2⟩
      · have ne1 : i ≠ j := fun z => by subst z; rw [List.getElem?_set_self hil] at h1; cases h1
        have ne2 : i ≠ k := fun z => by subst z; rw [List.getElem?_set_self hil] at h2; cases h2
        rw [List.getElem?_set_ne ne1] at h1
        rw [List.getElem?_set_ne ne2] at h2
        exact rs.dist j k _ _ _ h1 h2 h3 h4
    · rename_i x q
      simp only [Option.some.injEq, Prod.mk.injEq] at e; obtain ⟨rfl, rfl⟩ := e
      obtain ⟨w, e1, r1⟩ := rs.slot i _ q
      rw [h] at e1; cases e1
      exact ⟨Ow, .refl _ _, rs, r1⟩
    · cases e
theorem dn_ok {r : RV} {v : V} (rs : RS g Bn Ow H σ Γ) (h : Val g Bn Ow H σ Γ r v) : ∃ Ow', Stp Ow H Ow' H ∧ RS g Bn Ow' H σ Γ ∧ Val g Bn Ow' H σ Γ r.dn v := by
  cases r with
  | fz x => exact ⟨Ow, .refl _ _, rs, h⟩
  | sl i => exact ⟨Ow, .refl _ _, rs, h⟩
  | nw x => exact fre_ok rs h rfl
/-- a new object is laid, and owned -/
theorem RS.add {p : Addr} (rs : RS g Bn Ow H σ Γ) (s : Same H H') (np : H p = none) (hp : LI H' p) (hk : g.K.lookup p = none) : RS g Bn (p :: Ow) H' σ Γ := by
  have vs : ∀ a, Vst g (Av Bn Ow) H a → (∀ o, H a = some o → nT o → H' a = some o) ∧ ¬ Av Bn (p :: Ow) a := fun a ⟨n, t⟩ => by
    refine ⟨fun o h _ => s a o h, fun z => ?_⟩
    rcases z with z | z
    · exact n (.inl z)
    · rcases List.mem_cons.mp z with z | z
      · subst z
        rcases t with ⟨o, t, _⟩ | ⟨o, t⟩
        · rw [np] at t; cases t
        · rw [hk] at t; cases t
      · exact n (.inr z)
  refine ⟨rs.len, fun i d h => ?_, fun i d h => ?_, rs.dist, fun a h => ?_, fun a h z => ?_, fun a h => ?_, fun q hq => (rs.tabs q hq).ext s⟩
  · obtain ⟨v, e, r⟩ := rs.slot i d h; exact ⟨v, e, rep_mono vs d v r⟩
  · obtain ⟨a, e, m, r⟩ := rs.own i d h
    refine ⟨a, e, List.mem_cons_of_mem _ m, ?_⟩
    cases d with
    | lst ds => obtain ⟨ws, e1, r1⟩ := r; exact ⟨ws, s _ _ e1, reps_mono vs _ _ r1⟩
    | obj c ks ds => obtain ⟨dx, ws, l, e1, r1⟩ := r; exact ⟨dx, ws, l, s _ _ e1, reps_mono vs _ _ r1⟩
    | _ => exact r
  · rcases h with h | h
    · exact (rs.trl a (.inl h)).same s
    · rcases List.mem_cons.mp h with h | h
      · subst h; exact hp
      · exact (rs.trl a (.inr h)).same s
  · rcases List.mem_cons.mp z with z | z
    · subst z; exact rs.trk a (.inl h) np
    · exact rs.sep a h z
  · rcases h with h | h
    · exact rs.kf a (.inl h)
    · rcases List.mem_cons.mp h with h | h
      · subst h; exact hk
      · exact rs.kf a (.inr h)
theorem stp_add {p : Addr} (s : Same H H') (np : H p = none) : Stp Ow H (p :: Ow) H' where
  keep0 := fun a o h _ _ => s a o h
  grow := fun a h => by
    rcases List.mem_cons.mp h with h | h
    · subst h; exact .inr (nw_none np)
    · exact .inl h
theorem same_new {p : Addr} {o : HO} (h : H p = none) : Same H (upd H p o) := fun b x e => by
  rw [upd_ne (ne_of_none e h)]
  exact e
/-- the result of an operation that lays at most one object -/
def Res (g : Gx) (A : Addr → Prop) (H H' : Hp) : RV → V → Prop
  | .fz d, v => Rep g A H' d v
  | .nw d, v => ∃ p, v = .ref p ∧ H p = none ∧ g.K.lookup p = none ∧ OwnA g (fun a => A a ∨ a = p) H' d p
  | .sl _, _ => False
theorem Res.val {r : RV} {v : V} (rs : RS g Bn Ow H σ Γ) (s : Same H H') (h : Res g (Av Bn Ow) H H' r v) :
    ∃ Ow', Stp Ow H Ow' H' ∧ RS g Bn Ow' H' σ Γ ∧ Val g Bn Ow' H' σ Γ r v := by
  cases r with
  | fz d => exact ⟨Ow, Stp.same s, rs.same s, h⟩
  | sl i => exact h.elim
  | nw d =>
    obtain ⟨p, rfl, np, hk, o⟩ := h
    have hp : LI H' p := by
      cases d with
      | lst ds => obtain ⟨ws, e1, _⟩ := o; exact .inl ⟨_, e1⟩
      | obj c ks ds => obtain ⟨dx, ws, l, e1, _⟩ := o; exact .inr ⟨_, _, _, e1⟩
      | _ => exact o.elim
    refine ⟨p :: Ow, stp_add s np, rs.add s np hp hk, p, rfl, List.mem_cons_self, own_less (fun a z => ?_) o, fun i e h1 h2 => ?_⟩
    · rcases z with z | z
      · exact .inl (.inl z)
      · rcases List.mem_cons.mp z with z | z
        · exact .inr z
        · exact .inl (.inr z)
    · obtain ⟨a, e2, m, _⟩ := rs.own i e h1
      rw [h2] at e2; cases e2
      exact rs.trk p (.inr m) np
end

/-! ### rules, weakened and with what the state says -/
section
variable {X : Cx}
theorem Inv.kf {pins : List (Addr × Obj)} {σ : St} {H : Hp} {s : Shared} (I : Inv X pins σ H s) : ∀ a o, X.K.lookup a = some o → H a = none := fun a o e => (I.bs a o (I.ok.mod.kin a o e)).2
theorem PE.weak {e : Expr} {t t' : TE} (h : PE X e t) (k : ∀ σ H Q, t' σ H Q → t σ H Q) : PE X e t' := ⟨fun pins s σ H Q I q => h.run pins s σ H Q I (k σ H Q q)⟩
theorem PE.kf {e : Expr} {t : TE} (h : PE X e t) : PE X e (fun σ H Q => t σ H fun v H' => (∀ a o, X.K.lookup a = some o → H' a = none) → Q v H') :=
  ⟨fun pins s σ H Q I q => thn (h.run pins s σ H _ I q) fun u s1 ⟨v, H1, I1, r, q1⟩ => ⟨v, H1, I1, r, q1 (Inv.kf I1)⟩⟩
theorem PT.weak {e : Expr} {t t' : TT} (h : PT X e t) (k : ∀ σ H Q, t' σ H Q → t σ H Q) : PT X e t' := ⟨fun pins s σ H Q I q => h.run pins s σ H Q I (k σ H Q q)⟩
theorem PA.weak {e : List Expr} {t t' : TA} (h : PA X e t) (k : ∀ σ H Q, t' σ H Q → t σ H Q) : PA X e t' := ⟨fun p pins s σ H Q I q => h.run p pins s σ H Q I (k σ H Q q)⟩
theorem OpR.weak {f : Value → Value → Sem Value} {r r' : R2} (h : OpR X f r) (k : ∀ x y H Q, r' x y H Q → r x y H Q) : OpR X f r' := fun pins s σ H x y v u Q I rx ry q => h pins s σ H x y v u Q I rx ry (k x y H Q q)
theorem OpR.kf {f : Value → Value → Sem Value} {r : R2} (h : OpR X f r) : OpR X f (fun x y H Q => r x y H fun v H' => (∀ a o, X.K.lookup a = some o → H' a = none) → Q v H') := fun pins s σ H x y v u Q I rx ry q =>
  thn (h pins s σ H x y v u _ I rx ry q) fun u s1 ⟨v, H1, I1, r, q1⟩ => ⟨v, H1, I1, r, q1 (Inv.kf I1)⟩
theorem CallR.weak {f : Value} {r r' : List V → Hp → VK → Prop} (h : CallR X f r) (k : ∀ x H Q, r' x H Q → r x H Q) : CallR X f r' := fun pins s σ H x v Q I rx q => h pins s σ H x v Q I rx (k x H Q q)
theorem CallR.kf {f : Value} {r : List V → Hp → VK → Prop} (h : CallR X f r) : CallR X f (fun x H Q => r x H fun v H' => (∀ a o, X.K.lookup a = some o → H' a = none) → Q v H') := fun pins s σ H x v Q I rx q =>
  thn (h pins s σ H x v _ I rx q) fun u s1 ⟨v, H1, I1, r, q1⟩ => ⟨v, H1, I1, r, q1 (Inv.kf I1)⟩
theorem kf_new {K : PySem.W.Frag} {H : Hp} {p : Addr} {o : HO} (kf : ∀ a o, K.lookup a = some o → H a = none) (h : H p = some o) : K.lookup p = none := by
  cases e : K.lookup p with
  | none => rfl
  | some x => rw [kf p x e] at h; cases h
theorem IxR.weak {r r' : R2} (h : IxR X r) (k : ∀ x y H Q, r' x y H Q → r x y H Q) : IxR X r' := fun a b pins s σ H x y v u Q I rx ry q => h a b pins s σ H x y v u Q I rx ry (k x y H Q q)
end
end DV

namespace DV
open PySem L2
/-! ### equality of data -/
mutual
def toPy : D → PyData
  | .non => .none
  | .bl b => .bool b
  | .int i => .int i
  | .str x => .str x
  | .lst ds => .list (toPys ds)
  | .tup ds => .tuple (toPys ds)
  | .obj _ _ _ => .none
  | .scr _ => .none
  | .dct => .none
  | .dic _ _ => .none
  | .exc _ _ _ => .none
  | .err _ _ _ => .none
  | .ref _ => .none
def toPys : List D → List PyData
  | [] => []
  | d :: ds => toPy d :: toPys ds
end
theorem okB_lst {n : Nat} {ds : List D} (h : okB n (.lst ds) = true) : ∃ m, n = m + 1 ∧ ds.all (okB m) = true := by
  cases n with
  | zero => simp [okB] at h
  | succ m => exact ⟨m, rfl, by simpa only [okB] using h⟩
theorem okB_tup {n : Nat} {ds : List D} (h : okB n (.tup ds) = true) : ∃ m, n = m + 1 ∧ ds.all (okB m) = true := by
  cases n with
  | zero => simp [okB] at h
  | succ m => exact ⟨m, rfl, by simpa only [okB] using h⟩
theorem okB_obj {n : Nat} {c : Nat} {ks : List Str} {ds : List D} : okB n (.obj c ks ds) = false := by cases n <;> rfl
theorem okB_scr {n : Nat} {ns : List Int} : okB n (.scr ns) = false := by cases n <;> rfl
theorem okB_dct {n : Nat} : okB n .dct = false := by cases n <;> rfl
theorem okB_dic {n : Nat} {ks : List Int} {ds : List D} : okB n (.dic ks ds) = false := by cases n <;> rfl
theorem okB_exc {n : Nat} {c : Nat} {ks : List Str} {ds : List D} : okB n (.exc c ks ds) = false := by cases n <;> rfl
theorem okB_err {n : Nat} {c : Nat} {ks : List Str} {ds : List D} : okB n (.err c ks ds) = false := by cases n <;> rfl
theorem okB_ref {n : Nat} {k : Nat} : okB n (.ref k) = false := by cases n <;> rfl
mutual
theorem py_lay : ∀ (d : D) (n : Nat), okB n d = true → PyData.canLay0 (toPy d) = true ∧ PyData.depth (toPy d) ≤ n
  | .non, n, h => ⟨rfl, Nat.zero_le _⟩
  | .bl _, n, h => ⟨rfl, Nat.zero_le _⟩
  | .int _, n, h => ⟨rfl, Nat.zero_le _⟩
  | .str x, n, h => by
    have h' : PyData.strOk x = true := by cases n <;> simpa only [okB] using h
    exact ⟨h', Nat.zero_le _⟩
  | .lst ds, n, h => by
    obtain ⟨m, rfl, h⟩ := okB_lst h
    have q := pys_lay ds m h
    exact ⟨by simpa only [toPy, PyData.canLay0] using q.1, by simp only [toPy, PyData.depth]; omega⟩
  | .tup ds, n, h => by
    obtain ⟨m, rfl, h⟩ := okB_tup h
    have q := pys_lay ds m h
    exact ⟨by simpa only [toPy, PyData.canLay0] using q.1, by simp only [toPy, PyData.depth]; omega⟩
  | .obj _ _ _, n, h => by rw [okB_obj] at h; cases h
  | .scr _, n, h => by rw [okB_scr] at h; cases h
  | .dct, n, h => by rw [okB_dct] at h; cases h
  | .dic _ _, n, h => by rw [okB_dic] at h; cases h
  | .exc _ _ _, n, h => by rw [okB_exc] at h; cases h
  | .err _ _ _, n, h => by rw [okB_err] at h; cases h
  | .ref _, n, h => by rw [okB_ref] at h; cases h
theorem pys_lay : ∀ (ds : List D) (n : Nat), ds.all (okB n) = true → PyData.canLayAll0 (toPys ds) = true ∧ PyData.depthAll (toPys ds) ≤ n
  | [], n, h => ⟨rfl, Nat.zero_le _⟩
  | d :: ds, n, h => by
    rw [List.all_cons, Bool.and_eq_true] at h
    have q1 := py_lay d n h.1
    have q2 := pys_lay ds n h.2
    refine ⟨by simp only [toPys, PyData.canLayAll0, q1.1, q2.1]; rfl, ?_⟩
    simp only [toPys, PyData.depthAll]
    omega
end
theorem py_shaped {d : D} (h : okB 12 d = true) : SeqAt.shaped (toPy d) = true := by
  have q := py_lay d 12 h
  unfold SeqAt.shaped
  rw [q.1, decide_eq_true (show PyData.depth (toPy d) ≤ 64 by omega)]
  rfl
mutual
theorem py_eqv : ∀ (d e : D) (n m : Nat), okB n d = true → okB m e = true → PyData.eqv (toPy d) (toPy e) = eqd d e
  | .lst xs, e, n, m, h, h' => by
    obtain ⟨k, rfl, h⟩ := okB_lst h
    cases e with
    | lst ys =>
      obtain ⟨k', rfl, h'⟩ := okB_lst h'
      simp only [toPy, PyData.eqv, eqd]
      exact pys_eqv xs ys k k' h h'
    | obj => rw [okB_obj] at h'; cases h'
    | scr => rw [okB_scr] at h'; cases h'
    | dct => rw [okB_dct] at h'; cases h'
    | dic _ _ => rw [okB_dic] at h'; cases h'
    | exc _ _ _ => rw [okB_exc] at h'; cases h'
    | err _ _ _ => rw [okB_err] at h'; cases h'
    | ref _ => rw [okB_ref] at h'; cases h'
    | _ => simp only [toPy, PyData.eqv, eqd]
  | .tup xs, e, n, m, h, h' => by
    obtain ⟨k, rfl, h⟩ := okB_tup h
    cases e with
    | tup ys =>
      obtain ⟨k', rfl, h'⟩ := okB_tup h'
      simp only [toPy, PyData.eqv, eqd]
      exact pys_eqv xs ys k k' h h'
    | obj => rw [okB_obj] at h'; cases h'
    | scr => rw [okB_scr] at h'; cases h'
    | dct => rw [okB_dct] at h'; cases h'
    | dic _ _ => rw [okB_dic] at h'; cases h'
    | exc _ _ _ => rw [okB_exc] at h'; cases h'
    | err _ _ _ => rw [okB_err] at h'; cases h'
    | ref _ => rw [okB_ref] at h'; cases h'
    | _ => simp only [toPy, PyData.eqv, eqd]
  | .non, e, n, m, h, h' => by
    cases e with
    | obj => rw [okB_obj] at h'; cases h'
    | scr => rw [okB_scr] at h'; cases h'
    | dct => rw [okB_dct] at h'; cases h'
    | dic _ _ => rw [okB_dic] at h'; cases h'
    | exc _ _ _ => rw [okB_exc] at h'; cases h'
    | err _ _ _ => rw [okB_err] at h'; cases h'
    | ref _ => rw [okB_ref] at h'; cases h'
    | _ => simp only [toPy, PyData.eqv, eqd]
  | .bl _, e, n, m, h, h' => by
    cases e with
    | obj => rw [okB_obj] at h'; cases h'
    | scr => rw [okB_scr] at h'; cases h'
    | dct => rw [okB_dct] at h'; cases h'
    | dic _ _ => rw [okB_dic] at h'; cases h'
    | exc _ _ _ => rw [okB_exc] at h'; cases h'
    | err _ _ _ => rw [okB_err] at h'; cases h'
    | ref _ => rw [okB_ref] at h'; cases h'
    | _ => simp only [toPy, PyData.eqv, eqd]
  | .int _, e, n, m, h, h' => by
    cases e with
    | obj => rw [okB_obj] at h'; cases h'
    | scr => rw [okB_scr] at h'; cases h'
    | dct => rw [okB_dct] at h'; cases h'
    | dic _ _ => rw [okB_dic] at h'; cases h'
    | exc _ _ _ => rw [okB_exc] at h'; cases h'
    | err _ _ _ => rw [okB_err] at h'; cases h'
    | ref _ => rw [okB_ref] at h'; cases h'
    | _ => simp only [toPy, PyData.eqv, eqd]
  | .str _, e, n, m, h, h' => by
    cases e with
    | obj => rw [okB_obj] at h'; cases h'
    | scr => rw [okB_scr] at h'; cases h'
    | dct => rw [okB_dct] at h'; cases h'
    | dic _ _ => rw [okB_dic] at h'; cases h'
    | exc _ _ _ => rw [okB_exc] at h'; cases h'
    | err _ _ _ => rw [okB_err] at h'; cases h'
    | ref _ => rw [okB_ref] at h'; cases h'
    | _ => simp only [toPy, PyData.eqv, eqd]
  | .obj _ _ _, e, n, m, h, h' => by rw [okB_obj] at h; cases h
  | .scr _, e, n, m, h, h' => by rw [okB_scr] at h; cases h
  | .dct, e, n, m, h, h' => by rw [okB_dct] at h; cases h
  | .dic _ _, e, n, m, h, h' => by rw [okB_dic] at h; cases h
  | .exc _ _ _, e, n, m, h, h' => by rw [okB_exc] at h; cases h
  | .err _ _ _, e, n, m, h, h' => by rw [okB_err] at h; cases h
  | .ref _, e, n, m, h, h' => by rw [okB_ref] at h; cases h
theorem pys_eqv : ∀ (xs ys : List D) (n m : Nat), xs.all (okB n) = true → ys.all (okB m) = true → PyData.eqvAll (toPys xs) (toPys ys) = eqds xs ys
  | [], ys, n, m, h, h' => by cases ys <;> simp only [toPys, PyData.eqvAll, eqds]
  | x :: xs, ys, n, m, h, h' => by
    cases ys with
    | nil => simp only [toPys, PyData.eqvAll, eqds]
    | cons y ys =>
      rw [List.all_cons, Bool.and_eq_true] at h h'
      simp only [toPys, PyData.eqvAll, eqds]
      rw [py_eqv x y n m h.1 h'.1, pys_eqv xs ys n m h.2 h'.2]
end
section
variable {g : Gx} {A : Addr → Prop} {H : Hp}
mutual
theorem rep_dp : ∀ (d : D) (n : Nat) (v : V), okB n d = true → Rep g A H d v → Dp g.K H v (toPy d)
  | .non, n, v, _, h => by simp only [Rep] at h; subst h; exact .non
  | .bl b, n, v, _, h => by simp only [Rep] at h; subst h; exact .bl b
  | .int b, n, v, _, h => by simp only [Rep] at h; subst h; exact .int b
  | .str b, n, v, _, h => by simp only [Rep] at h; subst h; exact .str b
  | .lst ds, n, v, k, h => by
    obtain ⟨m, rfl, k⟩ := okB_lst k
    simp only [Rep] at h
    obtain ⟨a, vs, rfl, _, s, r⟩ := h
    exact .lst (.inl (.inl s)) (reps_dp ds m vs k r)
  | .tup ds, n, v, k, h => by
    obtain ⟨m, rfl, k⟩ := okB_tup k
    simp only [Rep] at h
    obtain ⟨a, vs, rfl, _, s, r⟩ := h
    exact .tup s (reps_dp ds m vs k r)
  | .obj _ _ _, n, v, k, _ => by rw [okB_obj] at k; cases k
  | .scr _, n, v, k, _ => by rw [okB_scr] at k; cases k
  | .dct, n, v, k, _ => by rw [okB_dct] at k; cases k
  | .dic _ _, n, v, k, _ => by rw [okB_dic] at k; cases k
  | .exc _ _ _, n, v, k, _ => by rw [okB_exc] at k; cases k
  | .err _ _ _, n, v, k, _ => by rw [okB_err] at k; cases k
  | .ref _, n, v, k, _ => by rw [okB_ref] at k; cases k
theorem reps_dp : ∀ (ds : List D) (n : Nat) (vs : List V), ds.all (okB n) = true → Reps g A H ds vs → DpAll g.K H vs (toPys ds)
  | [], n, vs, _, h => by simp only [Reps] at h; subst h; exact .nil
  | d :: ds, n, vs, k, h => by
    rw [List.all_cons, Bool.and_eq_true] at k
    simp only [Reps] at h
    obtain ⟨v, r, rfl, h1, h2⟩ := h
    exact .cons (rep_dp d n v k.1 h1) (reps_dp ds n r k.2 h2)
end
theorem rdb_dp {d : D} {n : Nat} {v : V} (k : okB n d = true) (h : Rdb g A H d v) : Dp g.K H v (toPy d) := by
  cases d with
  | lst ds =>
    obtain ⟨m, rfl, k⟩ := okB_lst k
    obtain ⟨a, vs, rfl, s, r⟩ := h
    exact .lst (.inl (.inl s)) (reps_dp ds m vs k r)
  | obj => rw [okB_obj] at k; cases k
  | scr => rw [okB_scr] at k; cases k
  | dct => rw [okB_dct] at k; cases k
  | dic _ _ => rw [okB_dic] at k; cases k
  | exc _ _ _ => rw [okB_exc] at k; cases k
  | err _ _ _ => rw [okB_err] at k; cases k
  | ref _ => rw [okB_ref] at k; cases k
  | non => exact rep_dp (A := A) _ n v k h
  | bl => exact rep_dp (A := A) _ n v k h
  | int => exact rep_dp (A := A) _ n v k h
  | str => exact rep_dp (A := A) _ n v k h
  | tup => exact rep_dp (A := A) _ n v k h
theorem rdb_int {i : Int} {v : V} (h : Rdb g A H (.int i) v) : v = .int i := by simpa only [Rdb, Rep] using h
theorem rdb_str {i : Str} {v : V} (h : Rdb g A H (.str i) v) : v = .str i := by simpa only [Rdb, Rep] using h
theorem rdb_bl {i : Bool} {v : V} (h : Rdb g A H (.bl i) v) : v = .bl i := by simpa only [Rdb, Rep] using h
theorem rdb_non {v : V} (h : Rdb g A H .non v) : v = .non := by simpa only [Rdb, Rep] using h
theorem rdb_tup {ds : List D} {v : V} (h : Rdb g A H (.tup ds) v) : ∃ a vs, v = .ref a ∧ ¬ A a ∧ SqT g.K H a vs ∧ Reps g A H ds vs := by simpa only [Rdb, Rep] using h
theorem rdb_dct {v : V} (h : Rdb g A H .dct v) : ∃ a, v = .ref a ∧ ¬ A a ∧ H a = some (.dK []) := by simpa only [Rdb, Rep] using h
theorem rdb_dic {ks : List Int} {ds : List D} {v : V} (h : Rdb g A H (.dic ks ds) v) : ∃ a vs, v = .ref a ∧ ¬ A a ∧ ks.length = vs.length ∧ H a = some (.dK (dkV ks vs)) ∧ Reps g A H ds vs := by simpa only [Rdb, Rep] using h
theorem rdb_scr {ns : List Int} {v : V} (h : Rdb g A H (.scr ns) v) : ∃ a, v = .ref a ∧ ¬ A a ∧ SqL g.K H a (ns.map V.int) := by simpa only [Rdb, Rep] using h
/-- flat data and flat values -/
theorem flat_rep : ∀ {d : D} {v : V}, flatD d = true → Rep g A H d v → flatV v = true ∧ ∀ {e : D} {w : V}, flatD e = true → Rep g A H e w → eqV v w = eqd d e := by
  intro d v hd h
  cases d with
  | non => simp only [Rep] at h; subst h; exact ⟨rfl, fun {e w} he q => by cases e <;> first | (simp only [Rep] at q; subst q; rfl) | (simp [flatD] at he)⟩
  | bl b => simp only [Rep] at h; subst h; exact ⟨rfl, fun {e w} he q => by cases e <;> first | (simp only [Rep] at q; subst q; rfl) | (simp [flatD] at he)⟩
  | int b => simp only [Rep] at h; subst h; exact ⟨rfl, fun {e w} he q => by cases e <;> first | (simp only [Rep] at q; subst q; rfl) | (simp [flatD] at he)⟩
  | str b => simp only [Rep] at h; subst h; exact ⟨rfl, fun {e w} he q => by cases e <;> first | (simp only [Rep] at q; subst q; rfl) | (simp [flatD] at he)⟩
  | _ => simp [flatD] at hd
theorem flat_reps : ∀ {ds : List D} {vs : List V} {e : D} {w : V}, ds.all flatD = true → Reps g A H ds vs → flatD e = true → Rep g A H e w → vs.all flatV = true ∧ inV w vs = ds.any fun y => eqd y e
  | [], _, _, _, _, h, _, _ => by simp only [Reps] at h; subst h; exact ⟨rfl, rfl⟩
  | d :: ds, _, e, w, k, h, ke, he => by
    rw [List.all_cons, Bool.and_eq_true] at k
    simp only [Reps] at h
    obtain ⟨v, r, rfl, h1, h2⟩ := h
    have q1 := flat_rep k.1 h1
    have q2 := flat_reps k.2 h2 ke he
    refine ⟨by rw [List.all_cons, q1.1, q2.1]; rfl, ?_⟩
    have q3 : (r.any fun y => eqV y w) = ds.any fun y => eqd y e := q2.2
    show ((v :: r).any fun y => eqV y w) = _
    rw [List.any_cons, List.any_cons, q1.2 ke he, q3]
theorem rdb_flat {d : D} {v : V} (k : flatD d = true) (h : Rdb g A H d v) : Rep g A H d v := by
  cases d <;> first | exact h | (simp [flatD] at k)
end

/-! ### the operators -/
def CPowB (i j : Int) : Prop := 0 ≤ j ∧ (Builtin.Int.intBits i : Int) * j ≤ 2 ^ 27
theorem op_powB {X : Cx} : OpR X (binaryOp .Pow) (rI CPowB fun i j => .int (i ^ j.toNat)) := opI fun _ _ _ _ _ _ _ hc q => PyProof.Rows.pow_int hc.1 hc.2 q
/-- what an operation on data asks and gives -/
def rBin (g : Gx) (op : BOp) : R2 := fun x y H Q => ∃ A d e r, Rdb g A H d x ∧ Rdb g A H e y ∧ (∀ a, A a → H a ≠ none) ∧ binD op d e = some r ∧ ∀ v H', Same H H' → Res g A H H' r v → Q v H'
def opOf : BOp → Operator
  | .add => .Add | .sub => .Sub | .mul => .Mult | .fdiv => .FloorDiv | .mod => .Mod | .pow => .Pow
section
variable {X : Cx} {g : Gx}
theorem same_rfl (H : Hp) : Same H H := fun _ _ h => h
theorem new_lst {A : Addr → Prop} {H : Hp} {p : Addr} {ds : List D} {vs : List V} (np : H p = none) (hk : g.K.lookup p = none) (r : Reps g A H ds vs) : Res g A H (upd H p (.lst vs)) (.nw (.lst ds)) (.ref p) := by
  refine ⟨p, rfl, np, hk, vs, upd_same, reps_mono (fun a ⟨n, t⟩ => ⟨fun o h _ => same_new np a o h, fun z => ?_⟩) _ _ r⟩
  rcases z with z | z
  · exact n z
  · subst z
    rcases t with ⟨o, t, _⟩ | ⟨o, t⟩
    · rw [np] at t; cases t
    · rw [hk] at t; cases t
theorem new_tup {A : Addr → Prop} {H : Hp} {p : Addr} {ds : List D} {vs : List V} (np : H p = none) (tr : ∀ a, A a → H a ≠ none) (r : Reps g A H ds vs) : Res g A H (upd H p (.tup vs)) (.fz (.tup ds)) (.ref p) := by
  simp only [Res, Rep]
  exact ⟨p, vs, rfl, fun z => tr p z np, .inl (.inl upd_same), r.same (same_new np)⟩
theorem mulOk_of {i j : Int} (h : mulOk i j = true) : IntMulOk i j := by
  unfold mulOk at h
  simp only [Bool.or_eq_true, decide_eq_true_eq] at h
  rcases h with (h | h) | h
  · exact CMul.ok (.inl h)
  · exact CMul.ok (.inr h)
  · exact CMulW.ok h
theorem op_mulA : OpR X (binaryOp .Mult) (rI (fun i j => mulOk i j = true) fun i j => .int (i * j)) := opI fun _ _ _ _ _ _ _ hc q => PyProof.Rows.mul_int q (mulOk_of hc)
theorem op_bin (hK : X.K = g.K) (op : BOp) : OpR X (binaryOp (opOf op)) (rBin g op) := by
  have kfe : ∀ {H : Hp} {p : Addr} {o : HO}, (∀ a o, X.K.lookup a = some o → H a = none) → H p = some o → g.K.lookup p = none := fun h e => by rw [← hK]; exact kf_new h e
  cases op with
  | add =>
    refine OpR.weak (OpR.kf (op_add.or (op_add_str.or (op_cat.or op_catT)))) ?_
    rintro x y H Q ⟨A, d, e, r, hd, he, tr, hb, hQ⟩
    cases d <;> cases e <;> simp only [binD, reduceCtorEq, Option.ite_none_right_eq_some, Option.some.injEq] at hb
    · subst hb
      refine .inl ⟨_, _, rdb_int hd, rdb_int he, fun kf => hQ _ _ (same_rfl H) ?_⟩
      simp only [Res, Rep]
    · obtain ⟨hz, rfl⟩ := hb
      refine .inr (.inl ⟨_, _, rdb_str hd, rdb_str he, hz, fun kf => hQ _ _ (same_rfl H) ?_⟩)
      simp only [Res, Rep]
    · obtain ⟨hz, rfl⟩ := hb
      obtain ⟨a, vs, rfl, e1, r1⟩ := hd
      obtain ⟨b, ws, rfl, e2, r2⟩ := he
      refine .inr (.inr (.inl ⟨a, b, vs, ws, rfl, rfl, e1, e2, by rw [← r1.len, ← r2.len]; exact hz, fun p np kf => hQ _ _ (same_new np) (new_lst np (kfe kf upd_same) (r1.app r2))⟩))
    · obtain ⟨⟨hz, hne⟩, rfl⟩ := hb
      obtain ⟨a, vs, rfl, na, e1, r1⟩ := rdb_tup hd
      obtain ⟨b, ws, rfl, nb, e2, r2⟩ := rdb_tup he
      have l1 := r1.len
      have l2 := r2.len
      refine .inr (.inr (.inr ⟨a, b, vs, ws, rfl, rfl, by rw [hK]; exact e1, by rw [hK]; exact e2, fun z => ?_, by omega, fun z kf => hQ _ _ (same_rfl H) ?_, fun z p np kf => hQ _ _ (same_new np) (new_tup np tr (r1.app r2))⟩))
      · subst z
        exact hne (List.eq_nil_of_length_eq_zero l1)
      · subst z
        have : _ = [] := List.eq_nil_of_length_eq_zero l2
        subst this
        rw [List.append_nil]
        simp only [Res, Rep]
        exact ⟨a, vs, rfl, na, e1, r1⟩
  | sub =>
    refine OpR.weak (OpR.kf op_sub) ?_
    rintro x y H Q ⟨A, d, e, r, hd, he, tr, hb, hQ⟩
    cases d <;> cases e <;> simp only [binD, reduceCtorEq, Option.some.injEq] at hb
    subst hb
    exact ⟨_, _, rdb_int hd, rdb_int he, fun kf => hQ _ _ (same_rfl H) (by simp only [Res, Rep])⟩
  | mul =>
    refine OpR.weak (OpR.kf (op_mulA.or op_rep)) ?_
    rintro x y H Q ⟨A, d, e, r, hd, he, tr, hb, hQ⟩
    cases d <;> cases e <;> simp only [binD, reduceCtorEq, Option.ite_none_right_eq_some, Option.some.injEq] at hb
    · obtain ⟨hz, rfl⟩ := hb
      exact .inl ⟨_, _, rdb_int hd, rdb_int he, hz, fun kf => hQ _ _ (same_rfl H) (by simp only [Res, Rep])⟩
    · obtain ⟨⟨h1, h2, h3⟩, rfl⟩ := hb
      obtain ⟨a, vs, rfl, e1, r1⟩ := hd
      exact .inr ⟨a, _, vs, rfl, rdb_int he, e1, h1, h2, by rw [← r1.len]; exact h3, fun p np kf => hQ _ _ (same_new np) (new_lst np (kfe kf upd_same) (r1.repl _))⟩
  | fdiv =>
    refine OpR.weak (OpR.kf op_fdivW) ?_
    rintro x y H Q ⟨A, d, e, r, hd, he, tr, hb, hQ⟩
    cases d <;> cases e <;> simp only [binD, reduceCtorEq, Option.ite_none_right_eq_some, Option.some.injEq] at hb
    obtain ⟨hz, rfl⟩ := hb
    exact ⟨_, _, rdb_int hd, rdb_int he, hz, fun kf => hQ _ _ (same_rfl H) (by simp only [Res, Rep])⟩
  | mod =>
    refine OpR.weak (OpR.kf op_mod) ?_
    rintro x y H Q ⟨A, d, e, r, hd, he, tr, hb, hQ⟩
    cases d <;> cases e <;> simp only [binD, reduceCtorEq, Option.ite_none_right_eq_some, Option.some.injEq] at hb
    obtain ⟨hz, rfl⟩ := hb
    exact ⟨_, _, rdb_int hd, rdb_int he, hz, fun kf => hQ _ _ (same_rfl H) (by simp only [Res, Rep])⟩
  | pow =>
    refine OpR.weak (OpR.kf op_powB) ?_
    rintro x y H Q ⟨A, d, e, r, hd, he, tr, hb, hQ⟩
    cases d <;> cases e <;> simp only [binD, reduceCtorEq] at hb
    rename_i a b
    by_cases c : 0 ≤ b ∧ b ≤ 1000000 ∧ a.natAbs < 2 ^ 64
    · rw [if_pos c, Option.some.injEq] at hb
      subst hb
      exact ⟨_, _, rdb_int hd, rdb_int he, ⟨c.1, PyProof.Rows.bits_mul_le c.2.2 c.1 c.2.1⟩, fun kf => hQ _ _ (same_rfl H) (by simp only [Res, Rep])⟩
    · rw [if_neg c] at hb
      by_cases c2 : 0 ≤ b ∧ b ≤ 1000 ∧ in1k a = true
      · rw [if_pos c2, Option.some.injEq] at hb
        subst hb
        refine ⟨_, _, rdb_int hd, rdb_int he, ⟨c2.1, ?_⟩, fun kf => hQ _ _ (same_rfl H) (by simp only [Res, Rep])⟩
        have h1 := c2.2.2
        unfold in1k at h1
        have h2 := PyProof.Rows.intBits_le (of_decide_eq_true h1)
        have h3 : (Builtin.Int.intBits a : Int) * b ≤ 1000 * b := Int.mul_le_mul_of_nonneg_right (by omega) c2.1
        omega
      · rw [if_neg c2] at hb
        cases hb
def cmpOf : COp → CmpOp
  | .eq => .Eq | .ne => .NotEq | .lt => .Lt | .le => .LtE | .gt => .Gt | .ge => .GtE | .is => .Is | .isnot => .IsNot | .inn => .In | .notin => .NotIn
def rCmp (g : Gx) (op : COp) : R2 := fun x y H Q => ∃ A d e b, Rdb g A H d x ∧ Rdb g A H e y ∧ cmpD op d e = some b ∧ Q (.bl b) H
theorem rdb_isnon {A : Addr → Prop} {H : Hp} {d : D} {v : V} (h : Rdb g A H d v) : decide (v = .non) = isNonD d := by
  cases d with
  | non => rw [rdb_non h]; rfl
  | bl => rw [rdb_bl h]; rfl
  | int => rw [rdb_int h]; rfl
  | str => rw [rdb_str h]; rfl
  | lst => obtain ⟨a, vs, rfl, _⟩ := h; rfl
  | tup => obtain ⟨a, vs, rfl, _⟩ := rdb_tup h; rfl
  | obj => obtain ⟨a, dx, vs, rfl, _⟩ := h; rfl
  | scr => obtain ⟨a, rfl, _⟩ := rdb_scr h; rfl
  | dct => obtain ⟨a, rfl, _⟩ := rdb_dct h; rfl
  | dic ks ds => obtain ⟨a, vs, rfl, _⟩ := rdb_dic h; rfl
  | exc c ks ds => simp only [Rdb, Rep] at h; obtain ⟨a, vs, rfl, _⟩ := h; rfl
  | err c ks ds => simp only [Rdb, Rep] at h; obtain ⟨e0, a, vs, _, rfl, _⟩ := h; rfl
  | ref k => simp only [Rdb, Rep] at h; obtain ⟨a, _, rfl⟩ := h; rfl
theorem OpR.or {f : Value → Value → Sem Value} {r r' : R2} (h : OpR X f r) (h' : OpR X f r') : OpR X f (fun x y H Q => r x y H Q ∨ r' x y H Q) := fun pins s σ H x y v u Q I rx ry q => q.elim (fun q => h pins s σ H x y v u Q I rx ry q) fun q => h' pins s σ H x y v u Q I rx ry q
def rLenNe (K : PySem.W.Frag) (k : Bool) : R2 := fun x y H Q => ∃ a b xs ys, x = .ref a ∧ y = .ref b ∧ SqL K H a xs ∧ SqL K H b ys ∧ xs.length ≠ ys.length ∧ Q (.bl k) H
theorem op_eqLen (hu : X.A.units < cLine) : OpR X (compareOp .Eq) (rLenNe X.K false) := by
  rintro pins s σ H x y v u Q I rx ry ⟨a, b, xs, ys, rfl, rfl, ha, hb, hne, q⟩
  cases rx
  cases ry
  obtain ⟨its, r, e, z⟩ := I.list ha
  obtain ⟨its2, r2, e2, z2⟩ := I.list hb
  have hsz : (its.toArray.size != its2.toArray.size) = true := by
    rw [List.size_toArray, List.size_toArray, ← r.length, ← r2.length]
    simpa using hne
  exact PySem.SeqAt.eq_list_lengthsAt e.isList e2.isList hsz hu ⟨.bl false, H, I, rfl, q⟩
theorem op_neLen (hu : X.A.units < cLine) : OpR X (compareOp .NotEq) (rLenNe X.K true) := by
  rintro pins s σ H x y v u Q I rx ry ⟨a, b, xs, ys, rfl, rfl, ha, hb, hne, q⟩
  cases rx
  cases ry
  obtain ⟨its, r, e, z⟩ := I.list ha
  obtain ⟨its2, r2, e2, z2⟩ := I.list hb
  have hsz : (its.toArray.size != its2.toArray.size) = true := by
    rw [List.size_toArray, List.size_toArray, ← r.length, ← r2.length]
    simpa using hne
  exact PySem.SeqAt.RcNeAt.lists_lengths e.isList e2.isList hsz hu X.prog X.w X.xe _ ⟨.bl true, H, I, rfl, q⟩
theorem lenNe_ok {A : Addr → Prop} {H : Hp} {d e : D} {x y : V} {k : Bool} {Q : VK} (h : lenNe d e = true) (hd : Rdb g A H d x) (he : Rdb g A H e y) (hQ : Q (.bl k) H) : rLenNe g.K k x y H Q := by
  cases d <;> cases e <;> simp only [lenNe, Bool.false_eq_true, decide_eq_true_eq] at h
  obtain ⟨a, vs, rfl, s1, r1⟩ := hd
  obtain ⟨b, ws, rfl, s2, r2⟩ := he
  exact ⟨a, b, vs, ws, rfl, rfl, .inl (.inl s1), .inl (.inl s2), by rw [← r1.len, ← r2.len]; exact h, hQ⟩
theorem reps_two {A : Addr → Prop} {H : Hp} {i j : Int} {vs : List V} (h : Reps g A H [.int i, .int j] vs) : vs = [i, j].map V.int := by
  simp only [Reps, Rep] at h
  obtain ⟨_, _, rfl, rfl, _, _, rfl, rfl, rfl⟩ := h
  rfl
/-- (i, j) > (k, l) -/
def rGtP (K : PySem.W.Frag) : R2 := fun x y H Q => ∃ a b i j k l, x = .ref a ∧ y = .ref b ∧ SqT K H a ([i, j].map V.int) ∧ SqT K H b ([k, l].map V.int) ∧ Q (.bl (pGt i j k l)) H
theorem op_gtP (hu : X.A.units < cLine) : OpR X (compareOp .Gt) (rGtP X.K) := by
  rintro pins s σ H x y v u Q I rx ry ⟨a, b, i, j, k, l, rfl, rfl, ha, hb, q⟩
  cases rx
  cases ry
  obtain ⟨its, r1, p1, _⟩ := I.tuple ha
  obtain ⟨its2, r2, p2, _⟩ := I.tuple hb
  have i1 := Vals.ints r1
  have i2 := Vals.ints r2
  have e1 : its.toArray.size = 2 := by rw [List.size_toArray]; exact i1.length
  have e2 : its2.toArray.size = 2 := by rw [List.size_toArray]; exact i2.length
  have at1 : ∀ n (h1 : n < its.toArray.size), ∃ t, its.toArray[n] = .int ([i, j].getD n 0) t := fun n h1 => i1.int_at n _ (by rw [List.getElem_toArray]; exact List.getElem?_eq_getElem _)
  have at2 : ∀ n (h1 : n < its2.toArray.size), ∃ t, its2.toArray[n] = .int ([k, l].getD n 0) t := fun n h1 => i2.int_at n _ (by rw [List.getElem_toArray]; exact List.getElem?_eq_getElem _)
  have R := Ob.RcOp.tuples_gt (e := fun n => [i, j].getD n 0 == [k, l].getD n 0) (r := fun n => decide ([k, l].getD n 0 < [i, j].getD n 0)) p1 p2 hu (fun n h1 h2 => by
    obtain ⟨t, et⟩ := at1 n h1
    obtain ⟨t', et'⟩ := at2 n h2
    rw [et, et']
    exact SeqAt.EqAt.int_int _ t _ t') (fun n h1 h2 _ => by
    obtain ⟨t, et⟩ := at1 n h1
    obtain ⟨t', et'⟩ := at2 n h2
    rw [et, et']
    exact Ob.RcOp.gt_int _ _ t t')
  rw [e1, e2] at R
  have lx : Ob.lexAt (fun n => [i, j].getD n 0 == [k, l].getD n 0) (fun n => decide ([k, l].getD n 0 < [i, j].getD n 0)) (decide (2 > 2)) 0 (min 2 2) = pGt i j k l := by
    show Ob.lexAt _ _ _ 0 2 = _
    rw [Ob.lexAt_succ, Ob.lexAt_succ, Ob.lexAt_zero]
    unfold pGt
    by_cases c : i = k
    · subst c
      by_cases d : j = l
      · subst d; simp
      · simp [d]
    · by_cases d : k < i <;> simp [c, d]
  rw [lx] at R
  exact R X.prog X.w X.xe (EP X pins σ Q) ⟨.bl (pGt i j k l), H, I, rfl, q⟩
section
open PySem.SeqAt
variable {X : Cx}
theorem tup_ne_dct (l b : Addr) (its : Array Value) (n : Nat) (d1 d2 : Option Addr) (sa sb : Array (Option Value)) (es : Array DictEntry) (ep : Nat) :
    Meets (Builtin.«tuple.__ne__» ⟨[.ref l, .ref b], []⟩) (fun _ R s => s.heap.get? l = some { cls := .type "tuple", dict := d1, data := .seq its n, slots := sa } ∧ s.heap.get? b = some { cls := .type "dict", dict := d2, data := .dict es ep, slots := sb } ∧ R (.ok (.ret .notImplemented)) s) :=
  .of_wp fun prog w A R s h => by obtain ⟨hp, g, d, tk, os⟩ := s; obtain ⟨hl, hb, h⟩ := h; have f1 := F.sub_dict_tuple; wp_walk using wpAny_loadPart' hl, wpAny_loadPart' hb; exact ⟨_, rfl, h⟩
def rDtNe (K : PySem.W.Frag) : R2 := fun x y H Q => ∃ a b xs, x = .ref a ∧ y = .ref b ∧ H a = some (.dK []) ∧ SqT K H b xs ∧ Q (.bl true) H
theorem op_neDT (hu : X.A.units < cLine) : OpR X (compareOp .NotEq) (rDtNe X.K) := by
  rintro pins s σ H x y v u Q I rx ry ⟨a, b, xs, rfl, rfl, ha, hb, q⟩
  cases rx
  cases ry
  obtain ⟨_, hsm, vs, kv, hd⟩ := dk_of I.hok ha
  have tyd := hd.typeIs (s := s)
  obtain ⟨o, es, ep, e1, e2, e3, e4⟩ := hd
  obtain ⟨its, r, ⟨o2, ho2, hc2, n2, hd2⟩, z⟩ := I.tuple hb
  obtain ⟨c1, d1, t1, s1⟩ := o
  obtain ⟨c2, d2, t2, s2⟩ := o2
  have hc1 := e2.1
  simp only at hc1 hc2 hd2 e3
  subst hc1 hc2 hd2 e3
  have hne : a ≠ b := fun z => by
    rw [z, ho2] at e1
    have w := congrArg Obj.cls (Option.some.inj e1)
    simp at w
  refine (rc_ne_decline_or (k := false) (Ta := "dict") (Tb := "tuple") tyd ⟨_, ho2, rfl⟩ (by decide) F.sub_tuple_dict F.slot_dict_ne F.slot_tuple_ne_refl (fun Q' hq => ?_) (fun Q' hq => ?_) (fun Q' hq => ?_) (.inr hu) ⟨.bl true, H, I, rfl, q⟩)
  · refine wpAny_call_entry F.slot_dict_ne tyd F.entry_dict_ne ?_ (F.args_dict_ne_2 _ _)
    show wpAny _ _ (Builtin.Dict.dictSlotArgs "__ne__" ⟨[.ref a, .ref b], []⟩ >>= _) _ _ s
    refine wpAny_bind ?_
    unfold Builtin.Dict.dictSlotArgs
    refine wpAny_bind (wpAny_notOrdered_dict tyd ?_)
    show wpAny _ _ (pure (Value.ref a, Value.ref b)) _ _ s
    refine wpAny_pure ?_
    refine wpAny_bind (wpAny_isInstance (T := "tuple") ⟨_, ho2, rfl⟩ F.sub_tuple_dict ?_)
    simp only [Bool.not_false, if_true]
    refine wpAny_bind (wpAny_rule (wpAny_bind (wpAny_pure ?_)))
    exact wpAny_pure ⟨_, rfl, hq⟩
  · exact call_meets F.slot_tuple_ne_refl ⟨_, ho2, rfl⟩ F.entry_tuple_ne (F.args_tuple_ne_2 _ _) (tup_ne_dct b a its.toArray n2 d2 d1 s2 s1 es ep) ⟨ho2, e1, hq⟩
  · exact wpAny_isSame_ref_other hne e1 ho2 (by simp) hq
end
theorem dtNe_ok {A : Addr → Prop} {H : Hp} {d e : D} {x y : V} {Q : VK} (h : dtNe d e = true) (hd : Rdb g A H d x) (he : Rdb g A H e y) (hQ : Q (.bl true) H) : rDtNe g.K x y H Q := by
  cases d <;> cases e <;> simp only [dtNe, Bool.false_eq_true] at h
  obtain ⟨a, rfl, _, s1⟩ := rdb_dct hd
  obtain ⟨b, ws, rfl, _, s2, _⟩ := rdb_tup he
  exact ⟨a, b, ws, rfl, rfl, s1, s2, hQ⟩
/-- texts of any signs -/
def rStrEq : R2 := fun x y H Q => ∃ a b, x = .str a ∧ y = .str b ∧ Q (.bl (a == b)) H
theorem op_eqStr : OpR X (compareOp .Eq) rStrEq := by
  rintro pins s σ H x y v u Q I rx ry ⟨a, b, rfl, rfl, q⟩
  obtain ⟨t1, rfl⟩ := rx
  obtain ⟨t2, rfl⟩ := ry
  exact PySem.SeqAt.RcAt.str_str a t1 b t2 X.prog X.w X.xe _ ⟨.bl (a == b), H, I, rfl, q⟩
section
open PySem.SeqAt
variable {X : Cx} {g : Gx}
theorem int_eq_dct (k : Int) (t : Tok) (l : Addr) (dd : Option Addr) (sl : Array (Option Value)) (es : Array DictEntry) (ep : Nat) :
    Meets (Builtin.«int.__eq__» ⟨[.int k t, .ref l], []⟩) (fun _ R s => s.heap.get? l = some { cls := .type "dict", dict := dd, data := .dict es ep, slots := sl } ∧ R (.ok (.ret .notImplemented)) s) :=
  .of_wp fun prog w A R s h => by obtain ⟨hp, g, d, tk, os⟩ := s; obtain ⟨hl, h⟩ := h; wp_walk using wpAny_loadPart' hl, wpAny_load hl; exact ⟨_, rfl, h⟩
theorem rc_int_dct {A : Around} {s : Shared} {l : Addr} {o : Obj} {es : Array DictEntry} {ep : Nat} (k : Int) (t : Tok) (ho : s.heap.get? l = some o) (hc : o.cls = .type "dict") (hd : o.data = .dict es ep) (hu : A.units < cLine) : RcAt A s (.int k t) (.ref l) false := fun prog w E Q h => by
  obtain ⟨cls, dd, data, sl⟩ := o
  simp only at hc hd
  subst hc hd
  have tyd : s.TypeIs (.ref l) "dict" := ⟨_, ho, rfl⟩
  refine rc_eq_decline_or (k := false) (typeIs_int s k t) tyd (by decide) F.sub_dict_int F.slot_int_eq F.slot_dict_eq_refl
    (fun _ hq => call_meets F.slot_int_eq (typeIs_int s k t) F.entry_int_eq (F.args_int_eq_2 _ _) (int_eq_dct k t l dd sl es ep) ⟨ho, hq⟩)
    (fun _ hq => ?_)
    (fun _ hq => wpAny_of_eq (rfl : isSame (.int k t) (.ref l) = pure false) hq) (.inr hu) h
  refine wpAny_call_entry F.slot_dict_eq_refl tyd F.entry_dict_eq ?_ (F.args_dict_eq_2 _ _)
  show wpAny _ _ (Builtin.Dict.dictSlotArgs "__eq__" ⟨[.ref l, .int k t], []⟩ >>= _) _ _ s
  refine wpAny_bind ?_
  unfold Builtin.Dict.dictSlotArgs
  refine wpAny_bind (wpAny_notOrdered_dict tyd ?_)
  show wpAny _ _ (pure (Value.ref l, Value.int k t)) _ _ s
  refine wpAny_pure ?_
  refine wpAny_bind (wpAny_isInstance (T := "int") (typeIs_int s k t) F.sub_int_dict ?_)
  simp only [Bool.not_false, if_true]
  refine wpAny_bind (wpAny_rule (wpAny_bind (wpAny_pure ?_)))
  exact wpAny_pure ⟨_, rfl, hq⟩
theorem eq_int_dct {A : Around} {s : Shared} {l : Addr} {o : Obj} {es : Array DictEntry} {ep : Nat} (k : Int) (t : Tok) (ho : s.heap.get? l = some o) (hc : o.cls = .type "dict") (hd : o.data = .dict es ep) (hu : A.units < cLine) : EqAt A s (.int k t) (.ref l) false := fun prog w E Q h => by
  unfold eqBool
  refine wpAny_holding ?_
  refine wpAny_ite_split (fun hab => absurd (eq_of_beq hab) nofun) (fun _ => ?_)
  exact wpAny_bind (rc_int_dct k t ho hc hd hu prog w E _ (wpAny_truthy_bool h))
theorem ints_mem : ∀ {ns : List Int} {its : List Value}, Vals (ns.map V.int) its → ∀ y ∈ its, ∃ k t, y = .int k t
  | [], _, r, y, hy => by cases r; cases hy
  | n :: ns, _, r, y, hy => by
    cases r with
    | cons r1 r2 =>
      rcases List.mem_cons.mp hy with rfl | hy
      · obtain ⟨t, e⟩ := r1; exact ⟨n, t, e⟩
      · exact ints_mem r2 y hy
/-- a list or an empty dict among ints -/
def rNoInt (K : PySem.W.Frag) (k : Bool) : R2 := fun x y H Q => ∃ a p ns, x = .ref a ∧ y = .ref p ∧ ((∃ ws, H a = some (.lst ws)) ∨ H a = some (.dK [])) ∧ SqT K H p ((ns : List Int).map V.int) ∧ Q (.bl k) H
theorem noInt_at {pins : List (Addr × Obj)} {σ : St} {H : Hp} {s : Shared} {a : Addr} {its : List Value} {ns : List Int} (hu : X.A.units + 1 < cLine) (I : Inv X pins σ H s) (ha : (∃ ws, H a = some (.lst ws)) ∨ H a = some (.dK [])) (r : Vals (ns.map V.int) its) : ∀ y, y ∈ its → EqAt X.A.in1 s y (.ref a) false := fun y hy => by
  obtain ⟨k, t, rfl⟩ : ∃ k t, y = .int k t := ints_mem r y hy
  rcases ha with ⟨ws, ha⟩ | ha
  · obtain ⟨its2, r2, p2, _⟩ := I.list (show SqL X.K H a ws from .inl (.inl ha))
    exact EqAt.int_list k t p2.isList hu
  · obtain ⟨_, hsm, vs, kv, hd⟩ := dk_of I.hok ha
    obtain ⟨o, es, ep, e1, e2, e3, e4⟩ := hd
    exact eq_int_dct k t e1 e2.1 e3 hu
theorem op_notInNo (hu : X.A.units + 64 < cLine) : OpR X (compareOp .NotIn) (rNoInt X.K true) := by
  rintro pins s σ H x y v u Q I rx ry ⟨a, p, ns, rfl, rfl, ha, hp, q⟩
  cases rx
  cases ry
  obtain ⟨its, r, pl, hz⟩ := I.tuple hp
  refine SeqAt.notIn_tupleAt (fun _ => false) pl (fun w hw => noInt_at (by omega) I ha r w (by simpa using hw)) ⟨.bl _, H, I, rfl, ?_⟩
  have : its.toArray.any (fun _ => false) = false := by simp
  rw [this]
  exact q
end
theorem reps_allInt {A : Addr → Prop} {H : Hp} : ∀ {b : List D} {vs : List V}, b.all isIntD = true → Reps g A H b vs → ∃ ns : List Int, vs = ns.map V.int
  | [], vs, _, h => by simp only [Reps] at h; exact ⟨[], h⟩
  | d :: b, vs, k, h => by
    simp only [List.all_cons, Bool.and_eq_true] at k
    simp only [Reps] at h
    obtain ⟨v, r, rfl, h1, h2⟩ := h
    obtain ⟨ns, rfl⟩ := reps_allInt k.2 h2
    cases d <;> simp only [isIntD, Bool.false_eq_true, false_and] at k
    rename_i i
    simp only [Rep] at h1
    subst h1
    exact ⟨i :: ns, rfl⟩
theorem beq_decide (a b : Bool) : (a == b) = decide (a = b) := by cases a <;> cases b <;> rfl
theorem op_cmp (hK : X.K = g.K) (hu : X.A.units + 64 < cLine) (op : COp) : OpR X (compareOp (cmpOf op)) (rCmp g op) := by
  cases op with
  | eq =>
    refine OpR.weak (OpR.or (OpR.or (op_eqD hu) (op_eqLen (by omega))) op_eqStr) ?_
    rintro x y H Q ⟨A, d, e, b, hd, he, hb, hQ⟩
    simp only [cmpD] at hb
    split at hb
    case isFalse => 
      split at hb
      · rename_i hl
        cases hb
        rw [hK]
        exact .inl (.inr (lenNe_ok hl hd he hQ))
      · refine .inr ?_
        cases d <;> cases e <;> simp only [strEq, reduceCtorEq, Option.some.injEq] at hb
        subst hb
        exact ⟨_, _, rdb_str hd, rdb_str he, hQ⟩
    rename_i hk
    simp only [Bool.and_eq_true] at hk
    obtain ⟨k1, k2⟩ := hk
    simp only [Option.some.injEq] at hb
    subst hb
    refine .inl (.inl ?_)
    rw [hK]
    exact ⟨toPy d, toPy e, rdb_dp k1 hd, rdb_dp k2 he, py_shaped k1, py_shaped k2, by rw [py_eqv d e 12 12 k1 k2]; exact hQ⟩
  | ne =>
    refine OpR.weak (OpR.or (OpR.or (op_neD hu) (op_neLen (by omega))) (op_neDT (by omega))) ?_
    rintro x y H Q ⟨A, d, e, b, hd, he, hb, hQ⟩
    simp only [cmpD] at hb
    split at hb
    case isFalse => 
      split at hb
      · rename_i hl
        cases hb
        rw [hK]
        exact .inl (.inr (lenNe_ok hl hd he hQ))
      · split at hb
        · rename_i hl
          cases hb
          rw [hK]
          exact .inr (dtNe_ok hl hd he hQ)
        · cases hb
    rename_i hk
    simp only [Bool.and_eq_true] at hk
    obtain ⟨k1, k2⟩ := hk
    simp only [Option.some.injEq] at hb
    subst hb
    refine .inl (.inl ?_)
    rw [hK]
    exact ⟨toPy d, toPy e, rdb_dp k1 hd, rdb_dp k2 he, py_shaped k1, py_shaped k2, by rw [py_eqv d e 12 12 k1 k2]; exact hQ⟩
  | lt =>
    refine OpR.weak op_lt ?_
    rintro x y H Q ⟨A, d, e, b, hd, he, hb, hQ⟩
    cases d <;> cases e <;> simp only [cmpD, reduceCtorEq, Option.some.injEq] at hb
    subst hb
    exact ⟨_, _, rdb_int hd, rdb_int he, hQ⟩
  | le =>
    refine OpR.weak op_le ?_
    rintro x y H Q ⟨A, d, e, b, hd, he, hb, hQ⟩
    cases d <;> cases e <;> simp only [cmpD, reduceCtorEq, Option.some.injEq] at hb
    subst hb
    exact ⟨_, _, rdb_int hd, rdb_int he, hQ⟩
  | gt =>
    refine OpR.weak (OpR.or op_gt (op_gtP (by omega))) ?_
    rintro x y H Q ⟨A, d, e, b, hd, he, hb, hQ⟩
    cases d <;> cases e <;> simp only [cmpD, reduceCtorEq, Option.some.injEq] at hb
    · subst hb
      exact .inl ⟨_, _, rdb_int hd, rdb_int he, hQ⟩
    · unfold tupGt at hb
      split at hb
      · rename_i i j k l
        cases hb
        obtain ⟨a, vs, rfl, _, s1, r1⟩ := rdb_tup hd
        obtain ⟨b, ws, rfl, _, s2, r2⟩ := rdb_tup he
        rw [reps_two r1] at s1
        rw [reps_two r2] at s2
        rw [← hK] at s1 s2
        exact .inr ⟨a, b, i, j, k, l, rfl, rfl, s1, s2, hQ⟩
      · cases hb
  | ge =>
    refine OpR.weak op_ge ?_
    rintro x y H Q ⟨A, d, e, b, hd, he, hb, hQ⟩
    cases d <;> cases e <;> simp only [cmpD, reduceCtorEq, Option.some.injEq] at hb
    subst hb
    exact ⟨_, _, rdb_int hd, rdb_int he, hQ⟩
  | is =>
    refine OpR.weak (OpR.or op_isN op_is_bl) ?_
    rintro x y H Q ⟨A, d, e, b, hd, he, hb, hQ⟩
    cases e with
    | non =>
      simp only [cmpD, Option.some.injEq] at hb
      subst hb
      exact .inl ⟨rdb_non he, by rw [rdb_isnon hd]; exact hQ⟩
    | bl k =>
      cases d <;> simp only [cmpD, reduceCtorEq, Option.some.injEq] at hb
      subst hb
      refine .inr ⟨_, _, rdb_bl hd, rdb_bl he, ?_⟩
      rw [beq_decide] at hQ
      exact hQ
    | _ => cases d <;> simp only [cmpD, reduceCtorEq] at hb
  | isnot =>
    refine OpR.weak (OpR.or op_notN op_isnot_bl) ?_
    rintro x y H Q ⟨A, d, e, b, hd, he, hb, hQ⟩
    cases e with
    | non =>
      simp only [cmpD, Option.some.injEq] at hb
      subst hb
      refine .inl ⟨rdb_non he, ?_⟩
      rw [rdb_isnon hd]
      exact hQ
    | bl k =>
      cases d <;> simp only [cmpD, reduceCtorEq, Option.some.injEq] at hb
      subst hb
      refine .inr ⟨_, _, rdb_bl hd, rdb_bl he, ?_⟩
      rw [beq_decide] at hQ
      exact hQ
    | _ => cases d <;> simp only [cmpD, reduceCtorEq] at hb
  | inn =>
    refine OpR.weak op_in_seq ?_
    rintro x y H Q ⟨A, d, e, b, hd, he, hb, hQ⟩
    rw [hK]
    cases e <;> simp only [cmpD, reduceCtorEq, Option.ite_none_right_eq_some, Bool.and_eq_true, Option.some.injEq] at hb
    · obtain ⟨⟨k1, k2⟩, rfl⟩ := hb
      obtain ⟨a, vs, rfl, e1, r1⟩ := he
      have q := flat_reps k2 r1 k1 (rdb_flat k1 hd)
      exact ⟨a, vs, rfl, .inl (.inl (.inl e1)), (flat_rep k1 (rdb_flat k1 hd)).1, q.1, by rw [if_neg Bool.false_ne_true, q.2]; exact hQ⟩
    · obtain ⟨⟨k1, k2⟩, rfl⟩ := hb
      obtain ⟨a, vs, rfl, na, e1, r1⟩ := rdb_tup he
      have q := flat_reps k2 r1 k1 (rdb_flat k1 hd)
      exact ⟨a, vs, rfl, .inr e1, (flat_rep k1 (rdb_flat k1 hd)).1, q.1, by rw [if_neg Bool.false_ne_true, q.2]; exact hQ⟩
  | notin =>
    refine OpR.weak (OpR.or op_notIn_seq (op_notInNo hu)) ?_
    rintro x y H Q ⟨A, d, e, b, hd, he, hb, hQ⟩
    rw [hK]
    cases e <;> simp only [cmpD, reduceCtorEq, Option.ite_none_right_eq_some, Bool.and_eq_true, Option.some.injEq] at hb
    · obtain ⟨⟨k1, k2⟩, rfl⟩ := hb
      obtain ⟨a, vs, rfl, e1, r1⟩ := he
      have q := flat_reps k2 r1 k1 (rdb_flat k1 hd)
      exact .inl ⟨a, vs, rfl, .inl (.inl (.inl e1)), (flat_rep k1 (rdb_flat k1 hd)).1, q.1, by rw [if_pos rfl, q.2]; exact hQ⟩
    · obtain ⟨a, vs, rfl, na, e1, r1⟩ := rdb_tup he
      split at hb
      · rename_i kk
        obtain ⟨k1, k2⟩ := kk
        simp only [Option.some.injEq] at hb
        subst hb
        have q := flat_reps k2 r1 k1 (rdb_flat k1 hd)
        exact .inl ⟨a, vs, rfl, .inr e1, (flat_rep k1 (rdb_flat k1 hd)).1, q.1, by rw [if_pos rfl, q.2]; exact hQ⟩
      · split at hb
        · rename_i kk
          obtain ⟨k1, k2⟩ := kk
          simp only [Option.some.injEq] at hb
          subst hb
          obtain ⟨ns, rfl⟩ := reps_allInt k2 r1
          refine .inr ?_
          cases d <;> simp only [noInt, Bool.false_eq_true] at k1
          · obtain ⟨p, ws, rfl, h1, _⟩ := hd
            exact ⟨p, a, ns, rfl, rfl, .inl ⟨ws, h1⟩, e1, hQ⟩
          · obtain ⟨p, rfl, _, h1⟩ := rdb_dct hd
            exact ⟨p, a, ns, rfl, rfl, .inr h1, e1, hQ⟩
        · cases hb
end
end DV

namespace DV
open PySem L2
/-- what a frame must be, the suite of a clause too -/
structure Cok0 (g : Gx) (X : Cx) : Prop where
  K : X.K = g.K
  hu : X.A.units + 64 < cLine
  nd : X.N.Nodup
/-- what is asked of a context -/
structure Cok (g : Gx) (X : Cx) : Prop where
  K : X.K = g.K
  calm : X.calm = true
  hu : X.A.units + 64 < cLine
  nd : X.N.Nodup
  ea : g.ea = none
theorem Cok.c0 {g : Gx} {X : Cx} (C : Cok g X) : Cok0 g X := ⟨C.K, C.hu, C.nd⟩
instance {g : Gx} {X : Cx} : Coe (Cok g X) (Cok0 g X) := ⟨Cok.c0⟩
def tR (g : Gx) (fs : List FS) (ie : E) : TE := fun σ H Q => ∃ Bn Ow Γ r Γ', RS g Bn Ow H σ Γ ∧ ev fs ie Γ = some (r, Γ') ∧ ∀ v H' Ow', Stp Ow H Ow' H' → RS g Bn Ow' H' σ Γ' → Val g Bn Ow' H' σ Γ' r v → Q v H'
def tT (g : Gx) (fs : List FS) (ie : E) : TT := fun σ H Q => ∃ Bn Ow Γ r Γ' t, RS g Bn Ow H σ Γ ∧ ev fs ie Γ = some (r, Γ') ∧ testD Γ' r = some t ∧ ∀ H' Ow', Stp Ow H Ow' H' → RS g Bn Ow' H' σ Γ' → Q t H'
/-- values by results -/
def Vls (g : Gx) (Bn : Addr → Prop) (Ow : List Addr) (H : Hp) (σ : St) (Γ : Ct) : List RV → List V → Prop
  | [], vs => vs = []
  | x :: xs, vs => ∃ v r, vs = v :: r ∧ Val g Bn Ow H σ Γ x.dn v ∧ Vls g Bn Ow H σ Γ xs r
def tAs (g : Gx) (fs : List FS) (es : List E) : TA := fun σ H Q => ∃ Bn Ow Γ xs Γ', RS g Bn Ow H σ Γ ∧ evs fs es Γ = some (xs, Γ') ∧ ∀ vs H' Ow', Stp Ow H Ow' H' → RS g Bn Ow' H' σ Γ' → Vls g Bn Ow' H' σ Γ' xs vs → Q vs H'
section
variable {X : Cx} {g : Gx} {fs : List FS} {Bn : Addr → Prop} {Ow Ow' : List Addr} {H H' : Hp} {σ : St} {Γ Γ' Γ1 Γ2 : Ct} {a b c : Expr} {ia ib ic : E} {pos : Pos}
theorem Vls.step : ∀ {xs : List RV} {vs : List V}, Vls g Bn Ow H σ Γ xs vs → Stp Ow H Ow' H' → RS g Bn Ow' H' σ Γ' → Vls g Bn Ow' H' σ Γ' xs vs
  | [], _, h, _, _ => h
  | x :: xs, _, ⟨v, r, e, h1, h2⟩, s, q => ⟨v, r, e, h1.step s q, Vls.step h2 s q⟩
theorem Vls.len : ∀ {xs : List RV} {vs : List V}, Vls g Bn Ow H σ Γ xs vs → xs.length = vs.length
  | [], _, h => by have h : _ = [] := h; subst h; rfl
  | x :: xs, _, ⟨v, r, e, h1, h2⟩ => by subst e; rw [List.length_cons, List.length_cons, h2.len]
theorem fres_ok : ∀ {xs : List RV} {vs : List V} {ds : List D} {Ow : List Addr} {Γ Γ' : Ct}, RS g Bn Ow H σ Γ → Vls g Bn Ow H σ Γ xs vs → fres xs Γ = some (ds, Γ') → ∃ Ow', Stp Ow H Ow' H ∧ RS g Bn Ow' H σ Γ' ∧ Reps g (Av Bn Ow') H ds vs
  | [], _, ds, Ow, Γ, Γ', rs, h, e => by
    have h : _ = [] := h
    subst h
    simp only [fres, Option.some.injEq, Prod.mk.injEq] at e
    obtain ⟨rfl, rfl⟩ := e
    exact ⟨Ow, .refl _ _, rs, by simp only [Reps]⟩
  | x :: xs, _, ds, Ow, Γ, Γ', rs, ⟨v, r, e0, h1, h2⟩, e => by
    subst e0
    simp only [fres] at e
    obtain ⟨⟨d, Γ1⟩, e1, e⟩ := Option.bind_eq_some_iff.mp e
    obtain ⟨⟨es, Γ2⟩, e2, e⟩ := Option.map_eq_some_iff.mp e
    simp only [Prod.mk.injEq] at e
    obtain ⟨rfl, rfl⟩ := e
    rw [← fre_dn] at e1
    obtain ⟨O1, s1, r1, p1⟩ := fre_ok rs h1 e1
    obtain ⟨O2, s2, r2, p2⟩ := fres_ok r1 (h2.step s1 r1) e2
    refine ⟨O2, s1.trans s2, r2, ?_⟩
    simp only [Reps]
    exact ⟨v, r, rfl, p1.step s2 r2, p2⟩
theorem datums_ok : ∀ {xs : List RV} {vs : List V} {ds : List D}, RS g Bn Ow H σ Γ → Vls g Bn Ow H σ Γ xs vs → datums Γ xs = some ds → Paired (fun d v => Rdb g (Av Bn Ow) H d v) ds vs
  | [], _, ds, rs, h, e => by
    have h : _ = [] := h
    subst h
    simp only [datums, Option.some.injEq] at e
    subst e
    exact .nil
  | x :: xs, _, ds, rs, ⟨v, r, e0, h1, h2⟩, e => by
    subst e0
    simp only [datums] at e
    obtain ⟨d, e1, e⟩ := Option.bind_eq_some_iff.mp e
    obtain ⟨es, e2, rfl⟩ := Option.map_eq_some_iff.mp e
    rw [← datum_dn] at e1
    exact .cons (h1.rdb rs e1) (datums_ok rs h2 e2)

theorem tR_one {x : RV} {Q : VK} (rs : RS g Bn Ow H σ Γ) (e1 : ev fs ia Γ = some (x, Γ1)) (k : ∀ v H1 Ow1, Stp Ow H Ow1 H1 → RS g Bn Ow1 H1 σ Γ1 → Val g Bn Ow1 H1 σ Γ1 x.dn v → Q v H1) : tR g fs ia σ H Q :=
  ⟨Bn, Ow, Γ, x, Γ1, rs, e1, fun v H' Ow' s r val => let ⟨O2, s2, r2, v2⟩ := dn_ok r val; k v H' O2 (s.trans s2) r2 v2⟩
theorem tR_two {x y : RV} {R : V → V → Hp → Prop} (rs : RS g Bn Ow H σ Γ) (e1 : ev fs ia Γ = some (x, Γ1)) (e2 : ev fs ib Γ1 = some (y, Γ2))
    (k : ∀ v w H2 Ow2, Stp Ow H Ow2 H2 → RS g Bn Ow2 H2 σ Γ2 → Val g Bn Ow2 H2 σ Γ2 x.dn v → Val g Bn Ow2 H2 σ Γ2 y.dn w → R v w H2) : tR g fs ia σ H fun v H1 => tR g fs ib σ H1 fun w H2 => R v w H2 :=
  tR_one rs e1 fun v H1 O1 s1 r1 v1 => tR_one r1 e2 fun w H2 O2 s2 r2 w2 => k v w H2 O2 (s1.trans s2) r2 (v1.step s2 r2) w2

/-! ### names, constants -/
theorem p_stuck {e : Expr} : PE X e (tR g fs .stuck) := ⟨fun _ _ _ _ _ _ ⟨_, _, _, _, _, _, h, _⟩ => by simp only [ev, reduceCtorEq] at h⟩
theorem p_var {i : Nat} (h : PE X a (tVar i)) : PE X a (tR g fs (.var i)) := by
  refine PE.weak h ?_
  rintro σ H Q ⟨Bn, Ow, Γ, r, Γ', rs, he, hQ⟩
  simp only [ev] at he
  split at he
  · rename_i p q
    simp only [Option.some.injEq, Prod.mk.injEq] at he
    obtain ⟨rfl, rfl⟩ := he
    obtain ⟨d, b⟩ := p
    have : ∃ v, σ[i]? = some (some v) := by
      cases b with
      | false => obtain ⟨v, e, _⟩ := rs.slot i d q; exact ⟨v, e⟩
      | true => obtain ⟨v, e, _⟩ := rs.own i d q; exact ⟨_, e⟩
    obtain ⟨v, e⟩ := this
    exact ⟨v, e, hQ v H Ow (.refl _ _) rs e⟩
  · cases he
/-- a constant; what stands for it may lean on the written part -/
theorem p_cst {d : D} {v : V} (h : PE X a (tC v)) (hK : X.K = g.K) (k : ∀ A H, (∀ a, A a → g.K.lookup a = none) → Rep g A H d v) : PE X a (tR g fs (.cst d)) := by
  refine PE.weak h ?_
  rintro σ H Q ⟨Bn, Ow, Γ, r, Γ', rs, he, hQ⟩
  simp only [ev, Option.some.injEq, Prod.mk.injEq] at he
  obtain ⟨rfl, rfl⟩ := he
  exact hQ v H Ow (.refl _ _) rs (k _ H rs.kf)

/-! ### operators -/
theorem p_bin {op : BOp} (C : Cok0 g X) (ha : PE X a (tR g fs ia)) (hb : PE X b (tR g fs ib)) : PE X (.BinOp a (opOf op) b pos) (tR g fs (.bin op ia ib)) := by
  refine PE.weak (pe_op (op_bin C.K op) ha hb) ?_
  rintro σ H Q ⟨Bn, Ow, Γ, r, Γ', rs, he, hQ⟩
  simp only [ev] at he
  obtain ⟨⟨x, Γ1⟩, e1, he⟩ := Option.bind_eq_some_iff.mp he
  obtain ⟨⟨y, Γ2⟩, e2, he⟩ := Option.bind_eq_some_iff.mp he
  obtain ⟨d, ed, he⟩ := Option.bind_eq_some_iff.mp he
  obtain ⟨e, ee, he⟩ := Option.bind_eq_some_iff.mp he
  obtain ⟨r', hb, he⟩ := Option.map_eq_some_iff.mp he
  simp only [Prod.mk.injEq] at he
  obtain ⟨rfl, rfl⟩ := he
  rw [← datum_dn] at ed ee
  exact tR_two rs e1 e2 fun v w H2 O2 s2 r2 v2 w2 => ⟨Av Bn O2, d, e, _, v2.rdb r2 ed, w2.rdb r2 ee, r2.trk, hb, fun v' H' sm res => let ⟨O3, s3, r3, val⟩ := res.val r2 sm; hQ v' H' O3 (s2.trans s3) r3 val⟩
theorem p_neg (ha : PE X a (tR g fs ia)) : PE X (.UnaryOp .USub a pos) (tR g fs (.neg ia)) := by
  refine PE.weak (pe_un un_neg ha) ?_
  rintro σ H Q ⟨Bn, Ow, Γ, r, Γ', rs, he, hQ⟩
  simp only [ev] at he
  obtain ⟨⟨x, Γ1⟩, e1, he⟩ := Option.bind_eq_some_iff.mp he
  obtain ⟨d, ed, he⟩ := Option.bind_eq_some_iff.mp he
  rw [← datum_dn] at ed
  refine tR_one rs e1 fun v H1 O1 s1 r1 v1 => ?_
  have q := v1.rdb r1 ed
  cases d <;> simp only [reduceCtorEq, Option.some.injEq, Prod.mk.injEq] at he
  obtain ⟨rfl, rfl⟩ := he
  exact ⟨_, rdb_int q, hQ _ H1 O1 s1 r1 (by simp only [Val, Rep])⟩
theorem cmp_core {op : COp} {Q : VK} (rs : RS g Bn Ow H σ Γ) {r : RV} (he : ev fs (.cmp op ia ib) Γ = some (r, Γ')) (hQ : ∀ v H' Ow', Stp Ow H Ow' H' → RS g Bn Ow' H' σ Γ' → Val g Bn Ow' H' σ Γ' r v → Q v H') :
    tOp (rCmp g op) (tR g fs ia) (tR g fs ib) σ H Q := by
  simp only [ev] at he
  obtain ⟨⟨x, Γ1⟩, e1, he⟩ := Option.bind_eq_some_iff.mp he
  obtain ⟨⟨y, Γ2⟩, e2, he⟩ := Option.bind_eq_some_iff.mp he
  obtain ⟨d, ed, he⟩ := Option.bind_eq_some_iff.mp he
  obtain ⟨e, ee, he⟩ := Option.bind_eq_some_iff.mp he
  obtain ⟨r', hb, he⟩ := Option.map_eq_some_iff.mp he
  simp only [Prod.mk.injEq] at he
  obtain ⟨rfl, rfl⟩ := he
  rw [← datum_dn] at ed ee
  exact tR_two rs e1 e2 fun v w H2 O2 s2 r2 v2 w2 => ⟨Av Bn O2, d, e, r', v2.rdb r2 ed, w2.rdb r2 ee, hb, hQ _ H2 O2 s2 r2 (by simp only [Val, Rep])⟩
theorem p_cmp {op : COp} (C : Cok0 g X) (ha : PE X a (tR g fs ia)) (hb : PE X b (tR g fs ib)) (hm : behindInMarks (cmpOf op) b = false) : PE X (.Compare a [cmpOf op] [b] pos) (tR g fs (.cmp op ia ib)) := by
  refine PE.weak (pe_cmpR (op_cmp C.K C.hu op) ha hb hm) ?_
  rintro σ H Q ⟨Bn, Ow, Γ, r, Γ', rs, he, hQ⟩
  exact cmp_core rs he hQ
theorem t_cmp {op : COp} (C : Cok0 g X) (ha : PE X a (tR g fs ia)) (hb : PE X b (tR g fs ib)) (hm : behindInMarks (cmpOf op) b = false) : PT X (.Compare a [cmpOf op] [b] pos) (tT g fs (.cmp op ia ib)) := by
  refine PT.weak (pt_cmpR (op_cmp C.K C.hu op) ha hb hm) ?_
  rintro σ H Q ⟨Bn, Ow, Γ, r, Γ', t, rs, he, ht, hQ⟩
  refine cmp_core rs he fun v H1 O1 s1 r1 v1 => ?_
  simp only [ev] at he
  obtain ⟨⟨x, Γ1⟩, e1, he⟩ := Option.bind_eq_some_iff.mp he
  obtain ⟨⟨y, Γ2⟩, e2, he⟩ := Option.bind_eq_some_iff.mp he
  obtain ⟨d, ed, he⟩ := Option.bind_eq_some_iff.mp he
  obtain ⟨e, ee, he⟩ := Option.bind_eq_some_iff.mp he
  obtain ⟨r', hb, he⟩ := Option.map_eq_some_iff.mp he
  simp only [Prod.mk.injEq] at he
  obtain ⟨rfl, rfl⟩ := he
  simp only [testD, datum, Option.bind_some, truthD, Option.some.injEq] at ht
  subst ht
  simp only [Val, Rep] at v1
  exact ⟨r', v1, hQ H1 O1 s1 r1⟩
theorem chain_core {o1 o2 : COp} {Q : VK} (rs : RS g Bn Ow H σ Γ) {r : RV} (he : ev fs (.chain o1 o2 ia ib ic) Γ = some (r, Γ')) (hQ : ∀ v H' Ow' (k : Bool), Stp Ow H Ow' H' → RS g Bn Ow' H' σ Γ' → v = .bl k → r = .fz (.bl k) → Q v H') :
    tChain (rCmp g o1) (rCmp g o2) (tR g fs ia) (tR g fs ib) (tR g fs ic) σ H Q := by
  simp only [ev] at he
  obtain ⟨⟨x, Γ1⟩, e1, he⟩ := Option.bind_eq_some_iff.mp he
  obtain ⟨⟨y, Γ2⟩, e2, he⟩ := Option.bind_eq_some_iff.mp he
  obtain ⟨d, ed, he⟩ := Option.bind_eq_some_iff.mp he
  obtain ⟨e, ee, he⟩ := Option.bind_eq_some_iff.mp he
  obtain ⟨k, hb, he⟩ := Option.bind_eq_some_iff.mp he
  rw [← datum_dn] at ed ee
  refine tR_two rs e1 e2 fun v w H2 O2 s2 r2 v2 w2 => ⟨Av Bn O2, d, e, k, v2.rdb r2 ed, w2.rdb r2 ee, hb, k, rfl, ?_⟩
  cases k with
  | false =>
    simp only [Bool.false_eq_true, if_false, Option.some.injEq, Prod.mk.injEq] at he ⊢
    obtain ⟨rfl, rfl⟩ := he
    exact hQ _ H2 O2 false s2 r2 rfl rfl
  | true =>
    simp only [if_true] at he ⊢
    obtain ⟨⟨z, Γ3⟩, e3, he⟩ := Option.bind_eq_some_iff.mp he
    obtain ⟨e', ee', he⟩ := Option.bind_eq_some_iff.mp he
    obtain ⟨f, ef, he⟩ := Option.bind_eq_some_iff.mp he
    obtain ⟨k', hb', he⟩ := Option.map_eq_some_iff.mp he
    simp only [Prod.mk.injEq] at he
    obtain ⟨rfl, rfl⟩ := he
    rw [← datum_dn] at ee' ef
    exact tR_one r2 e3 fun u H3 O3 s3 r3 u3 => ⟨Av Bn O3, e', f, k', (w2.step s3 r3).rdb r3 ee', u3.rdb r3 ef, hb', hQ _ H3 O3 k' (s2.trans s3) r3 rfl rfl⟩
theorem p_chain {o1 o2 : COp} (C : Cok0 g X) (ha : PE X a (tR g fs ia)) (hb : PE X b (tR g fs ib)) (hc : PE X c (tR g fs ic)) (hm : lastMarks [cmpOf o1, cmpOf o2] [b, c] = false) : PE X (.Compare a [cmpOf o1, cmpOf o2] [b, c] pos) (tR g fs (.chain o1 o2 ia ib ic)) := by
  refine PE.weak (pe_chain (op_cmp C.K C.hu o1) (op_cmp C.K C.hu o2) ha hb hc hm) ?_
  rintro σ H Q ⟨Bn, Ow, Γ, r, Γ', rs, he, hQ⟩
  exact chain_core rs he fun v H1 O1 k s1 r1 e1 e2 => hQ v H1 O1 s1 r1 (by subst e1 e2; simp only [Val, Rep])
theorem t_chain {o1 o2 : COp} (C : Cok0 g X) (ha : PE X a (tR g fs ia)) (hb : PE X b (tR g fs ib)) (hc : PE X c (tR g fs ic)) (hm : lastMarks [cmpOf o1, cmpOf o2] [b, c] = false) : PT X (.Compare a [cmpOf o1, cmpOf o2] [b, c] pos) (tT g fs (.chain o1 o2 ia ib ic)) := by
  refine PT.weak (pt_chain (op_cmp C.K C.hu o1) (op_cmp C.K C.hu o2) ha hb hc hm) ?_
  rintro σ H Q ⟨Bn, Ow, Γ, r, Γ', t, rs, he, ht, hQ⟩
  refine chain_core rs he fun v H1 O1 k s1 r1 e1 e2 => ⟨k, e1, ?_⟩
  subst e2
  simp only [testD, datum, Option.bind_some, truthD, Option.some.injEq] at ht
  subst ht
  exact hQ H1 O1 s1 r1

/-! ### truth -/
theorem truth_v {A : Addr → Prop} {d : D} {v : V} {k : Bool} (h : Rdb g A H d v) (e : truthD d = some k) : TruV g.K v H k := by
  cases d with
  | non => rw [rdb_non h]; simp only [truthD, Option.some.injEq] at e; exact e.symm
  | bl b => rw [rdb_bl h]; simp only [truthD, Option.some.injEq] at e; exact e.symm
  | int b => rw [rdb_int h]; simp only [truthD, Option.some.injEq] at e; exact e.symm
  | str b => rw [rdb_str h]; simp only [truthD, Option.ite_none_right_eq_some, Option.some.injEq] at e; exact ⟨e.1, e.2.symm⟩
  | lst ds =>
    obtain ⟨a, vs, rfl, e1, r⟩ := h
    simp only [truthD, Option.some.injEq] at e
    refine .inl ⟨vs, .inl (.inl e1), ?_⟩
    have l := r.len
    rw [← e]
    cases ds <;> cases vs <;> simp at l <;> rfl
  | tup ds =>
    obtain ⟨a, vs, rfl, _, e1, r⟩ := rdb_tup h
    simp only [truthD, Option.some.injEq] at e
    refine .inr (.inl ⟨vs, e1, ?_⟩)
    have l := r.len
    rw [← e]
    cases ds <;> cases vs <;> simp at l <;> rfl
  | obj => simp only [truthD, reduceCtorEq] at e
  | dct => simp only [truthD, reduceCtorEq] at e
  | dic _ _ => simp only [truthD, reduceCtorEq] at e
  | exc _ _ _ => simp only [truthD, reduceCtorEq] at e
  | err _ _ _ => simp only [truthD, reduceCtorEq] at e
  | ref _ => simp only [truthD, reduceCtorEq] at e
  | scr ns =>
    obtain ⟨a, rfl, _, e1⟩ := rdb_scr h
    simp only [truthD, Option.some.injEq] at e
    refine .inl ⟨_, e1, ?_⟩
    rw [← e]
    cases ns <;> rfl
theorem test_v {x : RV} {v : V} {k : Bool} (rs : RS g Bn Ow H σ Γ) (h : Val g Bn Ow H σ Γ x v) (e : testD Γ x = some k) : TruV g.K v H k := by
  unfold testD at e
  obtain ⟨d, e1, e2⟩ := Option.bind_eq_some_iff.mp e
  exact truth_v (h.rdb rs e1) e2
theorem t_val (C : Cok0 g X) (ha : PE X a (tR g fs ia)) (he : ∀ whole, isTrue a X.env whole = (do let v ← whole; standAt a.pos; holding [v] (truthy v))) : PT X a (tT g fs ia) := by
  refine PT.weak (pt_truth ha he) ?_
  rintro σ H Q ⟨Bn, Ow, Γ, r, Γ', t, rs, he, ht, hQ⟩
  exact ⟨Bn, Ow, Γ, r, Γ', rs, he, fun v H1 O1 s1 r1 v1 => ⟨t, by rw [C.K]; exact test_v r1 v1 ht, hQ H1 O1 s1 r1⟩⟩
theorem p_and {rest : List Expr} (C : Cok0 g X) (ha : PE X a (tR g fs ia)) (hb : PE X (.BoolOp .And (b :: rest) pos) (tR g fs ib)) : PE X (.BoolOp .And (a :: b :: rest) pos) (tR g fs (.and ia ib)) := by
  refine PE.weak (pe_andT ha hb) ?_
  rintro σ H Q ⟨Bn, Ow, Γ, r, Γ', rs, he, hQ⟩
  simp only [ev] at he
  obtain ⟨⟨x, Γ1⟩, e1, he⟩ := Option.bind_eq_some_iff.mp he
  obtain ⟨t, et, he⟩ := Option.bind_eq_some_iff.mp he
  refine ⟨Bn, Ow, Γ, x, Γ1, rs, e1, fun v H1 O1 s1 r1 v1 => ⟨t, by rw [C.K]; exact test_v r1 v1 et, ?_⟩⟩
  cases t with
  | false =>
    simp only [Bool.false_eq_true, if_false, Option.some.injEq, Prod.mk.injEq] at he ⊢
    obtain ⟨rfl, rfl⟩ := he
    exact hQ v H1 O1 s1 r1 v1
  | true =>
    simp only [if_true] at he ⊢
    exact ⟨Bn, O1, Γ1, r, Γ', r1, he, fun w H2 O2 s2 r2 w2 => hQ w H2 O2 (s1.trans s2) r2 w2⟩
theorem p_or {rest : List Expr} (C : Cok0 g X) (ha : PE X a (tR g fs ia)) (hb : PE X (.BoolOp .Or (b :: rest) pos) (tR g fs ib)) : PE X (.BoolOp .Or (a :: b :: rest) pos) (tR g fs (.or ia ib)) := by
  refine PE.weak (pe_orT ha hb) ?_
  rintro σ H Q ⟨Bn, Ow, Γ, r, Γ', rs, he, hQ⟩
  simp only [ev] at he
  obtain ⟨⟨x, Γ1⟩, e1, he⟩ := Option.bind_eq_some_iff.mp he
  obtain ⟨t, et, he⟩ := Option.bind_eq_some_iff.mp he
  refine ⟨Bn, Ow, Γ, x, Γ1, rs, e1, fun v H1 O1 s1 r1 v1 => ⟨t, by rw [C.K]; exact test_v r1 v1 et, ?_⟩⟩
  cases t with
  | true =>
    simp only [if_true, Option.some.injEq, Prod.mk.injEq] at he ⊢
    obtain ⟨rfl, rfl⟩ := he
    exact hQ v H1 O1 s1 r1 v1
  | false =>
    simp only [Bool.false_eq_true, if_false] at he ⊢
    exact ⟨Bn, O1, Γ1, r, Γ', r1, he, fun w H2 O2 s2 r2 w2 => hQ w H2 O2 (s1.trans s2) r2 w2⟩
theorem p_one {op} (ha : PE X a (tR g fs ia)) : PE X (.BoolOp op [a] pos) (tR g fs ia) := pe_one ha
theorem w_and1 (ha : PT X a (tT g fs ia)) : PW X (.BoolOp .And [a] pos) (tT g fs ia) := pw_and1 ha
theorem w_or1 (ha : PT X a (tT g fs ia)) : PW X (.BoolOp .Or [a] pos) (tT g fs ia) := pw_or1 ha
theorem PW.weak {e : Expr} {t t' : TT} (h : PW X e t) (k : ∀ σ H Q, t' σ H Q → t σ H Q) : PW X e t' := ⟨fun w pins s σ H Q I q => h.run w pins s σ H Q I (k σ H Q q)⟩
theorem w_and {rest : List Expr} (ha : PT X a (tT g fs ia)) (hb : PW X (.BoolOp .And (b :: rest) pos) (tT g fs ib)) : PW X (.BoolOp .And (a :: b :: rest) pos) (tT g fs (.and ia ib)) := by
  refine PW.weak (pw_and ha hb) ?_
  rintro σ H Q ⟨Bn, Ow, Γ, r, Γ', t', rs, he, ht, hQ⟩
  simp only [ev] at he
  obtain ⟨⟨x, Γ1⟩, e1, he⟩ := Option.bind_eq_some_iff.mp he
  obtain ⟨t, et, he⟩ := Option.bind_eq_some_iff.mp he
  refine ⟨Bn, Ow, Γ, x, Γ1, t, rs, e1, et, fun H1 O1 s1 r1 => ?_⟩
  cases t with
  | false =>
    simp only [Bool.false_eq_true, if_false, Option.some.injEq, Prod.mk.injEq] at he ⊢
    obtain ⟨rfl, rfl⟩ := he
    rw [et] at ht; cases ht
    exact hQ H1 O1 s1 r1
  | true =>
    simp only [if_true] at he ⊢
    exact ⟨Bn, O1, Γ1, r, Γ', t', r1, he, ht, fun H2 O2 s2 r2 => hQ H2 O2 (s1.trans s2) r2⟩
theorem w_or {rest : List Expr} (ha : PT X a (tT g fs ia)) (hb : PW X (.BoolOp .Or (b :: rest) pos) (tT g fs ib)) : PW X (.BoolOp .Or (a :: b :: rest) pos) (tT g fs (.or ia ib)) := by
  refine PW.weak (pw_or ha hb) ?_
  rintro σ H Q ⟨Bn, Ow, Γ, r, Γ', t', rs, he, ht, hQ⟩
  simp only [ev] at he
  obtain ⟨⟨x, Γ1⟩, e1, he⟩ := Option.bind_eq_some_iff.mp he
  obtain ⟨t, et, he⟩ := Option.bind_eq_some_iff.mp he
  refine ⟨Bn, Ow, Γ, x, Γ1, t, rs, e1, et, fun H1 O1 s1 r1 => ?_⟩
  cases t with
  | true =>
    simp only [if_true, Option.some.injEq, Prod.mk.injEq] at he ⊢
    obtain ⟨rfl, rfl⟩ := he
    rw [et] at ht; cases ht
    exact hQ H1 O1 s1 r1
  | false =>
    simp only [Bool.false_eq_true, if_false] at he ⊢
    exact ⟨Bn, O1, Γ1, r, Γ', t', r1, he, ht, fun H2 O2 s2 r2 => hQ H2 O2 (s1.trans s2) r2⟩
theorem p_not (C : Cok0 g X) (ha : PE X a (tR g fs ia)) : PE X (.UnaryOp .Not a pos) (tR g fs (.not ia)) := by
  refine PE.weak (pe_notT ha) ?_
  rintro σ H Q ⟨Bn, Ow, Γ, r, Γ', rs, he, hQ⟩
  simp only [ev] at he
  obtain ⟨⟨x, Γ1⟩, e1, he⟩ := Option.bind_eq_some_iff.mp he
  obtain ⟨t, et, he⟩ := Option.map_eq_some_iff.mp he
  simp only [Prod.mk.injEq] at he
  obtain ⟨rfl, rfl⟩ := he
  exact ⟨Bn, Ow, Γ, x, Γ1, rs, e1, fun v H1 O1 s1 r1 v1 => ⟨t, by rw [C.K]; exact test_v r1 v1 et, hQ _ H1 O1 s1 r1 (by simp only [Val, Rep])⟩⟩
theorem t_not (ha : PT X a (tT g fs ia)) : PT X (.UnaryOp .Not a pos) (tT g fs (.not ia)) := by
  refine PT.weak (pt_not ha) ?_
  rintro σ H Q ⟨Bn, Ow, Γ, r, Γ', t', rs, he, ht, hQ⟩
  simp only [ev] at he
  obtain ⟨⟨x, Γ1⟩, e1, he⟩ := Option.bind_eq_some_iff.mp he
  obtain ⟨t, et, he⟩ := Option.map_eq_some_iff.mp he
  simp only [Prod.mk.injEq] at he
  obtain ⟨rfl, rfl⟩ := he
  simp only [testD, datum, Option.bind_some, truthD, Option.some.injEq] at ht
  subst ht
  exact ⟨Bn, Ow, Γ, x, Γ1, t, rs, e1, et, fun H1 O1 s1 r1 => hQ H1 O1 s1 r1⟩
theorem p_ite (hc : PT X c (tT g fs ic)) (ha : PE X a (tR g fs ia)) (hb : PE X b (tR g fs ib)) : PE X (.IfExp c a b pos) (tR g fs (.ite ic ia ib)) := by
  refine PE.weak (pe_ifExp hc ha hb) ?_
  rintro σ H Q ⟨Bn, Ow, Γ, r, Γ', rs, he, hQ⟩
  simp only [ev] at he
  obtain ⟨⟨x, Γ1⟩, e1, he⟩ := Option.bind_eq_some_iff.mp he
  obtain ⟨t, et, he⟩ := Option.bind_eq_some_iff.mp he
  refine ⟨Bn, Ow, Γ, x, Γ1, t, rs, e1, et, fun H1 O1 s1 r1 => ?_⟩
  cases t with
  | true =>
    simp only [if_true] at he ⊢
    exact ⟨Bn, O1, Γ1, r, Γ', r1, he, fun w H2 O2 s2 r2 w2 => hQ w H2 O2 (s1.trans s2) r2 w2⟩
  | false =>
    simp only [Bool.false_eq_true, if_false] at he ⊢
    exact ⟨Bn, O1, Γ1, r, Γ', r1, he, fun w H2 O2 s2 r2 w2 => hQ w H2 O2 (s1.trans s2) r2 w2⟩

/-! ### argument lists, displays, subscripts -/
theorem a_nil : PA X [] (tAs g fs []) := by
  refine PA.weak pa_nil ?_
  rintro σ H Q ⟨Bn, Ow, Γ, xs, Γ', rs, he, hQ⟩
  simp only [evs, Option.some.injEq, Prod.mk.injEq] at he
  obtain ⟨rfl, rfl⟩ := he
  exact hQ [] H Ow (.refl _ _) rs rfl
theorem a_cons {es : List Expr} {ies : List E} (ha : PE X a (tR g fs ia)) (hr : PA X es (tAs g fs ies)) (hs : starEach (a :: es) X.env = (false, eval a X.env) :: starEach es X.env) : PA X (a :: es) (tAs g fs (ia :: ies)) := by
  refine PA.weak (pa_cons ha hr hs) ?_
  rintro σ H Q ⟨Bn, Ow, Γ, xs, Γ', rs, he, hQ⟩
  simp only [evs] at he
  obtain ⟨⟨x, Γ1⟩, e1, he⟩ := Option.bind_eq_some_iff.mp he
  obtain ⟨⟨ys, Γ2⟩, e2, he⟩ := Option.map_eq_some_iff.mp he
  simp only [Prod.mk.injEq] at he
  obtain ⟨rfl, rfl⟩ := he
  exact tR_one rs e1 fun v H1 O1 s1 r1 v1 => ⟨Bn, O1, Γ1, ys, Γ2, r1, e2, fun vs H2 O2 s2 r2 w2 => hQ (v :: vs) H2 O2 (s1.trans s2) r2 ⟨v, vs, rfl, v1.step s2 r2, w2⟩⟩
theorem p_tup {es : List Expr} {ies : List E} {k : Nat} (C : Cok0 g X) (h : PA X es (tAs g fs ies)) : PE X (.Tuple es k pos) (tR g fs (.tup ies)) := by
  refine PE.weak (PE.kf (pe_tup h)) ?_
  rintro σ H Q ⟨Bn, Ow, Γ, r, Γ', rs, he, hQ⟩
  simp only [ev] at he
  obtain ⟨⟨xs, Γ1⟩, e1, he⟩ := Option.bind_eq_some_iff.mp he
  obtain ⟨⟨ds, Γ2⟩, e2, he⟩ := Option.bind_eq_some_iff.mp he
  simp only [Option.ite_none_right_eq_some, Option.some.injEq, Prod.mk.injEq] at he
  obtain ⟨hz, rfl, rfl⟩ := he
  refine ⟨Bn, Ow, Γ, xs, Γ1, rs, e1, fun vs H1 O1 s1 r1 v1 => ?_⟩
  obtain ⟨O2, s2, r2, p2⟩ := fres_ok r1 v1 e2
  refine ⟨by rw [← p2.len]; exact hz, fun p np kf => ?_⟩
  obtain ⟨O3, s3, r3, val⟩ := (new_tup np r2.trk p2).val r2 (same_new np)
  exact hQ _ _ O3 ((s1.trans s2).trans s3) r3 val
theorem p_lst {es : List Expr} {ies : List E} (C : Cok0 g X) (h : PA X es (tAs g fs ies)) : PE X (.List es pos) (tR g fs (.lst ies)) := by
  refine PE.weak (PE.kf (pe_lst h)) ?_
  rintro σ H Q ⟨Bn, Ow, Γ, r, Γ', rs, he, hQ⟩
  simp only [ev] at he
  obtain ⟨⟨xs, Γ1⟩, e1, he⟩ := Option.bind_eq_some_iff.mp he
  obtain ⟨⟨ds, Γ2⟩, e2, he⟩ := Option.bind_eq_some_iff.mp he
  simp only [Option.ite_none_right_eq_some, Option.some.injEq, Prod.mk.injEq] at he
  obtain ⟨hz, rfl, rfl⟩ := he
  refine ⟨Bn, Ow, Γ, xs, Γ1, rs, e1, fun vs H1 O1 s1 r1 v1 => ?_⟩
  obtain ⟨O2, s2, r2, p2⟩ := fres_ok r1 v1 e2
  refine ⟨by rw [← p2.len]; exact hz, fun p np kf => ?_⟩
  have kf' : g.K.lookup p = none := by rw [← C.K]; exact kf_new kf upd_same
  obtain ⟨O3, s3, r3, val⟩ := (new_lst np kf' p2).val r2 (same_new np)
  exact hQ _ _ O3 ((s1.trans s2).trans s3) r3 val
theorem reps_at {A : Addr → Prop} {ds : List D} {vs : List V} {i : Int} {d : D} (h : Reps g A H ds vs) (e : atI ds i = some d) : ∃ v, atI vs i = some v ∧ Rep g A H d v := by
  unfold atI at e ⊢
  rw [← h.len]
  obtain ⟨j, e1, e2⟩ := Option.bind_eq_some_iff.mp e
  obtain ⟨v, e3, r⟩ := h.get e2
  exact ⟨v, by rw [e1]; exact e3, r⟩
theorem atI_map {α β : Type} {f : α → β} {xs : List α} {i : Int} {x : α} (e : atI xs i = some x) : atI (xs.map f) i = some (f x) := by
  unfold atI at e ⊢
  obtain ⟨j, e1, e2⟩ := Option.bind_eq_some_iff.mp e
  rw [List.length_map, e1]
  show (xs.map f)[j]? = _
  rw [List.getElem?_map, e2]
  rfl
theorem ix_core {A : Addr → Prop} {d e r : D} {v w : V} {Q : VK} (hv : Rdb g A H d v) (hw : Rdb g A H e w) (h : ixD d e = some r) (hQ : ∀ u, Rep g A H r u → Q u H) : rIx g.K v w H Q := by
  cases d <;> cases e <;> simp only [ixD, reduceCtorEq] at h
  · split at h
    · obtain ⟨c, e1, rfl⟩ := Option.map_eq_some_iff.mp h
      rename_i hz
      exact .inr (.inr ⟨_, _, c, rdb_str hv, rdb_int hw, hz, e1, hQ _ (by simp only [Rep])⟩)
    · cases h
  · obtain ⟨a, vs, rfl, e1, r1⟩ := hv
    obtain ⟨u, eu, ru⟩ := reps_at r1 h
    exact .inl ⟨a, vs, _, u, rfl, rdb_int hw, .inl (.inl e1), eu, hQ _ ru⟩
  · obtain ⟨a, vs, rfl, _, e1, r1⟩ := rdb_tup hv
    obtain ⟨u, eu, ru⟩ := reps_at r1 h
    exact .inr (.inl ⟨a, vs, _, u, rfl, rdb_int hw, e1, eu, hQ _ ru⟩)
  · obtain ⟨a, rfl, _, e1⟩ := rdb_scr hv
    obtain ⟨i, e2, rfl⟩ := Option.map_eq_some_iff.mp h
    exact .inl ⟨a, _, _, _, rfl, rdb_int hw, e1, atI_map e2, hQ _ (by simp only [Rep])⟩
theorem p_ix (C : Cok0 g X) (ha : PE X a (tR g fs ia)) (hb : PE X b (tR g fs ib)) (hs : PlainIx b) : PE X (.Subscript a b pos) (tR g fs (.ix ia ib)) := by
  refine PE.weak (pe_ix ix_seq ha hb hs) ?_
  rintro σ H Q ⟨Bn, Ow, Γ, r, Γ', rs, he, hQ⟩
  simp only [ev] at he
  obtain ⟨⟨x, Γ1⟩, e1, he⟩ := Option.bind_eq_some_iff.mp he
  obtain ⟨⟨y, Γ2⟩, e2, he⟩ := Option.bind_eq_some_iff.mp he
  obtain ⟨d, ed, he⟩ := Option.bind_eq_some_iff.mp he
  obtain ⟨e, ee, he⟩ := Option.bind_eq_some_iff.mp he
  obtain ⟨r', hb, he⟩ := Option.map_eq_some_iff.mp he
  simp only [Prod.mk.injEq] at he
  obtain ⟨rfl, rfl⟩ := he
  rw [← datum_dn] at ed ee
  refine tR_two rs e1 e2 fun v w H2 O2 s2 r2 v2 w2 => ?_
  rw [C.K]
  exact ix_core (v2.rdb r2 ed) (w2.rdb r2 ee) hb fun u ru => hQ u H2 O2 s2 r2 ru
theorem reps_cut {A : Addr → Prop} {ds : List D} {vs : List V} (lo hi : Option Int) (h : Reps g A H ds vs) : Reps g A H (cutD ds lo hi) (cutV vs lo hi) := by
  unfold cutD cutV
  rw [h.len]
  exact (h.drop _).take _
theorem reps_ints {A : Addr → Prop} : ∀ ns : List Int, Reps g A H (ns.map D.int) (ns.map V.int)
  | [] => by simp only [List.map_nil, Reps]
  | n :: ns => by
    simp only [List.map_cons, Reps]
    exact ⟨_, _, rfl, by simp only [Rep], reps_ints ns⟩
theorem slc_core {A : Addr → Prop} {d : D} {r : RV} {v : V} {lo hi : Option Int} {Q : VK} (hv : Rdb g A H d v) (tr : ∀ a, A a → H a ≠ none) (h : slcD d lo hi = some r) (hQ : ∀ u H', Same H H' → ((∀ a o, g.K.lookup a = some o → H' a = none) → Res g A H H' r u) → Q u H') :
    rSlL g.K v lo hi H Q ∨ rSlT g.K v lo hi H Q := by
  cases d <;> simp only [slcD, reduceCtorEq, Option.some.injEq, Option.ite_none_left_eq_some] at h
  · subst h
    obtain ⟨a, vs, rfl, e1, r1⟩ := hv
    exact .inl ⟨a, vs, rfl, .inl (.inl e1), fun p np => hQ _ _ (same_new np) fun kf => new_lst np (kf_new kf upd_same) (reps_cut lo hi r1)⟩
  · obtain ⟨hz, rfl⟩ := h
    obtain ⟨a, vs, rfl, _, e1, r1⟩ := rdb_tup hv
    refine .inr ⟨a, vs, rfl, e1, by rw [← r1.len]; exact hz, fun p np => hQ _ _ (same_new np) fun kf => new_tup np tr (reps_cut lo hi r1)⟩
  · subst h
    obtain ⟨a, rfl, _, e1⟩ := rdb_scr hv
    exact .inl ⟨a, _, rfl, e1, fun p np => hQ _ _ (same_new np) fun kf => new_lst np (kf_new kf upd_same) (reps_cut lo hi (reps_ints _))⟩
structure Part (g : Gx) (fs : List FS) (X : Cx) (e : Option Expr) (ies : List E) : Prop where
  run : (e = none ∧ ies = []) ∨ ∃ a ia, e = some a ∧ ies = [ia] ∧ PE X a (tR g fs ia)
theorem p_slc {lo hi : Option Expr} {il ih : List E} {p2 : Pos} (C : Cok0 g X) (ha : PE X a (tR g fs ia)) (hl : Part g fs X lo il) (hh : Part g fs X hi ih) : PE X (.Subscript a (.Slice lo hi none p2) pos) (tR g fs (.slc ia il ih)) := by
  -- the reading of a part
  have part : ∀ {e : Option Expr} {ies : List E}, Part g fs X e ies → ∃ t, PO X e t ∧ ∀ {Bn Ow Γ xs Γ' ds o σ H} {Q : Option Int → Hp → Prop}, RS g Bn Ow H σ Γ → evs fs ies Γ = some (xs, Γ') → datums Γ' xs = some ds → slO ds = some o →
      (∀ H' Ow', Stp Ow H Ow' H' → RS g Bn Ow' H' σ Γ' → Q o H') → t σ H Q := by
    intro e ies h
    rcases h.run with ⟨rfl, rfl⟩ | ⟨b, ib, rfl, rfl, hb⟩
    · refine ⟨_, po_none, fun {Bn Ow Γ xs Γ' ds o σ H Q} rs e1 e2 e3 k => ?_⟩
      simp only [evs, Option.some.injEq, Prod.mk.injEq] at e1
      obtain ⟨rfl, rfl⟩ := e1
      simp only [datums, Option.some.injEq] at e2
      subst e2
      simp only [slO, Option.some.injEq] at e3
      subst e3
      exact k H Ow (.refl _ _) rs
    · refine ⟨_, po_some hb, fun {Bn Ow Γ xs Γ' ds o σ H Q} rs e1 e2 e3 k => ?_⟩
      simp only [evs] at e1
      obtain ⟨⟨x, Γ1⟩, e4, e1⟩ := Option.bind_eq_some_iff.mp e1
      simp only [Option.map_some, Option.some.injEq, Prod.mk.injEq] at e1
      obtain ⟨rfl, rfl⟩ := e1
      simp only [datums] at e2
      obtain ⟨d, e5, e2⟩ := Option.bind_eq_some_iff.mp e2
      simp only [Option.map_some, Option.some.injEq] at e2
      subst e2
      rw [← datum_dn] at e5
      refine tR_one rs e4 fun v H1 O1 s1 r1 v1 => ?_
      have q := v1.rdb r1 e5
      cases d <;> simp only [slO, reduceCtorEq, Option.some.injEq] at e3
      subst e3
      exact ⟨_, rdb_int q, k H1 O1 s1 r1⟩
  obtain ⟨tl, pl, kl⟩ := part hl
  obtain ⟨th, ph, kh⟩ := part hh
  refine PE.weak (PE.kf (pe_slice (sl_list.or sl_tup) ha pl ph)) ?_
  rintro σ H Q ⟨Bn, Ow, Γ, r, Γ', rs, he, hQ⟩
  simp only [ev] at he
  obtain ⟨⟨x, Γ1⟩, e1, he⟩ := Option.bind_eq_some_iff.mp he
  obtain ⟨⟨ys, Γ2⟩, e2, he⟩ := Option.bind_eq_some_iff.mp he
  obtain ⟨l, el, he⟩ := Option.bind_eq_some_iff.mp he
  obtain ⟨⟨zs, Γ3⟩, e3, he⟩ := Option.bind_eq_some_iff.mp he
  obtain ⟨d, ed, he⟩ := Option.bind_eq_some_iff.mp he
  obtain ⟨h, eh, he⟩ := Option.bind_eq_some_iff.mp he
  obtain ⟨lo', el', he⟩ := Option.bind_eq_some_iff.mp he
  obtain ⟨hi', eh', he⟩ := Option.bind_eq_some_iff.mp he
  obtain ⟨r', hb, he⟩ := Option.map_eq_some_iff.mp he
  simp only [Prod.mk.injEq] at he
  obtain ⟨rfl, rfl⟩ := he
  rw [← datum_dn] at ed
  refine tR_one rs e1 fun v H1 O1 s1 r1 v1 => kl r1 e2 el el' fun H2 O2 s2 r2 => kh r2 e3 eh eh' fun H3 O3 s3 r3 => ?_
  rw [C.K]
  have v3 := ((v1.step s2 r2).step s3 r3).rdb r3 ed
  refine slc_core v3 r3.trk hb fun u H' sm kr kf => ?_
  obtain ⟨O4, s4, r4, val⟩ := (kr kf).val r3 sm
  exact hQ u H' O4 (((s1.trans s2).trans s3).trans s4) r4 val
end
end DV

namespace DV
open PySem L2
/-! ### built-ins on data -/
def rBi (g : Gx) (b : Bi) : List V → Hp → VK → Prop := fun vs H Q => ∃ A ds r, Paired (fun d v => Rdb g A H d v) ds vs ∧ (∀ a, A a → H a ≠ none) ∧ biD b ds = some r ∧ ∀ v H', Same H H' → Res g A H H' r v → Q v H'
theorem maxI_spec : ∀ {ns : List Int} {m : Int}, maxI ns = some m → m ∈ ns ∧ ∀ y ∈ ns, y ≤ m := by
  have go : ∀ (r : List Int) (x : Int), (r.foldl (fun a b => if a < b then b else a) x) ∈ x :: r ∧ ∀ y ∈ x :: r, y ≤ r.foldl (fun a b => if a < b then b else a) x := by
    intro r
    induction r with
    | nil => intro x; exact ⟨List.mem_cons_self, fun y hy => by simp at hy; rw [hy]; exact Int.le_refl _⟩
    | cons z r ih =>
      intro x
      rw [List.foldl_cons]
      have q := ih (if x < z then z else x)
      refine ⟨?_, fun y hy => ?_⟩
      · rcases List.mem_cons.mp q.1 with h | h
        · rw [h]; split
          · simp
          · simp
        · simp [h]
      · have q2 := q.2 _ List.mem_cons_self
        have b1 : x ≤ (if x < z then z else x) := by split <;> omega
        have b2 : z ≤ (if x < z then z else x) := by split <;> omega
        rcases List.mem_cons.mp hy with h | h
        · rw [h]; exact Int.le_trans b1 q2
        · rcases List.mem_cons.mp h with h | h
          · rw [h]; exact Int.le_trans b2 q2
          · exact q.2 y (List.mem_cons_of_mem _ h)
  intro ns m h
  cases ns with
  | nil => simp [maxI] at h
  | cons x r => simp only [maxI, Option.some.injEq] at h; subst h; exact go r x
section
variable {X : Cx} {g : Gx} {A : Addr → Prop} {H : Hp}
theorem ints_of : ∀ {ds : List D} {vs : List V} {ns : List Int}, Reps g A H ds vs → intsD ds = some ns → vs = ns.map V.int
  | [], _, ns, h, e => by simp only [Reps] at h; simp only [intsD, Option.some.injEq] at e; subst h e; rfl
  | d :: ds, _, ns, h, e => by
    simp only [Reps] at h
    obtain ⟨v, r, rfl, h1, h2⟩ := h
    cases d <;> simp only [intsD, reduceCtorEq] at e
    obtain ⟨ms, e1, rfl⟩ := Option.map_eq_some_iff.mp e
    simp only [Rep] at h1
    rw [List.map_cons, h1, ints_of h2 e1]
theorem bi1 {b : Bi} {f : Value} {r : List V → Hp → VK → Prop} (hK : X.K = g.K) (h : CallR X f r)
    (k : ∀ (A : Addr → Prop) (H : Hp) (ds : List D) (vs : List V) (x : RV) (Q : VK), Paired (fun d v => Rdb g A H d v) ds vs → (∀ a, A a → H a ≠ none) → biD b ds = some x → (∀ v H', Same H H' → ((∀ a o, g.K.lookup a = some o → H' a = none) → Res g A H H' x v) → Q v H') → r vs H Q) : CallR X f (rBi g b) := by
  refine CallR.weak (CallR.kf h) ?_
  rintro vs H Q ⟨A, ds, x, hp, tr, hb, hQ⟩
  exact k A H ds vs x _ hp tr hb fun v H' sm kr kf => hQ v H' sm (kr fun a o e => kf a o (by rw [hK]; exact e))
theorem paired1 {x : D} {vs : List V} (h : Paired (fun d v => Rdb g A H d v) [x] vs) : ∃ v, vs = [v] ∧ Rdb g A H x v := by
  cases h with
  | cons a b => cases b; exact ⟨_, rfl, a⟩
theorem paired2 {x y : D} {vs : List V} (h : Paired (fun d v => Rdb g A H d v) [x, y] vs) : ∃ v w, vs = [v, w] ∧ Rdb g A H x v ∧ Rdb g A H y w := by
  cases h with
  | cons a b =>
    cases b with
    | cons c d => cases d; exact ⟨_, _, rfl, a, c⟩
theorem b_len (hK : X.K = g.K) : CallR X (.builtin "len") (rBi g .len) := by
  refine bi1 hK call_len ?_
  intro A H ds vs x Q hp tr hb hQ
  rw [hK]
  match ds, hb with
  | [.lst xs], hb =>
    simp only [biD, Option.some.injEq] at hb; subst hb
    obtain ⟨v, rfl, q⟩ := paired1 hp
    obtain ⟨a, ws, rfl, e1, r1⟩ := q
    exact ⟨_, ws.length, rfl, .inl ⟨ws, .inl (.inl e1), rfl⟩, hQ _ H (same_rfl H) fun _ => by simp only [Res, Rep, r1.len]⟩
  | [.tup xs], hb =>
    simp only [biD, Option.some.injEq] at hb; subst hb
    obtain ⟨v, rfl, q⟩ := paired1 hp
    obtain ⟨a, ws, rfl, _, e1, r1⟩ := rdb_tup q
    exact ⟨_, ws.length, rfl, .inr ⟨ws, e1, rfl⟩, hQ _ H (same_rfl H) fun _ => by simp only [Res, Rep, r1.len]⟩
  | [.scr ns], hb =>
    simp only [biD, Option.some.injEq] at hb; subst hb
    obtain ⟨v, rfl, q⟩ := paired1 hp
    obtain ⟨a, rfl, _, e1⟩ := rdb_scr q
    exact ⟨_, _, rfl, .inl ⟨_, e1, rfl⟩, hQ _ H (same_rfl H) fun _ => by simp only [Res, Rep, List.length_map]⟩
  | [.str s], hb =>
    simp only [biD, Option.ite_none_right_eq_some, Option.some.injEq] at hb
    obtain ⟨hz, rfl⟩ := hb
    obtain ⟨v, rfl, q⟩ := paired1 hp
    exact ⟨_, s.length, rfl, by rw [rdb_str q]; exact ⟨hz, rfl⟩, hQ _ H (same_rfl H) fun _ => by simp only [Res, Rep]⟩
theorem b_int (hK : X.K = g.K) : CallR X (.type "int") (rBi g .int1) := by
  refine bi1 hK call_int1 ?_
  intro A H ds vs x Q hp tr hb hQ
  match ds, hb with
  | [.int i], hb =>
    simp only [biD, Option.some.injEq] at hb; subst hb
    obtain ⟨v, rfl, q⟩ := paired1 hp
    exact .inl ⟨i, by rw [rdb_int q], hQ _ H (same_rfl H) fun _ => by simp only [Res, Rep]⟩
  | [.bl i], hb =>
    simp only [biD, Option.some.injEq] at hb; subst hb
    obtain ⟨v, rfl, q⟩ := paired1 hp
    exact .inr ⟨i, by rw [rdb_bl q], hQ _ H (same_rfl H) fun _ => by simp only [Res, Rep]⟩
theorem b_max2 (C : Cok g X) : CallR X (.builtin "max") (rBi g .max2) := by
  refine bi1 C.K (call_max2 C.calm) ?_
  intro A H ds vs x Q hp tr hb hQ
  match ds, hb with
  | [.int i, .int j], hb =>
    simp only [biD, Option.some.injEq] at hb; subst hb
    obtain ⟨v, w, rfl, q, q'⟩ := paired2 hp
    exact ⟨i, j, by rw [rdb_int q, rdb_int q'], hQ _ H (same_rfl H) fun _ => by simp only [Res, Rep]⟩
theorem b_min2 (C : Cok g X) : CallR X (.builtin "min") (rBi g .min2) := by
  refine bi1 C.K (call_min2 C.calm) ?_
  intro A H ds vs x Q hp tr hb hQ
  match ds, hb with
  | [.int i, .int j], hb =>
    simp only [biD, Option.some.injEq] at hb; subst hb
    obtain ⟨v, w, rfl, q, q'⟩ := paired2 hp
    exact ⟨i, j, by rw [rdb_int q, rdb_int q'], hQ _ H (same_rfl H) fun _ => by simp only [Res, Rep]⟩
theorem b_maxl (C : Cok g X) : CallR X (.builtin "max") (rBi g .maxl) := by
  refine bi1 C.K (cr_max C.calm) ?_
  intro A H ds vs x Q hp tr hb hQ
  match ds, hb with
  | [.lst xs], hb =>
    simp only [biD] at hb
    obtain ⟨ns, e1, hb⟩ := Option.bind_eq_some_iff.mp hb
    obtain ⟨m, e2, rfl⟩ := Option.map_eq_some_iff.mp hb
    obtain ⟨v, rfl, q⟩ := paired1 hp
    obtain ⟨a, ws, rfl, e3, r1⟩ := q
    rw [ints_of r1 e1] at e3
    have sp := maxI_spec e2
    refine ⟨a, ns, rfl, .inl (.inl e3), List.length_pos_of_mem sp.1, fun m' h1 h2 => hQ _ H (same_rfl H) fun _ => ?_⟩
    simp only [Res, Rep]
    rw [Int.le_antisymm (sp.2 m' h1) (h2 m sp.1)]
def tyN : Ty → String
  | .int => "int" | .bool => "bool" | .str => "str" | .list => "list" | .tuple => "tuple"
/-- isinstance(x, T): the reading of the two arguments -/
theorem isi_core {t : Ty} {d : D} {v : V} {Q : VK} (hs : shallow d = true) (h : Rdb g A H d v) (hQ : Q (.bl (isiD t d)) H) : rIsi g.K [v, .ty (tyN t)] H Q := by
  cases d with
  | obj => simp [shallow] at hs
  | exc => simp [shallow] at hs
  | err => simp [shallow] at hs
  | ref => simp [shallow] at hs
  | scr => simp [shallow] at hs
  | dct =>
    obtain ⟨a, rfl, _, e1⟩ := rdb_dct h
    exact ⟨_, _, _, _, isiD t .dct, rfl, .ty _, .base (.dK e1), kit_ty (by cases t <;> (simp only [isiD, tyN]; decide +kernel)), hQ⟩
  | dic ks ds =>
    obtain ⟨a, vs, rfl, _, _, e1, _⟩ := rdb_dic h
    exact ⟨_, _, _, _, isiD t (.dic ks ds), rfl, .ty _, .base (.dK e1), kit_ty (by cases t <;> (simp only [isiD, tyN]; decide +kernel)), hQ⟩
  | non => rw [rdb_non h]; exact ⟨_, _, _, _, isiD t .non, rfl, .ty _, .base .non, kit_ty (by cases t <;> decide +kernel), hQ⟩
  | bl b => rw [rdb_bl h]; exact ⟨_, _, _, _, isiD t (.bl b), rfl, .ty _, .base (.bl b), kit_ty (by cases t <;> (simp only [isiD, tyN]; decide +kernel)), hQ⟩
  | int b => rw [rdb_int h]; exact ⟨_, _, _, _, isiD t (.int b), rfl, .ty _, .base (.int b), kit_ty (by cases t <;> (simp only [isiD, tyN]; decide +kernel)), hQ⟩
  | str b => rw [rdb_str h]; exact ⟨_, _, _, _, isiD t (.str b), rfl, .ty _, .base (.str b), kit_ty (by cases t <;> (simp only [isiD, tyN]; decide +kernel)), hQ⟩
  | lst b =>
    obtain ⟨a, ws, rfl, e1, r1⟩ := h
    exact ⟨_, _, _, _, isiD t (.lst b), rfl, .ty _, .base (.lst e1), kit_ty (by cases t <;> (simp only [isiD, tyN]; decide +kernel)), hQ⟩
  | tup b =>
    obtain ⟨a, ws, rfl, _, e1, r1⟩ := rdb_tup h
    have k : PySem.W.kitOne g.K (.type "tuple") (.type (tyN t)) = some (isiD t (.tup b)) := kit_ty (by cases t <;> (simp only [isiD, tyN]; decide +kernel))
    rcases e1 with (e1 | ⟨o, e1⟩) | ⟨o, its, n, e1, e2, _⟩
    · exact ⟨_, _, _, _, _, rfl, .ty _, .base (.tup e1), k, hQ⟩
    · exact ⟨_, _, _, _, _, rfl, .ty _, .fTuple e1, k, hQ⟩
    · exact ⟨_, _, _, _, _, rfl, .ty _, .kTuple e1 e2, k, hQ⟩
end
section
variable {X : Cx} {g : Gx} {fs : List FS} {e : Expr} {es : List Expr} {ies : List E} {x : Str} {id T : String} {b : Bi} {p pos : Pos}
theorem bi_core {Bn : Addr → Prop} {Ow : List Addr} {H : Hp} {σ : St} {Γ Γ' : Ct} {r : RV} {Q : VK} (rs : RS g Bn Ow H σ Γ) (he : ev fs (.bi b ies) Γ = some (r, Γ')) (hQ : ∀ v H' Ow', Stp Ow H Ow' H' → RS g Bn Ow' H' σ Γ' → Val g Bn Ow' H' σ Γ' r v → Q v H') :
    tCB (rBi g b) (tAs g fs ies) σ H Q := by
  simp only [ev] at he
  obtain ⟨⟨xs, Γ1⟩, e1, he⟩ := Option.bind_eq_some_iff.mp he
  obtain ⟨ds, e2, he⟩ := Option.bind_eq_some_iff.mp he
  obtain ⟨r', e3, he⟩ := Option.map_eq_some_iff.mp he
  simp only [Prod.mk.injEq] at he
  obtain ⟨rfl, rfl⟩ := he
  refine ⟨Bn, Ow, Γ, xs, Γ1, rs, e1, fun vs H1 O1 s1 r1 v1 => ?_⟩
  exact ⟨Av Bn O1, ds, _, datums_ok r1 v1 e2, r1.trk, e3, fun v H' sm res => let ⟨O3, s3, r3, val⟩ := res.val r1 sm; hQ v H' O3 (s1.trans s3) r3 val⟩
theorem p_biB (hc : CallR X (.builtin id) (rBi g b)) (hg : Gl X x) (hm : X.mg x = none) (hv : bootBuiltins x = some (.builtin id)) (ha : PA X (e :: es) (tAs g fs ies)) (hn : x ≠ "__name__") (hdb : (x == ("__debug__" : Str)) = false)
    (he : starEach (e :: es) X.env = (false, eval e X.env) :: starEach es X.env) (hpl : (backTo pos (starEach es X.env)).any (·.1) = false) : PE X (.Call (.Name x p) (e :: es) [] pos) (tR g fs (.bi b ies)) := by
  refine PE.weak (pe_callB hc hg hm hv ha hn hdb he hpl) ?_
  rintro σ H Q ⟨Bn, Ow, Γ, r, Γ', rs, he, hQ⟩
  exact bi_core rs he hQ
theorem p_biT (hc : CallR X (.type T) (rBi g b)) (hg : Gl X x) (hm : X.mg x = none) (hv : bootBuiltins x = some (.type T)) (ha : PA X (e :: es) (tAs g fs ies)) (hn : x ≠ "__name__") (hdb : (x == ("__debug__" : Str)) = false)
    (he : starEach (e :: es) X.env = (false, eval e X.env) :: starEach es X.env) (hpl : (backTo pos (starEach es X.env)).any (·.1) = false) : PE X (.Call (.Name x p) (e :: es) [] pos) (tR g fs (.bi b ies)) := by
  refine PE.weak (pe_callTy hc hg hm hv ha hn hdb he hpl) ?_
  rintro σ H Q ⟨Bn, Ow, Γ, r, Γ', rs, he, hQ⟩
  exact bi_core rs he hQ
theorem p_isi {a : Expr} {ia : E} {t : Ty} {y : Str} {p2 : Pos} (C : Cok0 g X) (ha : PE X a (tR g fs ia)) (hy : PE X (.Name y p2) (tC (.ty (tyN t)))) (hg : Gl X "isinstance") (hm : X.mg "isinstance" = none)
    (he : starEach (a :: [.Name y p2]) X.env = (false, eval a X.env) :: starEach [.Name y p2] X.env) (hpl : (backTo pos (starEach [.Name y p2] X.env)).any (·.1) = false) : PE X (.Call (.Name "isinstance" p) [a, .Name y p2] [] pos) (tR g fs (.bi (.isi t) [ia])) := by
  refine PE.weak (pe_callB call_isi hg hm PyProof.Rows.boot_isinstance (pa_cons ha (pa_cons hy pa_nil rfl) he) (by decide) (by decide) he hpl) ?_
  rintro σ H Q ⟨Bn, Ow, Γ, r, Γ', rs, he, hQ⟩
  simp only [ev, evs] at he
  obtain ⟨⟨xs, Γ1⟩, e1, he⟩ := Option.bind_eq_some_iff.mp he
  obtain ⟨⟨x, Γ2⟩, e2, e1⟩ := Option.bind_eq_some_iff.mp e1
  simp only [Option.map_some, Option.some.injEq, Prod.mk.injEq] at e1
  obtain ⟨rfl, rfl⟩ := e1
  obtain ⟨ds, e3, he⟩ := Option.bind_eq_some_iff.mp he
  obtain ⟨r', e4, he⟩ := Option.map_eq_some_iff.mp he
  simp only [Prod.mk.injEq] at he
  obtain ⟨rfl, rfl⟩ := he
  simp only [datums] at e3
  obtain ⟨d, e5, e3⟩ := Option.bind_eq_some_iff.mp e3
  simp only [Option.map_some, Option.some.injEq] at e3
  subst e3
  simp only [biD, Option.ite_none_right_eq_some, Option.some.injEq] at e4
  obtain ⟨hs, rfl⟩ := e4
  rw [← datum_dn] at e5
  refine tR_one rs e2 fun v H1 O1 s1 r1 v1 => ?_
  show rIsi X.K [v, .ty (tyN t)] H1 Q
  rw [C.K]
  exact isi_core hs (v1.rdb r1 e5) (hQ _ H1 O1 s1 r1 (by simp only [Val, Rep]))
end
end DV

namespace DV
open PySem L2
/-- the promise of a def by what it does to data -/
def spF (g : Gx) (n : Nat) (F : FS) : Sp := fun vs H Q _ => vs.length = n ∧ ∃ Bn Ow Γ r os, RS g Bn Ow H (vs.map some) Γ ∧ F Γ = some (r, os) ∧ (∀ i, r ≠ .sl i) ∧
  ∀ v H' Ow', Stp Ow H Ow' H' → RS g Bn Ow' H' (vs.map some) os → Val g Bn Ow' H' (vs.map some) os r v → Q v H'
/-- the same, what is wished told by the result -/
def spG (g : Gx) (n : Nat) (F : FS) (R : RV → VK) (vs : List V) (H : Hp) : Prop := vs.length = n ∧ ∃ Bn Ow Γ r os, RS g Bn Ow H (vs.map some) Γ ∧ F Γ = some (r, os) ∧ (∀ i, r ≠ .sl i) ∧
  ∀ v H' Ow', Stp Ow H Ow' H' → RS g Bn Ow' H' (vs.map some) os → Val g Bn Ow' H' (vs.map some) os r v → R r v H'
def OwS (Γ : Ct) (j : Nat) : Prop := ∃ d, Γ[j]? = some (some (d, true))
theorem ownIx_mem {Γ : Ct} {j : Nat} : ∀ {xs : List RV}, j ∈ ownIx Γ xs ↔ .sl j ∈ xs ∧ OwS Γ j
  | [] => by simp [ownIx]
  | x :: xs => by
    have ih := @ownIx_mem Γ j xs
    cases x with
    | fz d => simp only [ownIx, List.mem_cons, reduceCtorEq, false_or]; exact ih
    | nw d => simp only [ownIx, List.mem_cons, reduceCtorEq, false_or]; exact ih
    | sl i =>
      simp only [ownIx]
      split
      · rename_i d q
        simp only [List.mem_cons, RV.sl.injEq]
        constructor
        · rintro (h | h)
          · subst h; exact ⟨.inl rfl, d, q⟩
          · exact ⟨.inr (ih.mp h).1, (ih.mp h).2⟩
        · rintro ⟨h | h, o⟩
          · exact .inl h
          · exact .inr (ih.mpr ⟨h, o⟩)
      · rename_i q
        simp only [List.mem_cons, RV.sl.injEq]
        rw [ih]
        constructor
        · rintro ⟨h, o⟩; exact ⟨.inr h, o⟩
        · rintro ⟨h | h, o⟩
          · subst h; obtain ⟨d, o⟩ := o; exact absurd o (q d)
          · exact ⟨h, o⟩
theorem nodupB_cons {x : Nat} {xs : List Nat} (h : nodupB (x :: xs) = true) : x ∉ xs ∧ nodupB xs = true := by
  simp only [nodupB, Bool.and_eq_true, Bool.not_eq_true', List.contains_eq_mem, decide_eq_false_iff_not] at h
  exact h
theorem ownIx_tail {Γ : Ct} {x : RV} {xs : List RV} (h : nodupB (ownIx Γ (x :: xs)) = true) : nodupB (ownIx Γ xs) = true := by
  cases x with
  | fz d => exact h
  | nw d => exact h
  | sl i =>
    simp only [ownIx] at h
    split at h
    · exact (nodupB_cons h).2
    · exact h
theorem ownIx_head {Γ : Ct} {j : Nat} {xs : List RV} (h : nodupB (ownIx Γ (.sl j :: xs)) = true) (o : OwS Γ j) : .sl j ∉ xs := fun z => by
  obtain ⟨d, o⟩ := o
  simp only [ownIx, o] at h
  exact (nodupB_cons h).1 (ownIx_mem.mpr ⟨z, d, o⟩)
theorem own_uniq {Γ : Ct} {j : Nat} (o : OwS Γ j) : ∀ {xs : List RV} {i k : Nat}, nodupB (ownIx Γ xs) = true → xs[i]? = some (.sl j) → xs[k]? = some (.sl j) → i = k
  | [], i, k, _, h, _ => by simp at h
  | x :: xs, 0, 0, _, _, _ => rfl
  | x :: xs, 0, k + 1, n, h1, h2 => by
    simp at h1; subst h1
    exact absurd (List.mem_of_getElem? (by simpa using h2)) (ownIx_head n o)
  | x :: xs, i + 1, 0, n, h1, h2 => by
    simp at h2; subst h2
    exact absurd (List.mem_of_getElem? (by simpa using h1)) (ownIx_head n o)
  | x :: xs, i + 1, k + 1, n, h1, h2 => by
    have := own_uniq o (i := i) (k := k) (ownIx_tail n) (by simpa using h1) (by simpa using h2)
    omega
theorem put_len {Γ0 : Ct} : ∀ {xs : List RV} {os Γ : Ct}, (putOuts Γ0 xs os Γ).length = Γ.length
  | [], os, Γ => by cases os <;> simp [putOuts]
  | x :: xs, [], Γ => by cases x <;> simp [putOuts]
  | x :: xs, o :: os, Γ => by
    cases x with
    | fz d => simp only [putOuts]; exact put_len
    | nw d => simp only [putOuts]; exact put_len
    | sl i =>
      simp only [putOuts]
      split
      · rw [put_len, List.length_set]
      · exact put_len
theorem put_miss {Γ0 : Ct} {j : Nat} : ∀ {xs : List RV} {os Γ : Ct}, (∀ i : Nat, xs[i]? = some (.sl j) → ¬ OwS Γ0 j) → (putOuts Γ0 xs os Γ)[j]? = Γ[j]?
  | [], os, Γ, _ => by cases os <;> simp [putOuts]
  | x :: xs, [], Γ, _ => by cases x <;> simp [putOuts]
  | x :: xs, o :: os, Γ, h => by
    have ih : ∀ Γ, (putOuts Γ0 xs os Γ)[j]? = Γ[j]? := fun Γ => put_miss fun i e => h (i + 1) (by simpa using e)
    cases x with
    | fz d => simp only [putOuts]; exact ih Γ
    | nw d => simp only [putOuts]; exact ih Γ
    | sl i =>
      simp only [putOuts]
      split
      · rename_i d q
        rw [ih, List.getElem?_set_ne]
        intro z
        subst z
        exact h 0 rfl ⟨d, q⟩
      · exact ih Γ
theorem put_hit {Γ0 : Ct} {j : Nat} (ow : OwS Γ0 j) : ∀ {xs : List RV} {os Γ : Ct} {i : Nat} {o : Sl}, nodupB (ownIx Γ0 xs) = true → xs[i]? = some (.sl j) → os[i]? = some o → j < Γ.length → (putOuts Γ0 xs os Γ)[j]? = some o
  | [], os, Γ, i, o, _, h, _, _ => by simp at h
  | x :: xs, [], Γ, i, o, _, _, h, _ => by simp at h
  | x :: xs, p :: os, Γ, 0, o, n, h1, h2, hl => by
    simp at h1 h2; subst h1 h2
    have hh := ownIx_head n ow
    obtain ⟨d, q⟩ := ow
    simp only [putOuts, q]
    rw [put_miss fun i e => absurd (List.mem_of_getElem? e) hh, List.getElem?_set_self hl]
  | x :: xs, p :: os, Γ, i + 1, o, n, h1, h2, hl => by
    have n' := ownIx_tail n
    have h1' : xs[i]? = some (.sl j) := by simpa using h1
    have h2' : os[i]? = some o := by simpa using h2
    cases x with
    | fz d => simp only [putOuts]; exact put_hit ow n' h1' h2' hl
    | nw d => simp only [putOuts]; exact put_hit ow n' h1' h2' hl
    | sl k =>
      simp only [putOuts]
      split
      · exact put_hit ow n' h1' h2' (by rw [List.length_set]; exact hl)
      · exact put_hit ow n' h1' h2' hl
theorem argSs_len {Γ : Ct} : ∀ {xs : List RV} {as : List (D × Bool)}, argSs Γ xs = some as → as.length = xs.length
  | [], as, h => by simp only [argSs, Option.some.injEq] at h; subst h; rfl
  | x :: xs, as, h => by
    simp only [argSs] at h
    obtain ⟨d, _, h⟩ := Option.bind_eq_some_iff.mp h
    obtain ⟨r, e, rfl⟩ := Option.map_eq_some_iff.mp h
    rw [List.length_cons, List.length_cons, argSs_len e]
theorem argSs_get {Γ : Ct} : ∀ {xs : List RV} {as : List (D × Bool)} {i : Nat} {p : D × Bool}, argSs Γ xs = some as → as[i]? = some p → ∃ x, xs[i]? = some x ∧ argS Γ x = some p
  | [], as, i, p, h, e => by simp only [argSs, Option.some.injEq] at h; subst h; simp at e
  | x :: xs, as, i, p, h, e => by
    simp only [argSs] at h
    obtain ⟨d, hd, h⟩ := Option.bind_eq_some_iff.mp h
    obtain ⟨r, e1, rfl⟩ := Option.map_eq_some_iff.mp h
    cases i with
    | zero => simp at e; subst e; exact ⟨x, rfl, hd⟩
    | succ i => obtain ⟨y, h1, h2⟩ := argSs_get (i := i) e1 (by simpa using e); exact ⟨y, by simpa using h1, h2⟩
section
variable {g : Gx} {Bn : Addr → Prop} {Ow Ow' : List Addr} {H H' : Hp} {σ : St} {Γ Γ' : Ct}
/-- values by results, new ones owned -/
def VlW (g : Gx) (Bn : Addr → Prop) (Ow : List Addr) (H : Hp) (σ : St) (Γ : Ct) : List RV → List V → Prop
  | [], vs => vs = []
  | x :: xs, vs => ∃ v r, vs = v :: r ∧ Val g Bn Ow H σ Γ x v ∧ (∀ d, x = .nw d → ∀ (j : Nat) (e : D), xs[j]? = some (.nw e) → r[j]? ≠ some v) ∧ VlW g Bn Ow H σ Γ xs r
def tAw (g : Gx) (fs : List FS) (es : List E) : TA := fun σ H Q => ∃ Bn Ow Γ xs Γ', RS g Bn Ow H σ Γ ∧ evs fs es Γ = some (xs, Γ') ∧ ∀ vs H' Ow', Stp Ow H Ow' H' → RS g Bn Ow' H' σ Γ' → VlW g Bn Ow' H' σ Γ' xs vs → Q vs H'
theorem VlW.len : ∀ {xs : List RV} {vs : List V}, VlW g Bn Ow H σ Γ xs vs → xs.length = vs.length
  | [], _, h => by have h : _ = [] := h; subst h; rfl
  | x :: xs, _, ⟨v, r, e, _, _, h2⟩ => by subst e; rw [List.length_cons, List.length_cons, h2.len]
theorem VlW.get : ∀ {xs : List RV} {vs : List V} {i : Nat} {x : RV}, VlW g Bn Ow H σ Γ xs vs → xs[i]? = some x → ∃ v, vs[i]? = some v ∧ Val g Bn Ow H σ Γ x v
  | [], _, i, x, _, e => by simp at e
  | y :: xs, _, 0, x, ⟨v, r, e0, h1, _⟩, e => by simp at e; subst e e0; exact ⟨v, rfl, h1⟩
  | y :: xs, _, i + 1, x, ⟨v, r, e0, _, _, h2⟩, e => by
    subst e0
    obtain ⟨w, h3, h4⟩ := VlW.get (i := i) h2 (by simpa using e)
    exact ⟨w, by simpa using h3, h4⟩
theorem VlW.uniq : ∀ {xs : List RV} {vs : List V} {i k : Nat} {d e : D} {v : V}, VlW g Bn Ow H σ Γ xs vs → xs[i]? = some (.nw d) → xs[k]? = some (.nw e) → vs[i]? = some v → vs[k]? = some v → i = k
  | [], _, i, k, d, e, v, _, h1, _, _, _ => by simp at h1
  | y :: xs, _, 0, 0, d, e, v, _, _, _, _, _ => rfl
  | y :: xs, _, 0, k + 1, d, e, v, ⟨w, r, e0, _, h, _⟩, h1, h2, h3, h4 => by
    subst e0
    simp at h1 h3; subst h1 h3
    exact absurd (by simpa using h4) (h d rfl k e (by simpa using h2))
  | y :: xs, _, i + 1, 0, d, e, v, ⟨w, r, e0, _, h, _⟩, h1, h2, h3, h4 => by
    subst e0
    simp at h2 h4; subst h2 h4
    exact absurd (by simpa using h3) (h e rfl i d (by simpa using h1))
  | y :: xs, _, i + 1, k + 1, d, e, v, ⟨w, r, e0, _, _, hr⟩, h1, h2, h3, h4 => by
    subst e0
    rw [VlW.uniq (i := i) (k := k) hr (by simpa using h1) (by simpa using h2) (by simpa using h3) (by simpa using h4)]
theorem map_some_get {vs : List V} {i : Nat} {v : V} : (vs.map some)[i]? = some (some v) ↔ vs[i]? = some v := by
  rw [List.getElem?_map]
  cases vs[i]? <;> simp
/-- the addresses that are handed over -/
def handed (vs : List V) (as : List (D × Bool)) : List Addr := (vs.zip as).filterMap fun p => match p with
  | (.ref a, (_, true)) => some a
  | _ => none
theorem handed_mem {vs : List V} {as : List (D × Bool)} {a : Addr} : a ∈ handed vs as ↔ ∃ (i : Nat) (d : D), vs[i]? = some (.ref a) ∧ as[i]? = some (d, true) := by
  unfold handed
  rw [List.mem_filterMap]
  constructor
  · rintro ⟨⟨v, d, b⟩, hm, e⟩
    obtain ⟨i, hi⟩ := List.mem_iff_getElem?.mp hm
    rw [List.getElem?_zip_eq_some] at hi
    cases v with
    | ref x =>
      cases b with
      | true => simp only [Option.some.injEq] at e; subst e; exact ⟨i, d, hi.1, hi.2⟩
      | false => cases e
    | _ => cases e
  · rintro ⟨i, d, h1, h2⟩
    exact ⟨(.ref a, (d, true)), List.mem_iff_getElem?.mpr ⟨i, by rw [List.getElem?_zip_eq_some]; exact ⟨h1, h2⟩⟩, rfl⟩
theorem call_coreG {xs : List RV} {vs : List V} {as : List (D × Bool)} {r : RV} {os : Ct} {F : FS} {R : RV → VK} (rs : RS g Bn Ow H σ Γ) (hv : VlW g Bn Ow H σ Γ xs vs) (ea : argSs Γ xs = some as) (nd : nodupB (ownIx Γ xs) = true) (ef : F (as.map some) = some (r, os)) (nr : ∀ i, r ≠ .sl i)
    {n : Nat} (hn : vs.length = n) (hQ : ∀ v H' Ow', Stp Ow H Ow' H' → RS g Bn Ow' H' σ (putOuts Γ xs os Γ) → Val g Bn Ow' H' σ (putOuts Γ xs os Γ) r v → (∀ (i : Nat) d0 d a, xs[i]? = some (.nw d0) → os[i]? = some (some (d, true)) → vs[i]? = some (.ref a) → Val g Bn Ow' H' σ (putOuts Γ xs os Γ) (.nw d) (.ref a)) → R r v H') : spG g n F R vs H := by
  have l1 := argSs_len ea
  have l2 := hv.len
  -- an owned argument
  have ownArg : ∀ {i : Nat} {d : D}, as[i]? = some (d, true) → ∃ a, vs[i]? = some (.ref a) ∧ a ∈ Ow ∧ OwnA g (Av Bn Ow) H d a ∧ ((∃ j, xs[i]? = some (.sl j) ∧ Γ[j]? = some (some (d, true)) ∧ σ[j]? = some (some (.ref a))) ∨ (xs[i]? = some (.nw d) ∧ ∀ (j : Nat) e, Γ[j]? = some (some (e, true)) → σ[j]? ≠ some (some (.ref a)))) := by
    intro i d h
    obtain ⟨x, h1, h2⟩ := argSs_get ea h
    obtain ⟨v, h3, h4⟩ := hv.get h1
    cases x with
    | fz e => simp [argS] at h2
    | nw e =>
      simp only [argS, Option.some.injEq, Prod.mk.injEq, and_true] at h2
      subst h2
      obtain ⟨a, rfl, m, o, no⟩ := h4
      exact ⟨a, h3, m, o, .inr ⟨h1, no⟩⟩
    | sl j =>
      simp only [argS] at h2
      split at h2
      · rename_i p q
        cases h2
        obtain ⟨a, e1, m, o⟩ := rs.own j d q
        have h4 : σ[j]? = some (some v) := h4
        rw [e1] at h4; cases h4
        exact ⟨a, h3, m, o, .inl ⟨j, h1, q, e1⟩⟩
      · cases h2
  let Io := handed vs as
  have ioOw : ∀ a, a ∈ Io → a ∈ Ow := fun a h => by
    obtain ⟨i, d, h1, h2⟩ := handed_mem.mp h
    obtain ⟨b, h3, m, _⟩ := ownArg h2
    rw [h1] at h3; cases h3
    exact m
  let Bn' : Addr → Prop := fun a => Bn a ∨ (a ∈ Ow ∧ a ∉ Io)
  have av1 : ∀ a, Av Bn' Io a → Av Bn Ow a := fun a h => by
    rcases h with (h | h) | h
    · exact .inl h
    · exact .inr h.1
    · exact .inr (ioOw a h)
  refine ⟨hn, Bn', Io, as.map some, r, os, ⟨?_, fun i d h => ?_, fun i d h => ?_, fun i k d e a h1 h2 h3 h4 => ?_, fun a h => rs.trl a (av1 a h), fun a h z => ?_, fun a h => rs.kf a (av1 a h), rs.tabs⟩, ef, nr, fun v H' O' st rs' val => ?_⟩
  · rw [List.length_map, List.length_map]; omega
  · have h : as[i]? = some (d, false) := by
      rw [List.getElem?_map] at h
      cases e : as[i]? with
      | none => rw [e] at h; cases h
      | some p => rw [e] at h; simp only [Option.map_some, Option.some.injEq] at h; rw [h]
    obtain ⟨x, h1, h2⟩ := argSs_get ea h
    obtain ⟨v, h3, h4⟩ := hv.get h1
    refine ⟨v, map_some_get.mpr h3, rep_less av1 ?_⟩
    cases x with
    | fz e => simp only [argS, Option.some.injEq, Prod.mk.injEq, and_true] at h2; subst h2; exact h4
    | nw e => simp [argS] at h2
    | sl j =>
      simp only [argS] at h2
      split at h2
      · rename_i p q
        cases h2
        obtain ⟨w, e1, rp⟩ := rs.slot j d q
        have h4 : σ[j]? = some (some v) := h4
        rw [e1] at h4; cases h4
        exact rp
      · cases h2
  · have h : as[i]? = some (d, true) := by
      rw [List.getElem?_map] at h
      cases e : as[i]? with
      | none => rw [e] at h; cases h
      | some p => rw [e] at h; simp only [Option.map_some, Option.some.injEq] at h; rw [h]
    obtain ⟨a, h3, m, o, _⟩ := ownArg h
    exact ⟨a, map_some_get.mpr h3, handed_mem.mpr ⟨i, d, h3, h⟩, own_less av1 o⟩
  · have h1 : as[i]? = some (d, true) := by
      rw [List.getElem?_map] at h1
      cases e : as[i]? with
      | none => rw [e] at h1; cases h1
      | some p => rw [e] at h1; simp only [Option.map_some, Option.some.injEq] at h1; rw [h1]
    have h2 : as[k]? = some (e, true) := by
      rw [List.getElem?_map] at h2
      cases z : as[k]? with
      | none => rw [z] at h2; cases h2
      | some p => rw [z] at h2; simp only [Option.map_some, Option.some.injEq] at h2; rw [h2]
    obtain ⟨a1, v1, _, _, c1⟩ := ownArg h1
    obtain ⟨a2, v2, _, _, c2⟩ := ownArg h2
    have w1 := map_some_get.mp h3
    have w2 := map_some_get.mp h4
    rw [w1] at v1; cases v1
    rw [w2] at v2; cases v2
    rcases c1 with ⟨j1, x1, q1, e1⟩ | ⟨x1, n1⟩ <;> rcases c2 with ⟨j2, x2, q2, e2⟩ | ⟨x2, n2⟩
    · have := rs.dist j1 j2 _ _ _ q1 q2 e1 e2
      subst this
      exact own_uniq ⟨_, q1⟩ nd x1 x2
    · exact absurd e1 (n2 j1 _ q1)
    · exact absurd e2 (n1 j2 _ q2)
    · exact hv.uniq x1 x2 w1 w2
  · rcases h with h | h
    · exact rs.sep a h (ioOw a z)
    · exact h.2 z
  -- behind the call
  let O2 := Ow.filter (fun a => decide (a ∉ Io)) ++ O'
  have memO2 : ∀ a, a ∈ O2 ↔ (a ∈ Ow ∧ a ∉ Io) ∨ a ∈ O' := fun a => by
    show a ∈ Ow.filter (fun a => decide (a ∉ Io)) ++ O' ↔ _
    rw [List.mem_append, List.mem_filter]
    simp
  have av2 : ∀ a, Av Bn O2 a → Av Bn' O' a := fun a h => by
    rcases h with h | h
    · exact .inl (.inl h)
    · rcases (memO2 a).mp h with h | h
      · exact .inl (.inr h)
      · exact .inr h
  have stO : Stp Ow H O2 H' := ⟨fun a o h t nm => st.keep0 a o h t fun z => nm (ioOw a z), fun a h => by
    rcases (memO2 a).mp h with h | h
    · exact .inl h.1
    · rcases st.grow a h with h | h
      · exact .inl (ioOw a h)
      · exact .inr h⟩
  have vst := step_vst (g := g) (Bn := Bn) stO fun a h => rs'.kf a (av2 a (.inr h))
  have lo : os.length = vs.length := by rw [← rs'.len, List.length_map]
  -- a slot that is not handed over
  have missA : ∀ {j : Nat} {a : Addr} {d : D}, Γ[j]? = some (some (d, true)) → σ[j]? = some (some (.ref a)) → (∀ i : Nat, xs[i]? ≠ some (.sl j)) → a ∉ Io := fun {j a d} h1 h2 h3 z => by
    obtain ⟨i, e, q1, q2⟩ := handed_mem.mp z
    obtain ⟨a2, v2, _, _, c2⟩ := ownArg q2
    rw [q1] at v2; cases v2
    rcases c2 with ⟨j2, x2, g2, s2⟩ | ⟨x2, n2⟩
    · have := rs.dist j j2 _ _ _ h1 g2 h2 s2
      subst this
      exact h3 i x2
    · exact n2 j _ h1 h2
  have cases_ : ∀ (j : Nat), (∃ (i : Nat) (d : D) (a : Addr) (o : Sl), xs[i]? = some (.sl j) ∧ Γ[j]? = some (some (d, true)) ∧ σ[j]? = some (some (.ref a)) ∧ vs[i]? = some (.ref a) ∧ a ∈ Io ∧ os[i]? = some o ∧ (putOuts Γ xs os Γ)[j]? = some o) ∨
      ((putOuts Γ xs os Γ)[j]? = Γ[j]? ∧ ∀ d, Γ[j]? = some (some (d, true)) → ∀ i : Nat, xs[i]? ≠ some (.sl j)) := fun j => by
    by_cases h : ∃ i : Nat, xs[i]? = some (.sl j) ∧ OwS Γ j
    · obtain ⟨i, h1, h2⟩ := h
      obtain ⟨d, q⟩ := h2
      obtain ⟨a, e1, m, o⟩ := rs.own j d q
      obtain ⟨v, h3, h4⟩ := hv.get h1
      have h4 : σ[j]? = some (some v) := h4
      rw [e1] at h4; cases h4
      have ai : as[i]? = some (d, true) := by
        have hi : i < as.length := by rw [l1]; exact (List.getElem?_eq_some_iff.mp h1).1
        obtain ⟨x, q1, q2⟩ := argSs_get ea (List.getElem?_eq_getElem hi)
        rw [h1] at q1; cases q1
        simp only [argS, q, Option.some.injEq] at q2
        rw [List.getElem?_eq_getElem hi, ← q2]
      have hi : i < os.length := by rw [lo]; exact (List.getElem?_eq_some_iff.mp h3).1
      refine .inl ⟨i, d, a, os[i], h1, q, e1, h3, handed_mem.mpr ⟨i, d, h3, ai⟩, List.getElem?_eq_getElem hi, put_hit ⟨d, q⟩ nd h1 (List.getElem?_eq_getElem hi) (List.getElem?_eq_some_iff.mp q).1⟩
    · exact .inr ⟨put_miss fun i e o => h ⟨i, e, o⟩, fun d q i e => h ⟨i, e, d, q⟩⟩
  have hRS : RS g Bn O2 H' σ (putOuts Γ xs os Γ) := by
    refine ⟨by rw [put_len]; exact rs.len, fun j d h => ?_, fun j d h => ?_, fun j k d e a h1 h2 h3 h4 => ?_, fun a h => rs'.trl a (av2 a h), fun a h z => ?_, fun a h => rs'.kf a (av2 a h), rs'.tabs⟩
    · rcases cases_ j with ⟨i, d0, a, o, x1, q1, s1, v1, m1, o1, p1⟩ | ⟨p1, _⟩
      · rw [p1] at h; cases h
        obtain ⟨w, e1, rp⟩ := rs'.slot i d o1
        rw [map_some_get.mp e1] at v1; cases v1
        exact ⟨_, s1, rep_less av2 rp⟩
      · rw [p1] at h
        obtain ⟨w, e1, rp⟩ := rs.slot j d h
        exact ⟨w, e1, rep_mono vst d w rp⟩
    · rcases cases_ j with ⟨i, d0, a, o, x1, q1, s1, v1, m1, o1, p1⟩ | ⟨p1, p2⟩
      · rw [p1] at h; cases h
        obtain ⟨b, e1, m, ow⟩ := rs'.own i d o1
        rw [map_some_get.mp e1] at v1; cases v1
        exact ⟨_, s1, (memO2 _).mpr (.inr m), own_less av2 ow⟩
      · rw [p1] at h
        obtain ⟨b, e1, m, ow⟩ := rs.own j d h
        have nb := missA h e1 (p2 d h)
        refine ⟨b, e1, (memO2 _).mpr (.inl ⟨m, nb⟩), ?_⟩
        cases d with
        | lst ds => obtain ⟨ws, z1, z2⟩ := ow; exact ⟨ws, st.keep b _ z1 nb, reps_mono vst _ _ z2⟩
        | obj c ks ds => obtain ⟨dx, ws, l, z1, z2⟩ := ow; exact ⟨dx, ws, l, st.keep b _ z1 nb, reps_mono vst _ _ z2⟩
        | _ => exact ow
    · rcases cases_ j with ⟨i1, d1, a1, o1, x1, q1, s1, v1, m1, z1, p1⟩ | ⟨p1, p1'⟩ <;> rcases cases_ k with ⟨i2, d2, a2, o2, x2, q2, s2, v2, m2, z2, p2⟩ | ⟨p2, p2'⟩
      · rw [s1] at h3; cases h3
        rw [s2] at h4; cases h4
        exact rs.dist j k _ _ _ q1 q2 s1 s2
      · rw [s1] at h3; cases h3
        rw [p2] at h2
        exact absurd m1 (missA h2 h4 (p2' _ h2))
      · rw [s2] at h4; cases h4
        rw [p1] at h1
        exact absurd m2 (missA h1 h3 (p1' _ h1))
      · rw [p1] at h1; rw [p2] at h2
        exact rs.dist j k _ _ _ h1 h2 h3 h4
    · rcases (memO2 a).mp z with z | z
      · exact rs.sep a h z.1
      · rcases st.grow a z with z | z
        · exact rs.sep a h (ioOw a z)
        · exact rs.trn a (.inl h) z
  refine hQ v H' O2 stO hRS ?_ fun i d0 d a h1 h2 h3 => ?_
  rotate_left
  · obtain ⟨b, e1, m, ow⟩ := rs'.own i d h2
    rw [map_some_get.mp e1] at h3; cases h3
    have hb := map_some_get.mp e1
    obtain ⟨w, q1, q2⟩ := hv.get h1
    rw [hb] at q1; cases q1
    obtain ⟨a', e2, m2, _, no⟩ := q2
    cases e2
    refine ⟨_, rfl, (memO2 _).mpr (.inr m), own_less av2 ow, fun j e g1 g2 => ?_⟩
    rcases cases_ j with ⟨i', d1, a1, o, x1, y1, s1, v1, m1, o1, p1⟩ | ⟨p1, _⟩
    · exact no j _ y1 g2
    · rw [p1] at g1
      exact no j _ g1 g2
  cases r with
  | sl i => exact absurd rfl (nr i)
  | fz d => exact rep_less av2 val
  | nw d =>
    obtain ⟨a, e0, m, ow, no⟩ := val
    refine ⟨a, e0, (memO2 a).mpr (.inr m), own_less av2 ow, fun j d' h1 h2 => ?_⟩
    rcases cases_ j with ⟨i, d0, a', o, x1, q1, s1, v1, m1, o1, p1⟩ | ⟨p1, p2⟩
    · rw [s1] at h2; cases h2
      rw [p1] at h1; cases h1
      exact no i _ o1 (map_some_get.mpr v1)
    · rw [p1] at h1
      obtain ⟨b, e1, mb, _⟩ := rs.own j _ h1
      rw [h2] at e1; cases e1
      have nb := missA h1 h2 (p2 _ h1)
      rcases st.grow a m with z | z
      · exact nb z
      · exact rs.trn a (.inr mb) z
theorem call_core {xs : List RV} {vs : List V} {as : List (D × Bool)} {r : RV} {os : Ct} {F : FS} {Q : VK} (rs : RS g Bn Ow H σ Γ) (hv : VlW g Bn Ow H σ Γ xs vs) (ea : argSs Γ xs = some as) (nd : nodupB (ownIx Γ xs) = true) (ef : F (as.map some) = some (r, os)) (nr : ∀ i, r ≠ .sl i)
    {n : Nat} (hn : vs.length = n) {E : XK} (hQ : ∀ v H' Ow', Stp Ow H Ow' H' → RS g Bn Ow' H' σ (putOuts Γ xs os Γ) → Val g Bn Ow' H' σ (putOuts Γ xs os Γ) r v → (∀ (i : Nat) d0 d a, xs[i]? = some (.nw d0) → os[i]? = some (some (d, true)) → vs[i]? = some (.ref a) → Val g Bn Ow' H' σ (putOuts Γ xs os Γ) (.nw d) (.ref a)) → Q v H') : spF g n F vs H Q E := call_coreG (R := fun _ => Q) rs hv ea nd ef nr hn hQ
end
section
variable {X : Cx} {g : Gx} {fs : List FS} {e : Expr} {es : List Expr} {ies : List E} {x : Str} {p pos : Pos} {k lv n : Nat} {f : Addr} {fd : FuncData} {ps : List Str} {F : FS}
theorem call_core2 {Bn : Addr → Prop} {Ow : List Addr} {H : Hp} {σ : St} {Γ Γ' : Ct} {r : RV} {Q : VK} {Ex : XK} (hF : fs[k]? = some F) (hn : ies.length = n) (rs : RS g Bn Ow H σ Γ) (he : ev fs (.call k ies) Γ = some (r, Γ')) (hQ : ∀ v H' Ow', Stp Ow H Ow' H' → RS g Bn Ow' H' σ Γ' → Val g Bn Ow' H' σ Γ' r v → Q v H') :
    tCall (spF g n F) [] Ex (tAw g fs ies) σ H Q := by
  simp only [ev] at he
  obtain ⟨⟨xs, Γ1⟩, e1, he⟩ := Option.bind_eq_some_iff.mp he
  obtain ⟨F', e2, he⟩ := Option.bind_eq_some_iff.mp he
  rw [hF] at e2; cases e2
  obtain ⟨as, e3, he⟩ := Option.bind_eq_some_iff.mp he
  simp only [Option.ite_none_right_eq_some] at he
  obtain ⟨nd, he⟩ := he
  obtain ⟨⟨r', os⟩, e4, he⟩ := Option.bind_eq_some_iff.mp he
  have evl : ∀ {es : List E} {Γ Γ' : Ct} {xs : List RV}, evs fs es Γ = some (xs, Γ') → es.length = xs.length := by
    intro es
    induction es with
    | nil => intro Γ Γ' xs h; simp only [evs, Option.some.injEq, Prod.mk.injEq] at h; rw [← h.1]; rfl
    | cons a es ih =>
      intro Γ Γ' xs h
      simp only [evs] at h
      obtain ⟨⟨y, G1⟩, _, h⟩ := Option.bind_eq_some_iff.mp h
      obtain ⟨⟨ys, G2⟩, h2, h⟩ := Option.map_eq_some_iff.mp h
      simp only [Prod.mk.injEq] at h
      rw [← h.1, List.length_cons, List.length_cons, ih h2]
  refine ⟨Bn, Ow, Γ, xs, Γ1, rs, e1, fun vs H1 O1 s1 r1 v1 => ?_⟩
  show spF g n F (vs ++ []) H1 Q Ex
  rw [List.append_nil]
  have hl : vs.length = n := by rw [← v1.len, ← evl e1, hn]
  cases r' with
  | sl i => cases he
  | fz d =>
    simp only [Option.some.injEq, Prod.mk.injEq] at he
    obtain ⟨rfl, rfl⟩ := he
    exact call_core r1 v1 e3 nd e4 (fun i z => nomatch z) hl fun v H' O2 s2 r2 val _ => hQ v H' O2 (s1.trans s2) r2 val
  | nw d =>
    simp only [Option.some.injEq, Prod.mk.injEq] at he
    obtain ⟨rfl, rfl⟩ := he
    exact call_core r1 v1 e3 nd e4 (fun i z => nomatch z) hl fun v H' O2 s2 r2 val _ => hQ v H' O2 (s1.trans s2) r2 val
theorem p_call (hF : fs[k]? = some F) (hn : ies.length = n) (G : FnOk X.prog X.w X.K X.mg X.base CX0 lv f fd ps (spF g n F)) (hr : Room lv X.A) (hg : Gl X x) (hm : X.mg x = some (.ref f)) (hk : PySem.W.keepIn X.K (.ref f) = true) (hb : Binds X.K fd ps [])
    (ha : PA X (e :: es) (tAw g fs ies)) (hdb : (x == ("__debug__" : Str)) = false) (he : starEach (e :: es) X.env = (false, eval e X.env) :: starEach es X.env) (hpl : (backTo pos (starEach es X.env)).any (·.1) = false) :
    PE X (.Call (.Name x p) (e :: es) [] pos) (tR g fs (.call k ies)) := by
  refine PE.weak (pe_call G hr hg hm hk hb .nil pass0 ha hdb he hpl) ?_
  rintro σ H Q ⟨Bn, Ow, Γ, r, Γ', rs, he, hQ⟩
  exact call_core2 hF hn rs he hQ
end
end DV

namespace DV
open PySem L2
/-! ### ranges with a step, also of great ints -/
section
open PySem PySem.Spec PyProof.Rows
theorem turn_longC {P : Program} {w : World} {K : PySem.W.Frag} {tg : Expr} (it : Addr) (lo c : Int) (n : Nat) : Turn P w K tg (Itc lo c n) [it] it (fun i h => IsLongIter h it (lo + (i : Nat) * c) ((n : Int) - (i : Nat)) c) where
  mem := by simp
  obj := fun i h st b hb => by
    have e : b = it := by simpa using hb
    subst e
    exact ⟨_, st, fun v z => nomatch z⟩
  keep := fun i h h' st k => k it (by simp) _ st
  item := by
    intro X hP hw hK hc i pins s σ H E I hf st hg
    subst hP hw hK
    obtain ⟨f0, f1, f2, f3, f4, f5⟩ := hf it (by simp)
    have W := Walks.longrange (prog := X.prog) (w := X.w) (I.ok.hd hc) it lo c n
    refine W.item i s _ _ hg st fun v h' tk hv st' kk => ?_
    obtain ⟨t, rfl⟩ := hv
    have I1 : Inv X pins σ H { s with heap := h', toks := tk } := I.turned (fun b o hb e => kk b o (by simpa using hb) e) f0 f1 f3 f4 f5
    exact ⟨_, rfl, go_of (s := { s with heap := h', toks := tk }) (n := "longrange_iterator") st' rfl rfl (by decide) ⟨.int (lo + (i : Nat) * c), H, I1, ⟨t, rfl⟩, ⟨rfl, rfl⟩, st', fun b hb => (hf b hb).1⟩⟩
  done := by
    intro X hP hw hK hc i pins s σ H E I hf st hg
    subst hP hw hK
    obtain ⟨f0, f1, f2, f3, f4, f5⟩ := hf it (by simp)
    exact wpAny_pyNext_long_end (I.ok.hd hc) st (by have : n ≤ i := hg; omega) fun h' eb => ⟨rfl, I.turned (t' := s.toks) (fun b o hb e => eb b o hb e) f0 f1 f3 f4 f5⟩
  self := fun A i s Q E st h => wpAny_pyIter_longiter st h
def RgG (i j c : Int) (n : Nat) : Prop := c ≠ 0 ∧ c.natAbs.log2 < 9000 ∧ Builtin.Range.rangeSize i j c = n
def iRngG (ta : TA) : TI := fun σ H R => ta σ H fun vs H1 => ∃ (i j c : Int) (n : Nat), vs = [.int i, .int j, .int c] ∧ RgG i j c n ∧ R (Itc i c n) H1
theorem pi_range3G {X : Cx} {tg : Expr} {a b c : Expr} {ta : TA} {p pos : Pos} (hg : Gl X "range") (hm : X.mg "range" = none) (ha : PA X [a, b, c] ta)
    (hs : starEach [a, b, c] X.env = (false, eval a X.env) :: starEach [b, c] X.env := by rfl) (hpl : (backTo pos (starEach [b, c] X.env)).any (·.1) = false := by rfl) :
    PI X tg (.Call (.Name "range" p) [a, b, c] [] pos) (iRngG ta) := by
  refine ⟨fun pins s σ H R I h => ?_⟩
  refine Call_ (ld_blt I hg hm boot_range (PyProof.Rows.callWith_type1 (thn (ha.run pos pins s σ H _ I h) fun us s1 ⟨vs, H1, I1, r1, q1⟩ => ?_) hs hpl))
  obtain ⟨i, j, k, n, e, ⟨c0, c1, c3⟩, q⟩ := q1
  subst e
  cases r1 with
  | cons r rr =>
    cases rr with
    | cons r' rr =>
      cases rr with
      | cons r'' rr =>
        cases rr
        obtain ⟨t, rfl⟩ := r
        obtain ⟨t', rfl⟩ := r'
        obtain ⟨t'', rfl⟩ := r''
        refine call_range_3 c0 ?_ (.inl (PyProof.noPylong_of_log2 c1))
        have I2 : Inv X pins σ H1 { s1 with heap := s1.heap.push { cls := .type "range", data := .fields #[.int i t, .int j t', .int k t''] } } := I1.kept (t' := s1.toks) fun b o e => Heap.get?_push_of_some _ e
        have e1 : i + ((0 : Nat) : Int) * k = i := by simp
        have e2 : (n : Int) - ((0 : Nat) : Int) = Builtin.Range.rangeSize i j k := by rw [c3]; simp
        by_cases hsm : Builtin.Range.small i j k = true
        · refine wpAny_pyIter_range (IsRange.new ..) hsm ?_
          refine pi_one (tk := s1.toks) I2 _ (turn_rangeC _ i k n) ?_ q
          show IsRangeIter _ _ (i + ((0 : Nat) : Int) * k) ((n : Int) - ((0 : Nat) : Int)) k
          rw [e1, e2]
          exact Heap.get?_push_size _ rfl
        · refine wpAny_pyIter_longrange (IsRange.new ..) (by simpa using hsm) ?_
          refine pi_one (tk := s1.toks) I2 _ (turn_longC _ i k n) ?_ q
          show IsLongIter _ _ (i + ((0 : Nat) : Int) * k) ((n : Int) - ((0 : Nat) : Int)) k
          rw [e1, e2]
          exact Heap.get?_push_size _ rfl
end
/-! ### targets -/
def tgT (K : PySem.W.Frag) : Tg → TG
  | .nm i => gName i
  | .tp ts => gTup K ts.length (tgTs K ts)
where tgTs (K : PySem.W.Frag) : List Tg → TGs
  | [] => gNil
  | t :: ts => gCons (tgT K t) (tgTs K ts)
section
variable {g : Gx} {Bn : Addr → Prop} {Ow Ow' : List Addr} {H H' : Hp} {σ : St} {Γ Γ' : Ct}
theorem RS.set {i : Nat} {d : D} {v : V} (rs : RS g Bn Ow H σ Γ) (r : Rep g (Av Bn Ow) H d v) (hi : i < Γ.length) : RS g Bn Ow H (σ.set i (some v)) (Γ.set i (some (d, false))) := by
  have hs : i < σ.length := by rw [rs.len]; exact hi
  refine ⟨by rw [List.length_set, List.length_set]; exact rs.len, fun j e h => ?_, fun j e h => ?_, fun j k e f a h1 h2 h3 h4 => ?_, rs.trl, rs.sep, rs.kf, rs.tabs⟩
  · by_cases hj : i = j
    · subst hj
      rw [List.getElem?_set_self hi] at h; cases h
      exact ⟨v, List.getElem?_set_self hs, r⟩
    · rw [List.getElem?_set_ne hj] at h
      rw [List.getElem?_set_ne hj]
      exact rs.slot j e h
  · by_cases hj : i = j
    · subst hj
      rw [List.getElem?_set_self hi] at h; cases h
    · rw [List.getElem?_set_ne hj] at h
      rw [List.getElem?_set_ne hj]
      exact rs.own j e h
  · have n1 : i ≠ j := fun z => by subst z; rw [List.getElem?_set_self hi] at h1; cases h1
    have n2 : i ≠ k := fun z => by subst z; rw [List.getElem?_set_self hi] at h2; cases h2
    rw [List.getElem?_set_ne n1] at h1 h3
    rw [List.getElem?_set_ne n2] at h2 h4
    exact rs.dist j k _ _ _ h1 h2 h3 h4
theorem RS.setO {i : Nat} {d : D} {v : V} (rs : RS g Bn Ow H σ Γ) (r : Val g Bn Ow H σ Γ (.nw d) v) (hi : i < Γ.length) : RS g Bn Ow H (σ.set i (some v)) (Γ.set i (some (d, true))) := by
  have hs : i < σ.length := by rw [rs.len]; exact hi
  obtain ⟨a, rfl, m, o, no⟩ := r
  refine ⟨by rw [List.length_set, List.length_set]; exact rs.len, fun j e h => ?_, fun j e h => ?_, fun j k e f b h1 h2 h3 h4 => ?_, rs.trl, rs.sep, rs.kf, rs.tabs⟩
  · by_cases hj : i = j
    · subst hj
      rw [List.getElem?_set_self hi] at h; cases h
    · rw [List.getElem?_set_ne hj] at h
      rw [List.getElem?_set_ne hj]
      exact rs.slot j e h
  · by_cases hj : i = j
    · subst hj
      rw [List.getElem?_set_self hi] at h; cases h
      exact ⟨a, List.getElem?_set_self hs, m, o⟩
    · rw [List.getElem?_set_ne hj] at h
      rw [List.getElem?_set_ne hj]
      exact rs.own j e h
  · by_cases n1 : i = j <;> by_cases n2 : i = k
    · omega
    · subst n1
      rw [List.getElem?_set_self hs] at h3; cases h3
      rw [List.getElem?_set_ne n2] at h2 h4
      exact absurd h4 (no k f h2)
    · subst n2
      rw [List.getElem?_set_self hs] at h4; cases h4
      rw [List.getElem?_set_ne n1] at h1 h3
      exact absurd h3 (no j e h1)
    · rw [List.getElem?_set_ne n1] at h1 h3
      rw [List.getElem?_set_ne n2] at h2 h4
      exact rs.dist j k _ _ _ h1 h2 h3 h4
mutual
theorem asgT_ok : ∀ (t : Tg) {d : D} {v : V} {σ : St} {Γ Γ' : Ct} {Q : St → Hp → Prop}, RS g Bn Ow H σ Γ → Rep g (Av Bn Ow) H d v → asgT t d Γ = some Γ' →
    (∀ σ', RS g Bn Ow H σ' Γ' → σ'.length = σ.length → (∀ i, i ∉ tgIx t → σ'[i]? = σ[i]?) → Q σ' H) → tgT g.K t v σ H Q
  | .nm i, d, v, σ, Γ, Γ', Q, rs, r, e, k => by
    simp only [asgT, Option.ite_none_right_eq_some, Option.some.injEq] at e
    obtain ⟨hi, rfl⟩ := e
    refine k _ (rs.set r hi) List.length_set fun j hj => ?_
    rw [List.getElem?_set_ne]
    intro z
    subst z
    simp [tgIx] at hj
  | .tp ts, d, v, σ, Γ, Γ', Q, rs, r, e, k => by
    cases d <;> simp only [asgT, reduceCtorEq] at e
    simp only [Rep] at r
    obtain ⟨a, vs, rfl, _, s, rr⟩ := r
    have hl : ts.length = vs.length := by
      rw [← rr.len]
      have : ∀ (ts : List Tg) (ds : List D) (Γ Γ' : Ct), asgT.asgTs ts ds Γ = some Γ' → ts.length = ds.length := by
        intro ts
        induction ts with
        | nil => intro ds Γ Γ' h; cases ds with
          | nil => rfl
          | cons => simp only [asgT.asgTs, reduceCtorEq] at h
        | cons t ts ih => intro ds Γ Γ' h; cases ds with
          | nil => simp only [asgT.asgTs, reduceCtorEq] at h
          | cons d ds =>
            simp only [asgT.asgTs] at h
            obtain ⟨G1, _, h⟩ := Option.bind_eq_some_iff.mp h
            rw [List.length_cons, List.length_cons, ih _ _ _ h]
      exact this _ _ _ _ e
    exact ⟨a, vs, rfl, s, hl.symm, asgTs_ok ts rs rr e fun σ' q1 q2 q3 => k σ' q1 q2 fun i hi => q3 i (by simpa only [tgIx] using hi)⟩
theorem asgTs_ok : ∀ (ts : List Tg) {ds : List D} {vs : List V} {σ : St} {Γ Γ' : Ct} {Q : St → Hp → Prop}, RS g Bn Ow H σ Γ → Reps g (Av Bn Ow) H ds vs → asgT.asgTs ts ds Γ = some Γ' →
    (∀ σ', RS g Bn Ow H σ' Γ' → σ'.length = σ.length → (∀ i, i ∉ tgIx.tgIxs ts → σ'[i]? = σ[i]?) → Q σ' H) → tgT.tgTs g.K ts vs σ H Q
  | [], ds, vs, σ, Γ, Γ', Q, rs, r, e, k => by
    cases ds <;> simp only [asgT.asgTs, reduceCtorEq, Option.some.injEq] at e
    subst e
    simp only [Reps] at r
    exact ⟨r, k σ rs rfl fun _ _ => rfl⟩
  | t :: ts, ds, vs, σ, Γ, Γ', Q, rs, r, e, k => by
    cases ds with
    | nil => simp only [asgT.asgTs, reduceCtorEq] at e
    | cons d ds =>
      simp only [asgT.asgTs] at e
      obtain ⟨G1, e1, e⟩ := Option.bind_eq_some_iff.mp e
      simp only [Reps] at r
      obtain ⟨v, w, rfl, r1, r2⟩ := r
      refine ⟨v, w, rfl, asgT_ok t rs r1 e1 fun σ1 q1 q2 q3 => asgTs_ok ts q1 r2 e fun σ2 p1 p2 p3 => k σ2 p1 (p2.trans q2) fun i hi => ?_⟩
      simp only [tgIx.tgIxs, List.mem_append, not_or] at hi
      rw [p3 i hi.2, q3 i hi.1]
end

/-! ### what is walked -/
structure WalkD (g : Gx) (Bn : Addr → Prop) (Ow : List Addr) (H : Hp) (J : It) (ds : List D) : Prop where
  goW : ∀ i H', i < ds.length → (∀ a o, H a = some o → nT o → ¬ Av Bn Ow a → H' a = some o) → J.go i H'
  stopW : ∀ H', (∀ a o, H a = some o → nT o → ¬ Av Bn Ow a → H' a = some o) → J.stop ds.length H'
  same : ∀ i H' x H'', J.yld i H' x H'' → Same H' H''
  yldW : ∀ (i : Nat) d (A' : Addr → Prop) H' x H'', ds[i]? = some d → (∀ a, Vst g (Av Bn Ow) H a → (∀ o, H a = some o → nT o → H' a = some o) ∧ ¬ A' a) → (∀ a, A' a → H' a ≠ none) → J.yld i H' x H'' → Same H' H'' ∧ Rep g A' H'' d x
theorem WalkD.go {J : It} {ds : List D} (w : WalkD g Bn Ow H J ds) (i : Nat) (H' : Hp) (hi : i < ds.length) (k : ∀ a o, H a = some o → nT o → a ∉ Ow → H' a = some o) : J.go i H' := w.goW i H' hi fun a o h t n => k a o h t fun z => n (.inr z)
theorem WalkD.stop {J : It} {ds : List D} (w : WalkD g Bn Ow H J ds) (H' : Hp) (k : ∀ a o, H a = some o → nT o → a ∉ Ow → H' a = some o) : J.stop ds.length H' := w.stopW H' fun a o h t n => k a o h t fun z => n (.inr z)
theorem vst2 {Bn' : Addr → Prop} (hB : ∀ a, Bn' a → Bn a ∨ H a = none) (s : Stp Ow H Ow' H') (rs : RS g Bn' Ow' H' σ Γ) : ∀ a, Vst g (Av Bn Ow) H a → (∀ o, H a = some o → nT o → H' a = some o) ∧ ¬ Av Bn' Ow' a := fun a ⟨n, t⟩ => by
  refine ⟨fun o h t => s.keep0 a o h t fun z => n (.inr z), fun z => ?_⟩
  rcases t with ⟨o, t, nt⟩ | ⟨o, t⟩
  · rcases z with z | z
    · rcases hB a z with z | z
      · exact n (.inl z)
      · rw [z] at t; cases t
    · rcases s.grow a z with z | z
      · exact n (.inr z)
      · exact z o t nt
  · rw [rs.kf a z] at t; cases t
theorem WalkD.yld {J : It} {ds : List D} (w : WalkD g Bn Ow H J ds) (i : Nat) (d : D) (Bn' : Addr → Prop) (Ow' : List Addr) (H' : Hp) (σ' : St) (Γ' : Ct) (x : V) (H'' : Hp) (e : ds[i]? = some d) (_ : ∀ a, Bn a → Bn' a) (b2 : ∀ a, Bn' a → Bn a ∨ H a = none) (s : Stp Ow H Ow' H') (rs : RS g Bn' Ow' H' σ' Γ') (y : J.yld i H' x H'') : Same H' H'' ∧ Rep g (Av Bn' Ow') H'' d x :=
  w.yldW i d (Av Bn' Ow') H' x H'' e (vst2 b2 s rs) rs.trk y
theorem walk_list {a : Addr} {vs : List V} {ds : List D} (na : ¬ Av Bn Ow a) (h : H a = some (.lst vs)) (r : Reps g (Av Bn Ow) H ds vs) : WalkD g Bn Ow H (Itl g.K a) ds where
  goW := fun i H' hi k => by
    have hi' : i < vs.length := by rw [← r.len]; exact hi
    exact ⟨vs, vs[i], .inl (.inl (k a _ h nofun na)), List.getElem?_eq_getElem hi'⟩
  stopW := fun H' k => ⟨vs, .inl (.inl (k a _ h nofun na)), by rw [r.len]; exact Nat.le_refl _⟩
  same := fun i H' x H'' y => by obtain ⟨rfl, _⟩ := y; exact same_rfl _
  yldW := fun i d A' H' x H'' e vv tr y => by
    obtain ⟨rfl, y⟩ := y
    obtain ⟨v, e1, r1⟩ := r.get e
    have e2 := y vs (.inl (.inl ((vv a ⟨na, .inl ⟨_, h, nofun⟩⟩).1 _ h nofun)))
    rw [e1] at e2; cases e2
    exact ⟨same_rfl _, rep_mono vv _ _ r1⟩
theorem walk_tup {a : Addr} {vs : List V} {ds : List D} (na : ¬ Av Bn Ow a) (h : SqT g.K H a vs) (r : Reps g (Av Bn Ow) H ds vs) : WalkD g Bn Ow H (Itt g.K a) ds where
  goW := fun i H' hi k => by
    have hi' : i < vs.length := by rw [← r.len]; exact hi
    exact ⟨vs, vs[i], sqT_mono h fun o e t => k a o e t na, List.getElem?_eq_getElem hi'⟩
  stopW := fun H' k => ⟨vs, sqT_mono h fun o e t => k a o e t na, by rw [r.len]; exact Nat.le_refl _⟩
  same := fun i H' x H'' y => by obtain ⟨rfl, _⟩ := y; exact same_rfl _
  yldW := fun i d A' H' x H'' e vv tr y => by
    obtain ⟨rfl, y⟩ := y
    obtain ⟨v, e1, r1⟩ := r.get e
    have e2 := y vs (sqT_mono h fun o e t => (vv a ⟨na, .inl ⟨_, e, t⟩⟩).1 o e t)
    rw [e1] at e2; cases e2
    exact ⟨same_rfl _, rep_mono vv _ _ r1⟩
theorem enumD_get : ∀ {ds : List D} {n i : Nat} {d : D}, (enumD n ds)[i]? = some d → ∃ e, ds[i]? = some e ∧ d = .tup [.int ((n + i : Nat) : Int), e]
  | [], n, i, d, h => by simp [enumD] at h
  | e :: ds, n, 0, d, h => by simp [enumD] at h; subst h; exact ⟨e, rfl, rfl⟩
  | e :: ds, n, i + 1, d, h => by
    simp only [enumD, List.getElem?_cons_succ] at h
    obtain ⟨f, h1, h2⟩ := enumD_get h
    exact ⟨f, by simpa using h1, by rw [h2, show n + 1 + i = n + (i + 1) by omega]⟩
theorem enumD_len : ∀ (ds : List D) (n : Nat), (enumD n ds).length = ds.length
  | [], _ => rfl
  | _ :: ds, n => by simp only [enumD, List.length_cons]; rw [enumD_len ds (n + 1)]
theorem tup2 {A' : Addr → Prop} {T : Addr} {d e : D} {x y : V} {H'' : Hp} (nT : H' T = none) (e0 : H'' = upd H' T (.tup [x, y])) (tr : ∀ a, A' a → H' a ≠ none) (r1 : Rep g A' H' d x) (r2 : Rep g A' H' e y) : Same H' H'' ∧ Rep g A' H'' (.tup [d, e]) (.ref T) := by
  subst e0
  refine ⟨same_new nT, ?_⟩
  simp only [Rep]
  refine ⟨T, [x, y], rfl, fun z => tr T z nT, .inl (.inl upd_same), ?_⟩
  simp only [Reps]
  exact ⟨_, _, rfl, r1.same (same_new nT), _, _, rfl, r2.same (same_new nT), rfl⟩
theorem walk_enum {a : Addr} {vs : List V} {ds : List D} (na : ¬ Av Bn Ow a) (h : H a = some (.lst vs)) (r : Reps g (Av Bn Ow) H ds vs) : WalkD g Bn Ow H (Ite g.K a) (enumD 0 ds) where
  goW := fun i H' hi k => by
    rw [enumD_len] at hi
    have hi' : i < vs.length := by rw [← r.len]; exact hi
    exact ⟨vs, vs[i], .inl (.inl (k a _ h nofun na)), List.getElem?_eq_getElem hi'⟩
  stopW := fun H' k => ⟨vs, .inl (.inl (k a _ h nofun na)), by rw [enumD_len, r.len]; exact Nat.le_refl _⟩
  same := fun i H' x H'' y => by obtain ⟨T, v, rfl, nT, rfl, _⟩ := y; exact same_new nT
  yldW := fun i d A' H' x H'' e vv tr y => by
    obtain ⟨T, v, rfl, nT, e0, y⟩ := y
    obtain ⟨f, e1, rfl⟩ := enumD_get e
    obtain ⟨w, e2, r1⟩ := r.get e1
    have e3 := y vs (.inl (.inl ((vv a ⟨na, .inl ⟨_, h, nofun⟩⟩).1 _ h nofun)))
    rw [e2] at e3; cases e3
    rw [Nat.zero_add]
    exact tup2 nT e0 tr (by simp only [Rep]) (rep_mono vv _ _ r1)
theorem rngD_get : ∀ {n : Nat} {lo c : Int} {i : Nat} {d : D}, (rngD lo c n)[i]? = some d → i < n ∧ d = .int (lo + (i : Nat) * c)
  | 0, lo, c, i, d, h => by simp [rngD] at h
  | n + 1, lo, c, 0, d, h => by simp [rngD] at h; subst h; exact ⟨by omega, by simp⟩
  | n + 1, lo, c, i + 1, d, h => by
    simp only [rngD, List.getElem?_cons_succ] at h
    obtain ⟨h1, h2⟩ := rngD_get h
    refine ⟨by omega, ?_⟩
    rw [h2]
    have : lo + c + (i : Int) * c = lo + ((i + 1 : Nat) : Int) * c := by
      have : ((i + 1 : Nat) : Int) = (i : Int) + 1 := by omega
      rw [this, Int.add_mul]; omega
    rw [this]
theorem rngD_len : ∀ (n : Nat) (lo c : Int), (rngD lo c n).length = n
  | 0, _, _ => rfl
  | n + 1, lo, c => by simp only [rngD, List.length_cons]; rw [rngD_len n]
theorem walk_rng (lo : Int) (n : Nat) : WalkD g Bn Ow H (Itr lo n) (rngD lo 1 n) where
  goW := fun i H' hi k => by rw [rngD_len] at hi; exact hi
  stopW := fun H' k => by rw [rngD_len]; exact Nat.le_refl _
  same := fun i H' x H'' y => by obtain ⟨rfl, _⟩ := y; exact same_rfl _
  yldW := fun i d A' H' x H'' e vv tr y => by
    obtain ⟨rfl, rfl⟩ := y
    obtain ⟨_, rfl⟩ := rngD_get e
    exact ⟨same_rfl _, by simp only [Rep, Int.mul_one]⟩
theorem walk_rngC (lo c : Int) (n : Nat) : WalkD g Bn Ow H (Itc lo c n) (rngD lo c n) where
  goW := fun i H' hi k => by rw [rngD_len] at hi; exact hi
  stopW := fun H' k => by rw [rngD_len]; exact Nat.le_refl _
  same := fun i H' x H'' y => by obtain ⟨rfl, _⟩ := y; exact same_rfl _
  yldW := fun i d A' H' x H'' e vv tr y => by
    obtain ⟨rfl, rfl⟩ := y
    obtain ⟨_, rfl⟩ := rngD_get e
    exact ⟨same_rfl _, by simp only [Rep]⟩
end
def tI (g : Gx) (fs : List FS) (ik : IK) (its : List E) : TI := fun σ H R => ∃ Bn Ow Γ xs Γ1 ds Γ2, RS g Bn Ow H σ Γ ∧ evs fs its Γ = some (xs, Γ1) ∧ iterD ik xs Γ1 = some (ds, Γ2) ∧ ∀ J H' Ow', Stp Ow H Ow' H' → RS g Bn Ow' H' σ Γ2 → WalkD g Bn Ow' H' J ds → R J H'
section
variable {X : Cx} {g : Gx} {fs : List FS} {tg l : Expr} {il : E} {p pos tpos : Pos} {elts : List Expr} {kk : Nat} {es : List Expr} {ies : List E}
theorem PI.weak {it : Expr} {w w' : TI} (h : PI X tg it w) (k : ∀ σ H R, w' σ H R → w σ H R) : PI X tg it w' := ⟨fun pins s σ H R I q => h.run pins s σ H R I (k σ H R q)⟩
theorem PI.or {it : Expr} {w w' : TI} (h : PI X tg it w) (h' : PI X tg it w') : PI X tg it (fun σ H R => w σ H R ∨ w' σ H R) := ⟨fun pins s σ H R I q => q.elim (fun q => h.run pins s σ H R I q) fun q => h'.run pins s σ H R I q⟩
theorem evs_one {Γ Γ1 : Ct} {xs : List RV} (h : evs fs [il] Γ = some (xs, Γ1)) : ∃ x, xs = [x] ∧ ev fs il Γ = some (x, Γ1) := by
  simp only [evs] at h
  obtain ⟨⟨x, G⟩, e1, h⟩ := Option.bind_eq_some_iff.mp h
  simp only [Option.map_some, Option.some.injEq, Prod.mk.injEq] at h
  obtain ⟨rfl, rfl⟩ := h
  exact ⟨x, rfl, e1⟩
/-- by what is walked, on what the value says: a list, a tuple -/
theorem i_seq_or (C : Cok0 g X) (h : PI X tg l (fun σ H R => iList X.K (tR g fs il) σ H R ∨ iTup X.K (tR g fs il) σ H R)) : PI X tg l (tI g fs .seq [il]) := by
  refine PI.weak h ?_
  rintro σ H R ⟨Bn, Ow, Γ, xs, Γ1, ds, Γ2, rs, e1, e2, k⟩
  obtain ⟨x, rfl, e9⟩ := evs_one e1
  simp only [iterD] at e2
  obtain ⟨⟨d, G2⟩, e3, e2⟩ := Option.bind_eq_some_iff.mp e2
  cases d <;> simp only [reduceCtorEq, Option.some.injEq, Prod.mk.injEq] at e2
  · obtain ⟨rfl, rfl⟩ := e2
    refine .inl ⟨Bn, Ow, Γ, x, Γ1, rs, e9, fun v H1 O1 s1 r1 v1 => ?_⟩
    obtain ⟨O2, s2, r2, rp⟩ := fre_ok r1 v1 e3
    simp only [Rep] at rp
    obtain ⟨a, vs, rfl, na, ha, rr⟩ := rp
    refine ⟨a, rfl, ⟨vs, .inl (.inl ha)⟩, ?_⟩
    rw [C.K]
    exact k _ H1 O2 (s1.trans s2) r2 (walk_list na ha rr)
  · obtain ⟨rfl, rfl⟩ := e2
    refine .inr ⟨Bn, Ow, Γ, x, Γ1, rs, e9, fun v H1 O1 s1 r1 v1 => ?_⟩
    obtain ⟨O2, s2, r2, rp⟩ := fre_ok r1 v1 e3
    simp only [Rep] at rp
    obtain ⟨a, vs, rfl, na, ha, rr⟩ := rp
    refine ⟨a, rfl, ⟨vs, by rw [C.K]; exact ha⟩, ?_⟩
    rw [C.K]
    exact k _ H1 O2 (s1.trans s2) r2 (walk_tup na ha rr)
theorem i_seq (C : Cok0 g X) (hl : PE X l (tR g fs il)) : PI X tg l (tI g fs .seq [il]) := i_seq_or C (PI.or (pi_list hl) (pi_tup hl))
theorem i_enum (C : Cok0 g X) (hg : Gl X "enumerate") (hm : X.mg "enumerate" = none) (ha : PA X [l] (tAs g fs [il])) (hs : starEach [l] X.env = [(false, eval l X.env)]) : PI X (.Tuple elts kk tpos) (.Call (.Name "enumerate" p) [l] [] pos) (tI g fs .enum [il]) := by
  refine PI.weak (pi_enum hg hm ha hs) ?_
  rintro σ H R ⟨Bn, Ow, Γ, xs, Γ1, ds, Γ2, rs, e1, e2, k⟩
  refine ⟨Bn, Ow, Γ, xs, Γ1, rs, e1, fun vs H1 O1 s1 r1 v1 => ?_⟩
  obtain ⟨x, rfl, e1⟩ := evs_one e1
  simp only [iterD] at e2
  obtain ⟨⟨d, G2⟩, e3, e2⟩ := Option.bind_eq_some_iff.mp e2
  cases d <;> simp only [reduceCtorEq, Option.some.injEq, Prod.mk.injEq] at e2
  obtain ⟨rfl, rfl⟩ := e2
  obtain ⟨v, w, rfl, v1, z⟩ := v1
  have z : w = [] := z
  subst z
  rw [← fre_dn] at e3
  obtain ⟨O2, s2, r2, rp⟩ := fre_ok r1 v1 e3
  simp only [Rep] at rp
  obtain ⟨a, vs, rfl, na, ha, rr⟩ := rp
  refine ⟨a, vs, rfl, .inl (.inl ha), ?_⟩
  rw [C.K]
  exact k _ H1 O2 (s1.trans s2) r2 (walk_enum na ha rr)
theorem in62_of {i : Int} (h : in62 i = true) : -(2 ^ 62) ≤ i ∧ i < 2 ^ 62 := by
  unfold in62 at h
  have h := of_decide_eq_true h
  by_cases h0 : i.natAbs = 0
  · omega
  · rw [Nat.log2_lt h0] at h
    omega
theorem i_rng1 {a : Expr} {ia : E} (C : Cok0 g X) (hg : Gl X "range") (hm : X.mg "range" = none) (ha : PA X [a] (tAs g fs [ia])) (hs : starEach [a] X.env = [(false, eval a X.env)]) : PI X tg (.Call (.Name "range" p) [a] [] pos) (tI g fs .rng [ia]) := by
  refine PI.weak (pi_range1 hg hm ha hs) ?_
  rintro σ H R ⟨Bn, Ow, Γ, xs, Γ1, ds, Γ2, rs, e1, e2, k⟩
  refine ⟨Bn, Ow, Γ, xs, Γ1, rs, e1, fun vs H1 O1 s1 r1 v1 => ?_⟩
  obtain ⟨x, rfl, e1⟩ := evs_one e1
  simp only [iterD] at e2
  obtain ⟨dd, e3, e2⟩ := Option.bind_eq_some_iff.mp e2
  have pd := datums_ok r1 v1 e3
  simp only [datums] at e3
  obtain ⟨d, _, e3⟩ := Option.bind_eq_some_iff.mp e3
  simp only [Option.map_some, Option.some.injEq] at e3
  subst e3
  cases d <;> simp only [reduceCtorEq, Option.ite_none_right_eq_some, Option.some.injEq, Prod.mk.injEq] at e2
  obtain ⟨h6, rfl, rfl⟩ := e2
  obtain ⟨v, rfl, q⟩ := paired1 pd
  rw [rdb_int q]
  exact ⟨_, rfl, (in62_of h6).1, (in62_of h6).2, k _ H1 O1 s1 r1 (walk_rng _ _)⟩
theorem i_rng2 {a b : Expr} {ia ib : E} (C : Cok0 g X) (hg : Gl X "range") (hm : X.mg "range" = none) (ha : PA X [a, b] (tAs g fs [ia, ib])) (hs : starEach [a, b] X.env = [(false, eval a X.env), (false, eval b X.env)]) (hs2 : starEach [b] X.env = [(false, eval b X.env)]) :
    PI X tg (.Call (.Name "range" p) [a, b] [] pos) (tI g fs .rng [ia, ib]) := by
  refine PI.weak (pi_range2 hg hm ha hs hs2) ?_
  rintro σ H R ⟨Bn, Ow, Γ, xs, Γ1, ds, Γ2, rs, e1, e2, k⟩
  refine ⟨Bn, Ow, Γ, xs, Γ1, rs, e1, fun vs H1 O1 s1 r1 v1 => ?_⟩
  simp only [evs] at e1
  obtain ⟨⟨x, G1⟩, _, e1⟩ := Option.bind_eq_some_iff.mp e1
  obtain ⟨⟨ys, G2⟩, e4, e1⟩ := Option.map_eq_some_iff.mp e1
  obtain ⟨⟨y, G3⟩, _, e4⟩ := Option.bind_eq_some_iff.mp e4
  simp only [Option.map_some, Option.some.injEq, Prod.mk.injEq] at e4 e1
  obtain ⟨rfl, rfl⟩ := e4
  obtain ⟨rfl, rfl⟩ := e1
  simp only [iterD] at e2
  obtain ⟨dd, e3, e2⟩ := Option.bind_eq_some_iff.mp e2
  have pd := datums_ok r1 v1 e3
  simp only [datums] at e3
  obtain ⟨d, _, e3⟩ := Option.bind_eq_some_iff.mp e3
  obtain ⟨dr, e5, e3⟩ := Option.map_eq_some_iff.mp e3
  obtain ⟨e, _, e5⟩ := Option.bind_eq_some_iff.mp e5
  simp only [Option.map_some, Option.some.injEq] at e5
  subst e5 e3
  cases d <;> cases e <;> simp only [reduceCtorEq, Option.ite_none_right_eq_some, Option.some.injEq, Prod.mk.injEq, Bool.and_eq_true] at e2
  obtain ⟨⟨h6, h7⟩, rfl, rfl⟩ := e2
  obtain ⟨v, w, rfl, q, q'⟩ := paired2 pd
  rw [rdb_int q, rdb_int q']
  exact ⟨_, _, rfl, ⟨(in62_of h6).1, (in62_of h6).2, (in62_of h7).1, (in62_of h7).2⟩, k _ H1 O1 s1 r1 (walk_rng _ _)⟩
theorem i_rng3 {a b c : Expr} {ia ib ic : E} (C : Cok0 g X) (hg : Gl X "range") (hm : X.mg "range" = none) (ha : PA X [a, b, c] (tAs g fs [ia, ib, ic])) (hs : starEach [a, b, c] X.env = (false, eval a X.env) :: starEach [b, c] X.env) (hpl : (backTo pos (starEach [b, c] X.env)).any (·.1) = false) :
    PI X tg (.Call (.Name "range" p) [a, b, c] [] pos) (tI g fs .rng [ia, ib, ic]) := by
  refine PI.weak (pi_range3G hg hm ha hs hpl) ?_
  rintro σ H R ⟨Bn, Ow, Γ, xs, Γ1, ds, Γ2, rs, e1, e2, k⟩
  refine ⟨Bn, Ow, Γ, xs, Γ1, rs, e1, fun vs H1 O1 s1 r1 v1 => ?_⟩
  simp only [evs] at e1
  obtain ⟨⟨x, G1⟩, _, e1⟩ := Option.bind_eq_some_iff.mp e1
  obtain ⟨⟨ys, G2⟩, e4, e1⟩ := Option.map_eq_some_iff.mp e1
  obtain ⟨⟨y, G3⟩, _, e4⟩ := Option.bind_eq_some_iff.mp e4
  obtain ⟨⟨zs, G4⟩, e5, e4⟩ := Option.map_eq_some_iff.mp e4
  obtain ⟨⟨z, G5⟩, _, e5⟩ := Option.bind_eq_some_iff.mp e5
  simp only [Option.map_some, Option.some.injEq, Prod.mk.injEq] at e5 e4 e1
  obtain ⟨rfl, rfl⟩ := e5
  obtain ⟨rfl, rfl⟩ := e4
  obtain ⟨rfl, rfl⟩ := e1
  simp only [iterD] at e2
  obtain ⟨dd, e3, e2⟩ := Option.bind_eq_some_iff.mp e2
  have pd := datums_ok r1 v1 e3
  simp only [datums] at e3
  obtain ⟨d, _, e3⟩ := Option.bind_eq_some_iff.mp e3
  obtain ⟨dr, e6, e3⟩ := Option.map_eq_some_iff.mp e3
  obtain ⟨e, _, e6⟩ := Option.bind_eq_some_iff.mp e6
  obtain ⟨er, e7, e6⟩ := Option.map_eq_some_iff.mp e6
  obtain ⟨f, _, e7⟩ := Option.bind_eq_some_iff.mp e7
  simp only [Option.map_some, Option.some.injEq] at e7
  subst e7 e6 e3
  cases d <;> cases e <;> cases f <;> simp only [reduceCtorEq, Option.ite_none_right_eq_some, Option.some.injEq, Prod.mk.injEq] at e2
  obtain ⟨⟨h6, h7, h9⟩, rfl, rfl⟩ := e2
  cases pd with
  | cons q1 pd =>
    cases pd with
    | cons q2 pd =>
      cases pd with
      | cons q3 pd =>
        cases pd
        rw [rdb_int q1, rdb_int q2, rdb_int q3]
        exact ⟨_, _, _, _, rfl, ⟨h6, h7, h9⟩, k _ H1 O1 s1 r1 (walk_rngC _ _ _)⟩
end
end DV

namespace DV
open PySem L2
/-! ### slots wiped and restored -/
theorem wipe_nout {σ : St} {i : Nat} : ∀ {vs : List Nat}, i ∉ vs → (wipe σ vs)[i]? = σ[i]?
  | [], _ => rfl
  | v :: vs, h => by
    simp only [List.mem_cons, not_or] at h
    unfold wipe
    rw [List.getElem?_set_ne (fun z => h.1 z.symm)]
    exact wipe_nout h.2
theorem wipe_in {σ : St} {i : Nat} : ∀ {vs : List Nat}, i ∈ vs → i < σ.length → (wipe σ vs)[i]? = some none
  | v :: vs, h, hl => by
    unfold wipe
    by_cases e : v = i
    · subst e
      exact List.getElem?_set_self (by rw [wipe_length]; exact hl)
    · rw [List.getElem?_set_ne e]
      rcases List.mem_cons.mp h with h | h
      · exact absurd h.symm e
      · exact wipe_in h hl
theorem wipeG_len (Γ : Ct) : ∀ vs : List Nat, (wipeG Γ vs).length = Γ.length
  | [] => rfl
  | v :: vs => by unfold wipeG; rw [List.length_set, wipeG_len Γ vs]
theorem wipeG_some {Γ : Ct} {i : Nat} {p : D × Bool} : ∀ {vs : List Nat}, (wipeG Γ vs)[i]? = some (some p) → Γ[i]? = some (some p) ∧ i ∉ vs
  | [], h => ⟨h, by simp⟩
  | v :: vs, h => by
    unfold wipeG at h
    by_cases e : v = i
    · subst e
      by_cases hl : v < (wipeG Γ vs).length
      · rw [List.getElem?_set_self hl] at h; cases h
      · rw [List.getElem?_eq_none (by rw [List.length_set]; omega)] at h; cases h
    · rw [List.getElem?_set_ne e] at h
      obtain ⟨h1, h2⟩ := wipeG_some h
      exact ⟨h1, by simp only [List.mem_cons, not_or]; exact ⟨fun z => e z.symm, h2⟩⟩
theorem restG_len (Γ Γ' : Ct) : ∀ vs : List Nat, (restG Γ Γ' vs).length = Γ'.length
  | [] => rfl
  | v :: vs => by unfold restG; rw [List.length_set, restG_len Γ Γ' vs]
theorem restG_out {Γ Γ' : Ct} {i : Nat} : ∀ {vs : List Nat}, i ∉ vs → (restG Γ Γ' vs)[i]? = Γ'[i]?
  | [], _ => rfl
  | v :: vs, h => by
    simp only [List.mem_cons, not_or] at h
    unfold restG
    rw [List.getElem?_set_ne (fun z => h.1 z.symm)]
    exact restG_out h.2
theorem restG_in {Γ Γ' : Ct} {i : Nat} : ∀ {vs : List Nat}, i ∈ vs → i < Γ'.length → (restG Γ Γ' vs)[i]? = some (Γ.getD i none)
  | v :: vs, h, hl => by
    unfold restG
    by_cases e : v = i
    · subst e
      exact List.getElem?_set_self (by rw [restG_len]; exact hl)
    · rw [List.getElem?_set_ne e]
      rcases List.mem_cons.mp h with h | h
      · exact absurd h.symm e
      · exact restG_in h hl
theorem wipe_same {σ σ' : St} {vs : List Nat} (hl : σ'.length = σ.length) (h : ∀ i, i ∉ vs → σ'[i]? = σ[i]?) : wipe σ' vs = wipe σ vs := by
  apply List.ext_getElem?
  intro i
  by_cases hi : i ∈ vs
  · by_cases hlt : i < σ.length
    · rw [wipe_in hi hlt, wipe_in hi (by omega)]
    · rw [List.getElem?_eq_none (by rw [wipe_length]; omega), List.getElem?_eq_none (by rw [wipe_length]; omega)]
  · rw [wipe_nout hi, wipe_nout hi, h i hi]
theorem wipe_wipe (σ : St) (vs : List Nat) : wipe (wipe σ vs) vs = wipe σ vs := wipe_same (wipe_length σ vs) fun i hi => wipe_nout hi
section
variable {g : Gx} {Bn : Addr → Prop} {Ow Ow' : List Addr} {H H' : Hp} {σ : St} {Γ Γ' : Ct}
theorem RS.wipe (own : List Nat) (rs : RS g Bn Ow H σ Γ) : RS g Bn Ow H (L2.wipe σ own) (wipeG Γ own) := by
  refine ⟨by rw [wipe_length, wipeG_len]; exact rs.len, fun i d h => ?_, fun i d h => ?_, fun i j d e a h1 h2 h3 h4 => ?_, rs.trl, rs.sep, rs.kf, rs.tabs⟩
  · obtain ⟨h1, h2⟩ := wipeG_some h
    rw [wipe_nout h2]
    exact rs.slot i d h1
  · obtain ⟨h1, h2⟩ := wipeG_some h
    rw [wipe_nout h2]
    exact rs.own i d h1
  · obtain ⟨q1, n1⟩ := wipeG_some h1
    obtain ⟨q2, n2⟩ := wipeG_some h2
    rw [wipe_nout n1] at h3
    rw [wipe_nout n2] at h4
    exact rs.dist i j _ _ _ q1 q2 h3 h4
/-- the block is over: its own names are what they were -/
theorem RS.rest {Bn' : Addr → Prop} {own : List Nat} (r0 : RS g Bn Ow H σ Γ) (hp : plainIx Γ own = true) (s : Stp Ow H Ow' H') (hB : ∀ a, Bn' a → Bn a ∨ H a = none) (rs : RS g Bn' Ow' H' (L2.wipe σ own) Γ') : RS g Bn' Ow' H' σ (restG Γ Γ' own) := by
  have hl : σ.length = Γ'.length := by rw [← rs.len, wipe_length]
  have pl : ∀ i, i ∈ own → ∀ d, Γ[i]? ≠ some (some (d, true)) := fun i hi d z => by
    unfold plainIx at hp
    have q := List.all_eq_true.mp hp i hi
    rw [z] at q
    cases q
  have inn : ∀ {i : Nat} {p : D × Bool}, i ∈ own → (restG Γ Γ' own)[i]? = some (some p) → Γ[i]? = some (some p) := fun {i p} hi h => by
    have hlt : i < Γ'.length := by
      rw [← restG_len Γ Γ' own]
      exact (List.getElem?_eq_some_iff.mp h).1
    rw [restG_in hi hlt] at h
    have hlt2 : i < Γ.length := by rw [← r0.len, hl]; exact hlt
    rw [List.getD_eq_getElem?_getD, List.getElem?_eq_getElem hlt2] at h
    rw [List.getElem?_eq_getElem hlt2]
    simpa using h
  refine ⟨by rw [restG_len]; exact hl, fun i d h => ?_, fun i d h => ?_, fun i j d e a h1 h2 h3 h4 => ?_, rs.trl, rs.sep, rs.kf, rs.tabs⟩
  · by_cases hi : i ∈ own
    · obtain ⟨v, e, r⟩ := r0.slot i d (inn hi h)
      exact ⟨v, e, rep_mono (vst2 hB s rs) _ _ r⟩
    · rw [restG_out hi] at h
      obtain ⟨v, e, r⟩ := rs.slot i d h
      rw [wipe_nout hi] at e
      exact ⟨v, e, r⟩
  · by_cases hi : i ∈ own
    · exact absurd (inn hi h) (pl i hi d)
    · rw [restG_out hi] at h
      obtain ⟨v, e, r⟩ := rs.own i d h
      rw [wipe_nout hi] at e
      exact ⟨v, e, r⟩
  · have n1 : i ∉ own := fun z => pl i z d (inn z h1)
    have n2 : j ∉ own := fun z => pl j z e (inn z h2)
    rw [restG_out n1] at h1
    rw [restG_out n2] at h2
    exact rs.dist i j _ _ _ h1 h2 (by rw [wipe_nout n1]; exact h3) (by rw [wipe_nout n2]; exact h4)
abbrev orB (Bn : Addr → Prop) (p : Addr) : Addr → Prop := fun a => Bn a ∨ a = p
theorem RS.addB {p : Addr} (rs : RS g Bn Ow H σ Γ) (s : Same H H') (np : H p = none) (hp : LI H' p) (hk : g.K.lookup p = none) : RS g (orB Bn p) Ow H' σ Γ := by
  have r := rs.add s np hp hk
  have np' : p ∉ Ow := fun z => rs.trk p (.inr z) np
  have av : ∀ a, Av (orB Bn p) Ow a → Av Bn (p :: Ow) a := fun a h => by
    rcases h with (h | h) | h
    · exact .inl h
    · exact .inr (by rw [h]; exact List.mem_cons_self)
    · exact .inr (List.mem_cons_of_mem _ h)
  refine ⟨r.len, fun i d h => ?_, fun i d h => ?_, r.dist, fun a h => r.trl a (av a h), fun a h z => ?_, fun a h => r.kf a (av a h), r.tabs⟩
  · obtain ⟨v, e, q⟩ := r.slot i d h; exact ⟨v, e, rep_less av q⟩
  · obtain ⟨a, e, m, q⟩ := r.own i d h
    obtain ⟨a', e', m', _⟩ := rs.own i d h
    rw [e] at e'; cases e'
    exact ⟨a, e, m', own_less av q⟩
  · rcases h with h | h
    · exact rs.sep a h z
    · rw [h] at z; exact np' z
theorem RS.unB {p : Addr} (rs : RS g (orB Bn p) Ow H σ Γ) (nb : ¬ Bn p) : RS g Bn (p :: Ow) H σ Γ := by
  have av : ∀ a, Av Bn (p :: Ow) a → Av (orB Bn p) Ow a := fun a h => by
    rcases h with h | h
    · exact .inl (.inl h)
    · rcases List.mem_cons.mp h with h | h
      · exact .inl (.inr h)
      · exact .inr h
  refine ⟨rs.len, fun i d h => ?_, fun i d h => ?_, rs.dist, fun a h => rs.trl a (av a h), fun a h z => ?_, fun a h => rs.kf a (av a h), rs.tabs⟩
  · obtain ⟨v, e, q⟩ := rs.slot i d h; exact ⟨v, e, rep_less av q⟩
  · obtain ⟨a, e, m, q⟩ := rs.own i d h
    exact ⟨a, e, List.mem_cons_of_mem _ m, own_less av q⟩
  · rcases List.mem_cons.mp z with z | z
    · subst z; exact nb h
    · exact rs.sep a (.inl h) z
/-- what is banned may change -/
theorem ban_vst {p : Addr} {o : HO} {A : Addr → Prop} (h : A p) : ∀ a, Vst g A H a → (∀ x, H a = some x → nT x → (upd H p o) a = some x) ∧ ¬ A a := fun a ⟨n, _⟩ => ⟨fun x e _ => by
  rw [upd_ne (fun z => n (by rw [z]; exact h))]
  exact e, n⟩
theorem RS.updB {p : Addr} {o : HO} (rs : RS g Bn Ow H σ Γ) (hp : Bn p) (ho : LI (upd H p o) p) : RS g Bn Ow (upd H p o) σ Γ := by
  have v := ban_vst (g := g) (H := H) (o := o) (A := Av Bn Ow) (p := p) (.inl hp)
  refine ⟨rs.len, fun i d h => ?_, fun i d h => ?_, rs.dist, fun a h => ?_, rs.sep, rs.kf, rs.tabs.upd (rs.trl p (.inl hp))⟩
  · obtain ⟨w, e, q⟩ := rs.slot i d h; exact ⟨w, e, rep_mono v _ _ q⟩
  · obtain ⟨a, e, m, q⟩ := rs.own i d h
    have ne : a ≠ p := fun z => by subst z; exact rs.sep a hp m
    refine ⟨a, e, m, ?_⟩
    cases d with
    | lst ds => obtain ⟨ws, z1, z2⟩ := q; exact ⟨ws, by rw [upd_ne ne]; exact z1, reps_mono v _ _ z2⟩
    | obj c ks ds => obtain ⟨dx, ws, l, z1, z2⟩ := q; exact ⟨dx, ws, l, by rw [upd_ne ne]; exact z1, reps_mono v _ _ z2⟩
    | _ => exact q
  · exact (rs.trl a h).upd fun _ => ho
theorem Stp.updN {O O' : List Addr} {p : Addr} {o : HO} (s : Stp O H O' H') (np : H p = none) : Stp O H O' (upd H' p o) where
  keep0 := fun a x h t n => by
    rw [upd_ne (ne_of_none h np)]
    exact s.keep0 a x h t n
  grow := s.grow
end
def tTc (g : Gx) (fs : List FS) (cond : List E) : TT := fun σ H Q => ∃ Bn Ow Γ t Γ', RS g Bn Ow H σ Γ ∧ evc fs cond Γ = some (t, Γ') ∧ ∀ H' Ow', Stp Ow H Ow' H' → RS g Bn Ow' H' σ Γ' → Q t H'
abbrev kfs (K : PySem.W.Frag) (H : Hp) : Prop := ∀ a o, K.lookup a = some o → H a = none
def tgK (K : PySem.W.Frag) (tg : Tg) : TG := fun v σ H Q => kfs K H → tgT K tg v σ H Q
section
variable {g : Gx} {fs : List FS} {Bn : Addr → Prop} {Ow : List Addr} {H : Hp} {σ : St} {Γ Γ' : Ct}
theorem comp_core {own : List Nat} {tg : Tg} {ik : IK} {its cond : List E} {elt : E} {r : RV} {Q : VK} (rs : RS g Bn Ow H σ Γ) (he : ev fs (.comp own tg ik its cond elt) Γ = some (r, Γ'))
    (hQ : ∀ v H' Ow', Stp Ow H Ow' H' → RS g Bn Ow' H' σ Γ' → Val g Bn Ow' H' σ Γ' r v → Q v H') :
    tLc (tI g fs ik its) (tgK g.K tg) (tTc g fs cond) (tR g fs elt) own σ H (fun v H' => kfs g.K H' → Q v H') := by
  simp only [ev] at he
  obtain ⟨⟨xs, Γ1⟩, e1, he⟩ := Option.bind_eq_some_iff.mp he
  obtain ⟨⟨ds, Γ2⟩, e2, he⟩ := Option.bind_eq_some_iff.mp he
  simp only [Option.ite_none_right_eq_some, Bool.and_eq_true, decide_eq_true_eq] at he
  obtain ⟨⟨⟨hp, hz⟩, htg⟩, he⟩ := he
  obtain ⟨⟨acc, Γ3⟩, e3, he⟩ := Option.map_eq_some_iff.mp he
  simp only [Prod.mk.injEq] at he
  obtain ⟨rfl, rfl⟩ := he
  refine ⟨Bn, Ow, Γ, xs, Γ1, ds, Γ2, rs, e1, e2, fun J H1 O1 s1 r1 wk Dl hD => ?_⟩
  have nbD : ¬ Bn Dl := fun z => r1.trk Dl (.inl z) hD
  have tgO : ∀ i, i ∉ own → i ∉ tgIx tg := fun i hi z => by
    have := List.all_eq_true.mp htg i z
    simp only [List.contains_eq_mem, decide_eq_true_eq] at this
    exact hi this
  let Cn : Nat → Hp → Prop := fun i H => g.K.lookup Dl = none → ∃ O Γi acci vs, Stp O1 H1 O H ∧ RS g (orB Bn Dl) O H (L2.wipe σ own) Γi ∧ H Dl = some (.lst vs) ∧ vs.length ≤ i ∧ Reps g (Av (orB Bn Dl) O) H acci vs ∧ compLoop own tg (evc fs cond) (ev fs elt) (ds.drop i) acci Γi = some (acc, Γ3)
  let U : Nat → Hp → Prop := fun i H => (∀ a o, H1 a = some o → nT o → a ∉ O1 → H a = some o) ∧ ∃ vs, H Dl = some (.lst vs)
  refine ⟨fun i m H => m = ds.length - i ∧ i ≤ ds.length ∧ U i H ∧ Cn i H, ⟨ds.length, by simp, Nat.zero_le _, ⟨fun a o h _ _ => by rw [upd_ne (ne_of_none h hD)]; exact h, [], upd_same⟩, fun hk => ?_⟩, ?_⟩
  · exact ⟨O1, _, [], [], (Stp.refl O1 H1).updN hD, (r1.wipe own).addB (same_new hD) hD (.inl ⟨_, upd_same⟩) hk, upd_same, Nat.le_refl _, by simp only [Reps], e3⟩
  rintro i m H ⟨rfl, hi, ⟨hU1, vs0, hU2⟩, hC⟩
  by_cases hlt : i < ds.length
  · refine .inr ⟨wk.go i H hlt hU1, fun H' => U (i + 1) H' ∧ Cn (i + 1) H', fun H' q => ⟨ds.length - (i + 1), by omega, rfl, hlt, q.1, q.2⟩, fun x H' y kf => ?_⟩
    have sm := wk.same i H x H' y
    have hk : g.K.lookup Dl = none := kf_new kf (sm _ _ hU2)
    obtain ⟨O, Γi, acci, vs, st, r2, hDl, hvl, rp, lp⟩ := hC hk
    have ed : ds[i]? = some ds[i] := List.getElem?_eq_getElem hlt
    have edr : ds.drop i = ds[i] :: ds.drop (i + 1) := List.drop_eq_getElem_cons hlt
    rw [edr] at lp
    simp only [compLoop] at lp
    obtain ⟨G1, a1, lp⟩ := Option.bind_eq_some_iff.mp lp
    obtain ⟨⟨b, G2⟩, a2, lp⟩ := Option.bind_eq_some_iff.mp lp
    obtain ⟨_, rx⟩ := wk.yld i _ (orB Bn Dl) O H _ _ x H' ed (fun a z => .inl z) (fun a z => z.elim .inl fun z => .inr (by rw [z]; exact hD)) st r2 y
    have r2' := r2.same sm
    refine asgT_ok tg r2' rx a1 fun σ2 q1 q2 q3 => ?_
    have hw : L2.wipe σ2 own = L2.wipe σ own := by
      rw [← wipe_wipe σ own]
      exact wipe_same q2 fun j hj => q3 j (tgO j hj)
    refine ⟨hw, orB Bn Dl, O, G1, b, G2, q1, a2, fun H3 O3 s3 r3 => ?_⟩
    have st3 : Stp O1 H1 O3 H3 := (st.trans (Stp.same sm)).trans s3
    have dO : Dl ∉ O := r2.sep Dl (.inr rfl)
    have hDl3 : H3 Dl = some (.lst vs) := s3.keep _ _ (sm _ _ hDl) dO
    have rp3 : Reps g (Av (orB Bn Dl) O3) H3 acci vs := (rp.same sm).step s3 r3
    cases b with
    | false =>
      simp only [Bool.false_eq_true, if_false, Option.ite_none_right_eq_some] at lp ⊢
      obtain ⟨_, lp⟩ := lp
      refine ⟨⟨fun a o h t n => st3.keep0 a o h t n, vs, hDl3⟩, fun _ => ⟨O3, _, acci, vs, st3, ?_, hDl3, by omega, rp3, lp⟩⟩
      have := r3.wipe own
      rw [hw] at this
      exact this
    | true =>
      simp only [if_true] at lp ⊢
      obtain ⟨⟨ye, G3⟩, a3, lp⟩ := Option.bind_eq_some_iff.mp lp
      obtain ⟨⟨e, G4⟩, a4, lp⟩ := Option.bind_eq_some_iff.mp lp
      simp only [Option.ite_none_right_eq_some] at lp
      obtain ⟨_, lp⟩ := lp
      refine ⟨orB Bn Dl, O3, G2, ye, G3, r3, a3, fun y4 H4 O4 s4 r4 v4 => ?_⟩
      obtain ⟨O5, s5, r5, p5⟩ := fre_ok r4 v4 a4
      have dO3 : Dl ∉ O3 := r3.sep Dl (.inr rfl)
      have hDl4 : H4 Dl = some (.lst vs) := s4.keep _ _ hDl3 dO3
      have st5 : Stp O1 H1 O5 H4 := (st3.trans s4).trans s5
      have rp5 : Reps g (Av (orB Bn Dl) O5) H4 acci vs := (rp3.step s4 r4).step s5 r5
      have st6 : Stp O1 H1 O5 (upd H4 Dl (.lst (vs ++ [y4]))) := st5.updN hD
      refine ⟨vs, hDl4, by omega, ⟨fun a o h t n => st6.keep0 a o h t n, vs ++ [y4], upd_same⟩, fun _ => ⟨O5, _, acci ++ [e], vs ++ [y4], st6, ?_, upd_same, by rw [List.length_append, List.length_singleton]; omega, ?_, lp⟩⟩
      · have := r5.wipe own
        rw [hw] at this
        exact this.updB (.inr rfl) (.inl ⟨_, upd_same⟩)
      · exact reps_mono (ban_vst (.inl (.inr rfl))) _ _ (rp5.app (Reps.one p5))
  · have e : i = ds.length := by omega
    subst e
    refine .inl ⟨wk.stop H hU1, fun kf => ?_⟩
    have hk : g.K.lookup Dl = none := kf_new kf hU2
    obtain ⟨O, Γi, acci, vs, st, r2, hDl, hvl, rp, lp⟩ := hC hk
    rw [List.drop_length] at lp
    simp only [compLoop, Option.some.injEq, Prod.mk.injEq] at lp
    obtain ⟨rfl, rfl⟩ := lp
    have r3 := r1.rest hp st (fun a z => z.elim .inl fun z => .inr (by rw [z]; exact hD)) r2
    have r4 := r3.unB nbD
    refine hQ _ H (Dl :: O) (s1.trans ⟨st.keep0, fun a h => ?_⟩) r4 ⟨Dl, rfl, List.mem_cons_self, ⟨vs, hDl, ?_⟩, fun j e h1 h2 => ?_⟩
    · rcases List.mem_cons.mp h with h | h
      · rw [h]; exact .inr (nw_none hD)
      · exact st.grow a h
    · refine reps_less (fun a z => ?_) rp
      rcases z with z | z
      · exact .inl (.inl z)
      · rcases List.mem_cons.mp z with z | z
        · exact .inl (.inr z)
        · exact .inr z
    · obtain ⟨a, e2, m2, _⟩ := r3.own j e h1
      rw [h2] at e2; cases e2
      exact r2.sep Dl (.inr rfl) m2
end
section
variable {X : Cx} {g : Gx} {fs : List FS}
theorem PG.kf {tg : Expr} {t : TG} (h : PG X tg t) : PG X tg (fun v σ H Q => kfs X.K H → t v σ H Q) := ⟨fun pins s σ H v u Q I r q => h.run pins s σ H v u Q I r (q (Inv.kf I))⟩
theorem PTs.weak {e : List Expr} {t t' : TT} (h : PTs X e t) (k : ∀ σ H Q, t' σ H Q → t σ H Q) : PTs X e t' := ⟨fun pins s σ H Q I q => h.run pins s σ H Q I (k σ H Q q)⟩
theorem c_nil : PTs X [] (tTc g fs []) := by
  refine PTs.weak pts_nil ?_
  rintro σ H Q ⟨Bn, Ow, Γ, t, Γ', rs, he, hQ⟩
  simp only [evc, Option.some.injEq, Prod.mk.injEq] at he
  obtain ⟨rfl, rfl⟩ := he
  exact hQ H Ow (.refl _ _) rs
theorem c_one {c : Expr} {ic : E} (h : PT X c (tT g fs ic)) : PTs X [c] (tTc g fs [ic]) := by
  refine PTs.weak (pts_one h) ?_
  rintro σ H Q ⟨Bn, Ow, Γ, t, Γ', rs, he, hQ⟩
  simp only [evc] at he
  obtain ⟨⟨x, Γ1⟩, e1, he⟩ := Option.bind_eq_some_iff.mp he
  obtain ⟨t', e2, he⟩ := Option.map_eq_some_iff.mp he
  simp only [Prod.mk.injEq] at he
  obtain ⟨rfl, rfl⟩ := he
  exact ⟨Bn, Ow, Γ, x, Γ1, t', rs, e1, e2, hQ⟩
theorem p_comp {elt tg iter : Expr} {ifs : List Expr} {scope : Scope} {own : List (Str × Nat)} {pos : Pos} {itg : Tg} {ik : IK} {its cond : List E} {ielt : E} (C : Cok g X) (hi : PI X tg iter (tI g fs ik its)) (ok : BlkOk X.N X.env.scope scope own)
    (hg : ∀ (s : Shared) (H : Hp) (C : Addr) (cl : List (Str × Addr)) (fp : List Addr), PG (X.blk s H scope (compEnvC scope cl C X.env) fp) tg (tgT g.K itg)) (ht : ∀ (s : Shared) (H : Hp) (C : Addr) (cl : List (Str × Addr)) (fp : List Addr), PTs (X.blk s H scope (compEnvC scope cl C X.env) fp) ifs (tTc g fs cond))
    (he : ∀ (s : Shared) (H : Hp) (C : Addr) (cl : List (Str × Addr)) (fp : List Addr), PE (X.blk s H scope (compEnvC scope cl C X.env) fp) elt (tR g fs ielt)) (hs : ∀ x, foldedSetIterable iter X.env x = pure x) :
    PE X (.ListComp elt [⟨tg, iter, ifs, 0⟩] scope pos) (tR g fs (.comp (own.map (·.2)) itg ik its cond ielt)) := by
  refine PE.weak (PE.kf (pe_lc (g := tgK g.K itg) C.calm C.nd hi ok (fun s H Ca cl fp => ?_) ht he hs)) ?_
  · have := PG.kf (hg s H Ca cl fp)
    exact ⟨fun pins s σ H v u Q I r q => this.run pins s σ H v u Q I r fun kf => q fun a o e => kf a o (by show X.K.lookup a = some o; rw [C.K]; exact e)⟩
  · rintro σ H Q ⟨Bn, Ow, Γ, r, Γ', rs, he, hQ⟩
    have q := comp_core rs he hQ
    rw [C.K]
    exact q
end
end DV

namespace DV
open PySem L2
variable {Wx : L2.XK}
def Pin (pv : Nat × List (Nat × V)) (σ : St) : Prop := σ.length = pv.1 ∧ ∀ p ∈ pv.2, σ[p.1]? = some (some p.2)
def Post (g : Gx) (Wx : L2.XK) (Dn : Ends) (pv : Nat × List (Nat × V)) (Bn : Addr → Prop) (Ow : List Addr) (H : Hp) : Out → Prop
  | .nx Γ' => ∀ σ' H' Ow', Stp Ow H Ow' H' → RS g Bn Ow' H' σ' Γ' → Pin pv σ' → Dn.nx σ' H'
  | .bk Γ' => ∀ σ' H' Ow', Stp Ow H Ow' H' → RS g Bn Ow' H' σ' Γ' → Pin pv σ' → Dn.bk σ' H'
  | .ct Γ' => ∀ σ' H' Ow', Stp Ow H Ow' H' → RS g Bn Ow' H' σ' Γ' → Pin pv σ' → Dn.ct σ' H'
  | .rt r Γ' => ∀ v σ' H' Ow', Stp Ow H Ow' H' → RS g Bn Ow' H' σ' Γ' → Pin pv σ' → Val g Bn Ow' H' σ' Γ' r v → Dn.rt v H'
  | .xc c ks ds Γ' => ∀ d σ' H' Ow', Stp Ow H Ow' H' → RS g Bn Ow' H' σ' Γ' → Pin pv σ' → Rep g (Av Bn Ow') H' (.exc c ks ds) (.ref d) → Wx (.ref (g.cl c)) (some d) H'
def tSt (g : Gx) (Wx : L2.XK) (fs : List FS) (is : S) : TS := fun Dn σ H => ∃ pv Bn Ow Γ o, RS g Bn Ow H σ Γ ∧ Pin pv σ ∧ ex fs (pv.2.map (·.1)) is Γ = some o ∧ Post g Wx Dn pv Bn Ow H o
def tSs (g : Gx) (Wx : L2.XK) (fs : List FS) (is : List S) : TS := fun Dn σ H => ∃ pv Bn Ow Γ o, RS g Bn Ow H σ Γ ∧ Pin pv σ ∧ exs fs (pv.2.map (·.1)) is Γ = some o ∧ Post g Wx Dn pv Bn Ow H o
section
variable {X : Cx} {g : Gx} {fs : List FS} {st : Stmt} {pos : Pos}
theorem PS.weak {t t' : TS} (h : PS X st t) (k : ∀ Dn σ H, t' Dn σ H → t Dn σ H) : PS X st t' := ⟨fun pins s σ H Dn I q => h.run pins s σ H Dn I (k Dn σ H q)⟩
theorem PSs.weak {ss : List Stmt} {t t' : TS} (h : PSs X ss t) (k : ∀ Dn σ H, t' Dn σ H → t Dn σ H) : PSs X ss t' := ⟨fun pins s σ H Dn I q => h.run pins s σ H Dn I (k Dn σ H q)⟩
theorem PS.kf {t : TS} (h : PS X st t) : PS X st (fun Dn σ H => t { nx := fun σ H => kfs X.K H → Dn.nx σ H, rt := fun v H => kfs X.K H → Dn.rt v H, bk := fun σ H => kfs X.K H → Dn.bk σ H, ct := fun σ H => kfs X.K H → Dn.ct σ H } σ H) := ⟨fun pins s σ H Dn I q => thn (h.run pins s σ H _ I q) fun f s1 r => by
  cases f with
  | next => obtain ⟨a, b, I1, c⟩ := r; exact ⟨a, b, I1, c (Inv.kf I1)⟩
  | brk => obtain ⟨a, b, I1, c⟩ := r; exact ⟨a, b, I1, c (Inv.kf I1)⟩
  | cont => obtain ⟨a, b, I1, c⟩ := r; exact ⟨a, b, I1, c (Inv.kf I1)⟩
  | ret v => obtain ⟨x, a, b, I1, r1, c⟩ := r; exact ⟨x, a, b, I1, r1, c (Inv.kf I1)⟩⟩
section
variable {Bn : Addr → Prop} {Ow Ow' : List Addr} {H H' : Hp} {σ : St} {Γ Γ' : Ct} {Dn : Ends} {pv : Nat × List (Nat × V)}
theorem Post.step {o : Out} (h : Post g Wx Dn pv Bn Ow H o) (s : Stp Ow H Ow' H') : Post g Wx Dn pv Bn Ow' H' o := by
  cases o with
  | nx G => exact fun σ1 H1 O1 s1 r p => h σ1 H1 O1 (s.trans s1) r p
  | bk G => exact fun σ1 H1 O1 s1 r p => h σ1 H1 O1 (s.trans s1) r p
  | ct G => exact fun σ1 H1 O1 s1 r p => h σ1 H1 O1 (s.trans s1) r p
  | rt r G => exact fun v σ1 H1 O1 s1 r p => h v σ1 H1 O1 (s.trans s1) r p
  | xc c ks ds G => exact fun v σ1 H1 O1 s1 r p => h v σ1 H1 O1 (s.trans s1) r p
theorem Pin.set {i : Nat} {v : Option V} (h : Pin pv σ) (d : disjB [i] (pv.2.map (·.1)) = true) : Pin pv (σ.set i v) := ⟨by rw [List.length_set]; exact h.1, fun p hp => by
  rw [List.getElem?_set_ne]
  · exact h.2 p hp
  · intro z
    simp only [disjB, List.all_cons, List.all_nil, Bool.and_true, Bool.not_eq_true', List.contains_eq_mem, decide_eq_false_iff_not] at d
    exact d (by rw [z]; exact List.mem_map.mpr ⟨p, hp, rfl⟩)⟩
theorem Pin.keep {σ' : St} {xs : List Nat} (h : Pin pv σ) (d : disjB xs (pv.2.map (·.1)) = true) (hl : σ'.length = σ.length) (k : ∀ i, i ∉ xs → σ'[i]? = σ[i]?) : Pin pv σ' := ⟨hl.trans h.1, fun p hp => by
  rw [k]
  · exact h.2 p hp
  · intro z
    have := List.all_eq_true.mp d _ z
    simp only [Bool.not_eq_true', List.contains_eq_mem, decide_eq_false_iff_not] at this
    exact this (List.mem_map.mpr ⟨p, hp, rfl⟩)⟩
/-- an owned list is rewritten -/
theorem RS.mut {i : Nat} {c : D} {a : Addr} {ds : List D} {ws : List V} (rs : RS g Bn Ow H σ Γ) (hi : Γ[i]? = some (some (c, true))) (hs : σ[i]? = some (some (.ref a))) (r : Reps g (Av Bn Ow) H ds ws) :
    RS g Bn Ow (upd H a (.lst ws)) σ (Γ.set i (some (.lst ds, true))) ∧ Stp Ow H Ow (upd H a (.lst ws)) := by
  have hil : i < Γ.length := (List.getElem?_eq_some_iff.mp hi).1
  obtain ⟨b, e1, m, _⟩ := rs.own i _ hi
  rw [hs] at e1; cases e1
  have vs := ban_vst (g := g) (H := H) (o := .lst ws) (A := Av Bn Ow) (p := a) (.inr m)
  refine ⟨⟨by rw [List.length_set]; exact rs.len, fun j e h => ?_, fun j e h => ?_, fun j k e f b h1 h2 h3 h4 => ?_, fun b h => ?_, rs.sep, rs.kf, rs.tabs.upd (rs.trl a (.inr m))⟩, ⟨fun b o h _ n => ?_, fun _ h => .inl h⟩⟩
  · have hj : i ≠ j := fun z => by subst z; rw [List.getElem?_set_self hil] at h; cases h
    rw [List.getElem?_set_ne hj] at h
    obtain ⟨v, e1, r1⟩ := rs.slot j e h
    exact ⟨v, e1, rep_mono vs _ _ r1⟩
  · by_cases hj : i = j
    · subst hj
      rw [List.getElem?_set_self hil] at h; cases h
      exact ⟨a, hs, m, ws, upd_same, reps_mono vs _ _ r⟩
    · rw [List.getElem?_set_ne hj] at h
      obtain ⟨b, e1, m1, o1⟩ := rs.own j e h
      have nb : b ≠ a := fun z => hj (by subst z; exact rs.dist i j _ _ _ hi h hs e1)
      refine ⟨b, e1, m1, ?_⟩
      cases e with
      | lst es => obtain ⟨us, e2, r2⟩ := o1; exact ⟨us, by rw [upd_ne nb]; exact e2, reps_mono vs _ _ r2⟩
      | obj c ks es => obtain ⟨dx, us, l, e2, r2⟩ := o1; exact ⟨dx, us, l, by rw [upd_ne nb]; exact e2, reps_mono vs _ _ r2⟩
      | _ => exact o1
  · have ex : ∀ (j : Nat) e, (Γ.set i (some (.lst ds, true)))[j]? = some (some (e, true)) → ∃ e', Γ[j]? = some (some (e', true)) := fun j e h => by
      by_cases hj : i = j
      · subst hj; exact ⟨_, hi⟩
      · rw [List.getElem?_set_ne hj] at h; exact ⟨_, h⟩
    obtain ⟨e', h1⟩ := ex j e h1
    obtain ⟨f', h2⟩ := ex k f h2
    exact rs.dist j k _ _ _ h1 h2 h3 h4
  · exact (rs.trl b h).upd fun _ => .inl ⟨_, upd_same⟩
  · have z : b ≠ a := fun z => n (by rw [z]; exact m)
    rw [upd_ne z]; exact h
end
/-! ### simple statements -/
theorem s_stuck : PS X st (tSt g Wx fs .stuck) := by
  refine PS.weak ps_never ?_
  rintro Dn σ H ⟨pv, Bn, Ow, Γ, o, rs, pn, he, po⟩
  simp only [ex, reduceCtorEq] at he
theorem s_expr {e : Expr} {ie : E} (h : PE X e (tR g fs ie)) (hs : swapsWith e none pos.line X.env = pure false) : PS X (.Expr e pos) (tSt g Wx fs (.expr ie)) := by
  refine PS.weak (ps_expr h hs) ?_
  rintro Dn σ H ⟨pv, Bn, Ow, Γ, o, rs, pn, he, po⟩
  simp only [ex] at he
  obtain ⟨⟨x, Γ1⟩, e1, rfl⟩ := Option.map_eq_some_iff.mp he
  exact ⟨Bn, Ow, Γ, x, Γ1, rs, e1, fun v H1 O1 s1 r1 _ => po σ H1 O1 s1 r1 pn⟩
theorem s_ret {e : Expr} {ie : E} (h : PE X e (tR g fs ie)) : PS X (.Return (some e) pos) (tSt g Wx fs (.ret ie)) := by
  refine PS.weak (ps_ret h) ?_
  rintro Dn σ H ⟨pv, Bn, Ow, Γ, o, rs, pn, he, po⟩
  simp only [ex] at he
  obtain ⟨⟨x, Γ1⟩, e1, rfl⟩ := Option.map_eq_some_iff.mp he
  exact ⟨Bn, Ow, Γ, x, Γ1, rs, e1, fun v H1 O1 s1 r1 vl => po v σ H1 O1 s1 r1 pn vl⟩
theorem asg_core {tg : Tg} {ie : E} {Dn : Ends} {σ : St} {H : Hp} (h : tSt g Wx fs (.asg tg ie) Dn σ H) : tAsg (tR g fs ie) (tgT g.K tg) Dn σ H := by
  obtain ⟨pv, Bn, Ow, Γ, o, rs, pn, he, po⟩ := h
  simp only [ex] at he
  obtain ⟨⟨x, Γ1⟩, e1, he⟩ := Option.bind_eq_some_iff.mp he
  obtain ⟨⟨d, Γ2⟩, e2, he⟩ := Option.bind_eq_some_iff.mp he
  simp only [Option.ite_none_right_eq_some] at he
  obtain ⟨dj, he⟩ := he
  obtain ⟨Γ3, e3, rfl⟩ := Option.map_eq_some_iff.mp he
  refine ⟨Bn, Ow, Γ, x, Γ1, rs, e1, fun v H1 O1 s1 r1 vl => ?_⟩
  obtain ⟨O2, s2, r2, p2⟩ := fre_ok r1 vl e2
  exact asgT_ok tg r2 p2 e3 fun σ' q1 q2 q3 => po σ' H1 O2 (s1.trans s2) q1 (pn.keep dj q2 q3)
theorem s_asg {tg e : Expr} {itg : Tg} {ie : E} (h : PE X e (tR g fs ie)) (hg : PG X tg (tgT g.K itg)) (hs : swapsWithSole [tg] e pos.line X.env = pure false) (hw : swappedStores [tg] e X.env = pure none)
    (h1 : (assignEach [tg] X.env).map (·.2) = [assign tg X.env]) : PS X (.Assign [tg] e pos) (tSt g Wx fs (.asg itg ie)) := PS.weak (ps_asg h hg hs hw h1) fun _ _ _ => asg_core
theorem asgO_core {i : Nat} {ie : E} {Dn : Ends} {σ : St} {H : Hp} {te : TE} (hte : ∀ Q, tR g fs ie σ H Q → te σ H Q) (h : tSt g Wx fs (.asgO i ie) Dn σ H) : tAsg te (gName i) Dn σ H := by
  obtain ⟨pv, Bn, Ow, Γ, o, rs, pn, he, po⟩ := h
  simp only [ex] at he
  obtain ⟨⟨x, Γ1⟩, e1, he⟩ := Option.bind_eq_some_iff.mp he
  refine hte _ ⟨Bn, Ow, Γ, x, Γ1, rs, e1, fun v H1 O1 s1 r1 vl => ?_⟩
  have plain : ∀ {o : Out}, ((fre Γ1 x).bind fun (p : D × Ct) => if i < p.2.length ∧ disjB [i] (pv.2.map (·.1)) = true then some (Out.nx (p.2.set i (some (p.1, false)))) else none) = some o → Post g Wx Dn pv Bn Ow H o → gName i v σ H1 Dn.nx := fun {o} he po => by
    obtain ⟨⟨d, Γ2⟩, e2, he⟩ := Option.bind_eq_some_iff.mp he
    simp only [Option.ite_none_right_eq_some, Option.some.injEq] at he
    obtain ⟨⟨hi, dj⟩, rfl⟩ := he
    obtain ⟨O2, s2, r2, p2⟩ := fre_ok r1 vl e2
    exact po _ H1 O2 (s1.trans s2) (r2.set p2 hi) (pn.set dj)
  cases x with
  | nw d =>
    simp only [Option.ite_none_right_eq_some, Option.some.injEq] at he
    obtain ⟨⟨hi, dj⟩, rfl⟩ := he
    exact po _ H1 O1 s1 (r1.setO vl hi) (pn.set dj)
  | fz d => exact plain he po
  | sl j => exact plain he po
theorem s_asgO {i : Nat} {y : Str} {e : Expr} {ie : E} {pos' : Pos} (C : Cok0 g X) (hi : X.N[i]? = some y) (hx : Loc X.env.scope y) (h : PE X e (tR g fs ie)) (hs : swapsWith e (some (.Name y pos')) pos.line X.env = pure false) (hf : X.fn y = true ∨ X.env.scope.names.lookup y = some .local) :
    PS X (.Assign [.Name y pos'] e pos) (tSt g Wx fs (.asgO i ie)) := PS.weak (ps_set C.nd hi hx h hs hf) fun _ _ _ q => asgO_core (fun _ q => q) q
theorem s_ite {c : Expr} {a b : List Stmt} {ic : E} {ia ib : List S} (hc : PT X c (tT g fs ic)) (ha : PSs X a (tSs g Wx fs ia)) (hb : PSs X b (tSs g Wx fs ib)) : PS X (.If c a b pos) (tSt g Wx fs (.ite ic ia ib)) := by
  refine PS.weak (ps_if hc ha hb) ?_
  rintro Dn σ H ⟨pv, Bn, Ow, Γ, o, rs, pn, he, po⟩
  simp only [ex] at he
  obtain ⟨⟨x, Γ1⟩, e1, he⟩ := Option.bind_eq_some_iff.mp he
  obtain ⟨t, e2, he⟩ := Option.bind_eq_some_iff.mp he
  refine ⟨Bn, Ow, Γ, x, Γ1, t, rs, e1, e2, fun H1 O1 s1 r1 => ?_⟩
  cases t with
  | true => rw [if_pos rfl] at he ⊢; exact ⟨pv, Bn, O1, Γ1, o, r1, pn, he, po.step s1⟩
  | false => rw [if_neg Bool.false_ne_true] at he ⊢; exact ⟨pv, Bn, O1, Γ1, o, r1, pn, he, po.step s1⟩
theorem ss_nil : PSs X [] (tSs g Wx fs []) := by
  refine PSs.weak pss_nil ?_
  rintro Dn σ H ⟨pv, Bn, Ow, Γ, o, rs, pn, he, po⟩
  simp only [exs, Option.some.injEq] at he; subst he
  exact po σ H Ow (.refl _ _) rs pn
theorem ss_cons {rest : List Stmt} {a : S} {b : List S} (h1 : PS X st (tSt g Wx fs a)) (h2 : PSs X rest (tSs g Wx fs b)) : PSs X (st :: rest) (tSs g Wx fs (a :: b)) := by
  refine PSs.weak (pss_cons h1 h2) ?_
  rintro Dn σ H ⟨pv, Bn, Ow, Γ, o, rs, pn, he, po⟩
  simp only [exs] at he
  obtain ⟨o1, e1, he⟩ := Option.bind_eq_some_iff.mp he
  refine ⟨pv, Bn, Ow, Γ, o1, rs, pn, e1, ?_⟩
  cases o1 with
  | nx G => exact fun σ1 H1 O1 s1 r1 p1 => ⟨pv, Bn, O1, G, o, r1, p1, he, po.step s1⟩
  | bk G => simp only [Option.some.injEq] at he; subst he; exact po
  | ct G => simp only [Option.some.injEq] at he; subst he; exact po
  | rt r G => simp only [Option.some.injEq] at he; subst he; exact po
  | xc c ks ds G => simp only [Option.some.injEq] at he; subst he; exact po
theorem s_whl {c : Expr} {b : List Stmt} {ic : E} {ib : List S} (hp : PassesOwn (model X.prog X.w) X.A X.env X.xe) (hc : PT X c (tT g fs ic)) (hb : PSs X b (tSs g Wx fs ib)) : PS X (.While c b [] pos) (tSt g Wx fs (.whl ic ib)) := by
  refine PS.weak (ps_while hp hc hb) ?_
  rintro Dn σ H ⟨pv, Bn, Ow, Γ, o, rs, pn, he, po⟩
  simp only [ex] at he
  let W : Nat → St → Hp → Prop := fun m σ1 H1 => ∃ O1 Γ1, Stp Ow H O1 H1 ∧ RS g Bn O1 H1 σ1 Γ1 ∧ Pin pv σ1 ∧ whlLoop (fun Γ => (ev fs ic Γ).bind fun (x, Γ1) => (testD Γ1 x).map fun t => (t, Γ1)) (exs fs (pv.2.map (·.1)) ib) m Γ1 = some o
  refine ⟨W, ⟨fuel, Ow, Γ, .refl _ _, rs, pn, he⟩, ?_⟩
  rintro m σ1 H1 ⟨O1, Γ1, s1, r1, p1, l1⟩
  cases m with
  | zero => simp only [whlLoop, reduceCtorEq] at l1
  | succ n =>
    simp only [whlLoop] at l1
    obtain ⟨⟨t, Γ2⟩, e2, l1⟩ := Option.bind_eq_some_iff.mp l1
    obtain ⟨⟨x, Γ3⟩, e3, e2⟩ := Option.bind_eq_some_iff.mp e2
    obtain ⟨t', e4, e2⟩ := Option.map_eq_some_iff.mp e2
    simp only [Prod.mk.injEq] at e2
    obtain ⟨rfl, rfl⟩ := e2
    refine ⟨Bn, O1, Γ1, x, Γ3, t', r1, e3, e4, fun H2 O2 s2 r2 => ?_⟩
    cases t' with
    | false =>
      simp only [Bool.false_eq_true, if_false, Option.some.injEq] at l1 ⊢
      subst l1
      exact po σ1 H2 O2 (s1.trans s2) r2 p1
    | true =>
      simp only [if_true] at l1 ⊢
      obtain ⟨o1, e5, l1⟩ := Option.bind_eq_some_iff.mp l1
      refine ⟨fun σ' H' => W n σ' H', fun σ' H' w => ⟨n, Nat.lt_succ_self n, w⟩, pv, Bn, O2, Γ3, o1, r2, p1, e5, ?_⟩
      cases o1 with
      | nx G => exact fun σ4 H4 O4 s4 r4 p4 => ⟨O4, G, (s1.trans s2).trans s4, r4, p4, l1⟩
      | ct G => exact fun σ4 H4 O4 s4 r4 p4 => ⟨O4, G, (s1.trans s2).trans s4, r4, p4, l1⟩
      | bk G =>
        simp only [Option.some.injEq] at l1; subst l1
        exact fun σ4 H4 O4 s4 r4 p4 => po σ4 H4 O4 ((s1.trans s2).trans s4) r4 p4
      | rt r G =>
        simp only [Option.some.injEq] at l1; subst l1
        exact fun v σ4 H4 O4 s4 r4 p4 => po v σ4 H4 O4 ((s1.trans s2).trans s4) r4 p4
      | xc c ks ds G =>
        simp only [Option.some.injEq] at l1; subst l1
        exact fun v σ4 H4 O4 s4 r4 p4 => po v σ4 H4 O4 ((s1.trans s2).trans s4) r4 p4
theorem s_for {tg iter : Expr} {b : List Stmt} {itg : Tg} {ik : IK} {its : List E} {ib : List S} (C : Cok g X) (hp : PassesOwn (model X.prog X.w) X.A X.env X.xe) (hi : PI X tg iter (tI g fs ik its)) (hg : PG X tg (tgT g.K itg)) (hb : PSs X b (tSs g Wx fs ib)) (hs : ∀ x, foldedSetIterable iter X.env x = pure x) :
    PS X (.For tg iter b [] pos) (tSt g Wx fs (.for_ itg ik its ib)) := by
  refine PS.weak (ps_for hp C.calm hi hg hb hs) ?_
  rintro Dn σ H ⟨pv, Bn, Ow, Γ, o, rs, pn, he, po⟩
  simp only [ex] at he
  obtain ⟨⟨xs, Γ1⟩, e1, he⟩ := Option.bind_eq_some_iff.mp he
  obtain ⟨⟨ds, Γ2⟩, e2, he⟩ := Option.bind_eq_some_iff.mp he
  simp only [Option.ite_none_right_eq_some] at he
  obtain ⟨dj, he⟩ := he
  refine ⟨Bn, Ow, Γ, xs, Γ1, ds, Γ2, rs, e1, e2, fun J H1 O1 s1 r1 wk => ?_⟩
  let C1 : Nat → St → Hp → Prop := fun i σ2 H2 => ∃ O2 G2, Stp O1 H1 O2 H2 ∧ RS g Bn O2 H2 σ2 G2 ∧ Pin pv σ2 ∧ forLoop itg (exs fs (pv.2.map (·.1)) ib) (ds.drop i) G2 = some o
  refine ⟨fun i m σ2 H2 => m = ds.length - i ∧ i ≤ ds.length ∧ C1 i σ2 H2, ⟨ds.length, by simp, Nat.zero_le _, O1, Γ2, .refl _ _, r1, pn, he⟩, ?_⟩
  rintro i m σ2 H2 ⟨rfl, hle, O2, G2, s2, r2, p2, l2⟩
  by_cases hlt : i < ds.length
  · refine .inr ⟨wk.go i H2 hlt fun a o h t n => s2.keep0 a o h t n, fun σ' H' => C1 (i + 1) σ' H', fun σ' H' q => ⟨ds.length - (i + 1), by omega, rfl, hlt, q⟩, fun x H3 y => ?_⟩
    have edr : ds.drop i = ds[i] :: ds.drop (i + 1) := List.drop_eq_getElem_cons hlt
    rw [edr] at l2
    simp only [forLoop] at l2
    obtain ⟨G3, a1, l2⟩ := Option.bind_eq_some_iff.mp l2
    obtain ⟨o1, a2, l2⟩ := Option.bind_eq_some_iff.mp l2
    obtain ⟨sm, rx⟩ := wk.yld i _ Bn O2 H2 _ _ x H3 (List.getElem?_eq_getElem hlt) (fun a z => z) (fun a z => .inl z) s2 r2 y
    have s3 : Stp O1 H1 O2 H3 := s2.trans (Stp.same sm)
    refine asgT_ok itg (r2.same sm) rx a1 fun σ3 q1 q2 q3 => ⟨pv, Bn, O2, G3, o1, q1, p2.keep dj q2 q3, a2, ?_⟩
    cases o1 with
    | nx G => exact fun σ4 H4 O4 s4 r4 p4 => ⟨O4, G, s3.trans s4, r4, p4, l2⟩
    | ct G => exact fun σ4 H4 O4 s4 r4 p4 => ⟨O4, G, s3.trans s4, r4, p4, l2⟩
    | bk G =>
      simp only [Option.some.injEq] at l2; subst l2
      exact fun σ4 H4 O4 s4 r4 p4 => po σ4 H4 O4 (s1.trans (s3.trans s4)) r4 p4
    | rt r G =>
      simp only [Option.some.injEq] at l2; subst l2
      exact fun v σ4 H4 O4 s4 r4 p4 => po v σ4 H4 O4 (s1.trans (s3.trans s4)) r4 p4
    | xc c ks ds G =>
      simp only [Option.some.injEq] at l2; subst l2
      exact fun v σ4 H4 O4 s4 r4 p4 => po v σ4 H4 O4 (s1.trans (s3.trans s4)) r4 p4
  · have e : i = ds.length := by omega
    subst e
    rw [List.drop_length] at l2
    simp only [forLoop, Option.some.injEq] at l2
    subst l2
    exact .inl ⟨wk.stop H2 fun a o h t n => s2.keep0 a o h t n, po σ2 H2 O2 (s1.trans s2) r2 p2⟩
end
end DV

namespace DV
open PySem L2
variable {Wx : L2.XK}
section
variable {X : Cx} {g : Gx} {fs : List FS} {st : Stmt} {pos : Pos} {Bn : Addr → Prop} {Ow Ow' : List Addr} {H H' : Hp} {σ : St} {Γ Γ' : Ct}
theorem isLst_ty {i : Nat} (rs : RS g Bn Ow H σ Γ) (h : isLst Γ i = true) : ∃ a, σ[i]? = some (some (.ref a)) ∧ tyV g.K "list" (.ref a) H := by
  unfold isLst at h
  split at h
  · rename_i ds b q
    cases b with
    | false =>
      obtain ⟨v, e1, r1⟩ := rs.slot i _ q
      simp only [Rep] at r1
      obtain ⟨a, vs, rfl, _, s, _⟩ := r1
      exact ⟨a, e1, .inl ⟨rfl, vs, .inl (.inl s)⟩⟩
    | true =>
      obtain ⟨a, e1, _, vs, s, _⟩ := rs.own i _ q
      exact ⟨a, e1, .inl ⟨rfl, vs, .inl (.inl s)⟩⟩
  · cases h
theorem s_app {o e : Expr} {i : Nat} {ie : E} {apos cpos : Pos} (C : Cok0 g X) (ho : PE X o (tVar i)) (he : PE X e (tR g fs ie)) (hbase : attributeBase o "append" X.env (eval o X.env) = eval o X.env)
    (hline : (apos.endLine == cpos.line) = true) (hs : starEach [e] X.env = [(false, eval e X.env)]) (hsw : swapsWith (.Call (.Attribute o "append" apos) [e] [] cpos) none pos.line X.env = pure false) :
    PS X (.Expr (.Call (.Attribute o "append" apos) [e] [] cpos) pos) (tSt g Wx fs (.app i ie)) := by
  refine PS.weak (ps_expr (pe_bm PySem.F.plainAttrs_list PySem.F.slot_list_append PySem.F.type_list_append mt_append ho (pa_cons he pa_nil (by rw [hs]; rfl)) hbase (by rw [hs]; rfl) hline (by rw [hs]; rfl) rfl) hsw) ?_
  rintro Dn σ H ⟨pv, Bn, Ow, Γ, o, rs, pn, he, po⟩
  simp only [ex, Option.ite_none_right_eq_some] at he
  obtain ⟨hl, he⟩ := he
  obtain ⟨⟨x, Γ1⟩, e1, he⟩ := Option.bind_eq_some_iff.mp he
  obtain ⟨⟨d, Γ2⟩, e2, he⟩ := Option.bind_eq_some_iff.mp he
  obtain ⟨a, ea, ty⟩ := isLst_ty rs hl
  refine ⟨_, ea, by rw [C.K]; exact ty, Bn, Ow, Γ, x, Γ1, rs, e1, fun v H1 O1 s1 r1 vl => ?_⟩
  obtain ⟨O2, s2, r2, p2⟩ := fre_ok r1 vl e2
  split at he
  · rename_i c q
    obtain ⟨c', e3, rfl⟩ := Option.map_eq_some_iff.mp he
    obtain ⟨b, eb, m, ow⟩ := r2.own i _ q
    rw [ea] at eb; cases eb
    cases c <;> simp only [appD, reduceCtorEq, Option.ite_none_right_eq_some, Option.some.injEq] at e3
    rename_i xs
    obtain ⟨hz, rfl⟩ := e3
    obtain ⟨vs, hv, rp⟩ := ow
    obtain ⟨r3, s3⟩ := r2.mut q ea (rp.app (Reps.one p2))
    exact ⟨a, vs, v, rfl, rfl, hv, by rw [← rp.len]; exact hz, po _ _ O2 ((s1.trans s2).trans s3) r3 pn⟩
  · cases he
theorem s_seti {o k e : Expr} {i : Nat} {ik ie : E} {tpos : Pos} (C : Cok0 g X) (ho : PE X o (tVar i)) (hk : PE X k (tR g fs ik)) (he : PE X e (tR g fs ie)) (hs : swapsWithSole [.Subscript o k tpos] e pos.line X.env = pure false) (hw : swappedStores [.Subscript o k tpos] e X.env = pure none)
    (h1 : (assignEach [.Subscript o k tpos] X.env).map (·.2) = [assign (.Subscript o k tpos) X.env])
    (ha : ∀ v, assign (.Subscript o k tpos) X.env v = (do
      let ov ← holding [v] (eval o X.env)
      let iv ← holding [v, ov] (eval k X.env)
      standAt tpos
      holding [v, ov, iv] (setItem ov iv v)
      release [v, ov, iv] [])) : PS X (.Assign [.Subscript o k tpos] e pos) (tSt g Wx fs (.seti i ik ie)) := by
  refine PS.weak (ps_asg he (pg_sub ho hk set_list ha) hs hw h1) ?_
  rintro Dn σ H ⟨pv, Bn, Ow, Γ, o, rs, pn, he, po⟩
  simp only [ex] at he
  obtain ⟨⟨x, Γ1⟩, e1, he⟩ := Option.bind_eq_some_iff.mp he
  obtain ⟨⟨d, Γ2⟩, e2, he⟩ := Option.bind_eq_some_iff.mp he
  simp only [Option.ite_none_right_eq_some] at he
  obtain ⟨hil, he⟩ := he
  obtain ⟨⟨y, Γ3⟩, e3, he⟩ := Option.bind_eq_some_iff.mp he
  obtain ⟨kd, e4, he⟩ := Option.bind_eq_some_iff.mp he
  refine ⟨Bn, Ow, Γ, x, Γ1, rs, e1, fun v H1 O1 s1 r1 vl => ?_⟩
  obtain ⟨O2, s2, r2, p2⟩ := fre_ok r1 vl e2
  split at he
  · rename_i c q
    obtain ⟨c', e5, rfl⟩ := Option.map_eq_some_iff.mp he
    obtain ⟨a, ea, _⟩ := isLst_ty r2 hil
    refine ⟨_, ea, Bn, O2, Γ2, y, Γ3, r2, e3, fun w H3 O3 s3 r3 v3 => ?_⟩
    have rd := v3.rdb r3 e4
    obtain ⟨b, eb, m, ow⟩ := r3.own i _ q
    rw [ea] at eb; cases eb
    cases c <;> simp only [setD, reduceCtorEq] at e5
    cases kd <;> simp only [setD, reduceCtorEq] at e5
    rename_i ki
    obtain ⟨j, e6, rfl⟩ := Option.map_eq_some_iff.mp e5
    obtain ⟨vs, hv, rp⟩ := ow
    have rd : w = .int ki := by simpa only [Rdb, Rep] using rd
    obtain ⟨r4, s4⟩ := r3.mut q ea (rp.set (p2.step s3 r3) j)
    exact ⟨a, vs, _, j, rfl, rd, hv, by rw [← rp.len]; exact e6, po _ _ O3 (((s1.trans s2).trans s3).trans s4) r4 pn⟩
  · cases he
/-! ### parallel assignment -/
def VlN (g : Gx) (Bn : Addr → Prop) (Ow : List Addr) (H : Hp) (σ : St) (Γ : Ct) : List RV → List V → Prop
  | [], vs => vs = []
  | x :: xs, vs => ∃ v r, vs = v :: r ∧ Val g Bn Ow H σ Γ x v ∧ (∀ d, x = .nw d → v ∉ r) ∧ (∀ i, x ≠ .sl i) ∧ VlN g Bn Ow H σ Γ xs r
def tAn (g : Gx) (fs : List FS) (is : List (Nat × Bool)) (es : List E) : TA := fun σ H Q => ∃ Bn Ow Γ xs Γ', RS g Bn Ow H σ Γ ∧ evn fs is es Γ = some (xs, Γ') ∧ ∀ vs H' Ow', Stp Ow H Ow' H' → RS g Bn Ow' H' σ Γ' → VlN g Bn Ow' H' σ Γ' xs vs → Q vs H'
theorem evn_nil {σ : St} {H : Hp} {Q : List V → Hp → Prop} : tAn g fs [] [] σ H Q → tNil σ H Q := by
  rintro ⟨Bn, Ow, Γ, xs, Γ', rs, he, hQ⟩
  simp only [evn, Option.some.injEq, Prod.mk.injEq] at he
  obtain ⟨rfl, rfl⟩ := he
  exact hQ [] H Ow (.refl _ _) rs rfl
theorem Rep.nav {A : Addr → Prop} {d : D} {a : Addr} (h0 : g.ea = none) (hr : nrf (.fz d) = true) (h : Rep g A H d (.ref a)) : ¬ A a := by
  cases d <;> simp only [Rep, reduceCtorEq] at h
  · obtain ⟨b, vs, e, n, _⟩ := h; cases e; exact n
  · obtain ⟨b, vs, e, n, _⟩ := h; cases e; exact n
  · obtain ⟨b, vs, ws, e, n, _⟩ := h; cases e; exact n
  · obtain ⟨b, e, n, _⟩ := h; cases e; exact n
  · obtain ⟨b, e, n, _⟩ := h; cases e; exact n
  · obtain ⟨b, vs, e, n, _⟩ := h; cases e; exact n
  · obtain ⟨b, vs, e, n, _⟩ := h; cases e; exact n
  · obtain ⟨e0, b, vs, e1, _⟩ := h; rw [h0] at e1; cases e1
  · cases hr
theorem OwnA.step {d : D} {p : Addr} (o : OwnA g (Av Bn Ow) H d p) (np : p ∉ Ow) (s : Stp Ow H Ow' H') (rs : RS g Bn Ow' H' σ Γ) : OwnA g (Av Bn Ow') H' d p := by
  cases d with
  | lst es => obtain ⟨us, e2, r2⟩ := o; exact ⟨us, s.keep _ _ e2 np, r2.step s rs⟩
  | obj c ks es => obtain ⟨dx, us, l, e2, r2⟩ := o; exact ⟨dx, us, l, s.keep _ _ e2 np, r2.step s rs⟩
  | _ => exact o
theorem RS.ban {d : D} {p : Addr} (rs : RS g Bn Ow H σ Γ) (m : p ∈ Ow) (no : ∀ (i : Nat) e, Γ[i]? = some (some (e, true)) → σ[i]? ≠ some (some (.ref p))) : RS g (orB Bn p) (Ow.filter (fun x => decide (x ≠ p))) H σ Γ := by
  have k1 : ∀ a, Av (orB Bn p) (Ow.filter (fun x => decide (x ≠ p))) a → Av Bn Ow a := fun a z => by
    rcases z with (z | z) | z
    · exact .inl z
    · rw [z]; exact .inr m
    · exact .inr (mem_ne z).1
  refine ⟨rs.len, fun i d h => ?_, fun i d h => ?_, rs.dist, fun a h => rs.trl a (k1 a h), fun a h z => ?_, fun a h => rs.kf a (k1 a h), rs.tabs⟩
  · obtain ⟨v, e, r⟩ := rs.slot i d h; exact ⟨v, e, rep_less k1 r⟩
  · obtain ⟨a, e, ma, r⟩ := rs.own i d h
    exact ⟨a, e, ne_mem ma fun z => no i d h (by rw [e, z]), own_less k1 r⟩
  · rcases h with h | h
    · exact rs.sep a h (mem_ne z).1
    · exact (mem_ne z).2 h
theorem VlN.unB {p : Addr} : ∀ {xs : List RV} {vs : List V}, VlN g (orB Bn p) Ow H σ Γ xs vs → VlN g Bn (p :: Ow) H σ Γ xs vs
  | [], _, h => h
  | x :: xs, _, ⟨v, r, e, h1, h2, h3, h4⟩ => by
    refine ⟨v, r, e, ?_, h2, h3, VlN.unB h4⟩
    have k1 : ∀ a, Av Bn (p :: Ow) a → Av (orB Bn p) Ow a := fun a z => by
      rcases z with z | z
      · exact .inl (.inl z)
      · rcases List.mem_cons.mp z with z | z
        · exact .inl (.inr z)
        · exact .inr z
    cases x with
    | fz d => exact rep_less k1 h1
    | nw d => obtain ⟨a, e1, m1, o1, n1⟩ := h1; exact ⟨a, e1, List.mem_cons_of_mem _ m1, own_less k1 o1, n1⟩
    | sl i => exact h1
theorem VlN.nin {p : Addr} (h0 : g.ea = none) : ∀ {xs : List RV} {vs : List V}, xs.all nrf = true → VlN g Bn Ow H σ Γ xs vs → Bn p → (∀ a, Bn a → a ∉ Ow) → V.ref p ∉ vs
  | [], _, _, h, _, _ => by have h : _ = [] := h; subst h; simp
  | x :: xs, _, hn, ⟨v, r, e, h1, h2, h3, h4⟩, hp, sp => by
    subst e
    simp only [List.all_cons, Bool.and_eq_true] at hn
    intro z
    rcases List.mem_cons.mp z with z | z
    · subst z
      cases x with
      | fz d => exact Rep.nav h0 hn.1 h1 (.inl hp)
      | nw d => obtain ⟨a, e1, m1, _⟩ := h1; cases e1; exact sp p hp m1
      | sl i => exact h3 i rfl
    · exact VlN.nin h0 hn.2 h4 hp sp z
theorem an_nil : PA X [] (tAn g fs [] []) := PA.weak pa_nil fun _ _ _ q => evn_nil q
theorem an_cons {a : Expr} {es : List Expr} {ia : E} {ies : List E} {i : Nat} {b : Bool} {is : List (Nat × Bool)} (C : Cok g X) (ha : PE X a (tR g fs ia)) (hr : PA X es (tAn g fs is ies)) (hs : starEach (a :: es) X.env = (false, eval a X.env) :: starEach es X.env) : PA X (a :: es) (tAn g fs ((i, b) :: is) (ia :: ies)) := by
  refine PA.weak (pa_cons ha hr hs) ?_
  rintro σ H Q ⟨Bn, Ow, Γ, xs, Γ', rs, he, hQ⟩
  simp only [evn] at he
  obtain ⟨⟨x, Γ1⟩, e1, he⟩ := Option.bind_eq_some_iff.mp he
  refine ⟨Bn, Ow, Γ, x, Γ1, rs, e1, fun v H1 O1 s1 r1 vl => ?_⟩
  have plain : ((fre Γ1 x).bind fun (p : D × Ct) => (evn fs is ies p.2).map fun (q : List RV × Ct) => (RV.fz p.1 :: q.1, q.2)) = some (xs, Γ') → tAn g fs is ies σ H1 (fun vs H2 => Q (v :: vs) H2) := fun he => by
    obtain ⟨⟨d, Γ2⟩, e2, he⟩ := Option.bind_eq_some_iff.mp he
    obtain ⟨⟨ys, Γ3⟩, e3, he⟩ := Option.map_eq_some_iff.mp he
    simp only [Prod.mk.injEq] at he
    obtain ⟨rfl, rfl⟩ := he
    obtain ⟨O2, s2, r2, p2⟩ := fre_ok r1 vl e2
    exact ⟨Bn, O2, Γ2, ys, Γ3, r2, e3, fun vs H3 O3 s3 r3 v3 => hQ (v :: vs) H3 O3 ((s1.trans s2).trans s3) r3 ⟨v, vs, rfl, p2.step s3 r3, nofun, nofun, v3⟩⟩
  cases b with
  | false => cases x <;> exact plain he
  | true =>
    cases x with
    | fz d => exact plain he
    | sl i => exact plain he
    | nw d =>
      obtain ⟨⟨ys, Γ3⟩, e3, he⟩ := Option.bind_eq_some_iff.mp he
      simp only [Option.ite_none_right_eq_some, Option.some.injEq, Prod.mk.injEq] at he
      obtain ⟨hn, rfl, rfl⟩ := he
      obtain ⟨p, rfl, m, ow, no⟩ := vl
      have r2 := r1.ban (d := d) m no
      have nb : ¬ Bn p := fun z => r1.sep p z m
      have np : p ∉ O1.filter (fun x => decide (x ≠ p)) := fun z => (mem_ne z).2 rfl
      have ow2 : OwnA g (Av (orB Bn p) (O1.filter (fun x => decide (x ≠ p)))) H1 d p := own_less (fun a z => by
        rcases z with (z | z) | z
        · exact .inl z
        · rw [z]; exact .inr m
        · exact .inr (mem_ne z).1) ow
      refine ⟨orB Bn p, _, Γ1, ys, Γ3, r2, e3, fun vs H3 O3 s3 r3 v3 => hQ (.ref p :: vs) H3 (p :: O3) (s1.trans ⟨fun a o h t n => s3.keep0 a o h t fun z => n (mem_ne z).1, fun a h => ?_⟩) (r3.unB nb) ⟨.ref p, vs, rfl, ⟨p, rfl, List.mem_cons_self, ?_, fun j e h1 h2 => ?_⟩, fun _ _ => VlN.nin C.ea hn v3 (.inr rfl) r3.sep, nofun, v3.unB⟩⟩
      · rcases List.mem_cons.mp h with h | h
        · rw [h]; exact .inl m
        · rcases s3.grow a h with z | z
          · exact .inl (mem_ne z).1
          · exact .inr z
      · exact own_less (fun a z => by
          rcases z with z | z
          · exact .inl (.inl z)
          · rcases List.mem_cons.mp z with z | z
            · exact .inl (.inr z)
            · exact .inr z) (ow2.step np s3 r3)
      · obtain ⟨b, e2, m2, _⟩ := r3.own j e h1
        rw [h2] at e2; cases e2
        exact r3.sep p (.inr rfl) m2
theorem VlW.unB {p : Addr} : ∀ {xs : List RV} {vs : List V}, VlW g (orB Bn p) Ow H σ Γ xs vs → VlW g Bn (p :: Ow) H σ Γ xs vs
  | [], _, h => h
  | x :: xs, _, ⟨v, r, e, h1, h2, h4⟩ => by
    refine ⟨v, r, e, ?_, h2, VlW.unB h4⟩
    have k1 : ∀ a, Av Bn (p :: Ow) a → Av (orB Bn p) Ow a := fun a z => by
      rcases z with z | z
      · exact .inl (.inl z)
      · rcases List.mem_cons.mp z with z | z
        · exact .inl (.inr z)
        · exact .inr z
    cases x with
    | fz d => exact rep_less k1 h1
    | nw d => obtain ⟨a, e1, m1, o1, n1⟩ := h1; exact ⟨a, e1, List.mem_cons_of_mem _ m1, own_less k1 o1, n1⟩
    | sl i => exact h1
theorem aw_nil : PA X [] (tAw g fs []) := by
  refine PA.weak pa_nil ?_
  rintro σ H Q ⟨Bn, Ow, Γ, xs, Γ', rs, he, hQ⟩
  simp only [evs, Option.some.injEq, Prod.mk.injEq] at he
  obtain ⟨rfl, rfl⟩ := he
  exact hQ [] H Ow (.refl _ _) rs rfl
theorem aw_split {ia : E} {ies : List E} {σ : St} {H : Hp} {Q : List V → Hp → Prop} (h : tAw g fs (ia :: ies) σ H Q) : tR g fs ia σ H fun v H1 => tAw g fs ies σ H1 fun vs H2 => Q (v :: vs) H2 := by
  obtain ⟨Bn, Ow, Γ, xs, Γ', rs, he, hQ⟩ := h
  simp only [evs] at he
  obtain ⟨⟨x, Γ1⟩, e1, he⟩ := Option.bind_eq_some_iff.mp he
  obtain ⟨⟨ys, Γ3⟩, e3, he⟩ := Option.map_eq_some_iff.mp he
  simp only [Prod.mk.injEq] at he
  obtain ⟨rfl, rfl⟩ := he
  refine ⟨Bn, Ow, Γ, x, Γ1, rs, e1, fun v H1 O1 s1 r1 vl => ?_⟩
  cases x with
  | fz d => exact ⟨Bn, O1, Γ1, ys, Γ3, r1, e3, fun vs H3 O3 s3 r3 v3 => hQ (v :: vs) H3 O3 (s1.trans s3) r3 ⟨v, vs, rfl, Val.step (r := .fz d) vl s3 r3, nofun, v3⟩⟩
  | sl i => exact ⟨Bn, O1, Γ1, ys, Γ3, r1, e3, fun vs H3 O3 s3 r3 v3 => hQ (v :: vs) H3 O3 (s1.trans s3) r3 ⟨v, vs, rfl, vl, nofun, v3⟩⟩
  | nw d =>
    obtain ⟨p, rfl, m, ow, no⟩ := vl
    have r2 := r1.ban (d := d) m no
    have nb : ¬ Bn p := fun z => r1.sep p z m
    have np : p ∉ O1.filter (fun x => decide (x ≠ p)) := fun z => (mem_ne z).2 rfl
    have ow2 : OwnA g (Av (orB Bn p) (O1.filter (fun x => decide (x ≠ p)))) H1 d p := own_less (fun a z => by
      rcases z with (z | z) | z
      · exact .inl z
      · rw [z]; exact .inr m
      · exact .inr (mem_ne z).1) ow
    refine ⟨orB Bn p, _, Γ1, ys, Γ3, r2, e3, fun vs H3 O3 s3 r3 v3 => hQ (.ref p :: vs) H3 (p :: O3) (s1.trans ⟨fun a o h t n => s3.keep0 a o h t fun z => n (mem_ne z).1, fun a h => ?_⟩) (r3.unB nb) ⟨.ref p, vs, rfl, ⟨p, rfl, List.mem_cons_self, ?_, fun j e h1 h2 => ?_⟩, fun _ _ j e h1 h2 => ?_, v3.unB⟩⟩
    · rcases List.mem_cons.mp h with h | h
      · rw [h]; exact .inl m
      · rcases s3.grow a h with z | z
        · exact .inl (mem_ne z).1
        · exact .inr z
    · exact own_less (fun a z => by
        rcases z with z | z
        · exact .inl (.inl z)
        · rcases List.mem_cons.mp z with z | z
          · exact .inl (.inr z)
          · exact .inr z) (ow2.step np s3 r3)
    · obtain ⟨b, e2, m2, _⟩ := r3.own j e h1
      rw [h2] at e2; cases e2
      exact r3.sep p (.inr rfl) m2
    · obtain ⟨w, h3, h4⟩ := v3.get h1
      rw [h2] at h3; cases h3
      obtain ⟨b, e4, m4, _⟩ := h4
      cases e4
      exact r3.sep p (.inr rfl) m4
theorem aw_cons {a : Expr} {es : List Expr} {ia : E} {ies : List E} (ha : PE X a (tR g fs ia)) (hr : PA X es (tAw g fs ies)) (hs : starEach (a :: es) X.env = (false, eval a X.env) :: starEach es X.env) : PA X (a :: es) (tAw g fs (ia :: ies)) := 
  PA.weak (pa_cons ha hr hs) fun _ _ _ h => aw_split h
def setsV (σ : St) : List (Nat × Bool) → List V → St
  | (i, _) :: is, v :: vs => setsV (σ.set i (some v)) is vs
  | _, _ => σ
theorem VlN.set {i : Nat} {d : D} {b : Bool} {v : V} (hi : i < Γ.length) (hs : i < σ.length) : ∀ {xs : List RV} {vs : List V}, v ∉ vs ∨ b = false → VlN g Bn Ow H σ Γ xs vs → VlN g Bn Ow H (σ.set i (some v)) (Γ.set i (some (d, b))) xs vs
  | [], _, _, h => h
  | x :: xs, _, n, ⟨w, r, e, h1, h2, h3, h4⟩ => by
    subst e
    refine ⟨w, r, rfl, ?_, h2, h3, VlN.set hi hs (n.imp (fun n z => n (List.mem_cons_of_mem _ z)) id) h4⟩
    cases x with
    | fz d => exact h1
    | nw d =>
      obtain ⟨a, e1, m1, o1, n1⟩ := h1
      refine ⟨a, e1, m1, o1, fun j e q1 q2 => ?_⟩
      by_cases hj : i = j
      · subst hj
        rw [List.getElem?_set_self hi] at q1
        rw [List.getElem?_set_self hs] at q2
        cases q1; cases q2; cases e1
        exact n.elim (fun n => n List.mem_cons_self) nofun
      · rw [List.getElem?_set_ne hj] at q1 q2
        exact n1 j e q1 q2
    | sl i => exact (h3 i rfl).elim
theorem parS_ok {pv : Nat × List (Nat × V)} : ∀ {is : List (Nat × Bool)} {xs : List RV} {vs : List V} {σ : St} {Γ Γ' : Ct}, RS g Bn Ow H σ Γ → VlN g Bn Ow H σ Γ xs vs → parS is xs Γ = some Γ' → Pin pv σ → disjB (is.map (·.1)) (pv.2.map (·.1)) = true → RS g Bn Ow H (setsV σ is vs) Γ' ∧ Pin pv (setsV σ is vs)
  | [], [], vs, σ, Γ, Γ', rs, _, e, pn, _ => by
    simp only [parS, Option.some.injEq] at e; subst e
    exact ⟨by unfold setsV; exact rs, by unfold setsV; exact pn⟩
  | [], x :: xs, vs, σ, Γ, Γ', rs, _, e, pn, _ => by simp only [parS, reduceCtorEq] at e
  | (i, b) :: is, [], vs, σ, Γ, Γ', rs, _, e, pn, _ => by simp only [parS, reduceCtorEq] at e
  | (i, b) :: is, x :: xs, _, σ, Γ, Γ', rs, ⟨v, r, rfl, h1, h2, h3, h4⟩, e, pn, dj => by
    have d1 : disjB [i] (pv.2.map (·.1)) = true ∧ disjB (is.map (·.1)) (pv.2.map (·.1)) = true := by
      simp only [disjB, List.map_cons, List.all_cons, Bool.and_eq_true] at dj
      exact ⟨by simp only [disjB, List.all_cons, List.all_nil, Bool.and_true]; exact dj.1, dj.2⟩
    cases x with
    | sl j => exact (h3 j rfl).elim
    | fz d =>
      simp only [parS, Option.ite_none_right_eq_some] at e
      obtain ⟨hi, e⟩ := e
      exact parS_ok (σ := σ.set i (some v)) (rs.set h1 hi) (h4.set hi (by rw [rs.len]; exact hi) (.inr rfl)) e (pn.set d1.1) d1.2
    | nw d =>
      simp only [parS, Option.ite_none_right_eq_some] at e
      obtain ⟨hi, e⟩ := e
      exact parS_ok (σ := σ.set i (some v)) (rs.setO h1 hi) (h4.set hi (by rw [rs.len]; exact hi) (.inl (h2 d rfl))) e (pn.set d1.1) d1.2
theorem parS_len : ∀ {is : List (Nat × Bool)} {xs : List RV} {Γ Γ' : Ct}, parS is xs Γ = some Γ' → is.length = xs.length
  | [], [], _, _, _ => rfl
  | [], x :: xs, Γ, Γ', e => by simp only [parS, reduceCtorEq] at e
  | (i, b) :: is, [], Γ, Γ', e => by simp only [parS, reduceCtorEq] at e
  | (i, b) :: is, .sl j :: xs, Γ, Γ', e => by simp only [parS, reduceCtorEq] at e
  | (i, b) :: is, .fz d :: xs, Γ, Γ', e => by
    simp only [parS, Option.ite_none_right_eq_some] at e
    rw [List.length_cons, List.length_cons, parS_len e.2]
  | (i, b) :: is, .nw d :: xs, Γ, Γ', e => by
    simp only [parS, Option.ite_none_right_eq_some] at e
    rw [List.length_cons, List.length_cons, parS_len e.2]
theorem VlN.len : ∀ {xs : List RV} {vs : List V}, VlN g Bn Ow H σ Γ xs vs → xs.length = vs.length
  | [], _, h => by have h : _ = [] := h; subst h; rfl
  | x :: xs, _, ⟨v, r, e, _, _, _, h2⟩ => by subst e; rw [List.length_cons, List.length_cons, h2.len]
theorem par_core {is : List (Nat × Bool)} {es : List E} {Dn : Ends} {σ : St} {H : Hp} (h : tSt g Wx fs (.par is es) Dn σ H) : tAn g fs is es σ H fun vs H1 => vs.length = is.length ∧ Dn.nx (setsV σ is vs) H1 := by
  obtain ⟨pv, Bn, Ow, Γ, o, rs, pn, he, po⟩ := h
  simp only [ex, Option.ite_none_right_eq_some] at he
  obtain ⟨dj, he⟩ := he
  obtain ⟨⟨ys, Γ2⟩, e1, he⟩ := Option.bind_eq_some_iff.mp he
  obtain ⟨Γ3, e2, rfl⟩ := Option.map_eq_some_iff.mp he
  refine ⟨Bn, Ow, Γ, ys, Γ2, rs, e1, fun vs H1 O1 s1 r1 v1 => ⟨by rw [parS_len e2, v1.len], ?_⟩⟩
  obtain ⟨r2, p2⟩ := parS_ok r1 v1 e2 pn dj
  exact po _ H1 O1 s1 r2 p2
theorem s_par2 {i j : Nat} {bi bj : Bool} {x y : Str} {a b : Expr} {ia ib : E} {px py pt : Pos} {kt k2 pt2} (C : Cok g X) (hi : X.N[i]? = some x) (hj : X.N[j]? = some y) (hij : i ≠ j)
    (hx : X.env.scope.names.lookup x = some .local) (hy : X.env.scope.names.lookup y = some .local) (ha : PA X [a, b] (tAn g fs [(i, bi), (j, bj)] [ia, ib]))
    (hw : swappedStores [.Tuple [.Name x px, .Name y py] kt pt] (.Tuple [a, b] k2 pt2) X.env = pure (some [x, y]))
    (hs : swapsWithSole [.Tuple [.Name x px, .Name y py] kt pt] (.Tuple [a, b] k2 pt2) pos.line X.env = pure false) :
    PS X (.Assign [.Tuple [.Name x px, .Name y py] kt pt] (.Tuple [a, b] k2 pt2) pos) (tSt g Wx fs (.par [(i, bi), (j, bj)] [ia, ib])) := by
  refine PS.weak (ps_par C.calm C.nd hi hj hij hx hy ha hw hs) ?_
  intro Dn σ H q
  obtain ⟨Bn, Ow, Γ, xs, Γ', rs, he, hQ⟩ := par_core q
  refine ⟨Bn, Ow, Γ, xs, Γ', rs, he, fun vs H1 O1 s1 r1 v1 => ?_⟩
  obtain ⟨hl, q⟩ := hQ vs H1 O1 s1 r1 v1
  obtain ⟨v, w, rfl⟩ : ∃ v w, vs = [v, w] := by
    match vs, hl with
    | [v, w], _ => exact ⟨v, w, rfl⟩
  exact ⟨v, w, rfl, q⟩
theorem s_par3 {i j l : Nat} {bi bj bl : Bool} {x y z : Str} {a b c : Expr} {ia ib ic : E} {px py pz pt : Pos} {kt k2 pt2} (C : Cok g X) (hi : X.N[i]? = some x) (hj : X.N[j]? = some y) (hl : X.N[l]? = some z) (hij : i ≠ j) (hil : i ≠ l) (hjl : j ≠ l)
    (hx : X.env.scope.names.lookup x = some .local) (hy : X.env.scope.names.lookup y = some .local) (hz : X.env.scope.names.lookup z = some .local) (ha : PA X [a, b, c] (tAn g fs [(i, bi), (j, bj), (l, bl)] [ia, ib, ic]))
    (hw : swappedStores [.Tuple [.Name x px, .Name y py, .Name z pz] kt pt] (.Tuple [a, b, c] k2 pt2) X.env = pure (some [x, y, z]))
    (hs : swapsWithSole [.Tuple [.Name x px, .Name y py, .Name z pz] kt pt] (.Tuple [a, b, c] k2 pt2) pos.line X.env = pure false) :
    PS X (.Assign [.Tuple [.Name x px, .Name y py, .Name z pz] kt pt] (.Tuple [a, b, c] k2 pt2) pos) (tSt g Wx fs (.par [(i, bi), (j, bj), (l, bl)] [ia, ib, ic])) := by
  refine PS.weak (ps_par3 C.calm C.nd hi hj hl hij hil hjl hx hy hz ha hw hs) ?_
  intro Dn σ H q
  obtain ⟨Bn, Ow, Γ, xs, Γ', rs, he, hQ⟩ := par_core q
  refine ⟨Bn, Ow, Γ, xs, Γ', rs, he, fun vs H1 O1 s1 r1 v1 => ?_⟩
  obtain ⟨hl, q⟩ := hQ vs H1 O1 s1 r1 v1
  obtain ⟨u, v, w, rfl⟩ : ∃ u v w, vs = [u, v, w] := by
    match vs, hl with
    | [u, v, w], _ => exact ⟨u, v, w, rfl⟩
  exact ⟨u, v, w, rfl, q⟩
end
end DV

namespace DV
open PySem L2
variable {Wx : L2.XK}
theorem Cok.blk {g : Gx} {X : Cx} (C : Cok g X) (s : Shared) (H : Hp) (scope : Scope) (ce : Env) (fp : List Addr) : Cok g (X.blk s H scope ce fp) := ⟨C.K, C.calm, C.hu, C.nd, C.ea⟩
theorem part0 {g : Gx} {fs : List FS} {X : Cx} : Part g fs X none [] := ⟨.inl ⟨rfl, rfl⟩⟩
theorem part1 {g : Gx} {fs : List FS} {X : Cx} {a : Expr} {ia : E} (h : PE X a (tR g fs ia)) : Part g fs X (some a) [ia] := ⟨.inr ⟨a, ia, rfl, rfl, h⟩⟩
section
variable {g : Gx} {Bn : Addr → Prop} {Ow Ow' : List Addr} {H H' : Hp} {σ : St} {Γ Γ' : Ct}
theorem ownPs_mem : ∀ {G : Ct} {n i : Nat}, i ∈ ownPs n G ↔ ∃ j d, i = n + j ∧ G[j]? = some (some (d, true))
  | [], n, i => by simp [ownPs]
  | none :: r, n, i => by
    simp only [ownPs]
    rw [ownPs_mem]
    constructor
    · rintro ⟨j, d, rfl, h⟩; exact ⟨j + 1, d, by omega, by simpa using h⟩
    · rintro ⟨j, d, rfl, h⟩
      cases j with
      | zero => simp at h
      | succ j => exact ⟨j, d, by omega, by simpa using h⟩
  | some (c, false) :: r, n, i => by
    simp only [ownPs]
    rw [ownPs_mem]
    constructor
    · rintro ⟨j, d, rfl, h⟩; exact ⟨j + 1, d, by omega, by simpa using h⟩
    · rintro ⟨j, d, rfl, h⟩
      cases j with
      | zero => simp at h
      | succ j => exact ⟨j, d, by omega, by simpa using h⟩
  | some (c, true) :: r, n, i => by
    simp only [ownPs, List.mem_cons]
    rw [ownPs_mem]
    constructor
    · rintro (rfl | ⟨j, d, rfl, h⟩)
      · exact ⟨0, c, rfl, rfl⟩
      · exact ⟨j + 1, d, by omega, by simpa using h⟩
    · rintro ⟨j, d, rfl, h⟩
      cases j with
      | zero => exact .inl rfl
      | succ j => exact .inr ⟨j, d, by omega, by simpa using h⟩
theorem outsOf_len : ∀ {G G' : Ct}, G.length ≤ G'.length → (outsOf G G').length = G.length
  | [], G', _ => by cases G' <;> simp [outsOf]
  | x :: r, [], h => by simp at h
  | x :: r, y :: s, h => by
    have ih := outsOf_len (G := r) (G' := s) (by simpa using h)
    match x with
    | some (_, true) => simp [outsOf, ih]
    | some (_, false) => simp [outsOf, ih]
    | none => simp [outsOf, ih]
theorem outsOf_get : ∀ {G G' : Ct} {i : Nat} {p : D × Bool}, (outsOf G G')[i]? = some (some p) → (OwS G i ∧ G'[i]? = some (some p)) ∨ (¬ OwS G i ∧ G[i]? = some (some p))
  | [], G', i, p, h => by cases G' <;> simp [outsOf] at h
  | x :: r, [], i, p, h => by match x with
    | some (_, true) => simp [outsOf] at h
    | some (_, false) => simp [outsOf] at h
    | none => simp [outsOf] at h
  | x :: r, y :: s, 0, p, h => by
    match x with
    | some (d, true) => simp [outsOf] at h; exact .inl ⟨⟨d, rfl⟩, by simp [h]⟩
    | some (d, false) => simp [outsOf] at h; exact .inr ⟨by rintro ⟨e, he⟩; simp at he, by simp [h]⟩
    | none => simp [outsOf] at h
  | x :: r, y :: s, i + 1, p, h => by
    have h' : (outsOf r s)[i]? = some (some p) := by
      match x with
      | some (d, true) => simpa [outsOf] using h
      | some (d, false) => simpa [outsOf] using h
      | none => simpa [outsOf] using h
    rcases outsOf_get h' with ⟨⟨e, h1⟩, h2⟩ | ⟨h1, h2⟩
    · exact .inl ⟨⟨e, by simpa using h1⟩, by simpa using h2⟩
    · exact .inr ⟨by rintro ⟨e, he⟩; exact h1 ⟨e, by simpa using he⟩, by simpa using h2⟩
/-- what comes back at the parameters -/
theorem outs_ok {vs : List V} {G0 : Ct} (r0 : RS g Bn Ow H (vs.map some) G0) (st : Stp Ow H Ow' H') (r1 : RS g Bn Ow' H' σ Γ) (hl : G0.length ≤ Γ.length) (pn : ∀ i, OwS G0 i → σ[i]? = (vs.map some)[i]?) : RS g Bn Ow' H' (vs.map some) (outsOf G0 Γ) := by
  refine ⟨by rw [outsOf_len hl]; exact r0.len, fun i d h => ?_, fun i d h => ?_, fun i j d e a h1 h2 h3 h4 => ?_, r1.trl, r1.sep, r1.kf, r1.tabs⟩
  · rcases outsOf_get h with ⟨o, h1⟩ | ⟨_, h1⟩
    · obtain ⟨v, e, r⟩ := r1.slot i d h1
      exact ⟨v, by rw [← pn i o]; exact e, r⟩
    · obtain ⟨v, e, r⟩ := r0.slot i d h1
      exact ⟨v, e, r.step st r1⟩
  · rcases outsOf_get h with ⟨o, h1⟩ | ⟨n, h1⟩
    · obtain ⟨v, e, r⟩ := r1.own i d h1
      exact ⟨v, by rw [← pn i o]; exact e, r⟩
    · exact (n ⟨d, h1⟩).elim
  · rcases outsOf_get h1 with ⟨o1, h1⟩ | ⟨n, h1⟩
    · rcases outsOf_get h2 with ⟨o2, h2⟩ | ⟨n, h2⟩
      · exact r1.dist i j d e a h1 h2 (by rw [pn i o1]; exact h3) (by rw [pn j o2]; exact h4)
      · exact (n ⟨e, h2⟩).elim
    · exact (n ⟨d, h1⟩).elim
theorem RS.start {vs : List V} {G0 : Ct} (k : Nat) (r0 : RS g Bn Ow H (vs.map some) G0) : RS g Bn Ow H (vs.map some ++ List.replicate k none) (G0 ++ List.replicate k none) := by
  have low : ∀ {i : Nat} {p : D × Bool}, (G0 ++ List.replicate k none)[i]? = some (some p) → G0[i]? = some (some p) ∧ (vs.map some ++ List.replicate k none)[i]? = (vs.map some)[i]? := fun {i p} h => by
    rw [List.getElem?_append] at h
    split at h
    · rename_i hi
      refine ⟨h, ?_⟩
      rw [List.getElem?_append_left (by rw [r0.len]; exact hi)]
    · rw [List.getElem?_replicate] at h
      split at h <;> cases h
  refine ⟨by rw [List.length_append, List.length_append, r0.len, List.length_replicate, List.length_replicate], fun i d h => ?_, fun i d h => ?_, fun i j d e a h1 h2 h3 h4 => ?_, r0.trl, r0.sep, r0.kf, r0.tabs⟩
  · obtain ⟨h1, h2⟩ := low h
    rw [h2]
    exact r0.slot i d h1
  · obtain ⟨h1, h2⟩ := low h
    rw [h2]
    exact r0.own i d h1
  · obtain ⟨p1, p2⟩ := low h1
    obtain ⟨q1, q2⟩ := low h2
    exact r0.dist i j d e a p1 q1 (by rw [← p2]; exact h3) (by rw [← q2]; exact h4)
theorem finish_ok {vs : List V} {G0 : Ct} {n : Nat} {o : Out} {r : RV} {os : Ct} {Q : VK} (r0 : RS g Bn Ow H (vs.map some) G0) (hn : G0.length ≤ n) (hf : finish G0.length G0 o = some (r, os))
    (hQ : ∀ v H' Ow', Stp Ow H Ow' H' → RS g Bn Ow' H' (vs.map some) os → Val g Bn Ow' H' (vs.map some) os r v → Q v H') :
    Post g Wx { nx := fun _ H' => Q .non H', rt := Q } (n, (ownPs 0 G0).map fun i => (i, vs.getD i .non)) Bn Ow H o := by
  have pin : ∀ {σ' : St}, Pin (n, (ownPs 0 G0).map fun i => (i, vs.getD i .non)) σ' → ∀ i, OwS G0 i → σ'[i]? = (vs.map some)[i]? := fun {σ'} pn i ⟨d, h⟩ => by
    have := pn.2 (i, vs.getD i .non) (List.mem_map.mpr ⟨i, ownPs_mem.mpr ⟨i, d, by omega, h⟩, rfl⟩)
    have hi : i < vs.length := by
      have h1 := (List.getElem?_eq_some_iff.mp h).1
      have h2 := r0.len
      rw [List.length_map] at h2
      omega
    rw [this, List.getElem?_map, List.getElem?_eq_getElem hi, List.getD_eq_getElem?_getD, List.getElem?_eq_getElem hi]
    rfl
  have len : ∀ {σ' : St} {Γ' : Ct} {Ow' : List Addr} {H' : Hp}, RS g Bn Ow' H' σ' Γ' → Pin (n, (ownPs 0 G0).map fun i => (i, vs.getD i .non)) σ' → G0.length ≤ Γ'.length := fun r pn => by
    rw [← r.len, pn.1]; exact hn
  cases o with
  | bk G => simp only [finish, reduceCtorEq] at hf
  | ct G => simp only [finish, reduceCtorEq] at hf
  | xc c ks ds G => simp only [finish, reduceCtorEq] at hf
  | nx G =>
    simp only [finish, Option.some.injEq, Prod.mk.injEq] at hf
    obtain ⟨rfl, rfl⟩ := hf
    exact fun σ' H' O' s' r' p' => hQ .non H' O' s' (outs_ok r0 s' r' (len r' p') (pin p')) (show Rep g _ _ _ _ by simp only [Rep])
  | rt x G =>
    intro v σ' H' O' s' r' p' vl
    have lo := len r' p'
    cases x with
    | fz d =>
      simp only [finish, Option.some.injEq, Prod.mk.injEq] at hf
      obtain ⟨rfl, rfl⟩ := hf
      exact hQ v H' O' s' (outs_ok r0 s' r' lo (pin p')) vl
    | nw d =>
      simp only [finish, Option.some.injEq, Prod.mk.injEq] at hf
      obtain ⟨rfl, rfl⟩ := hf
      obtain ⟨a, e, m, ow, no⟩ := vl
      refine hQ v H' O' s' (outs_ok r0 s' r' lo (pin p')) ⟨a, e, m, ow, fun j f h1 h2 => ?_⟩
      rcases outsOf_get h1 with ⟨o1, h1⟩ | ⟨n1, h1⟩
      · exact no j f h1 (by rw [pin p' j o1]; exact h2)
      · exact n1 ⟨f, h1⟩
    | sl i =>
      have vl' : σ'[i]? = some (some v) := vl
      simp only [finish] at hf
      split at hf
      · rename_i d q
        split at hf
        · rename_i hi
          simp only [Option.some.injEq, Prod.mk.injEq] at hf
          obtain ⟨rfl, rfl⟩ := hf
          have fe : fre G (.sl i) = some (d, G.set i (some (d, false))) := by simp only [fre, q]
          obtain ⟨O2, s2, r2, p2⟩ := fre_ok r' vl fe
          exact hQ v H' O2 (s'.trans s2) (outs_ok r0 (s'.trans s2) r2 (by rw [List.length_set]; exact lo) (pin p')) p2
        · rename_i hi
          simp only [Option.some.injEq, Prod.mk.injEq] at hf
          obtain ⟨rfl, rfl⟩ := hf
          obtain ⟨a, e, m, ow⟩ := r'.own i d q
          rw [vl'] at e; cases e
          refine hQ _ H' O' s' (outs_ok r0 s' r' lo (pin p')) ⟨a, rfl, m, ow, fun j f h1 h2 => ?_⟩
          rcases outsOf_get h1 with ⟨o1, h1⟩ | ⟨n1, h1⟩
          · have e2 := r'.dist i j _ _ a q h1 vl' (by rw [pin p' j o1]; exact h2)
            subst e2
            obtain ⟨d1, h3⟩ := o1
            exact hi (List.getElem?_eq_some_iff.mp h3).1
          · exact n1 ⟨f, h1⟩
      · rename_i d q
        simp only [Option.some.injEq, Prod.mk.injEq] at hf
        obtain ⟨rfl, rfl⟩ := hf
        obtain ⟨w, e, rp⟩ := r'.slot i d q
        rw [vl'] at e; cases e
        exact hQ v H' O' s' (outs_ok r0 s' r' lo (pin p')) rp
      · cases hf
end
/-- a def that can be called -/
structure Cal (P : Program) (w : World) (mg : Str → Option Value) (base : Heap) (g : Gx) (k : Nat) (x : Str) (n : Nat) (F : FS) : Prop where
  ex : ∃ f fd ps, mg x = some (.ref f) ∧ PySem.W.keepIn g.K (.ref f) = true ∧ Binds g.K fd ps [] ∧ FnOk P w g.K mg base CX0 k f fd ps (spF g n F)
section
variable {P : Program} {w : World} {mg : Str → Option Value} {base : Heap} {g : Gx} {fs : List FS}
theorem Cal.mono {j k : Nat} {x : Str} {n : Nat} {F : FS} (h : Cal P w mg base g j x n F) (l : j ≤ k) : Cal P w mg base g k x n F := by
  obtain ⟨f, fd, ps, h1, h2, h3, h4⟩ := h.ex
  exact ⟨f, fd, ps, h1, h2, h3, h4.mono l⟩
theorem def_fn {x qual : Str} {st : Stmt} {f : Addr} {fd : FuncData} {N ps : List Str} {k np n : Nat} {ir : List S} (F : Fun g.K x qual st f fd) (S : FnScope N ps (defScope st)) (hp : ps.length = np) (hN : N.length = n) (ge : g.ea = none)
    (hbody : ∀ (cdv : Value) (A : Around) (outer : List Env) (s : Shared) (H : Hp) (E : XK), Room k (cxOf CX0 P w g.K mg base N qual (defScope st) f cdv A outer s H E).nox.A → Cok g (cxOf CX0 P w g.K mg base N qual (defScope st) f cdv A outer s H E).nox →
      PSs (cxOf CX0 P w g.K mg base N qual (defScope st) f cdv A outer s H E).nox (defBody st) (tSs g (fun _ _ _ => False) fs ir)) : FnOk P w g.K mg base CX0 (k + 1) f fd ps (spF g np (runF fs np n ir)) := by
  refine F.ok S (fun vs H Q E h => by rw [h.1, hp]) fun cdv A outer s H vs Q E hr h => ?_
  refine ⟨_, hbody cdv A outer s H E hr ⟨rfl, rfl, hr.units, S.nd, ge⟩, ?_⟩
  obtain ⟨hl, Bn, Ow, Γ, r, os, rs, ef, nr, hQ⟩ := h
  have hG : Γ.length = np := by rw [← rs.len, List.length_map, hl]
  have hle : np ≤ n := by
    rw [← hN, ← hp]
    have := congrArg List.length S.pre
    rw [List.length_take] at this
    omega
  simp only [runF, hG, if_true] at ef
  obtain ⟨o, e1, e2⟩ := Option.bind_eq_some_iff.mp ef
  have est : L2.start N vs = vs.map some ++ List.replicate (n - np) none := by rw [← hN, ← hl]; rfl
  refine ⟨(n, (ownPs 0 Γ).map fun i => (i, vs.getD i .non)), Bn, Ow, Γ ++ List.replicate (n - np) none, o, ?_, ⟨?_, fun p hp => ?_⟩, ?_, ?_⟩
  · rw [est]; exact rs.start _
  · rw [est, List.length_append, List.length_map, List.length_replicate, hl]; show np + (n - np) = n; omega
  · obtain ⟨i, hi, rfl⟩ := List.mem_map.mp hp
    obtain ⟨j, d, rfl, h⟩ := ownPs_mem.mp hi
    have hj : j < vs.length := by
      have h1 := (List.getElem?_eq_some_iff.mp h).1
      omega
    rw [est]
    show (vs.map some ++ List.replicate (n - np) none)[0 + j]? = some (some (vs.getD (0 + j) .non))
    rw [Nat.zero_add, List.getElem?_append_left (by rw [List.length_map]; exact hj), List.getElem?_map, List.getElem?_eq_getElem hj, List.getD_eq_getElem?_getD, List.getElem?_eq_getElem hj]
    rfl
  · rw [List.map_map]
    show exs fs ((ownPs 0 Γ).map id) ir _ = some o
    rw [List.map_id]
    exact e1
  · rw [← hG] at e2
    exact finish_ok rs (by omega) e2 hQ
end
section
variable {X : Cx} {g : Gx} {fs : List FS} {e : Expr} {es : List Expr} {ies : List E} {x : Str} {p pos : Pos} {k i n : Nat} {F : FS}
theorem c_call (c : Cal X.prog X.w X.mg X.base g k x n F) (C : Cok0 g X) (hF : fs[i]? = some F) (hn : ies.length = n) (hr : Room k X.A) (hg : Gl X x)
    (ha : PA X (e :: es) (tAw g fs ies)) (hdb : (x == ("__debug__" : Str)) = false) (he : starEach (e :: es) X.env = (false, eval e X.env) :: starEach es X.env) (hpl : (backTo pos (starEach es X.env)).any (·.1) = false) :
    PE X (.Call (.Name x p) (e :: es) [] pos) (tR g fs (.call i ies)) := by
  obtain ⟨f, fd, ps, h1, h2, h3, h4⟩ := c.ex
  rw [← C.K] at h2 h3 h4
  exact p_call hF hn h4 hr hg h1 h2 h3 ha hdb he hpl
end
end DV

namespace DV
open PySem L2
section
variable {X : Cx} {g : Gx} {fs : List FS} {e : Expr} {es : List Expr} {ies : List E} {x : Str} {p pos : Pos}
theorem k_int {i j pos} (C : Cok0 g X) : PE X (.Constant (.int i) j pos) (tR g fs (.cst (.int i))) := p_cst pe_int C.K fun _ _ _ => by simp only [Rep]
theorem k_bl {b j pos} (C : Cok0 g X) : PE X (.Constant (.bool b) j pos) (tR g fs (.cst (.bl b))) := p_cst pe_bl C.K fun _ _ _ => by simp only [Rep]
theorem k_str {b j pos} (C : Cok0 g X) : PE X (.Constant (.str b) j pos) (tR g fs (.cst (.str b))) := p_cst pe_str C.K fun _ _ _ => by simp only [Rep]
theorem k_non {j pos} (C : Cok0 g X) : PE X (.Constant .none j pos) (tR g fs (.cst .non)) := p_cst pe_non C.K fun _ _ _ => by simp only [Rep]
/-- a number that the top has written -/
def GInt (mg : Str → Option Value) (x : Str) (n : Int) : Prop := ∃ t, mg x = some (.int n t)
theorem k_gint {n : Int} (C : Cok0 g X) (h : GInt X.mg x n) (hg : Gl X x) (hd : (x == ("__debug__" : Str)) = false) : PE X (.Name x pos) (tR g fs (.cst (.int n))) := by
  obtain ⟨t, h⟩ := h
  exact p_cst (pe_glob (v := .int n) hg h ⟨t, rfl⟩ hd) C.K fun _ _ _ => by simp only [Rep]
theorem k_var (i : Nat) (hN : X.N[i]? = some x) (hv : Vis X.env.scope x) (hd : (x == ("__debug__" : Str)) = false) (hcd : (x == ("__classdict__" : Str)) = false) : PE X (.Name x pos) (tR g fs (.var i)) := p_var (pe_var hN hv hd hcd)
section
variable (C : Cok g X) (ha : PA X (e :: es) (tAs g fs ies)) (he : starEach (e :: es) X.env = (false, eval e X.env) :: starEach es X.env) (hpl : (backTo pos (starEach es X.env)).any (·.1) = false)
include C ha he hpl
theorem k_len (hm : X.mg "len" = none) (hg : Gl X "len") : PE X (.Call (.Name "len" p) (e :: es) [] pos) (tR g fs (.bi .len ies)) := p_biB (b_len C.K) hg hm (by decide +kernel) ha (by decide) (by decide) he hpl
theorem k_max2 (hm : X.mg "max" = none) (hg : Gl X "max") : PE X (.Call (.Name "max" p) (e :: es) [] pos) (tR g fs (.bi .max2 ies)) := p_biB (b_max2 C) hg hm PyProof.Rows.boot_max ha (by decide) (by decide) he hpl
theorem k_min2 (hm : X.mg "min" = none) (hg : Gl X "min") : PE X (.Call (.Name "min" p) (e :: es) [] pos) (tR g fs (.bi .min2 ies)) := p_biB (b_min2 C) hg hm PyProof.Rows.boot_min ha (by decide) (by decide) he hpl
theorem k_maxl (hm : X.mg "max" = none) (hg : Gl X "max") : PE X (.Call (.Name "max" p) (e :: es) [] pos) (tR g fs (.bi .maxl ies)) := p_biB (b_maxl C) hg hm PyProof.Rows.boot_max ha (by decide) (by decide) he hpl
theorem k_int1 (hm : X.mg "int" = none) (hg : Gl X "int") : PE X (.Call (.Name "int" p) (e :: es) [] pos) (tR g fs (.bi .int1 ies)) := p_biT (b_int C.K) hg hm PyProof.Rows.boot_int ha (by decide) (by decide) he hpl
end
theorem ty_int {p2 : Pos} (hm : X.mg "int" = none) (hg : Gl X "int") : PE X (.Name "int" p2) (tC (.ty (tyN .int))) := pe_bltn hg hm PyProof.Rows.boot_int rfl
theorem ty_bool {p2 : Pos} (hm : X.mg "bool" = none) (hg : Gl X "bool") : PE X (.Name "bool" p2) (tC (.ty (tyN .bool))) := pe_bltn hg hm PyProof.Rows.boot_bool rfl
theorem ty_list {p2 : Pos} (hm : X.mg "list" = none) (hg : Gl X "list") : PE X (.Name "list" p2) (tC (.ty (tyN .list))) := pe_bltn hg hm PyProof.Rows.boot_list rfl
theorem ty_tuple {p2 : Pos} (hm : X.mg "tuple" = none) (hg : Gl X "tuple") : PE X (.Name "tuple" p2) (tC (.ty (tyN .tuple))) := pe_bltn hg hm PyProof.Rows.boot_tuple rfl
theorem tg_nm {i : Nat} (h : PG X e (gName i)) : PG X e (tgT g.K (.nm i)) := by simp only [tgT]; exact h
theorem tgs_nil : PGs X [] (tgT.tgTs g.K []) := by simp only [tgT.tgTs]; exact pgs_nil
theorem tgs_cons {t : Tg} {ts : List Tg} (h1 : PG X e (tgT g.K t)) (h2 : PGs X es (tgT.tgTs g.K ts)) (hs : (assignEach (e :: es) X.env).map (·.2) = assign e X.env :: (assignEach es X.env).map (·.2)) : PGs X (e :: es) (tgT.tgTs g.K (t :: ts)) := by
  simp only [tgT.tgTs]
  exact pgs_cons h1 h2 hs
theorem tgp {ts : List Tg} {k : Nat} (C : Cok g X) (h : PGs X es (tgT.tgTs g.K ts)) (hn : (assignEach es X.env).length = ts.length) (hst : (assignEach es X.env).findIdx? (·.1) = none) : PG X (.Tuple es k pos) (tgT g.K (.tp ts)) := by
  have := pg_tup (pos := pos) (k := k) C.calm h hn hst
  rw [C.K] at this
  simp only [tgT]
  exact this
theorem sp_law {K : PySem.W.Frag} {cl : Nat → Addr} {T : List (Addr × Str)} {F : FS} {ns : List Int} {a : Addr} {H : Hp} {os : Ct} (hF : F [some (.scr ns, false)] = some (.fz (.bl true), os)) (hS : SqL K H a (ns.map V.int)) (hT : Tb T H) : spF ⟨K, cl, T, none, []⟩ 1 F [.ref a] H (fun v _ => v = .bl true) fun _ _ _ => False := by
  refine ⟨rfl, fun _ => False, [], [some (.scr ns, false)], _, os, ⟨rfl, fun i d h => ?_, fun i d h => ?_, fun i j d e b h1 => ?_, fun b z => ?_, nofun, fun b z => ?_, hT⟩, hF, nofun, fun v H' O' _ _ vl => ?_⟩
  · cases i with
    | zero => simp at h; subst h; exact ⟨.ref a, rfl, by simp only [Rep]; exact ⟨a, rfl, fun z => z.elim (fun z => z) (fun z => nomatch z), hS⟩⟩
    | succ i => simp at h
  · cases i with
    | zero => simp at h
    | succ i => simp at h
  · cases i with
    | zero => simp at h1
    | succ i => simp at h1
  · rcases z with z | z
    · exact z.elim
    · cases z
  · rcases z with z | z
    · exact z.elim
    · cases z
  · have vl : Rep _ _ _ _ _ := vl
    simpa only [Rep] using vl
end
end DV

namespace DV
open PySem L2
mutual
theorem eqd_refl : ∀ (d : D) (n : Nat), okB n d = true → eqd d d = true
  | .non, _, _ => by simp [eqd]
  | .bl _, _, _ => by simp [eqd]
  | .int _, _, _ => by simp [eqd]
  | .str _, _, _ => by simp [eqd]
  | .lst ds, n, h => by
    obtain ⟨m, rfl, h⟩ := okB_lst h
    simp only [eqd]
    exact eqds_refl ds m h
  | .tup ds, n, h => by
    obtain ⟨m, rfl, h⟩ := okB_tup h
    simp only [eqd]
    exact eqds_refl ds m h
  | .obj _ _ _, n, h => by rw [okB_obj] at h; cases h
  | .scr _, n, h => by rw [okB_scr] at h; cases h
  | .dct, n, h => by rw [okB_dct] at h; cases h
  | .dic _ _, n, h => by rw [okB_dic] at h; cases h
  | .exc _ _ _, n, h => by rw [okB_exc] at h; cases h
  | .err _ _ _, n, h => by rw [okB_err] at h; cases h
  | .ref _, n, h => by rw [okB_ref] at h; cases h
theorem eqds_refl : ∀ (ds : List D) (n : Nat), ds.all (okB n) = true → eqds ds ds = true
  | [], _, _ => by simp [eqds]
  | d :: ds, n, h => by
    simp only [List.all_cons, Bool.and_eq_true] at h
    simp only [eqds, Bool.and_eq_true]
    exact ⟨eqd_refl d n h.1, eqds_refl ds n h.2⟩
end
theorem cmp_eq_self {d : D} (h : okB 12 d = true) : cmpD .eq d d = some true := by simp only [cmpD, h, eqd_refl d 12 h, Bool.and_self, if_true]
theorem cmp_ne_self {d : D} (h : okB 12 d = true) : cmpD .ne d d = some false := by simp only [cmpD, h, eqd_refl d 12 h, Bool.and_self, if_true, Bool.not_true]
theorem forLoop_step {tg : Tg} {body : Ct → Option Out} {d : D} {ds : List D} {Γ Γ1 Γ2 : Ct} (h1 : asgT tg d Γ = some Γ1) (h2 : body Γ1 = some (.nx Γ2)) : forLoop tg body (d :: ds) Γ = forLoop tg body ds Γ2 := by
  simp only [forLoop, h1, h2, Option.bind_some]
theorem exs_nx {fs : List FS} {pn : List Nat} {s : S} {ss : List S} {Γ Γ1 : Ct} (h : ex fs pn s Γ = some (.nx Γ1)) : exs fs pn (s :: ss) Γ = exs fs pn ss Γ1 := by
  simp only [exs, h, Option.bind_some]
theorem exs_rt {fs : List FS} {pn : List Nat} {s : S} {ss : List S} {Γ Γ1 : Ct} {r : RV} (h : ex fs pn s Γ = some (.rt r Γ1)) : exs fs pn (s :: ss) Γ = some (.rt r Γ1) := by
  simp only [exs, h, Option.bind_some]
theorem whl_step {c : Ct → Option (Bool × Ct)} {body : Ct → Option Out} {n : Nat} {Γ Γ1 Γ2 : Ct} (h1 : c Γ = some (true, Γ1)) (h2 : body Γ1 = some (.nx Γ2)) : whlLoop c body (n + 1) Γ = whlLoop c body n Γ2 := by
  simp only [whlLoop, h1, h2, Option.bind_some, if_true]
theorem whl_done {c : Ct → Option (Bool × Ct)} {body : Ct → Option Out} {n : Nat} {Γ Γ1 : Ct} (h1 : c Γ = some (false, Γ1)) : whlLoop c body (n + 1) Γ = some (.nx Γ1) := by
  simp only [whlLoop, h1, Option.bind_some, Bool.false_eq_true, if_false]
theorem runF_by {fs : List FS} {np n : Nat} {body : List S} {G0 : Ct} {o : Out} {r : RV × Ct} (hl : G0.length = np) (e : exs fs (ownPs 0 G0) body (G0 ++ List.replicate (n - np) none) = some o) (f : DV.finish np G0 o = some r) : runF fs np n body G0 = some r := by
  simp only [runF, hl, if_true, e, Option.bind_some, f]
theorem ex_for {fs : List FS} {pn : List Nat} {tg : Tg} {ik : IK} {its : List E} {b : List S} {Γ Γ2 : Ct} {ds : List D} {o : Out} (h1 : ((evs fs its Γ).bind fun p => iterD ik p.1 p.2) = some (ds, Γ2)) (h3 : disjB (tgIx tg) pn = true) (h4 : forLoop tg (exs fs pn b) ds Γ2 = some o) : ex fs pn (.for_ tg ik its b) Γ = some o := by
  obtain ⟨⟨xs, Γ1⟩, e1, e2⟩ := Option.bind_eq_some_iff.mp h1
  simp only [ex, e1, e2, Option.bind_some, h3, if_true, h4]
/-- a while's test -/
def tst (fs : List FS) (c : E) (Γ : Ct) : Option (Bool × Ct) := (ev fs c Γ).bind fun (x, Γ1) => (testD Γ1 x).map fun t => (t, Γ1)
theorem ex_whl {fs : List FS} {pn : List Nat} {c : E} {b : List S} {Γ : Ct} {o : Out} (h : whlLoop (tst fs c) (exs fs pn b) fuel Γ = some o) : ex fs pn (.whl c b) Γ = some o := by
  simp only [ex]
  exact h
/-- a range's turns -/
@[irreducible] def rngO (Γ : Ct) (ds : List D) : Option (List D × Ct) := iterD .rng (ds.map .fz) Γ
theorem datums_fz (Γ : Ct) : ∀ ds : List D, datums Γ (ds.map .fz) = some ds
  | [] => rfl
  | d :: ds => by simp only [List.map_cons, datums, datum, datums_fz Γ ds, Option.bind_some, Option.map_some]
theorem it_rng (xs : List RV) (Γ : Ct) : iterD .rng xs Γ = (datums Γ xs).bind (rngO Γ) := by
  cases e : datums Γ xs with
  | none => simp only [iterD, e, Option.bind_none]
  | some ds => simp only [iterD, e, Option.bind_some, rngO, datums_fz]
theorem in62_int {n : Int} (h0 : -1000000000 < n) (h : n < 1000000000) : in62 n = true := by
  unfold in62
  refine decide_eq_true ?_
  by_cases z : n.natAbs = 0
  · rw [z]
    decide
  · rw [Nat.log2_lt z]
    omega
theorem in62_nat {n : Nat} (h : n < 1000000000) : in62 (n : Int) = true := in62_int (by omega) (by omega)
theorem rngO2 (Γ : Ct) (a b : Int) (h1 : in62 a = true) (h2 : in62 b = true) : rngO Γ [.int a, .int b] = some (rngD a 1 (b - a).toNat, Γ) := by
  unfold rngO
  simp only [iterD, datums_fz, Option.bind_some]
  rw [if_pos (by rw [h1, h2]; rfl)]
theorem mulOk_l {i j : Int} (h1 : -(2 ^ 64) < i) (h2 : i < 2 ^ 64) : mulOk i j = true := by simp only [mulOk, h1, h2, and_self, decide_true, Bool.true_or]
theorem mulOk_r {i j : Int} (h1 : -(2 ^ 64) < j) (h2 : j < 2 ^ 64) : mulOk i j = true := by simp only [mulOk, h1, h2, and_self, decide_true, Bool.true_or, Bool.or_true]
end DV

namespace DV
open PySem L2
variable {Wx : L2.XK}
def plainTy : List String := ["NoneType", "bool", "int", "str", "list", "tuple"]
/-- a class of the text -/
structure ClsX (g : Gx) (c : Nat) : Prop where
  cl : Cls g.K (g.cl c)
  ha : PySem.W.findIn g.K (.ref (g.cl c)) "__class__" = some (some (.builtin "object.__class__"))
  hn : PySem.W.specialIn g.K (.builtin "object.__class__") "__get__" = some (some (.builtin "getset_descriptor.__get__"))
  htk : PySem.W.takesIn g.K (.builtin "object.__class__") = some true
  hm : PySem.W.mroIn g.K (g.cl c) (.type "object") = some true
  nf : ∀ t ∈ plainTy, PySem.W.subIn g.K (.type t) (.ref (g.cl c)) = some false
theorem ClsX.ty {g : Gx} {c : Nat} (x : ClsX g c) {H : Hp} {a dx : Addr} {fl : List (Str × V)} (e : H a = some (.ins (g.cl c) dx fl)) : TyX g.K H (.ref a) (.ref (g.cl c)) := .base (.ins e x.cl x.ha x.hn x.htk x.hm)
section
variable {g : Gx} {A : Addr → Prop} {H : Hp}
theorem fldL_ok {nm : Str} : ∀ {ks : List Str} {ds : List D} {vs : List V} {d : D}, ks.length = vs.length → Reps g A H ds vs → fldL nm ks ds = some d → ∃ v, (ks.zip vs).lookup nm = some v ∧ Rep g A H d v
  | [], ds, vs, d, _, _, h => by simp only [fldL, reduceCtorEq] at h
  | k :: ks, [], vs, d, _, _, h => by simp only [fldL, reduceCtorEq] at h
  | k :: ks, e :: ds, vs, d, l, r, h => by
    simp only [Reps] at r
    obtain ⟨v, w, rfl, r1, r2⟩ := r
    simp only [fldL] at h
    rw [List.zip_cons_cons, List.lookup_cons]
    split at h
    · rename_i q
      subst q
      cases h
      exact ⟨v, by simp, r1⟩
    · rename_i q
      obtain ⟨u, h1, h2⟩ := fldL_ok (by simpa using l) r2 h
      have : (nm == k) = false := by simpa using q
      exact ⟨u, by simp only [this]; exact h1, h2⟩
end
section
variable {X : Cx} {g : Gx} {fs : List FS} {a : Expr} {ia : E} {nm : Str} {pos : Pos}
/-! ### calls, by what they do -/
theorem callD_core {F : FS} {xs : List RV} {vs : List V} {Bn : Addr → Prop} {Ow : List Addr} {H : Hp} {σ : St} {Γ Γ' : Ct} {r : RV} {n : Nat} {Q : VK} {E : XK} (rs : RS g Bn Ow H σ Γ) (hv : VlW g Bn Ow H σ Γ xs vs) (he : callD F xs Γ = some (r, Γ')) (hn : vs.length = n)
    (hQ : ∀ v H' Ow', Stp Ow H Ow' H' → RS g Bn Ow' H' σ Γ' → Val g Bn Ow' H' σ Γ' r v → Q v H') : spF g n F vs H Q E := by
  simp only [callD] at he
  obtain ⟨as, e3, he⟩ := Option.bind_eq_some_iff.mp he
  simp only [Option.ite_none_right_eq_some] at he
  obtain ⟨nd, he⟩ := he
  obtain ⟨⟨r', os⟩, e4, he⟩ := Option.bind_eq_some_iff.mp he
  cases r' with
  | sl i => cases he
  | fz d =>
    simp only [Option.some.injEq, Prod.mk.injEq] at he
    obtain ⟨rfl, rfl⟩ := he
    exact call_core rs hv e3 nd e4 (fun i z => nomatch z) hn fun v H' O2 s2 r2 val _ => hQ v H' O2 s2 r2 val
  | nw d =>
    simp only [Option.some.injEq, Prod.mk.injEq] at he
    obtain ⟨rfl, rfl⟩ := he
    exact call_core rs hv e3 nd e4 (fun i z => nomatch z) hn fun v H' O2 s2 r2 val _ => hQ v H' O2 s2 r2 val
theorem evs_len {es : List E} : ∀ {Γ Γ' : Ct} {xs : List RV}, evs fs es Γ = some (xs, Γ') → es.length = xs.length := by
  induction es with
  | nil => intro Γ Γ' xs h; simp only [evs, Option.some.injEq, Prod.mk.injEq] at h; rw [← h.1]; rfl
  | cons a es ih =>
    intro Γ Γ' xs h
    simp only [evs] at h
    obtain ⟨⟨y, G1⟩, _, h⟩ := Option.bind_eq_some_iff.mp h
    obtain ⟨⟨ys, G2⟩, h2, h⟩ := Option.map_eq_some_iff.mp h
    simp only [Prod.mk.injEq] at h
    rw [← h.1, List.length_cons, List.length_cons, ih h2]
/-- a method of the class c -/
structure Mtd (P : Program) (w : World) (mg : Str → Option Value) (base : Heap) (g : Gx) (k : Nat) (c : Nat) (x : Str) (n : Nat) (F : FS) : Prop where
  ex : ∃ f fd ps, Cls g.K (g.cl c) ∧ Meth g.K (g.cl c) x f ∧ Binds g.K fd ps [] ∧ FnOk P w g.K mg base CX0 k f fd ps (spF g n F)
theorem Mtd.mono {P : Program} {w : World} {mg : Str → Option Value} {base : Heap} {j k c : Nat} {x : Str} {n : Nat} {F : FS} (h : Mtd P w mg base g j c x n F) (l : j ≤ k) : Mtd P w mg base g k c x n F := by
  obtain ⟨f, fd, ps, h1, h2, h3, h4⟩ := h.ex
  exact ⟨f, fd, ps, h1, h2, h3, h4.mono l⟩
section
variable {o e : Expr} {es : List Expr} {io : E} {ies : List E} {c k i n : Nat} {F : FS} {m : Str} {apos : Pos}
end
/-! ### a new object -/
theorem FnOk.kf {P : Program} {w : World} {K : PySem.W.Frag} {mg : Str → Option Value} {base : Heap} {CX : CXT} {k : Nat} {f : Addr} {fd : FuncData} {ps : List Str} {sp : Sp} (F : FnOk P w K mg base CX k f fd ps sp) :
    FnOk P w K mg base CX k f fd ps (fun vs H Q E => vs.length = ps.length ∧ (kfs K H → sp vs H Q E)) :=
  ⟨fun vs H Q E q => q.1, fun A outer s H args us vs Q E hr he hb hv hs => F.run A outer s H args us vs Q E hr he hb hv (hs.2 fun a o l => (he.bs a o (he.mod.kin a o l)).2)⟩
structure Mkd (P : Program) (w : World) (mg : Str → Option Value) (base : Heap) (g : Gx) (k : Nat) (c : Nat) (x : Str) (n : Nat) (F : FS) : Prop where
  ex : ∃ f fd ps, mg x = some (.ref (g.cl c)) ∧ Mk g.K (g.cl c) f ∧ Binds g.K fd ps [] ∧ ps.length = n + 1 ∧ FnOk P w g.K mg base CX0 k f fd ps (spF g (n + 1) F)
theorem Mkd.mono {P : Program} {w : World} {mg : Str → Option Value} {base : Heap} {j k c : Nat} {x : Str} {n : Nat} {F : FS} (h : Mkd P w mg base g j c x n F) (l : j ≤ k) : Mkd P w mg base g k c x n F := by
  obtain ⟨f, fd, ps, h1, h2, h3, h5, h4⟩ := h.ex
  exact ⟨f, fd, ps, h1, h2, h3, h5, h4.mono l⟩
section
variable {e : Expr} {es : List Expr} {ies : List E} {c k i n : Nat} {F : FS} {x : Str} {p : Pos}
end
end
end DV

namespace DV
open PySem L2
section
variable {X : Cx} {g : Gx} {k : Nat} {f C : Addr} {fd : FuncData} {ps : List Str} {sp : Sp}
end
end DV

namespace DV
open PySem L2
section
variable {X : Cx} {g : Gx} {k : Nat} {f C : Addr} {fd : FuncData} {ps : List Str} {sp : Sp}
end
end DV

namespace DV
open PySem L2
section
variable {X : Cx} {g : Gx} {fs : List FS} {a b : Expr} {ia ib : E} {pos : Pos} {c k i : Nat} {F : FS}
section
variable {op : COp} {o : OOp} {p : Bool → Bool}
end
end
end DV

namespace DV
open PySem L2
section
variable {X : Cx} {g : Gx} {k : Nat} {f C : Addr} {fd : FuncData} {ps : List Str} {sp : Sp}
/-! ### o + p -/
/-! ### o[i] -/
/-! ### len(o) -/
end
section
variable {X : Cx} {g : Gx} {fs : List FS} {a b : Expr} {ia ib : E} {pos : Pos} {c k i : Nat} {F : FS}
end
end DV

namespace DV
open PySem L2
section
variable {g : Gx} {Bn : Addr → Prop} {Ow : List Addr} {H : Hp} {σ : St} {Γ : Ct}
theorem VlW.of : ∀ {xs : List RV} {vs : List V}, xs.length = vs.length → (∀ (i : Nat) x, xs[i]? = some x → ∃ v, vs[i]? = some v ∧ Val g Bn Ow H σ Γ x v) → (∀ (i k : Nat) d e v, xs[i]? = some (.nw d) → xs[k]? = some (.nw e) → vs[i]? = some v → vs[k]? = some v → i = k) → VlW g Bn Ow H σ Γ xs vs
  | [], vs, l, _, _ => by
    have : vs = [] := List.length_eq_zero_iff.mp l.symm
    exact this
  | x :: xs, [], l, _, _ => by simp at l
  | x :: xs, v :: vs, l, h, u => by
    refine ⟨v, vs, rfl, ?_, ?_, VlW.of (by simpa using l) (fun i y e => ?_) fun i k d e w h1 h2 h3 h4 => ?_⟩
    · obtain ⟨w, e1, e2⟩ := h 0 x rfl
      simp at e1; subst e1
      exact e2
    · intro d e j e' h1 h2
      have := u 0 (j + 1) d e' v (by simp [e]) (by simpa using h1) rfl (by simpa using h2)
      omega
    · obtain ⟨w, e1, e2⟩ := h (i + 1) y (by simpa using e)
      exact ⟨w, by simpa using e1, e2⟩
    · have := u (i + 1) (k + 1) d e w (by simpa using h1) (by simpa using h2) (by simpa using h3) (by simpa using h4)
      omega
theorem permL_get {α : Type} : ∀ {p : List Nat} {xs : List α}, (∀ i ∈ p, i < xs.length) → ∀ j : Nat, (permL p xs)[j]? = (p[j]?).bind fun i => xs[i]?
  | [], xs, _, j => by simp [permL]
  | i :: p, xs, h, j => by
    have hi := h i List.mem_cons_self
    have e : permL (i :: p) xs = xs[i] :: permL p xs := by simp [permL, List.getElem?_eq_getElem hi]
    rw [e]
    cases j with
    | zero => simp [List.getElem?_eq_getElem hi]
    | succ j => simpa using permL_get (fun k hk => h k (List.mem_cons_of_mem _ hk)) j
theorem permL_len {α : Type} {p : List Nat} {xs : List α} (h : ∀ i ∈ p, i < xs.length) : (permL p xs).length = p.length := by
  induction p with
  | nil => simp [permL]
  | cons i p ih =>
    have hi := h i List.mem_cons_self
    have e : permL (i :: p) xs = xs[i] :: permL p xs := by simp [permL, List.getElem?_eq_getElem hi]
    rw [e, List.length_cons, List.length_cons, ih fun k hk => h k (List.mem_cons_of_mem _ hk)]
theorem nodupB_iff : ∀ {p : List Nat}, nodupB p = true → p.Nodup
  | [], _ => List.nodup_nil
  | x :: p, h => by
    obtain ⟨h1, h2⟩ := nodupB_cons h
    exact List.nodup_cons.mpr ⟨h1, nodupB_iff h2⟩
theorem VlW.perm {p : List Nat} {xs : List RV} {vs : List V} (h : VlW g Bn Ow H σ Γ xs vs) (hp : permOk p xs.length = true) : VlW g Bn Ow H σ Γ (permL p xs) (permL p vs) := by
  simp only [permOk, Bool.and_eq_true, List.all_eq_true, decide_eq_true_eq] at hp
  obtain ⟨nd, hr⟩ := hp
  have hr' : ∀ i ∈ p, i < vs.length := fun i m => by rw [← h.len]; exact hr i m
  refine VlW.of (by rw [permL_len hr, permL_len hr']) (fun i x e => ?_) fun i k d e v h1 h2 h3 h4 => ?_
  · rw [permL_get hr] at e
    obtain ⟨j, e1, e2⟩ := Option.bind_eq_some_iff.mp e
    obtain ⟨v, e3, e4⟩ := h.get e2
    exact ⟨v, by rw [permL_get hr', e1]; exact e3, e4⟩
  · rw [permL_get hr] at h1 h2
    rw [permL_get hr'] at h3 h4
    obtain ⟨j1, a1, a2⟩ := Option.bind_eq_some_iff.mp h1
    obtain ⟨j2, b1, b2⟩ := Option.bind_eq_some_iff.mp h2
    rw [a1] at h3
    rw [b1] at h4
    have := h.uniq a2 b2 h3 h4
    subst this
    exact ((List.getElem?_inj (List.getElem?_eq_some_iff.mp a1).1 (nodupB_iff nd)).mp (a1.trans b1.symm))
end
section
variable {X : Cx} {g : Gx} {fs : List FS}
/-- one behind another -/
def tFold (g : Gx) (fs : List FS) : List E → TA
  | [] => tNil
  | ie :: ies => tCons (tR g fs ie) (tFold g fs ies)
theorem fold_mono : ∀ {is : List E} {σ : St} {H : Hp} {Q Q' : List V → Hp → Prop}, (∀ vs H', Q vs H' → Q' vs H') → tFold g fs is σ H Q → tFold g fs is σ H Q'
  | [], _, _, _, _, k, h => k _ _ h
  | i :: is, σ, H, Q, Q', k, h => by
    obtain ⟨Bn, Ow, Γ, x, Γ1, rs, e1, kk⟩ := h
    exact ⟨Bn, Ow, Γ, x, Γ1, rs, e1, fun v H1 O1 s1 r1 v1 => fold_mono (fun vs H' q => k _ _ q) (kk v H1 O1 s1 r1 v1)⟩
theorem kf_nil : PK X [] (tFold g fs []) := pk_nil
theorem kf_cons {a : Expr} {kws : List Keyword} {nm : Option Str} {kpos : Pos} {ia : E} {ies : List E} (ha : PE X a (tR g fs ia)) (hr : PK X kws (tFold g fs ies)) : PK X (⟨nm, a, kpos⟩ :: kws) (tFold g fs (ia :: ies)) := pk_cons ha hr
theorem fold_one {ies : List E} : ∀ {jes : List E} {σ : St} {H : Hp} {Q : List V → Hp → Prop}, tAw g fs (jes ++ ies) σ H Q → tFold g fs jes σ H fun vs H1 => tAw g fs ies σ H1 fun zs H2 => Q (vs ++ zs) H2
  | [], _, _, _, h => h
  | j :: jes, σ, H, Q, h => by
    obtain ⟨Bn, Ow, Γ, x, Γ1, rs, e1, kk⟩ := aw_split h
    exact ⟨Bn, Ow, Γ, x, Γ1, rs, e1, fun v H1 O1 s1 r1 v1 => fold_one (kk v H1 O1 s1 r1 v1)⟩
theorem aw_done {σ : St} {H : Hp} {Q : List V → Hp → Prop} (h : tAw g fs [] σ H Q) : Q [] H := by
  obtain ⟨Bn, Ow, Γ, xs, Γ', rs, he, hQ⟩ := h
  simp only [evs, Option.some.injEq, Prod.mk.injEq] at he
  obtain ⟨rfl, rfl⟩ := he
  exact hQ [] H Ow (.refl _ _) rs rfl
def dfl (ns : List Int) : List E := ns.map fun n => .cst (.int n)
theorem aw_dfl : ∀ {ns : List Int} {σ : St} {H : Hp} {Q : List V → Hp → Prop}, tAw g fs (dfl ns) σ H Q → Q (ns.map .int) H
  | [], _, _, _, h => aw_done h
  | n :: ns, σ, H, Q, h => by
    obtain ⟨Bn, Ow, Γ, x, Γ1, rs, e1, kk⟩ := aw_split h
    simp only [ev, Option.some.injEq, Prod.mk.injEq] at e1
    obtain ⟨rfl, rfl⟩ := e1
    exact aw_dfl (Q := fun vs H2 => Q (.int n :: vs) H2) (kk (.int n) H Ow (.refl _ _) rs (by simp only [Val, Rep]))
theorem fold_all {ies jes : List E} {ns : List Int} {σ : St} {H : Hp} {Q : List V → Hp → Prop} (h : tAw g fs (ies ++ (jes ++ dfl ns)) σ H Q) : tFold g fs ies σ H fun vs H1 => tFold g fs jes σ H1 fun zs H2 => Q (vs ++ (zs ++ ns.map .int)) H2 := by
  exact fold_mono (fun vs H1 q => fold_mono (fun zs H2 q => aw_dfl q) (fold_one q)) (fold_one h)
theorem fold_len : ∀ {ies : List E} {σ : St} {H : Hp} {Q : List V → Hp → Prop}, tFold g fs ies σ H Q → tFold g fs ies σ H fun vs H1 => vs.length = ies.length ∧ Q vs H1
  | [], _, _, _, h => ⟨rfl, h⟩
  | i :: is, σ, H, Q, h => by
    obtain ⟨Bn, Ow, Γ, x, Γ1, rs, e1, kk⟩ := h
    refine ⟨Bn, Ow, Γ, x, Γ1, rs, e1, fun v H1 O1 s1 r1 v1 => ?_⟩
    have q := fold_len (kk v H1 O1 s1 r1 v1)
    exact fold_mono (fun vs H' q => ⟨by rw [List.length_cons, List.length_cons, q.1], q.2⟩) q
theorem fold_len2 {ies jes : List E} {σ : St} {H : Hp} {Q : List V → List V → Hp → Prop} (h : tFold g fs ies σ H fun vs H1 => tFold g fs jes σ H1 fun zs H2 => Q vs zs H2) : tFold g fs ies σ H fun vs H1 => tFold g fs jes σ H1 fun zs H2 => vs.length = ies.length ∧ zs.length = jes.length ∧ Q vs zs H2 := by
  exact fold_mono (fun vs H1 q => fold_mono (fun zs H2 q2 => ⟨q.1, q2.1, q2.2⟩) (fold_len q.2)) (fold_len h)
/-- a def called with n values and keywords ks; p: where each parameter stands -/
structure CalK (P : Program) (w : World) (mg : Str → Option Value) (base : Heap) (g : Gx) (k : Nat) (x : Str) (n : Nat) (ks : List Str) (p : List Nat) (F : FS) : Prop where
  ex : ∃ f fd ps gg gV, mg x = some (.ref f) ∧ PySem.W.keepIn g.K (.ref f) = true ∧ KBn g.K fd ps n ks gg gV ∧ (∀ vs zs : List V, vs.length = n → zs.length = ks.length → gV vs zs = permL p (vs ++ zs)) ∧ FnOk P w g.K mg base CX0 k f fd ps (spF g p.length F)
theorem CalK.mono {P : Program} {w : World} {mg : Str → Option Value} {base : Heap} {j k n : Nat} {x : Str} {ks : List Str} {p : List Nat} {F : FS} (h : CalK P w mg base g j x n ks p F) (l : j ≤ k) : CalK P w mg base g k x n ks p F := by
  obtain ⟨f, fd, ps, gg, gV, h1, h2, h3, h5, h4⟩ := h.ex
  exact ⟨f, fd, ps, gg, gV, h1, h2, h3, h5, h4.mono l⟩
theorem callp_core {i : Nat} {ies jes : List E} {p : List Nat} {F : FS} {σ : St} {H : Hp} {Q : VK} {Ex : XK} (hF : fs[i]? = some F) (h : tR g fs (.callp i p (ies ++ jes)) σ H Q) :
    tFold g fs ies σ H fun vs H1 => tFold g fs jes σ H1 fun zs H2 => vs.length = ies.length ∧ zs.length = jes.length ∧ spF g p.length F (permL p (vs ++ zs)) H2 Q Ex := by
  obtain ⟨Bn, Ow, Γ, r, Γ', rs, he, hQ⟩ := h
  simp only [ev] at he
  obtain ⟨⟨xs, Γ1⟩, e1, he⟩ := Option.bind_eq_some_iff.mp he
  obtain ⟨F', e4, he⟩ := Option.bind_eq_some_iff.mp he
  rw [hF] at e4; cases e4
  simp only [Option.ite_none_right_eq_some] at he
  obtain ⟨hp, he⟩ := he
  have key : tAw g fs (ies ++ (jes ++ dfl [])) σ H fun ws H2 => spF g p.length F (permL p ws) H2 Q Ex := by
    rw [show dfl [] = ([] : List E) from rfl, List.append_nil]
    refine ⟨Bn, Ow, Γ, xs, Γ1, rs, e1, fun ws H1 O1 s1 r1 v1 => ?_⟩
    have hr : ∀ i ∈ p, i < ws.length := by
      simp only [permOk, Bool.and_eq_true, List.all_eq_true, decide_eq_true_eq] at hp
      rw [← v1.len]; exact hp.2
    exact callD_core r1 (v1.perm hp) he (permL_len hr) fun v H' O' st => hQ v H' O' (s1.trans st)
  have := fold_len2 (fold_all key)
  simpa only [List.map_nil, List.append_nil] using this
section
variable {e : Expr} {es : List Expr} {kws : List Keyword} {ies jes : List E} {c k i n : Nat} {ks : List Str} {F : FS} {x : Str} {p : List Nat} {q pos : Pos} {ns : List Int}
theorem c_callK0 (c : CalK X.prog X.w X.mg X.base g k x 0 ks p F) (C : Cok0 g X) (hF : fs[i]? = some F) (hj : jes.length = ks.length) (hr : Room k X.A) (hg : Gl X x) (hkw : PK X kws (tFold g fs jes))
    (hall : (backToKw pos (keywordEach kws X.env)).all (·.1.isSome) = true) (hks : (backToKw pos (keywordEach kws X.env)).filterMap (·.1) = ks) (hdb : (x == ("__debug__" : Str)) = false)
    (hpl : ((backTo pos (starEach [] X.env)).any (·.1) || (backToKw pos (keywordEach kws X.env)).any (·.1.isNone)) = false) :
    PE X (.Call (.Name x q) [] kws pos) (tR g fs (.callp i p jes)) := by
  obtain ⟨f, fd, ps, gg, gV, h1, h2, h3, h5, h4⟩ := c.ex
  rw [← C.K] at h2 h3 h4
  refine ⟨fun pins s σ H Q I h => ?_⟩
  have core : tFold g fs jes σ H fun zs H2 => zs.length = jes.length ∧ spF g p.length F (permL p zs) H2 Q E0 := by
    have := callp_core (Ex := E0) (ies := []) hF h
    exact fold_mono (fun vs H1 q => ⟨q.2.1, by simpa using q.2.2⟩) this
  refine wpAny_Call_Name_kw (ld_glob I hg h1 ?_ hdb)
  refine PySem.W.callWith_KW0 (h₀ := X.base) I.ok.mod.kin h2 hall ?_ hpl
  refine thn (hkw.run pos pins s σ H _ I core) fun ws s2 ⟨zs, H2, I2, rz, l1, q2⟩ => ⟨I2.kIn, ?_⟩
  rw [hks]
  exact run_fnN (us := []) (vs := []) h4 hr h3 pass0 I2 .nil rz rfl (l1.trans hj) (by rw [h5 [] zs rfl (l1.trans hj)]; exact q2)
/-- a new object, called with n values and keywords ks; ns: the numbers that lack -/
structure MkdK (P : Program) (w : World) (mg : Str → Option Value) (base : Heap) (g : Gx) (k : Nat) (c : Nat) (x : Str) (n : Nat) (ks : List Str) (p : List Nat) (ns : List Int) (F : FS) : Prop where
  ex : ∃ f fd ps gg gV, mg x = some (.ref (g.cl c)) ∧ Mk g.K (g.cl c) f ∧ KBn g.K fd ps (n + 1) ks gg gV ∧ (∀ (s : V) (vs zs : List V), vs.length = n → zs.length = ks.length → gV (s :: vs) zs = s :: permL p (vs ++ (zs ++ ns.map .int))) ∧ ps.length = p.length + 1 ∧ FnOk P w g.K mg base CX0 k f fd ps (spF g (p.length + 1) F)
theorem MkdK.mono {P : Program} {w : World} {mg : Str → Option Value} {base : Heap} {j k c n : Nat} {x : Str} {ks : List Str} {p : List Nat} {ns : List Int} {F : FS} (h : MkdK P w mg base g j c x n ks p ns F) (l : j ≤ k) : MkdK P w mg base g k c x n ks p ns F := by
  obtain ⟨f, fd, ps, gg, gV, h1, h2, h3, h5, h6, h4⟩ := h.ex
  exact ⟨f, fd, ps, gg, gV, h1, h2, h3, h5, h6, h4.mono l⟩
end
end
end DV

namespace DV
open PySem L2
variable {Wx : L2.XK}
section
variable {P : Program} {w : World} {mg : Str → Option Value} {base : Heap} {g : Gx} {fs : List FS}
theorem paired_get {α β : Type} {R : α → β → Prop} : ∀ {xs : List α} {ys : List β}, Paired R xs ys → ∀ i : Nat, (∃ x y, xs[i]? = some x ∧ ys[i]? = some y ∧ R x y) ∨ (xs[i]? = none ∧ ys[i]? = none)
  | _, _, .nil, i => .inr ⟨by simp, by simp⟩
  | _, _, .cons r t, 0 => .inl ⟨_, _, rfl, rfl, r⟩
  | _, _, .cons r t, i + 1 => by simpa using paired_get t i
theorem paired_perm {α β : Type} {R : α → β → Prop} {xs : List α} {ys : List β} (h : Paired R xs ys) : ∀ p : List Nat, Paired R (permL p xs) (permL p ys)
  | [] => .nil
  | i :: p => by
    have ih := paired_perm h p
    rcases paired_get h i with ⟨x, y, e1, e2, r⟩ | ⟨e1, e2⟩
    · have a1 : permL (i :: p) xs = x :: permL p xs := by simp [permL, e1]
      have a2 : permL (i :: p) ys = y :: permL p ys := by simp [permL, e2]
      rw [a1, a2]
      exact .cons r ih
    · have a1 : permL (i :: p) xs = permL p xs := by simp [permL, e1]
      have a2 : permL (i :: p) ys = permL p ys := by simp [permL, e2]
      rw [a1, a2]
      exact ih
/-- keywords of a def without defaults -/
theorem fun_kbn {K : PySem.W.Frag} {x qual : Str} {st : Stmt} {f : Addr} {fd : FuncData} {ps : List Str} (F : Fun K x qual st f fd) {n : Nat} {ks : List Str} {p : List Nat}
    (h : ∀ (kV doc pm : Value) (an : Option Addr) (cdv ct : Value) (us ws : List Value), us.length = n → ws.length = ks.length → bindArgs (PySem.W.fnOf x qual (defArgs st) (defBody st) (defScope st) .none kV doc pm an cdv ct) ⟨us, ks.zip ws⟩ = pure (ps.zip (permL p (us ++ ws)))) :
    KBn K fd ps n ks (fun us ws => permL p (us ++ ws)) (fun vs zs => permL p (vs ++ zs)) := by
  obtain ⟨oc, od, kV, doc, pm, an, cdv, ct, osl, rfl, lk, hcd⟩ := F.ex
  exact ⟨fun s us ws _ l1 l2 => .of_eq (h kV doc pm an cdv ct us ws l1 l2), fun r1 r2 => paired_perm (r1.append r2) p⟩
theorem calk_of {x qual : Str} {st : Stmt} {f : Addr} {fd : FuncData} {ps : List Str} {n np k : Nat} {ks : List Str} {p : List Nat} {F : FS} (Fu : Fun g.K x qual st f fd) (hm : mg x = some (.ref f)) (hp : p.length = np) (G : FnOk P w g.K mg base CX0 k f fd ps (spF g np F))
    (h : ∀ (kV doc pm : Value) (an : Option Addr) (cdv ct : Value) (us ws : List Value), us.length = n → ws.length = ks.length → bindArgs (PySem.W.fnOf x qual (defArgs st) (defBody st) (defScope st) .none kV doc pm an cdv ct) ⟨us, ks.zip ws⟩ = pure (ps.zip (permL p (us ++ ws)))) : CalK P w mg base g k x n ks p F := by
  subst hp
  exact ⟨f, fd, ps, _, _, hm, Fu.kp, fun_kbn Fu h, fun vs zs _ _ => rfl, G⟩
end
section
variable {X : Cx} {g : Gx} {fs : List FS} {x : Str} {pos : Pos}
end
end DV

namespace DV
open PySem L2
theorem all_nil {α : Type} (P : α → Prop) : ∀ c ∈ ([] : List α), P c := fun _ h => nomatch h
theorem all_cons {α : Type} {P : α → Prop} {c : α} {cs : List α} (h : P c) (t : ∀ c ∈ cs, P c) : ∀ d ∈ c :: cs, P d := fun d m => by
  rcases List.mem_cons.mp m with rfl | m
  · exact h
  · exact t d m
theorem so_eq (d e : D) : selfO .eq d e = (d, e) := rfl
theorem so_ne (d e : D) : selfO .ne d e = (d, e) := rfl
theorem so_in (d e : D) : selfO .inn d e = (e, d) := rfl
theorem so_ni (d e : D) : selfO .notin d e = (e, d) := rfl
theorem so_ix (d e : D) : selfO .ix d e = (d, e) := rfl
theorem so_ad (d e : D) : selfO .add d e = (d, e) := rfl
theorem oo_eq (c : Nat) (e : D) : okO .eq c e = (isObj c e || plainB e) := rfl
theorem oo_ne (c : Nat) (e : D) : okO .ne c e = (isObj c e || plainB e) := rfl
theorem oo_in (c : Nat) (e : D) : okO .inn c e = true := rfl
theorem oo_ni (c : Nat) (e : D) : okO .notin c e = true := rfl
theorem oo_ix (c : Nat) (e : D) : okO .ix c e = true := rfl
theorem oo_ad (c : Nat) (e : D) : okO .add c e = isObj c e := rfl
theorem pb_non : plainB .non = true := rfl
theorem pb_int (i : Int) : plainB (.int i) = true := rfl
theorem pb_bl (i : Bool) : plainB (.bl i) = true := rfl
theorem pb_str (i : Str) : plainB (.str i) = true := rfl
theorem pb_lst (i : List D) : plainB (.lst i) = true := rfl
theorem pb_tup (i : List D) : plainB (.tup i) = true := rfl
theorem ic_non (cs : List Nat) (c : Nat) : iscD cs c .non = some false := rfl
theorem ic_int (cs : List Nat) (c : Nat) (i : Int) : iscD cs c (.int i) = some false := rfl
theorem ic_bl (cs : List Nat) (c : Nat) (i : Bool) : iscD cs c (.bl i) = some false := rfl
theorem ic_str (cs : List Nat) (c : Nat) (i : Str) : iscD cs c (.str i) = some false := rfl
theorem ic_lst (cs : List Nat) (c : Nat) (i : List D) : iscD cs c (.lst i) = some false := rfl
theorem ic_tup (cs : List Nat) (c : Nat) (i : List D) : iscD cs c (.tup i) = some false := rfl
theorem io_non (c : Nat) : isObj c .non = false := rfl
theorem io_int (c : Nat) (i : Int) : isObj c (.int i) = false := rfl
theorem io_bl (c : Nat) (i : Bool) : isObj c (.bl i) = false := rfl
theorem io_str (c : Nat) (i : Str) : isObj c (.str i) = false := rfl
theorem io_lst (c : Nat) (i : List D) : isObj c (.lst i) = false := rfl
theorem io_tup (c : Nat) (i : List D) : isObj c (.tup i) = false := rfl
def clOf (cs : List Addr) : Nat → Addr := fun c => cs.getD c 0
section
variable {X : Cx} {g : Gx} {fs : List FS} {a b : Expr} {ia ib : E} {pos : Pos} {c k i : Nat} {F : FS}
end
end DV

namespace DV
open PySem L2
/-! ### single steps of the evaluation -/
section
variable {fs : List FS} {a b c : E} {es : List E} {Γ Γ1 Γ2 Γ3 Γ4 Γ5 : Ct} {x y r r' : RV} {xs : List RV} {d e d' e' : D} {F : FS} {k i : Nat} {t : Bool}
end
end DV

namespace DV
theorem nrf_s : (∀ d, nrf (.nw d) = true) ∧ (∀ i, nrf (.fz (.int i)) = true) ∧ (∀ i, nrf (.fz (.str i)) = true) ∧ (∀ i, nrf (.fz (.bl i)) = true) ∧ (∀ i, nrf (.fz (.lst i)) = true) ∧ (∀ i, nrf (.fz (.tup i)) = true) ∧ (∀ a b c, nrf (.fz (.obj a b c)) = true) ∧ nrf (.fz .non) = true ∧ (∀ a b, nrf (.fz (.dic a b)) = true) ∧ nrf (.fz .dct) = true ∧ (∀ a b c, nrf (.fz (.err a b c)) = true) ∧ (∀ i, nrf (.fz (.scr i)) = true) ∧ (∀ i, nrf (.sl i) = true) := ⟨fun _ => rfl, fun _ => rfl, fun _ => rfl, fun _ => rfl, fun _ => rfl, fun _ => rfl, fun _ _ _ => rfl, rfl, fun _ _ => rfl, rfl, fun _ _ _ => rfl, fun _ => rfl, fun _ => rfl⟩
/-- the evaluation equations, as one fact -/
def SC := And.intro nrf_s (And.intro (And.intro (And.intro (And.intro (And.intro (And.intro (And.intro (@DV.runF.eq_1) (And.intro (@DV.exs.eq_1) (@DV.exs.eq_2))) (And.intro (And.intro (@DV.ex.eq_1) (@DV.ex.eq_2)) (And.intro (@DV.ex.eq_3) (@DV.ex.eq_4)))) (And.intro (And.intro (And.intro (@DV.ex.eq_5) (@DV.ex.eq_6)) (And.intro (@DV.ex.eq_7) (@DV.ex.eq_8))) (And.intro (And.intro (@DV.ex.eq_9) (@DV.ex.eq_10)) (And.intro (@DV.ex.eq_11) (@DV.ex.eq_12))))) (And.intro (And.intro (And.intro (@DV.ex.eq_13) (And.intro (@DV.ex.eq_14) (@DV.ex.eq_15))) (And.intro (And.intro (@DV.ex.eq_16) (@DV.ev.eq_1)) (And.intro (@DV.ev.eq_2) (@DV.ev.eq_3)))) (And.intro (And.intro (And.intro (@DV.ev.eq_4) (@DV.ev.eq_5)) (And.intro (@DV.ev.eq_6) (@DV.ev.eq_7))) (And.intro (And.intro (@DV.ev.eq_8) (@DV.ev.eq_9)) (And.intro (@DV.ev.eq_10) (@DV.ev.eq_11)))))) (And.intro (And.intro (And.intro (And.intro (@DV.ev.eq_12) (And.intro (@DV.ev.eq_13) (@DV.ev.eq_14))) (And.intro (And.intro (@DV.ev.eq_15) (@DV.ev.eq_16)) (And.intro (@DV.ev.eq_17) (@DV.ev.eq_18)))) (And.intro (And.intro (And.intro (@DV.evs.eq_1) (@DV.evs.eq_2)) (And.intro (@DV.evc.eq_1) (@DV.evc.eq_2))) (And.intro (And.intro (@DV.evn.eq_1) (@DV.evn.eq_2)) (And.intro (@DV.parS.eq_1) (@DV.parS.eq_2))))) (And.intro (And.intro (And.intro (And.intro (@DV.parS.eq_3) (@DV.datums.eq_1)) (And.intro (@DV.datums.eq_2) (@DV.datum.eq_1))) (And.intro (And.intro (@DV.datum.eq_2) (@DV.datum.eq_3)) (And.intro (@DV.fre.eq_1) (@DV.fre.eq_2)))) (And.intro (And.intro (And.intro (@DV.fre.eq_3) (@DV.fres.eq_1)) (And.intro (@DV.fres.eq_2) (@DV.argSs.eq_1))) (And.intro (And.intro (@DV.argSs.eq_2) (@DV.argS.eq_1)) (And.intro (@DV.argS.eq_2) (@DV.argS.eq_3))))))) (And.intro (And.intro (And.intro (And.intro (And.intro (@DV.nodupB.eq_1) (And.intro (@DV.nodupB.eq_2) (@DV.ownIx.eq_1))) (And.intro (And.intro (@DV.ownIx.eq_2) (@DV.ownIx.eq_3)) (And.intro (@DV.putOuts.eq_1) (@DV.putOuts.eq_2)))) (And.intro (And.intro (And.intro (@DV.putOuts.eq_3) (@DV.biD.eq_1)) (And.intro (@DV.biD.eq_2) (@DV.biD.eq_3))) (And.intro (And.intro (@DV.biD.eq_4) (@DV.biD.eq_5)) (And.intro (@DV.biD.eq_6) (@DV.biD.eq_7))))) (And.intro (And.intro (And.intro (And.intro (@DV.biD.eq_8) (@DV.biD.eq_9)) (And.intro (@DV.biD.eq_10) (@DV.biD.eq_11))) (And.intro (And.intro (@DV.biD.eq_12) (@DV.biD.eq_13)) (And.intro (@DV.biD.eq_14) (@DV.biD.eq_15)))) (And.intro (And.intro (And.intro (@DV.biD.eq_16) (@DV.biD.eq_17)) (And.intro (@DV.biD.eq_18) (@DV.biD.eq_19))) (And.intro (And.intro (@DV.isiD.eq_1) (@DV.isiD.eq_2)) (And.intro (@DV.isiD.eq_3) (@DV.isiD.eq_4)))))) (And.intro (And.intro (And.intro (And.intro (@DV.isiD.eq_5) (And.intro (@DV.isiD.eq_6) (@DV.isiD.eq_7))) (And.intro (And.intro (@DV.shallow.eq_1) (@DV.shallow.eq_4)) (And.intro (@DV.shallow.eq_6) (@DV.testD.eq_1)))) (And.intro (And.intro (And.intro (@DV.truthD.eq_1) (@DV.truthD.eq_2)) (And.intro (@DV.truthD.eq_3) (@DV.truthD.eq_4))) (And.intro (And.intro (@DV.truthD.eq_5) (@DV.truthD.eq_6)) (And.intro (@DV.truthD.eq_7) (@DV.truthD.eq_8))))) (And.intro (And.intro (And.intro (And.intro (@DV.finish.eq_1) (@DV.finish.eq_2)) (And.intro (@DV.finish.eq_3) (@DV.finish.eq_4))) (And.intro (And.intro (@DV.finish.eq_5) (@DV.outsOf.eq_1)) (And.intro (@DV.outsOf.eq_2) (@DV.outsOf.eq_3)))) (And.intro (And.intro (And.intro (@DV.ownPs.eq_1) (@DV.ownPs.eq_2)) (And.intro (@DV.ownPs.eq_3) (@DV.disjB.eq_1))) (And.intro (And.intro (@DV.isLst.eq_1) (@DV.appD.eq_1)) (And.intro (@DV.extD.eq_1) (@DV.setD.eq_1)))))))) (And.intro (And.intro (And.intro (And.intro (And.intro (And.intro (@DV.asgT.eq_1) (And.intro (@DV.asgT.eq_2) (@DV.asgT.asgTs.eq_1))) (And.intro (And.intro (@DV.asgT.asgTs.eq_2) (@DV.tgIx.eq_1)) (And.intro (@DV.tgIx.eq_2) (@DV.tgIx.tgIxs.eq_1)))) (And.intro (And.intro (And.intro (@DV.tgIx.tgIxs.eq_2) (@DV.iterD.eq_1)) (And.intro (@DV.iterD.eq_2) (@DV.iterD.eq_3))) (And.intro (And.intro (@DV.it_rng) (@DV.binD.eq_1)) (And.intro (@DV.binD.eq_2) (@DV.binD.eq_3))))) (And.intro (And.intro (And.intro (And.intro (@DV.binD.eq_4) (@DV.binD.eq_5)) (And.intro (@DV.binD.eq_6) (@DV.binD.eq_7))) (And.intro (And.intro (@DV.binD.eq_8) (@DV.binD.eq_9)) (And.intro (@DV.binD.eq_10) (@DV.cmpD.eq_3)))) (And.intro (And.intro (And.intro (@DV.cmpD.eq_4) (@DV.cmpD.eq_5)) (And.intro (@DV.cmpD.eq_6) (@DV.cmpD.eq_7))) (And.intro (And.intro (@DV.cmpD.eq_8) (@DV.cmpD.eq_9)) (And.intro (@DV.cmpD.eq_10) (@DV.cmpD.eq_11)))))) (And.intro (And.intro (And.intro (And.intro (@DV.cmpD.eq_12) (And.intro (@DV.isNonD.eq_1) (@DV.isNonD.eq_2))) (And.intro (And.intro (@DV.ixD.eq_1) (@DV.ixD.eq_2)) (And.intro (@DV.ixD.eq_3) (@DV.ixD.eq_4)))) (And.intro (And.intro (And.intro (@DV.slcD.eq_1) (@DV.slcD.eq_2)) (And.intro (@DV.slcD.eq_3) (@DV.slO.eq_1))) (And.intro (And.intro (@DV.slO.eq_2) (@DV.plainIx.eq_1)) (And.intro (@DV.wipeG.eq_1) (@DV.wipeG.eq_2))))) (And.intro (And.intro (And.intro (And.intro (@DV.restG.eq_1) (@DV.restG.eq_2)) (And.intro (@DV.flatD.eq_1) (@DV.flatD.eq_2))) (And.intro (And.intro (@DV.flatD.eq_3) (@DV.flatD.eq_4)) (And.intro (@DV.flatD.eq_5) (@DV.ex.eq_17)))) (And.intro (And.intro (And.intro (@DV.ev.eq_19) (@DV.ev.eq_20)) (And.intro (@DV.ev.eq_21) (@DV.ev.eq_22))) (And.intro (And.intro (@DV.ev.eq_23) (@DV.ev.eq_24)) (And.intro (@DV.ev.eq_25) (@DV.ev.eq_26))))))) (And.intro (And.intro (And.intro (And.intro (And.intro (@DV.callD.eq_1) (And.intro (@DV.mkD.eq_1) (@DV.fldL.eq_1))) (And.intro (And.intro (@DV.fldL.eq_2) (@DV.fldD.eq_1)) (And.intro (@DV.fldD.eq_2) (@DV.isObj.eq_1)))) (And.intro (And.intro (And.intro (@DV.hasF.eq_1) (@DV.hasF.eq_2)) (And.intro (@DV.postO.eq_1) (@DV.postO.eq_2))) (And.intro (And.intro (@DV.postO.eq_3) (@DV.postO.eq_4)) (And.intro (@DV.postO.eq_5) (@DV.postO.eq_6))))) (And.intro (And.intro (And.intro (And.intro (@DV.plainO.eq_1) (@DV.plainO.eq_2)) (And.intro (@DV.plainO.eq_3) (@DV.plainO.eq_4))) (And.intro (And.intro (@DV.plainO.eq_5) (@DV.plainO.eq_6)) (And.intro (@DV.so_eq) (@DV.so_ne)))) (And.intro (And.intro (And.intro (@DV.so_in) (@DV.so_ni)) (And.intro (@DV.so_ix) (@DV.so_ad))) (And.intro (And.intro (@DV.oo_eq) (@DV.oo_ne)) (And.intro (@DV.oo_in) (@DV.oo_ni)))))) (And.intro (And.intro (And.intro (And.intro (@DV.oo_ix) (And.intro (@DV.oo_ad) (@DV.pb_non))) (And.intro (And.intro (@DV.pb_int) (@DV.pb_bl)) (And.intro (@DV.pb_str) (@DV.pb_lst)))) (And.intro (And.intro (And.intro (@DV.pb_tup) (@DV.ic_non)) (And.intro (@DV.ic_int) (@DV.ic_bl))) (And.intro (And.intro (@DV.ic_str) (@DV.ic_lst)) (And.intro (@DV.ic_tup) (@DV.io_non))))) (And.intro (And.intro (And.intro (And.intro (@DV.io_int) (@DV.io_bl)) (And.intro (@DV.io_str) (@DV.io_lst))) (And.intro (And.intro (@DV.io_tup) (@DV.putL.eq_1)) (And.intro (@DV.putL.eq_2) (@DV.putD.eq_1)))) (And.intro (And.intro (And.intro (@DV.putD.eq_2) (@DV.iscD.eq_1)) (And.intro (@DV.iscD.eq_2) (@DV.plainB.eq_1))) (And.intro (And.intro (@DV.plainB.eq_2) (@DV.permL.eq_1)) (And.intro (@DV.permOk.eq_1) (@DV.dfl.eq_1)))))))))
/-- those of == -/
def SE := And.intro (And.intro (And.intro (And.intro (@DV.cmpD.eq_1) (@DV.cmpD.eq_2)) (And.intro (@DV.okB.eq_1) (@DV.okB.eq_2))) (And.intro (And.intro (@DV.okB.eq_3) (@DV.okB.eq_4)) (And.intro (@DV.okB.eq_5) (And.intro (@DV.okB.eq_6) (@DV.eqd.eq_1))))) (And.intro (And.intro (And.intro (@DV.eqd.eq_2) (@DV.eqd.eq_3)) (And.intro (@DV.eqd.eq_4) (And.intro (@DV.eqd.eq_5) (@DV.eqd.eq_6)))) (And.intro (And.intro (@DV.eqd.eq_7) (@DV.eqd.eq_8)) (And.intro (@DV.eqds.eq_1) (And.intro (@DV.eqds.eq_2) (@DV.eqds.eq_3)))))
end DV

namespace DV
open PySem L2
/-! ### what is pinned matters only where it is stored -/
mutual
def asgOf : S → List Nat
  | .asg tg _ => tgIx tg
  | .asgO i _ => [i]
  | .par is _ => is.map (·.1)
  | .ite _ a b => asgOfs a ++ asgOfs b
  | .whl _ b => asgOfs b
  | .for_ tg _ _ b => tgIx tg ++ asgOfs b
  | .grow _ _ _ _ tg _ _ _ _ => tgIx tg
  | .xex _ (.asg tg) => tgIx tg
  | .xex _ (.asgO i) => [i]
  | .try_ _ _ i b => [i] ++ asgOfs b
  | .sem is _ => is
  | _ => []
def asgOfs : List S → List Nat
  | [] => []
  | s :: ss => asgOf s ++ asgOfs ss
end
theorem disjB_app {a b c : List Nat} (h : disjB (a ++ b) c = true) : disjB a c = true ∧ disjB b c = true := by
  simp only [disjB, List.all_append, Bool.and_eq_true] at h
  exact h
theorem forLoop_imp {tg : Tg} {f g : Ct → Option Out} (h : ∀ Γ o, f Γ = some o → g Γ = some o) : ∀ (ds : List D) (Γ : Ct) (o : Out), forLoop tg f ds Γ = some o → forLoop tg g ds Γ = some o
  | [], Γ, o, e => e
  | d :: ds, Γ, o, e => by
    simp only [forLoop] at e ⊢
    obtain ⟨Γ1, e1, e⟩ := Option.bind_eq_some_iff.mp e
    obtain ⟨o1, e2, e⟩ := Option.bind_eq_some_iff.mp e
    rw [e1]
    simp only [Option.bind_some]
    rw [h Γ1 o1 e2]
    simp only [Option.bind_some]
    cases o1 with
    | nx Γ2 => exact forLoop_imp h ds Γ2 o e
    | ct Γ2 => exact forLoop_imp h ds Γ2 o e
    | bk Γ2 => exact e
    | rt r Γ2 => exact e
    | xc c ks ds Γ2 => exact e
theorem whlLoop_imp {c : Ct → Option (Bool × Ct)} {f g : Ct → Option Out} (h : ∀ Γ o, f Γ = some o → g Γ = some o) : ∀ (n : Nat) (Γ : Ct) (o : Out), whlLoop c f n Γ = some o → whlLoop c g n Γ = some o
  | 0, Γ, o, e => e
  | n + 1, Γ, o, e => by
    simp only [whlLoop] at e ⊢
    obtain ⟨⟨b, Γ1⟩, e1, e⟩ := Option.bind_eq_some_iff.mp e
    rw [e1]
    simp only [Option.bind_some] at e ⊢
    cases b with
    | false => exact e
    | true =>
      simp only [if_true] at e ⊢
      obtain ⟨o1, e2, e⟩ := Option.bind_eq_some_iff.mp e
      rw [h Γ1 o1 e2]
      simp only [Option.bind_some]
      cases o1 with
      | nx Γ2 => exact whlLoop_imp h n Γ2 o e
      | ct Γ2 => exact whlLoop_imp h n Γ2 o e
      | bk Γ2 => exact e
      | rt r Γ2 => exact e
      | xc c ks ds Γ2 => exact e
mutual
theorem ex_pn {fs : List FS} {pn pn' : List Nat} : ∀ (s : S), disjB (asgOf s) pn' = true → ∀ (Γ : Ct) (o : Out), ex fs pn s Γ = some o → ex fs pn' s Γ = some o
  | .stuck, _, Γ, o, e => by simp only [ex, reduceCtorEq] at e
  | .pass, _, Γ, o, e => e
  | .brk, _, Γ, o, e => e
  | .cont, _, Γ, o, e => e
  | .retN, _, Γ, o, e => e
  | .asg tg a, h, Γ, o, e => by
    simp only [asgOf] at h
    simp only [ex] at e ⊢
    obtain ⟨⟨x, Γ1⟩, e1, e⟩ := Option.bind_eq_some_iff.mp e
    obtain ⟨⟨d, Γ2⟩, e2, e⟩ := Option.bind_eq_some_iff.mp e
    simp only [Option.ite_none_right_eq_some] at e
    simp only [e1, Option.bind_some, e2, h, if_true]
    exact e.2
  | .asgO i a, h, Γ, o, e => by
    simp only [asgOf] at h
    simp only [ex] at e ⊢
    obtain ⟨⟨x, Γ1⟩, e1, e⟩ := Option.bind_eq_some_iff.mp e
    simp only [e1, Option.bind_some]
    simp only at e
    cases x with
    | nw d =>
      simp only [Option.ite_none_right_eq_some] at e ⊢
      exact ⟨⟨e.1.1, h⟩, e.2⟩
    | fz d =>
      simp only at e ⊢
      obtain ⟨⟨d, Γ2⟩, e2, e⟩ := Option.bind_eq_some_iff.mp e
      simp only [e2, Option.bind_some, Option.ite_none_right_eq_some] at e ⊢
      exact ⟨⟨e.1.1, h⟩, e.2⟩
    | sl j =>
      simp only at e ⊢
      obtain ⟨⟨d, Γ2⟩, e2, e⟩ := Option.bind_eq_some_iff.mp e
      simp only [e2, Option.bind_some, Option.ite_none_right_eq_some] at e ⊢
      exact ⟨⟨e.1.1, h⟩, e.2⟩
  | .par is es, h, Γ, o, e => by
    simp only [asgOf] at h
    simp only [ex, Option.ite_none_right_eq_some] at e ⊢
    exact ⟨h, e.2⟩
  | .expr a, _, Γ, o, e => e
  | .app i a, _, Γ, o, e => e
  | .ext i a, _, Γ, o, e => e
  | .seti i k a, _, Γ, o, e => e
  | .ret a, _, Γ, o, e => e
  | .ite c a b, h, Γ, o, e => by
    simp only [asgOf] at h
    obtain ⟨h1, h2⟩ := disjB_app h
    simp only [ex] at e ⊢
    obtain ⟨⟨x, Γ1⟩, e1, e⟩ := Option.bind_eq_some_iff.mp e
    obtain ⟨t, e2, e⟩ := Option.bind_eq_some_iff.mp e
    simp only [e1, Option.bind_some, e2]
    simp only at e
    cases t with
    | true => exact exs_pn a h1 _ _ e
    | false => exact exs_pn b h2 _ _ e
  | .whl c b, h, Γ, o, e => by
    simp only [asgOf] at h
    simp only [ex] at e ⊢
    exact whlLoop_imp (fun Γ o => exs_pn b h Γ o) _ _ _ e
  | .for_ tg ik its b, h, Γ, o, e => by
    simp only [asgOf] at h
    obtain ⟨h1, h2⟩ := disjB_app h
    simp only [ex] at e ⊢
    obtain ⟨⟨xs, Γ1⟩, e1, e⟩ := Option.bind_eq_some_iff.mp e
    obtain ⟨⟨ds, Γ2⟩, e2, e⟩ := Option.bind_eq_some_iff.mp e
    simp only [Option.ite_none_right_eq_some] at e
    simp only [e1, Option.bind_some, e2, h1, if_true]
    exact forLoop_imp (fun Γ o => exs_pn b h2 Γ o) _ _ _ e.2
  | .setf c i nm a, _, Γ, o, e => e
  | .xapp a d, _, Γ, o, e => e
  | .grow c i nm e0 tg e1 e2 k a, h, Γ, o, e => by
    simp only [asgOf] at h
    simp only [ex] at e ⊢
    obtain ⟨⟨x, Γ1⟩, q1, e⟩ := Option.bind_eq_some_iff.mp e
    rw [q1]
    simp only [Option.bind_some] at e ⊢
    split at e
    · rename_i L0 c1 ks ds z
      simp only [Option.ite_none_right_eq_some] at e ⊢
      refine ⟨⟨e.1.1, e.1.2.1, e.1.2.2.1, e.1.2.2.2.1, ?_⟩, e.2⟩
      have h2 := e.1.2.2.2.2
      simp only [disjB, List.all_eq_true] at h h2 ⊢
      intro y hy
      have q2 := h y hy
      have q3 := h2 y hy
      simp only [List.contains_cons, Bool.not_or, Bool.and_eq_true] at q3 ⊢
      exact ⟨q3.1, q2⟩
    · cases e
  | .rse c ks es, _, Γ, o, e => e
  | .xex a .drop, _, Γ, o, e => e
  | .xex a .ret, _, Γ, o, e => e
  | .xex a (.asg tg), h, Γ, o, e => by
    simp only [asgOf] at h
    simp only [ex] at e ⊢
    obtain ⟨⟨x, Γ1⟩, e1, e⟩ := Option.bind_eq_some_iff.mp e
    rw [e1]
    simp only [Option.bind_some] at e ⊢
    split at e
    · exact e
    · obtain ⟨⟨d, Γ2⟩, e2, e⟩ := Option.bind_eq_some_iff.mp e
      simp only [Option.ite_none_right_eq_some] at e
      simp only [e2, Option.bind_some, h, if_true]
      exact e.2
  | .xex a (.asgO i), h, Γ, o, e => by
    simp only [asgOf] at h
    simp only [ex] at e ⊢
    obtain ⟨⟨x, Γ1⟩, e1, e⟩ := Option.bind_eq_some_iff.mp e
    rw [e1]
    simp only [Option.bind_some] at e ⊢
    split at e
    · exact e
    · split at e
      · simp only [Option.ite_none_right_eq_some] at e ⊢
        exact ⟨⟨e.1.1, h⟩, e.2⟩
      · obtain ⟨⟨d, Γ2⟩, e2, e⟩ := Option.bind_eq_some_iff.mp e
        simp only [e2, Option.bind_some, Option.ite_none_right_eq_some] at e ⊢
        exact ⟨⟨e.1.1, h⟩, e.2⟩
  | .try_ a all i b, h, Γ, o, e => by
    simp only [asgOf] at h
    obtain ⟨h1, h2⟩ := disjB_app h
    simp only [ex] at e ⊢
    obtain ⟨⟨x, Γ1⟩, e1, e⟩ := Option.bind_eq_some_iff.mp e
    rw [e1]
    simp only [Option.bind_some] at e ⊢
    split at e
    · simp only [Option.ite_none_right_eq_some] at e ⊢
      obtain ⟨⟨h3, _, h4⟩, e⟩ := e
      obtain ⟨o1, e2, e⟩ := Option.bind_eq_some_iff.mp e
      exact ⟨⟨h3, h1, h4⟩, by rw [exs_pn b h2 _ _ e2]; exact e⟩
    · exact e
  | .sem is F, h, Γ, o, e => by
    simp only [asgOf] at h
    simp only [ex, Option.ite_none_right_eq_some] at e ⊢
    exact ⟨h, e.2⟩
theorem exs_pn {fs : List FS} {pn pn' : List Nat} : ∀ (ss : List S), disjB (asgOfs ss) pn' = true → ∀ (Γ : Ct) (o : Out), exs fs pn ss Γ = some o → exs fs pn' ss Γ = some o
  | [], _, Γ, o, e => e
  | s :: ss, h, Γ, o, e => by
    simp only [asgOfs] at h
    obtain ⟨h1, h2⟩ := disjB_app h
    simp only [exs] at e ⊢
    obtain ⟨o1, e1, e⟩ := Option.bind_eq_some_iff.mp e
    rw [ex_pn s h1 Γ o1 e1]
    simp only [Option.bind_some]
    cases o1 with
    | nx Γ1 => exact exs_pn ss h2 Γ1 o e
    | ct Γ2 => exact e
    | bk Γ2 => exact e
    | rt r Γ2 => exact e
    | xc c ks ds Γ2 => exact e
end
theorem exs_app {fs : List FS} {pn : List Nat} : ∀ {l1 l2 : List S} {Γ Γ1 : Ct}, exs fs pn l1 Γ = some (.nx Γ1) → exs fs pn (l1 ++ l2) Γ = exs fs pn l2 Γ1
  | [], l2, Γ, Γ1, h => by simp only [DV.exs.eq_1, Option.some.injEq, Out.nx.injEq] at h; rw [h]; rfl
  | s :: l1, l2, Γ, Γ1, h => by
    rw [List.cons_append]
    simp only [DV.exs.eq_2] at h ⊢
    obtain ⟨o, e1, h⟩ := Option.bind_eq_some_iff.mp h
    rw [e1]
    cases o with
    | nx Γ2 => exact exs_app h
    | bk _ => cases h
    | ct _ => cases h
    | rt _ _ => cases h
    | xc _ _ _ _ => cases h
/-- a def, whatever of its arguments is owned -/
theorem runF_pn {fs : List FS} {np n : Nat} {body : List S} {G0 : Ct} {o : Out} {r : RV × Ct} {pn : List Nat} (hl : G0.length = np) (hd : disjB (asgOfs body) (ownPs 0 G0) = true) (e : exs fs pn body (G0 ++ List.replicate (n - np) none) = some o) (f : DV.finish np G0 o = some r) : runF fs np n body G0 = some r :=
  runF_by hl (exs_pn body hd _ _ e) f
end DV

namespace DV
open PySem L2 PySem.Spec
/-! ### a op b op c op d -/
section
open PyProof.Rows
variable {X : Cx} {a b c d : Expr} {ta tb tc td : TE} {pos : Pos}
end
section
variable {X : Cx} {g : Gx} {fs : List FS} {a b c d : Expr} {ia ib ic id' : E} {pos : Pos} {Bn : Addr → Prop} {Ow : List Addr} {H : Hp} {σ : St} {Γ Γ' : Ct}
/-! ### xs[::-1] -/
theorem p_rev {k : Nat} {p1 p2 p3 : Pos} (C : Cok0 g X) (ha : PE X a (tR g fs ia)) : PE X (.Subscript a (.Slice none none (some (.UnaryOp .USub (.Constant (.int 1) k p1) p2)) p3) pos) (tR g fs (.rev ia)) := by
  refine PE.weak (PE.kf (pe_revL ha)) ?_
  rintro σ H Q ⟨Bn, Ow, Γ, r, Γ', rs, he, hQ⟩
  simp only [ev] at he
  obtain ⟨⟨x, Γ1⟩, e1, he⟩ := Option.bind_eq_some_iff.mp he
  obtain ⟨d, e2, he⟩ := Option.bind_eq_some_iff.mp he
  obtain ⟨d', e3, he⟩ := Option.map_eq_some_iff.mp he
  simp only [Prod.mk.injEq] at he
  obtain ⟨rfl, rfl⟩ := he
  refine ⟨Bn, Ow, Γ, x, Γ1, rs, e1, fun v H1 O1 s1 r1 v1 => ?_⟩
  have rd := v1.rdb r1 e2
  cases d <;> simp only [revD, reduceCtorEq, Option.some.injEq] at e3
  rename_i xs
  subst e3
  obtain ⟨p, vs, rfl, hp, rp⟩ := rd
  rw [C.K]
  refine ⟨p, vs, rfl, .inl (.inl hp), fun q hq kf => ?_⟩
  have sm : Same H1 (upd H1 q (.lst vs.reverse)) := same_new hq
  obtain ⟨O2, s2, r2, v2⟩ := Res.val (r := .nw (.lst xs.reverse)) r1 sm (new_lst hq (kf_new kf upd_same) rp.rev)
  exact hQ _ _ O2 (s1.trans s2) r2 v2
end
end DV

namespace DV
open PySem L2 PySem.Spec
/-! ### sorted pairs of ints -/
section
variable {X : Cx} {g : Gx}
open Classical in
variable {fs : List FS} {e : Expr} {es : List Expr} {ies : List E} {p pos : Pos}
/-! ### X.append(constant), X new -/
end
/-! ### an empty dict, as a datum that says nothing -/
theorem p_dct {X : Cx} {g : Gx} {fs : List FS} {pos : Pos} : PE X (.Dict [] [] pos) (tR g fs .dct) := by
  refine PE.weak pe_dnewK ?_
  rintro σ H Q ⟨Bn, Ow, Γ, r, Γ', rs, he, hQ⟩
  simp only [ev, Option.some.injEq, Prod.mk.injEq] at he
  obtain ⟨rfl, rfl⟩ := he
  intro p hp
  have sm : Same H (upd H p (.dK [])) := same_new hp
  refine hQ _ _ Ow (.same sm) (rs.same sm) ?_
  simp only [Val, Rep]
  exact ⟨p, rfl, fun z => rs.trk p z hp, upd_same⟩
end DV

namespace DV
open PySem L2
/-! ### an argument that was only read comes back as it was handed over -/
section
variable {g : Gx} {A : Addr → Prop} {H : Hp} {a : Addr} {ws : List V}
end
end DV

namespace DV
/-- further evaluation equations -/
def SX := And.intro (@DV.tupGt.eq_1) <| And.intro (@DV.cmpD.eq_13) <| And.intro (@DV.ev.eq_36) <| And.intro (@DV.ev.eq_37) <| And.intro (@DV.ev.eq_38) <| And.intro (@DV.ev.eq_39) <| And.intro (@DV.biD.eq_23) <| And.intro (@DV.biD.eq_24) <| And.intro (@DV.lstOf.eq_1) <| And.intro (@DV.ev.eq_35) <| And.intro (@DV.isLD.eq_1) <| And.intro (@DV.idxD.eq_1) <| And.intro (@DV.ev.eq_32) <| And.intro (@DV.ev.eq_33) <| And.intro (@DV.ev.eq_34) <| And.intro (@DV.mxdD.eq_1) <| And.intro (@DV.cntD.eq_1) <| And.intro (@DV.ev.eq_27) (And.intro (@DV.ev.eq_28) (And.intro (@DV.ev.eq_29) (And.intro (@DV.ev.eq_30) (And.intro (@DV.ev.eq_31) (And.intro (@DV.rnglD.eq_1) (And.intro (@DV.tupOf.eq_1) (And.intro (@DV.tneD.eq_1) (And.intro (@DV.tneD.eq_2) (And.intro (@DV.trueR.eq_1) (And.intro (@DV.ex.eq_18) (And.intro (@DV.revD.eq_1) (And.intro (@DV.biD.eq_20) (@DV.sortD.eq_1)))))))))))))
end DV


namespace DV
open PySem L2 PySem.Spec
section
variable {X : Cx} {g : Gx} {fs : List FS} {a b : Expr} {ia ib : E} {pos p p2 pos2 : Pos}
theorem reps_rg {A : Addr → Prop} {H : Hp} : ∀ (n : Nat) (lo : Int) (f : Nat → V), (∀ i, f i = .int (lo + (i : Nat))) → Reps g A H (rngD lo 1 n) ((List.range n).map f)
  | 0, lo, f, _ => by simp [rngD, Reps]
  | n + 1, lo, f, h => by
    rw [List.range_succ_eq_map, List.map_cons, List.map_map, rngD]
    simp only [Reps]
    refine ⟨_, _, rfl, ?_, reps_rg n (lo + 1) _ fun i => ?_⟩
    · rw [h 0]; simp [Rep]
    · show f (i + 1) = _
      rw [h (i + 1)]
      congr 1
      omega
end
end DV

namespace DV
open PySem L2 PySem.Spec
section
variable {X : Cx} {g : Gx} {fs : List FS} {pos : Pos}
theorem VlN.same {Bn : Addr → Prop} {Ow : List Addr} {H H' : Hp} {σ : St} {Γ : Ct} (s : Same H H') : ∀ {xs : List RV} {vs : List V}, VlN g Bn Ow H σ Γ xs vs → VlN g Bn Ow H' σ Γ xs vs
  | [], _, h => h
  | x :: xs, _, ⟨v, r, e, h1, h2, h3, h4⟩ => by
    refine ⟨v, r, e, ?_, h2, h3, VlN.same s h4⟩
    cases x with
    | fz d => exact Rep.same h1 s
    | nw d => obtain ⟨a, e1, m1, o1, n1⟩ := h1; exact ⟨a, e1, m1, o1.same s, n1⟩
    | sl i => exact (h3 i rfl).elim
end
end DV

namespace DV
open PySem L2 PySem.Spec
/-! ### a list in a field of a new object grows -/
theorem Stp.cons {O O' : List Addr} {H H' : Hp} (s : Stp O H O' H') (p : Addr) : Stp (p :: O) H (p :: O') H' where
  keep0 := fun a o h t n => s.keep0 a o h t fun z => n (List.mem_cons_of_mem _ z)
  grow := fun a h => by
    rcases List.mem_cons.mp h with h | h
    · exact .inl (by rw [h]; exact List.mem_cons_self)
    · rcases s.grow a h with z | z
      · exact .inl (List.mem_cons_of_mem _ z)
      · exact .inr z
section
variable {g : Gx} {Bn : Addr → Prop} {Ow Ow' : List Addr} {H H' : Hp} {σ : St} {Γ Γ' : Ct}
theorem RS.drop (rs : RS g Bn Ow H σ Γ) (i : Nat) : RS g Bn Ow H σ (Γ.set i none) := by
  have low : ∀ {j : Nat} {p : D × Bool}, (Γ.set i none)[j]? = some (some p) → Γ[j]? = some (some p) := fun {j p} h => by
    by_cases hj : i = j
    · subst hj
      by_cases hl : i < Γ.length
      · rw [List.getElem?_set_self hl] at h; cases h
      · rw [List.getElem?_eq_none (by rw [List.length_set]; omega)] at h; cases h
    · rw [List.getElem?_set_ne hj] at h; exact h
  exact ⟨by rw [List.length_set]; exact rs.len, fun j d h => rs.slot j d (low h), fun j d h => rs.own j d (low h), fun j k d e a h1 h2 => rs.dist j k d e a (low h1) (low h2), rs.trl, rs.sep, rs.kf, rs.tabs⟩
/-- what stands while the list grows -/
structure GrowS (g : Gx) (B : Addr → Prop) (p L dx : Addr) (c : Nat) (ks : List Str) (ds : List D) (nm : Str) (O : List Addr) (H : Hp) (Ls : List D) : Prop where
  bp : B p
  bL : B L
  ne : L ≠ p
  self : ∃ vs, ks.length = vs.length ∧ H p = some (.ins (g.cl c) dx ((ks ++ [nm]).zip (vs ++ [.ref L]))) ∧ Reps g (Av B O) H ds vs
  list : ∃ ws, H L = some (.lst ws) ∧ Reps g (Av B O) H Ls ws
theorem GrowS.step {B : Addr → Prop} {p L dx : Addr} {c : Nat} {ks : List Str} {ds : List D} {nm : Str} {Ls : List D} (G : GrowS g B p L dx c ks ds nm Ow H Ls) (sp : ∀ a, B a → a ∉ Ow) (s : Stp Ow H Ow' H') (rs : RS g B Ow' H' σ Γ) : GrowS g B p L dx c ks ds nm Ow' H' Ls := by
  obtain ⟨vs, l, h, r⟩ := G.self
  obtain ⟨ws, h2, r2⟩ := G.list
  exact ⟨G.bp, G.bL, G.ne, ⟨vs, l, s.keep _ _ h (sp _ G.bp), r.step s rs⟩, ⟨ws, s.keep _ _ h2 (sp _ G.bL), r2.step s rs⟩⟩
theorem GrowS.app {B : Addr → Prop} {p L dx : Addr} {c : Nat} {ks : List Str} {ds : List D} {nm : Str} {Ls : List D} {d : D} {v : V} {ws : List V} (G : GrowS g B p L dx c ks ds nm Ow H Ls) (hw : H L = some (.lst ws)) (r : Rep g (Av B Ow) H d v) : GrowS g B p L dx c ks ds nm Ow (upd H L (.lst (ws ++ [v]))) (Ls ++ [d]) := by
  obtain ⟨vs, l, h, r1⟩ := G.self
  obtain ⟨ws', h2, r2⟩ := G.list
  rw [hw] at h2; cases h2
  have vst := ban_vst (g := g) (H := H) (o := .lst (ws ++ [v])) (A := Av B Ow) (p := L) (.inl G.bL)
  exact ⟨G.bp, G.bL, G.ne, ⟨vs, l, by rw [upd_ne (fun z => G.ne z.symm)]; exact h, reps_mono vst _ _ r1⟩, ⟨_, upd_same, reps_mono vst _ _ (r2.app (Reps.one r))⟩⟩
end
section
variable {X : Cx} {g : Gx} {fs : List FS}
end
end DV

namespace DV
open PySem L2 PySem.Spec PyProof.Rows
/-! ### max, min with default= -/
section
variable {X : Cx}
end
section
variable {X : Cx} {g : Gx} {fs : List FS} {a b : Expr} {ia ib : E} {pos p kp : Pos} {es : List Expr}
end

/-! ### list.count, list.index of flat items; list.pop() -/
def rCntV (K : PySem.W.Frag) : V → List V → Hp → VK → Prop := fun x xs H Q => ∃ (a : Addr) (ys : List V) (y : V), x = V.ref a ∧ xs = [y] ∧ SqL K H a ys ∧ flatV y = true ∧ ys.all flatV = true ∧ Q (.int ((ys.countP fun z => eqV z y : Nat) : Int)) H
theorem countP_eqU (y : V) : ∀ {ys : List V} {us : List Value}, Vals ys us → ys.all flatV = true → us.countP (eqU y) = ys.countP fun z => eqV z y
  | _, _, .nil, _ => rfl
  | z :: ys, u :: us, .cons r t, f => by
    rw [List.all_cons, Bool.and_eq_true] at f
    rw [List.countP_cons, List.countP_cons, countP_eqU y t f.2, eqU_of r f.1]
theorem mt_countV {X : Cx} : MtR X "list.count" (rCntV X.K) := by
  intro pins s σ H x xs v us Q I rx rxs h
  obtain ⟨a, ys, y, rfl, rfl, hs, fy, fys, q⟩ := h
  cases rx
  obtain ⟨u, rfl, ru⟩ := rxs.one
  obtain ⟨its, rv, ⟨⟨cls, dd, data, sl⟩, n, ho, hc, hdn, hd⟩, hlen⟩ := I.list hs
  simp only at hc hd
  subst hc hd
  refine call_meets PySem.F.slot_list_count ⟨_, ho, rfl⟩ PySem.F.entry_list_count (PySem.F.args_list_count_2 _ _)
    (SeqAt.list_countAt a its.toArray n dd sl u (eqU y)) ⟨ho, fun u' hu' => mem_eqAt ru fy rv fys u' (by simpa using hu'), ?_⟩
  refine ⟨.int ((ys.countP fun z => eqV z y : Nat) : Int), H, I.tok _, ⟨s.toks, ?_⟩, q⟩
  show Value.int ((its.toArray.toList.countP (eqU y) : Nat) : Int) s.toks = _
  rw [show its.toArray.toList = its from rfl, countP_eqU y rv fys]
section
variable {X : Cx} {g : Gx} {fs : List FS} {a b : Expr} {ia ib : E} {apos cpos : Pos}
theorem isLD_lst {d : D} (h : isLD d = true) : ∃ xs, d = .lst xs := by
  cases d <;> first | exact ⟨_, rfl⟩ | (simp [isLD] at h)
theorem cnt_eq {A : Addr → Prop} {H : Hp} {y : D} {w : V} (hy : flatD y = true) (hw : Rep g A H y w) : ∀ {ds : List D} {vs : List V}, ds.all flatD = true → Reps g A H ds vs → (vs.countP fun z => eqV z w) = (ds.filter fun d => eqd d y).length
  | [], _, _, h => by simp only [Reps] at h; subst h; rfl
  | d :: ds, _, k, h => by
    rw [List.all_cons, Bool.and_eq_true] at k
    simp only [Reps] at h
    obtain ⟨v, r, rfl, h1, h2⟩ := h
    rw [List.countP_cons, cnt_eq hy hw k.2 h2, (flat_rep k.1 h1).2 hy hw, List.filter_cons]
    cases eqd d y <;> simp
theorem cnt_flat {xs : List D} {d r : D} (h : cntD (.lst xs) d = some r) : (flatD d = true ∧ xs.all flatD = true ∧ r = .int ((xs.filter fun y => eqd y d).length : Int)) ∨ (okB 12 d = true ∧ xs.all (okB 12) = true ∧ r = .int ((xs.filter fun y => eqd y d).length : Int)) := by
  simp only [cntD] at h
  split at h
  · rename_i c
    rw [Bool.and_eq_true] at c
    simp only [Option.some.injEq] at h
    exact .inl ⟨c.1, c.2, h.symm⟩
  · simp only [Option.ite_none_right_eq_some, Bool.and_eq_true, Option.some.injEq] at h
    exact .inr ⟨h.1.1, h.1.2, h.2.symm⟩
/-- list.count over plain data -/
def rCntD (K : PySem.W.Frag) : V → List V → Hp → VK → Prop := fun x xs H Q => ∃ (a : Addr) (ys : List V) (y : V) (ds : List PyData) (d : PyData), x = V.ref a ∧ xs = [y] ∧ SqL K H a ys ∧ DpAll K H ys ds ∧ Dp K H y d ∧ PyData.plainAll ds = true ∧ d.plain = true ∧ d.depth ≤ 16 ∧ Q (.int ((ds.countP fun z => PyData.eqv z d : Nat) : Int)) H
theorem mt_countD {X : Cx} (hu : X.A.units + 64 < cLine) : MtR X "list.count" (rCntD X.K) := by
  intro pins s σ H x xs v us Q I rx rxs h
  obtain ⟨a, ys, y, ds, d, rfl, rfl, hs, hds, hd, p1, p2, p3, q⟩ := h
  cases rx
  obtain ⟨u, rfl, ru⟩ := rxs.one
  obtain ⟨its, rv, hl, hz⟩ := I.list hs
  obtain ⟨as, r1⟩ := Dp.readsAll I ds ys its hds rv
  obtain ⟨bs, r2⟩ := Dp.reads I d y u hd ru
  refine PySem.SeqAt.count_list_data hl.isList (by simpa using r1) r2 p1 p2 (by omega) ?_
  exact ⟨.int ((ds.countP fun z => PyData.eqv z d : Nat) : Int), H, I.tok _, ⟨s.toks, rfl⟩, q⟩
theorem cnt_py {d : D} {n : Nat} (hd : okB n d = true) : ∀ {xs : List D}, xs.all (okB n) = true → ((toPys xs).countP fun z => PyData.eqv z (toPy d)) = (xs.filter fun y => eqd y d).length
  | [], _ => rfl
  | x :: xs, h => by
    rw [List.all_cons, Bool.and_eq_true] at h
    rw [toPys, List.countP_cons, cnt_py hd h.2, py_eqv x d n n h.1 hd, List.filter_cons]
    cases eqd x d <;> simp
theorem p_cnt (C : Cok0 g X) (ho : PE X a (tR g fs ia)) (he : PE X b (tR g fs ib)) (hbase : attributeBase a "count" X.env (eval a X.env) = eval a X.env)
    (hline : (apos.endLine == cpos.line) = true) (hs : starEach [b] X.env = [(false, eval b X.env)]) :
    PE X (.Call (.Attribute a "count" apos) [b] [] cpos) (tR g fs (.cnt ia ib)) := by
  refine PE.weak (pe_bm PySem.F.plainAttrs_list PySem.F.slot_list_count PySem.F.type_list_count (MtR.or mt_countV (mt_countD C.hu)) ho (pa_cons he pa_nil (by rw [hs]; rfl)) hbase (by rw [hs]; rfl) hline (by rw [hs]; rfl) rfl) ?_
  rintro σ H Q ⟨Bn, Ow, Γ, r, Γ', rs, he, hQ⟩
  simp only [ev] at he
  obtain ⟨⟨x, Γ1⟩, e1, he⟩ := Option.bind_eq_some_iff.mp he
  obtain ⟨d0, e0, he⟩ := Option.bind_eq_some_iff.mp he
  simp only [Option.ite_none_right_eq_some] at he
  obtain ⟨hl, he⟩ := he
  obtain ⟨⟨y, Γ2⟩, e2, he⟩ := Option.bind_eq_some_iff.mp he
  obtain ⟨d, ed, he⟩ := Option.bind_eq_some_iff.mp he
  obtain ⟨e, ee, he⟩ := Option.bind_eq_some_iff.mp he
  obtain ⟨r', h6, he⟩ := Option.map_eq_some_iff.mp he
  simp only [Prod.mk.injEq] at he
  obtain ⟨rfl, rfl⟩ := he
  rw [← datum_dn] at e0 ed ee
  obtain ⟨xs0, rfl⟩ := isLD_lst hl
  refine tR_one rs e1 fun v H1 O1 s1 r1 v1 => ?_
  obtain ⟨l, ws, rfl, e3, _⟩ := v1.rdb r1 e0
  refine ⟨.inl ⟨rfl, ws, .inl (.inl e3)⟩, tR_one r1 e2 fun w H2 O2 s2 r2 w2 => ?_⟩
  have q1 := (v1.step s2 r2).rdb r2 ed
  have q2 := w2.rdb r2 ee
  cases d with
  | lst xs =>
    obtain ⟨l', ws', el, e4, rp⟩ := q1
    cases el
    rcases cnt_flat h6 with ⟨fe, fx, rfl⟩ | ⟨fe, fx, rfl⟩
    · have hw := rdb_flat fe q2
      refine .inl ⟨_, ws', w, rfl, rfl, ?_, (flat_rep fe hw).1, (flat_reps fx rp fe hw).1, ?_⟩
      · exact .inl (.inl e4)
      · rw [cnt_eq fe hw fx rp]
        exact hQ _ _ O2 (s1.trans s2) r2 (show Rep g (Av Bn O2) H2 _ _ by simp only [Rep])
    · have l1 := py_lay e 12 fe
      have l2 := pys_lay xs 12 fx
      refine .inr ⟨_, ws', w, toPys xs, toPy e, rfl, rfl, .inl (.inl e4), ?_, ?_, PySem.PyData.plainAll_of_canLay0 _ l2.1, PySem.PyData.plain_of_canLay0 _ l1.1, by omega, ?_⟩
      · rw [C.K]; exact reps_dp xs 12 ws' fx rp
      · rw [C.K]; exact rdb_dp fe q2
      · rw [cnt_py fe fx]
        exact hQ _ _ O2 (s1.trans s2) r2 (show Rep g (Av Bn O2) H2 _ _ by simp only [Rep])
  | _ => simp only [cntD, reduceCtorEq] at h6
theorem Reps.dropLast {A : Addr → Prop} {H : Hp} {ds : List D} {vs : List V} (h : Reps g A H ds vs) : Reps g A H ds.dropLast vs.dropLast := by
  rw [List.dropLast_eq_take, List.dropLast_eq_take, ← h.len]
  exact h.take _
/-- a new value, shared from now on -/
theorem p_shr (h : PE X a (tR g fs ia)) : PE X a (tR g fs (.shr ia)) := by
  refine PE.weak h ?_
  rintro σ H Q ⟨Bn, Ow, Γ, r, Γ', rs, he, hQ⟩
  simp only [ev] at he
  obtain ⟨⟨x, Γ1⟩, e1, he⟩ := Option.bind_eq_some_iff.mp he
  obtain ⟨⟨d, Γ2⟩, e2, he⟩ := Option.map_eq_some_iff.mp he
  simp only [Prod.mk.injEq] at he
  obtain ⟨rfl, rfl⟩ := he
  refine ⟨Bn, Ow, Γ, x, Γ1, rs, e1, fun v H1 O1 s1 r1 vl => ?_⟩
  obtain ⟨O2, s2, r2, p2⟩ := fre_ok r1 vl e2
  exact hQ v H1 O2 (s1.trans s2) r2 (by simpa only [Val] using p2)
end
end DV

namespace DV
open PySem L2 PySem.Spec PyProof.Rows
/-! ### min of pairs of ints -/
section
variable {X : Cx} {g : Gx}
end
section
variable {prog : Program} {w : World} {A : Around} {E : Value → Shared → Prop} {s : Shared}
end
section
variable {X : Cx} {g : Gx}
variable {fs : List FS} {e : Expr} {es : List Expr} {ies : List E} {p pos : Pos}
end
end DV


namespace DV
open PySem L2 PySem.Spec
/-! ### dicts that are read -/
section
variable {X : Cx} {g : Gx} {fs : List FS} {a b : Expr} {ia ib : E} {pos : Pos}
end
/-! ### dict(a list of pairs) -/
section
variable {X : Cx} {g : Gx}
variable {fs : List FS} {e : Expr} {es : List Expr} {ies : List E} {p pos : Pos}
end
/-! ### sorted(triples that ascend) -/
section
variable {X : Cx} {g : Gx}
variable {fs : List FS} {e : Expr} {es : List Expr} {ies : List E} {p pos : Pos}
end
/-! ### a op b op c op d, as a test -/
section
open PyProof.Rows
variable {X : Cx} {a b c d : Expr} {ta tb tc td : TE} {pos : Pos}
end
section
variable {X : Cx} {g : Gx} {fs : List FS} {a b c d : Expr} {ia ib ic id' : E} {pos : Pos}
end
end DV

namespace DV
open PySem L2
variable {Wx : L2.XK}
/-! ### defs that may raise -/
/-- the exceptions of the frame are wished for by W -/
abbrev Tk (X : Cx) (W : L2.XK) : Prop := Takes X (fun cls d _ H => W cls d H)
def isXc : RV → Bool
  | .fz (.exc _ _ _) => true
  | _ => false
/-- a def that may raise: what it raises is told as its value -/
def finishX (np : Nat) (G0 : Ct) : Out → Option (RV × Ct)
  | .xc c ks ds _ => some (.fz (.exc c ks ds), List.replicate np none)
  | o => (finish np G0 o).bind fun p => if isXc p.1 then none else some p
def runX (fs : List FS) (np n : Nat) (body : List S) : FS := fun G0 =>
  if G0.length = np then (exs fs (ownPs 0 G0) body (G0 ++ List.replicate (n - np) none)).bind (finishX np G0) else none
/-- what is wished behind a call: an exception is told as its fields -/
def xcQ (g : Gx) (W : L2.XK) (Q : VK) : RV → VK
  | .fz (.exc c _ _) => fun v H' => ∀ d, v = .ref d → W (.ref (g.cl c)) (some d) H'
  | _ => Q
theorem xcQ_no {g : Gx} {W : L2.XK} {Q : VK} {r : RV} (h : isXc r = false) : xcQ g W Q r = Q := by
  cases r with
  | fz d => cases d <;> first | rfl | (simp [isXc] at h)
  | nw d => rfl
  | sl i => rfl
/-- the promise of a def that may raise -/
def spX (g : Gx) (n : Nat) (F : FS) : Sp := fun vs H Q E => spG g n F (xcQ g E Q) vs H
section
variable {g : Gx} {Bn : Addr → Prop} {Ow Ow' : List Addr} {H H' : Hp} {σ : St} {Γ Γ' : Ct}
theorem RS.nones {σ' : St} {k : Nat} (rs : RS g Bn Ow H σ Γ) (hl : σ'.length = k) : RS g Bn Ow H σ' (List.replicate k none) := by
  have no : ∀ (i : Nat) (p : D × Bool), (List.replicate k (none : Sl))[i]? ≠ some (some p) := fun i p h => by
    rw [List.getElem?_replicate] at h
    split at h <;> cases h
  exact ⟨by rw [List.length_replicate]; exact hl, fun i d h => absurd h (no i _), fun i d h => absurd h (no i _), fun i j d e a h => absurd h (no i _), rs.trl, rs.sep, rs.kf, rs.tabs⟩
theorem finishX_ok {vs : List V} {G0 : Ct} {n : Nat} {o : Out} {r : RV} {os : Ct} {Q : VK} (r0 : RS g Bn Ow H (vs.map some) G0) (hn : G0.length ≤ n) (hf : finishX G0.length G0 o = some (r, os))
    (hQ : ∀ v H' Ow', Stp Ow H Ow' H' → RS g Bn Ow' H' (vs.map some) os → Val g Bn Ow' H' (vs.map some) os r v → xcQ g Wx Q r v H') :
    Post g Wx { nx := fun _ H' => Q .non H', rt := Q } (n, (ownPs 0 G0).map fun i => (i, vs.getD i .non)) Bn Ow H o := by
  cases o with
  | xc c ks ds G =>
    simp only [finishX, Option.some.injEq, Prod.mk.injEq] at hf
    obtain ⟨rfl, rfl⟩ := hf
    intro d σ' H' Ow' st rs' pn rp
    exact hQ (.ref d) H' Ow' st (rs'.nones r0.len) rp d rfl
  | nx G =>
    simp only [finishX] at hf
    obtain ⟨⟨r1, o1⟩, f1, f2⟩ := Option.bind_eq_some_iff.mp hf
    split at f2
    · cases f2
    · rename_i n1
      cases f2
      rw [xcQ_no (by simpa using n1)] at hQ
      exact finish_ok r0 hn f1 hQ
  | rt x G =>
    simp only [finishX] at hf
    obtain ⟨⟨r1, o1⟩, f1, f2⟩ := Option.bind_eq_some_iff.mp hf
    split at f2
    · cases f2
    · rename_i n1
      cases f2
      rw [xcQ_no (by simpa using n1)] at hQ
      exact finish_ok r0 hn f1 hQ
  | bk G => simp only [finishX, finish, Option.bind_none, reduceCtorEq] at hf
  | ct G => simp only [finishX, finish, Option.bind_none, reduceCtorEq] at hf
end
/-- a def that can be called, and may raise -/
structure CalX (P : Program) (w : World) (mg : Str → Option Value) (base : Heap) (g : Gx) (k : Nat) (x : Str) (n : Nat) (F : FS) : Prop where
  ex : ∃ f fd ps, mg x = some (.ref f) ∧ PySem.W.keepIn g.K (.ref f) = true ∧ Binds g.K fd ps [] ∧ FnOk P w g.K mg base (L2.CX P w) k f fd ps (spX g n F)
structure MtdX (P : Program) (w : World) (mg : Str → Option Value) (base : Heap) (g : Gx) (k : Nat) (c : Nat) (x : Str) (n : Nat) (F : FS) : Prop where
  ex : ∃ f fd ps, Cls g.K (g.cl c) ∧ Meth g.K (g.cl c) x f ∧ Binds g.K fd ps [] ∧ FnOk P w g.K mg base (L2.CX P w) k f fd ps (spX g n F)
structure MkdX (P : Program) (w : World) (mg : Str → Option Value) (base : Heap) (g : Gx) (k : Nat) (c : Nat) (x : Str) (n : Nat) (F : FS) : Prop where
  ex : ∃ f fd ps, mg x = some (.ref (g.cl c)) ∧ Mk g.K (g.cl c) f ∧ Binds g.K fd ps [] ∧ ps.length = n + 1 ∧ FnOk P w g.K mg base (L2.CX P w) k f fd ps (spX g (n + 1) F)
section
variable {P : Program} {w : World} {mg : Str → Option Value} {base : Heap} {g : Gx} {fs : List FS}
theorem CalX.mono {j k : Nat} {x : Str} {n : Nat} {F : FS} (h : CalX P w mg base g j x n F) (l : j ≤ k) : CalX P w mg base g k x n F := by
  obtain ⟨f, fd, ps, h1, h2, h3, h4⟩ := h.ex
  exact ⟨f, fd, ps, h1, h2, h3, h4.mono l⟩
theorem MtdX.mono {j k c : Nat} {x : Str} {n : Nat} {F : FS} (h : MtdX P w mg base g j c x n F) (l : j ≤ k) : MtdX P w mg base g k c x n F := by
  obtain ⟨f, fd, ps, h1, h2, h3, h4⟩ := h.ex
  exact ⟨f, fd, ps, h1, h2, h3, h4.mono l⟩
theorem MkdX.mono {j k c : Nat} {x : Str} {n : Nat} {F : FS} (h : MkdX P w mg base g j c x n F) (l : j ≤ k) : MkdX P w mg base g k c x n F := by
  obtain ⟨f, fd, ps, h1, h2, h3, h5, h4⟩ := h.ex
  exact ⟨f, fd, ps, h1, h2, h3, h5, h4.mono l⟩
theorem def_fnX {x qual : Str} {st : Stmt} {f : Addr} {fd : FuncData} {N ps : List Str} {k np n : Nat} {ir : List S} (F : Fun g.K x qual st f fd) (S : FnScope N ps (defScope st)) (hp : ps.length = np) (hN : N.length = n) (ge : g.ea = none)
    (hbody : ∀ (cdv : Value) (A : Around) (outer : List Env) (s : Shared) (H : Hp) (E : L2.XK), Room k (cxOf (L2.CX P w) P w g.K mg base N qual (defScope st) f cdv A outer s H E).A → Cok g (cxOf (L2.CX P w) P w g.K mg base N qual (defScope st) f cdv A outer s H E) →
      Tk (cxOf (L2.CX P w) P w g.K mg base N qual (defScope st) f cdv A outer s H E) E → PassesOwn (model P w) (cxOf (L2.CX P w) P w g.K mg base N qual (defScope st) f cdv A outer s H E).A (cxOf (L2.CX P w) P w g.K mg base N qual (defScope st) f cdv A outer s H E).env (cxOf (L2.CX P w) P w g.K mg base N qual (defScope st) f cdv A outer s H E).xe →
      PSs (cxOf (L2.CX P w) P w g.K mg base N qual (defScope st) f cdv A outer s H E) (defBody st) (tSs g E fs ir)) : FnOk P w g.K mg base (L2.CX P w) (k + 1) f fd ps (spX g np (runX fs np n ir)) := by
  refine F.okX S (fun vs H Q E h => by rw [h.1, hp]) fun cdv A outer s H vs Q E hr h => ?_
  refine ⟨_, hbody cdv A outer s H E hr ⟨rfl, rfl, hr.units, S.nd, ge⟩ (takes_of rfl rfl rfl rfl) (passes_of rfl), ?_⟩
  obtain ⟨hl, Bn, Ow, Γ, r, os, rs, ef, nr, hQ⟩ := h
  have hG : Γ.length = np := by rw [← rs.len, List.length_map, hl]
  have hle : np ≤ n := by
    rw [← hN, ← hp]
    have := congrArg List.length S.pre
    rw [List.length_take] at this
    omega
  simp only [runX, hG, if_true] at ef
  obtain ⟨o, e1, e2⟩ := Option.bind_eq_some_iff.mp ef
  have est : L2.start N vs = vs.map some ++ List.replicate (n - np) none := by rw [← hN, ← hl]; rfl
  refine ⟨(n, (ownPs 0 Γ).map fun i => (i, vs.getD i .non)), Bn, Ow, Γ ++ List.replicate (n - np) none, o, ?_, ⟨?_, fun p hp => ?_⟩, ?_, ?_⟩
  · rw [est]; exact rs.start _
  · rw [est, List.length_append, List.length_map, List.length_replicate, hl]; show np + (n - np) = n; omega
  · obtain ⟨i, hi, rfl⟩ := List.mem_map.mp hp
    obtain ⟨j, d, rfl, h⟩ := ownPs_mem.mp hi
    have hj : j < vs.length := by
      have h1 := (List.getElem?_eq_some_iff.mp h).1
      omega
    rw [est]
    show (vs.map some ++ List.replicate (n - np) none)[0 + j]? = some (some (vs.getD (0 + j) .non))
    rw [Nat.zero_add, List.getElem?_append_left (by rw [List.length_map]; exact hj), List.getElem?_map, List.getElem?_eq_getElem hj, List.getD_eq_getElem?_getD, List.getElem?_eq_getElem hj]
    rfl
  · rw [List.map_map]
    show exs fs ((ownPs 0 Γ).map id) ir _ = some o
    rw [List.map_id]
    exact e1
  · rw [← hG] at e2
    exact finishX_ok rs (by omega) e2 hQ
end
/-! ### calls that may raise, as whole statements -/
def tRX (g : Gx) (W : L2.XK) (fs : List FS) (ie : E) : TE := fun σ H Q => ∃ Bn Ow Γ r Γ', RS g Bn Ow H σ Γ ∧ ev fs ie Γ = some (r, Γ') ∧ ∀ v H' Ow', Stp Ow H Ow' H' → RS g Bn Ow' H' σ Γ' → Val g Bn Ow' H' σ Γ' r v → xcQ g W Q r v H'
section
variable {X : Cx} {g : Gx} {fs : List FS} {e : Expr} {es : List Expr} {ie : E} {ies : List E} {x : Str} {p pos : Pos} {c k i n : Nat} {F : FS}
theorem callD_coreG {xs : List RV} {vs : List V} {Bn : Addr → Prop} {Ow : List Addr} {H : Hp} {σ : St} {Γ Γ' : Ct} {r : RV} {R : RV → VK} (rs : RS g Bn Ow H σ Γ) (hv : VlW g Bn Ow H σ Γ xs vs) (he : callD F xs Γ = some (r, Γ')) (hn : vs.length = n)
    (hQ : ∀ v H' Ow', Stp Ow H Ow' H' → RS g Bn Ow' H' σ Γ' → Val g Bn Ow' H' σ Γ' r v → R r v H') : spG g n F R vs H := by
  simp only [callD] at he
  obtain ⟨as, e3, he⟩ := Option.bind_eq_some_iff.mp he
  simp only [Option.ite_none_right_eq_some] at he
  obtain ⟨nd, he⟩ := he
  obtain ⟨⟨r', os⟩, e4, he⟩ := Option.bind_eq_some_iff.mp he
  cases r' with
  | sl i => cases he
  | fz d =>
    simp only [Option.some.injEq, Prod.mk.injEq] at he
    obtain ⟨rfl, rfl⟩ := he
    exact call_coreG rs hv e3 nd e4 (fun i z => nomatch z) hn fun v H' O2 s2 r2 val _ => hQ v H' O2 s2 r2 val
  | nw d =>
    simp only [Option.some.injEq, Prod.mk.injEq] at he
    obtain ⟨rfl, rfl⟩ := he
    exact call_coreG rs hv e3 nd e4 (fun i z => nomatch z) hn fun v H' O2 s2 r2 val _ => hQ v H' O2 s2 r2 val
theorem ev_callD {Γ : Ct} {r : RV × Ct} (h : ev fs (.call k ies) Γ = some r) : ∃ xs Γ1 F, evs fs ies Γ = some (xs, Γ1) ∧ fs[k]? = some F ∧ callD F xs Γ1 = some r := by
  simp only [ev] at h
  obtain ⟨⟨xs, Γ1⟩, e1, h⟩ := Option.bind_eq_some_iff.mp h
  obtain ⟨F, e2, h⟩ := Option.bind_eq_some_iff.mp h
  exact ⟨xs, Γ1, F, e1, e2, h⟩
theorem pass_tk {W : L2.XK} (tk : Tk X W) : Passes (L2.CX X.prog X.w) X W := passes_call tk fun _ _ _ _ h => h
theorem cx_call (c : CalX X.prog X.w X.mg X.base g k x n F) (C : Cok0 g X) (tk : Tk X Wx) (hF : fs[i]? = some F) (hn : ies.length = n) (hr : Room k X.A) (hg : Gl X x)
    (ha : PA X (e :: es) (tAw g fs ies)) (hdb : (x == ("__debug__" : Str)) = false) (he : starEach (e :: es) X.env = (false, eval e X.env) :: starEach es X.env) (hpl : (backTo pos (starEach es X.env)).any (·.1) = false) :
    PE X (.Call (.Name x p) (e :: es) [] pos) (tRX g Wx fs (.call i ies)) := by
  obtain ⟨f, fd, ps, h1, h2, h3, h4⟩ := c.ex
  rw [← C.K] at h2 h3 h4
  refine PE.weak (pe_call h4 hr hg h1 h2 h3 .nil (pass_tk tk) ha hdb he hpl) ?_
  rintro σ H Q ⟨Bn, Ow, Γ, r, Γ', rs, he, hQ⟩
  obtain ⟨xs, Γ1, F', e1, e2, e3⟩ := ev_callD he
  rw [hF] at e2; cases e2
  refine ⟨Bn, Ow, Γ, xs, Γ1, rs, e1, fun vs H1 O1 s1 r1 v1 => ?_⟩
  show spG g n F (xcQ g Wx Q) (vs ++ []) H1
  rw [List.append_nil]
  exact callD_coreG r1 v1 e3 (by rw [← v1.len, ← evs_len e1, hn]) fun v H' O2 s2 r2 val => hQ v H' O2 (s1.trans s2) r2 val
/-! ### statements -/
theorem sx_drop (h : PE X e (tRX g Wx fs ie)) (hs : swapsWith e none pos.line X.env = pure false) : PS X (.Expr e pos) (tSt g Wx fs (.xex ie .drop)) := by
  refine PS.weak (ps_expr h hs) ?_
  rintro Dn σ H ⟨pv, Bn, Ow, Γ, o, rs, pn, he, po⟩
  simp only [ex] at he
  obtain ⟨⟨x, Γ1⟩, e1, he⟩ := Option.bind_eq_some_iff.mp he
  refine ⟨Bn, Ow, Γ, x, Γ1, rs, e1, fun v H1 O1 s1 r1 vl => ?_⟩
  simp only at he
  split at he
  · simp only [Option.some.injEq] at he; subst he
    intro d hd
    subst hd
    exact po d σ H1 O1 s1 r1 pn vl
  · rename_i z
    simp only [Option.some.injEq] at he; subst he
    rw [xcQ_no (by cases x with
      | fz d => cases d <;> first | rfl | exact absurd rfl (z _ _ _)
      | _ => rfl)]
    exact po σ H1 O1 s1 r1 pn
end
end DV

namespace DV
open PySem L2
variable {Wx : L2.XK}
/-! ### errors of the program: own classes over ArithmeticError whose __init__ stores its arguments -/
abbrev aeT : List Value := [.type "ArithmeticError", .type "Exception", .type "BaseException", .type "object"]
/-- what is written of such a class -/
structure AexC (K : PySem.W.Frag) (C : Addr) : Prop where
  ini : PySem.W.excInitIn K C aeT "ArithmeticError.__new__" = true
  ov : PySem.W.excOver K C aeT = true
  hd : PySem.W.hasDictIn K C = true
  sa : PySem.W.findIn K (.ref C) "__setattr__" = some (some (.builtin "object.__setattr__"))
  exC : PySem.W.subIn K (.ref C) (.type "BaseException") = some true
  tyC : PySem.W.typeIn K (.ref C) = some (.type "type")
  kC : PySem.W.keepIn K (.ref C) = true
/-- the class whose __init__ is called with the text -/
structure BexC (K : PySem.W.Frag) (B : Addr) : Prop where
  ga : PySem.W.specialIn K (.ref B) "__getattribute__" = some (some (.builtin "type.__getattribute__"))
  rd : PySem.W.readsIn K B (.type "type") = true
  at_ : PySem.W.findCls K (.ref B) (.type "type") "__init__" = some (.val (.builtin "ArithmeticError.__init__"))
section
variable {X : Cx} {pins : List (Addr × Obj)} {σ : L2.St} {H : Hp} {s : Shared} {a C dx : Addr} {f : Str} {y : V} {u : Value} {fs : List (Str × V)} {Q : Unit → Shared → Prop} {E : Value → Shared → Prop} {A : Around}
/-- the first field -/
theorem aes_new (T : AexC X.K C) (I : Inv X pins σ H s) (e : H a = some (exo a C none)) (hno : PySem.W.takerIn X.K C f = some none) (ry : RelV y u)
    (go : ∀ d z, H d = none → d ≠ a → Inv X pins σ (upd (upd H d (exd d [(f, y)])) a (exo a C (some d))) z → Q () z) : wpAny (model X.prog X.w) A (setAttr (.ref a) f u) Q E s := by
  obtain ⟨cd, hcd, hdc⟩ := PySem.W.any_some T.hd
  obtain ⟨t1, ho⟩ := exo_at I.hok e
  have KI := I.kIn
  obtain ⟨hp, g, dr, t, os⟩ := s
  have J : PySem.W.InstAt hp a { cls := .ref C, dict := none, data := .fields #[.ref t1, .none, .none, .none, .bool false, .none] } C none := ⟨ho, rfl, rfl, trivial⟩
  refine PySem.W.set_plain KI J T.sa ?_
  refine PySem.W.osa_openX (s := ⟨hp, g, dr, t + 1, os⟩) PySem.F.store_ArithmeticError KI J T.ov hno fun b => ?_
  have hcls : PySem.W.Looks (model X.prog X.w) hp (classData C) cd := PySem.W.looks_clsIn KI hcd
  have hxs : a ≠ hp.objs.size := Nat.ne_of_lt (Heap.lt_size ho)
  have fin : ∀ h1 tk1, h1.Ns1 hp.objs.size (fun z => if z = f then some u else none) → Heap.SameBut hp.objs.size ((hp.push { cls := .type "dict", data := .dict #[] }).update a (fun o => { o with dict := some hp.objs.size })) h1 →
      Q () ⟨h1, g, dr, tk1, os⟩ := fun h1 tk1 hn1 hs1 => by
    have ha1 : (hp.push { cls := .type "dict", data := .dict #[] }).get? a = some { cls := .ref C, data := .fields #[.ref t1, .none, .none, .none, .bool false, .none] } := Heap.get?_push_of_some _ ho
    have dn : hp.objs.size ≤ hp.objs.size := Nat.le_refl _
    have hnd : H hp.objs.size = none := I.hok.fresh dn
    have kp : ∀ b o, b ≠ a → hp.get? b = some o → h1.get? b = some o := fun b o hb z =>
      (hs1.2 b (Nat.ne_of_lt (Heap.lt_size z))).trans ((Heap.get?_update_ne _ _ _ _ hb).trans (Heap.get?_push_of_some _ z))
    have hx1 : h1.get? a = some { cls := .ref C, dict := some hp.objs.size, data := .fields #[.ref t1, .none, .none, .none, .bool false, .none] } :=
      (hs1.2 a hxs).trans (Heap.get?_update_self _ ha1 rfl)
    have nd : ∀ {b : Addr} {o : Obj}, hp.get? b = some o → b ≠ hp.objs.size := fun {b o} z => Nat.ne_of_lt (Heap.lt_size z)
    have na : ∀ {b : Addr}, H b = none → b ≠ a := fun {b} n z => by rw [z, e] at n; cases n
    have dne : hp.objs.size ≠ a := fun z => hxs z.symm
    have U : Un X.fs [] H (upd (upd H hp.objs.size (exd hp.objs.size [(f, y)])) a (exo a C (some hp.objs.size))) hp h1 := {
      keep := fun b o z n _ _ => kp b o (na n) z
      slot := fun b o z n _ _ => ⟨o.slots, kp b o (na n) z⟩
      free := fun b o z n _ => by rw [upd_ne (na n), upd_ne (nd z)]; exact n
      there := fun b o z _ => by
        by_cases hb : b = a
        · rw [hb]; exact ⟨_, hx1⟩
        · exact ⟨o, kp b o hb z⟩
      tups := fun b xs z => by rw [upd_ne (at_ne e z exo_tup), upd_ne (ne_of_none z hnd)]; exact z
      frzs := fun b o v z => by rw [upd_ne (at_ne e z exo_frz), upd_ne (ne_of_none z hnd)]; exact z
      tbls := fun b ps z => ⟨#[], by rw [upd_ne (at_ne e z exo_tbl), upd_ne (ne_of_none z hnd), z]; simp⟩ }
    refine go hp.objs.size _ hnd dne (I.un (t' := tk1) U fun b o z => ?_)
    by_cases hb : b = a
    · subst hb; rw [upd_same] at z; cases z; exact exo_ok hx1
    · rw [upd_ne hb] at z
      by_cases hb2 : b = hp.objs.size
      · subst hb2; rw [upd_same] at z; cases z
        exact exd_ok hn1 (relO_put (fs := []) ry fun _ => True.intro)
      · rw [upd_ne hb2] at z
        refine (I.hok b o z).stay (fun c v hc q => kp c v ?_ q) (fun c hc => ?_) fun c xs hc => ?_
        · rcases hc with hc | hc
          · rw [hc]; exact hb
          · exact at_ne e hc exo_own
        · rw [upd_ne (at_ne e hc exo_own), upd_ne (ne_of_none hc hnd)]; exact hc
        · rw [upd_ne (at_ne e hc exo_tup), upd_ne (ne_of_none hc hnd)]; exact hc
  obtain ⟨nm, bs, mro, ns, qn, hd, sn, sb, ab, col, del⟩ := cd
  dsimp only at hdc
  subst hdc
  unfold Builtin.ObjectAttr.storeInOwnDict Builtin.ObjectAttr.ownDictForStores
  repeat (first | with_reducible refine PySem.HandSPX.store_in_new ?_ ?_ | with_reducible refine wpAny_loadPart_at ho ?_ | with_reducible refine hcls.at ?_ | wp_step)
  · exact ⟨_, #[], _, (Heap.get?_update_ne _ _ _ _ hxs.symm).trans (Heap.get?_push_at rfl rfl), rfl, fun q he => absurd he (by simp), fun _ => rfl⟩
  · exact fin
/-- a further field -/
theorem aes_old (T : AexC X.K C) (I : Inv X pins σ H s) (e : H a = some (exo a C (some dx))) (ed : H dx = some (exd dx fs)) (hl : fs.length ≤ 900) (hno : PySem.W.takerIn X.K C f = some none) (ry : RelV y u)
    (go : ∀ z, Inv X pins σ (upd H dx (exd dx ((f, y) :: fs))) z → Q () z) : wpAny (model X.prog X.w) A (setAttr (.ref a) f u) Q E s := by
  obtain ⟨cd, hcd, hdc⟩ := PySem.W.any_some T.hd
  obtain ⟨t1, ho⟩ := exo_at I.hok e
  obtain ⟨mA, hns, rel⟩ := exd_at I.hok ed
  have hw := within_of rel
  have KI := I.kIn
  obtain ⟨hp, g, dr, t, os⟩ := s
  obtain ⟨oD, esD, epD, hoD, hdD, hcD⟩ := hns.count hw
  have J : PySem.W.InstAt hp a { cls := .ref C, dict := some dx, data := .fields #[.ref t1, .none, .none, .none, .bool false, .none] } C (some oD) := ⟨ho, rfl, rfl, hoD⟩
  refine PySem.W.set_plain KI J T.sa ?_
  refine PySem.W.osa_openX (s := ⟨hp, g, dr, t + 1, os⟩) PySem.F.store_ArithmeticError KI J T.ov hno fun b => ?_
  have hcls : PySem.W.Looks (model X.prog X.w) hp (classData C) cd := PySem.W.looks_clsIn KI hcd
  have fin : ∀ h1 tk1, h1.Ns1 dx (fun z => if z = f then some u else mA z) → Heap.SameBut dx hp h1 → Q () ⟨h1, g, dr, tk1, os⟩ := fun h1 tk1 hn1 hs1 => by
    have hd1 : ∃ o, h1.get? dx = some o := by
      obtain ⟨o, _, _, z, _⟩ := hn1
      exact ⟨o, z⟩
    exact go _ (I.write (t' := tk1) (x := dx) (e := dx) (o := exd dx ((f, y) :: fs)) (by rw [ed]; exact True.intro) (.inl rfl) (fun b o hb z => (hs1.2 b hb).trans z) hd1 (exd_ok hn1 (relO_put ry rel)))
  obtain ⟨nm, bs, mro, ns, qn, hd, sn, sb, ab, col, del⟩ := cd
  dsimp only at hdc
  subst hdc
  unfold Builtin.ObjectAttr.storeInOwnDict Builtin.ObjectAttr.ownDictForStores
  repeat (first | with_reducible refine PySem.OEX.store_in_old hns hw (by rw [List.length_map]; omega) ?_ | with_reducible refine wpAny_loadPart_at ho ?_ | with_reducible refine hcls.at ?_ | wp_step)
  exact fin
/-- the base class' __init__ with a text: nothing of it is told -/
theorem aei_ok {us : List Value} {Q : Value → Shared → Prop} (T : AexC X.K C) (I : Inv X pins σ H s) (e : H a = some (exo a C none)) (hl : us.length ≤ sizeLine) (go : ∀ z, Inv X pins σ H z → Q .none z) :
    wpAny (model X.prog X.w) A (call (.builtin "ArithmeticError.__init__") (.ref a :: us)) Q E s := by
  obtain ⟨nm, N, q, bs, bm, hdct, sn, sub, ab, col, dd, k0, k1, k2, k3, k5, hC, hT⟩ := PySem.W.excInit_of I.kIn T.ini
  obtain ⟨t1, ho⟩ := exo_at I.hok e
  obtain ⟨hp, g, dr, t, os⟩ := s
  refine wpAny_call (PySem.HandSPX.init_base PySem.F.excBase_ArithmeticError hT hC ho hl fun h1 t2 k hx => ?_)
  have I2 := I.write (t' := t) (x := a) (e := a) (o := exo a C none) (by rw [e]; exact True.intro) (.inl rfl) k ⟨_, hx⟩ (exo_ok hx)
  have eu : upd H a (exo a C none) = H := funext fun b => by
    by_cases hb : b = a
    · rw [hb, upd_same, e]
    · rw [upd_ne hb]
  rw [eu] at I2
  exact go _ I2
end
/-! ### readings and rules -/
def tAeI (K : PySem.W.Frag) (ta : TA) : TE := fun σ H Q => ta σ H fun vs H1 => ∃ (a C : Addr) (ws : List V), vs = .ref a :: ws ∧ ws.length ≤ 1000 ∧ AexC K C ∧ H1 a = some (exo a C none) ∧ Q .non H1
def tAes (K : PySem.W.Frag) (f : Str) (to te : TE) : TS := fun D σ H => te σ H fun y H1 => to σ H1 fun x H2 => ∃ a C : Addr, x = .ref a ∧ AexC K C ∧ PySem.W.takerIn K C f = some none ∧
  ((H2 a = some (exo a C none) ∧ ∀ dx, H2 dx = none → dx ≠ a → D.nx σ (upd (upd H2 dx (exd dx [(f, y)])) a (exo a C (some dx)))) ∨
    ∃ (dx : Addr) (fs : List (Str × V)), H2 a = some (exo a C (some dx)) ∧ H2 dx = some (exd dx fs) ∧ fs.length ≤ 900 ∧ D.nx σ (upd H2 dx (exd dx ((f, y) :: fs))))
def tMkA (C : Addr) (sp : Sp) (ta : TA) : L2.St → Hp → L2.XK → Prop := fun σ H Q => ta σ H fun vs H1 => vs.length ≤ 1000 ∧ ∀ a, H1 a = none → sp (.ref a :: vs) (upd H1 a (exo a C none))
  (fun v H2 => v = .non ∧ ∃ (d : Addr) (fs : List (Str × V)), H2 a = some (exo a C (some d)) ∧ H2 d = some (exd d fs) ∧ H1 d = none ∧ Q (.ref C) (some d) (upd (del H2 a) d (.xd fs))) (fun _ _ _ => False)
section
variable {X : Cx} {o e : Expr} {es : List Expr} {to te : TE} {ta : TA} {f x : Str} {p p' p1 p2 pos : Pos} {B : Addr}
theorem pe_aei {pl : Sem Bool} (T : BexC X.K B) (hg : Gl X x) (hm : X.mg x = some (.ref B)) (hdb : (x == ("__debug__" : Str)) = false) (ha : PA X (e :: es) ta)
    (hc : eval (.Call (.Attribute (.Name x p1) "__init__" p2) (e :: es) [] pos) X.env = (do
      let ov ← eval (.Name x p1) X.env
      standAt p2.atName
      let (f, first) ← holding [ov] (getMethod ov "__init__" pl)
      callWith pos f first (backTo pos (starEach (e :: es) X.env)) (backToKw pos (keywordEach [] X.env))))
    (he : starEach (e :: es) X.env = (false, eval e X.env) :: starEach es X.env) (hpl : (backTo pos (starEach es X.env)).any (·.1) = false) :
    PE X (.Call (.Attribute (.Name x p1) "__init__" p2) (e :: es) [] pos) (tAeI X.K ta) := by
  refine ⟨fun pins s σ H Q I h => PySem.W.methodCall_KW (ld_glob I hg hm ?_ hdb) hc⟩
  refine PySem.W.method_cls I.kIn T.ga (PySem.W.cls_value I.kIn T.rd T.at_ rfl ?_)
  show wpAny _ _ (callWith pos (Value.builtin "ArithmeticError.__init__") [] (backTo pos (starEach (e :: es) X.env)) []) _ _ _
  refine PyProof.Rows.callWith_method1 (thn (ha.run pos pins _ σ H _ (I.tok _) h) fun us s1 ⟨vs, H1, I1, r1, a, C, ws, ev, hl, T', ea, q⟩ => ?_) he hpl
  subst ev
  cases r1 with
  | @cons _ u0 _ ur ra rw' =>
    obtain rfl : u0 = Value.ref a := ra
    exact aei_ok T' I1 ea (by rw [← Paired.length rw', sizeLine_eq]; omega) fun s2 J => ⟨.non, H1, J, rfl, q⟩
theorem ps_aes (ho : PE X o to) (he : PE X e te) (hs : swapsWith e (some (.Attribute o f p')) pos.line X.env = pure false) : PS X (.Assign [.Attribute o f p'] e pos) (tAes X.K f to te) := by
  refine ⟨fun pins s σ H D I h => plainObj_wpAny_Assign_Attribute (thn (he.run pins s σ H _ I h) fun v s1 hv => ?_) hs⟩
  obtain ⟨y, H1, I1, r1, q1⟩ := hv
  refine thn (ho.run pins s1 σ H1 _ I1 q1) fun u s2 hu => ?_
  obtain ⟨z, H2, I2, r2, a, C, ex, T, hno, q⟩ := hu
  subst ex
  obtain rfl : u = Value.ref a := r2
  rcases q with ⟨ea, q⟩ | ⟨dx, fs, ea, ed, hl, q⟩
  · exact aes_new T I2 ea hno r1 fun dx z n ne J => ⟨σ, _, J, q dx n ne⟩
  · exact aes_old T I2 ea ed hl hno r1 fun z J => ⟨σ, _, J, q⟩
theorem pmk_aex {CX : CXT} {C fI : Addr} {k : Nat} {fd : FuncData} {ps : List Str} {sp : Sp} (T : AexC X.K C) (iC : PySem.W.findIn X.K (.ref C) "__init__" = some (some (.ref fI))) (tI : PySem.W.typeIn X.K (.ref fI) = some (.type "function"))
    (F1 : FnOk X.prog X.w X.K X.mg X.base CX k fI fd ps sp) (hr : Room (k + 1) X.A) (hb : Binds X.K fd ps []) (hx : Passes CX X (fun _ _ _ => False)) (hg : Gl X x) (hm : X.mg x = some (.ref C)) (ha : PA X (e :: es) ta)
    (hdb : (x == ("__debug__" : Str)) = false) (he : starEach (e :: es) X.env = (false, eval e X.env) :: starEach es X.env) (hpl : (backTo pos (starEach es X.env)).any (·.1) = false) :
    PMk X (.Call (.Name x p) (e :: es) [] pos) (tMkA C sp ta) := by
  intro pins s σ H Q I h
  refine wpAny_Call_Name_kw (ld_glob I hg hm ?_ hdb)
  refine PySem.W.callWith_K (h₀ := X.base) I.ok.mod.kin T.kC (thn (ha.run pos pins s σ H _ I h) fun us s1 hs1 => ?_) he hpl
  obtain ⟨vs, H1, I1, r1, hz, q1⟩ := hs1
  refine ⟨I1.kIn, ?_⟩
  obtain ⟨nm, N, q, bs, bm, hdct, sn, sub, ab, col, dd, k0, k1, k2, k3, k5, hC, hT⟩ := PySem.W.excInit_of I1.kIn T.ini
  show wpAny _ _ (call (.ref C) us) _ _ _
  have KI := I1.kIn
  obtain ⟨hp, g, dr, tk, os⟩ := s1
  have hsz : hp.objs.size ≤ hp.objs.size + 1 := Nat.le_succ _
  have hn : H1 (hp.objs.size + 1) = none := I1.hok.fresh hsz
  have hq := q1 (hp.objs.size + 1) hn
  have kk : ∀ b o, hp.get? b = some o → ((hp.push (PySem.W.kdv_tup us)).push (PySem.HandSPX.excO C hp.objs.size)).get? b = some o := fun b o z => Heap.get?_push_of_some _ (Heap.get?_push_of_some _ z)
  have hget : ((hp.push (PySem.W.kdv_tup us)).push (PySem.HandSPX.excO C hp.objs.size)).get? (hp.objs.size + 1) = some (PySem.HandSPX.excO C hp.objs.size) := by heap_get
  have I2 := I1.laid (t' := tk) (a := hp.objs.size + 1) (o := exo (hp.objs.size + 1) C none) (h' := (hp.push (PySem.W.kdv_tup us)).push (PySem.HandSPX.excO C hp.objs.size)) kk hsz (exo_ok hget)
  have r2 : Vals (V.ref (hp.objs.size + 1) :: vs) (Value.ref (hp.objs.size + 1) :: us) := .cons rfl r1
  have hl : (Value.ref (hp.objs.size + 1) :: us ++ []).length = ps.length := by
    have z := r2.length
    rw [F1.len _ _ _ _ hq] at z
    rw [List.append_nil]
    exact z.symm
  have b0 := hb _ (Value.ref (hp.objs.size + 1) :: us) I2.kIn hl
  rw [List.append_nil] at b0
  have hus : us.length ≤ sizeLine := by rw [← Paired.length r1, sizeLine_eq]; omega
  have run := F1.run _ X.stack _ _ ⟨Value.ref (hp.objs.size + 1) :: us, []⟩ _ _ _ (fun _ _ _ => False) (hr.make C us []) (I2.env0.make C us []) b0 r2 hq
  refine wpAny_call (PySem.HandSPX.call_own PySem.F.excBase_ArithmeticError hT hC (PySem.W.looks_findIn KI iC) (fun self => PySem.W.bind_fn KI self tI) hus (codeAny_mono run fun r s2 hq2 => ?_))
  match r, hq2 with
  | .error er, hq2 => exact hx pins σ _ _ er s2 I2 hq2
  | .ok (.ret u), hq2 =>
    obtain ⟨v, H2, os2, bare2, un2, hok2, rv, ev, d, fs, ea, ed, hd1, q2⟩ := hq2
    subst ev
    obtain ⟨h2, g2, d2, t2, os'⟩ := s2
    exact ⟨rv, mk_end (raises_own T.exC T.tyC) I1 hsz kk un2 hok2 os2 bare2 ea ed hd1 q2⟩
end
end DV

namespace DV
open PySem L2
variable {Wx : L2.XK}
/-! ### raise -/
/-- what the __init__ of an error does: each argument becomes a field -/
def spI (g : Gx) (c : Nat) (ks : List Str) : Sp := fun vs H Q _ => ∃ a ws, vs = V.ref a :: ws ∧ ws.length = ks.length ∧ H a = some (exo a (g.cl c) none) ∧
  ∀ H' d, H' a = some (exo a (g.cl c) (some d)) → H' d = some (exd d (ks.zip ws).reverse) → H d = none → d ≠ a → (∀ b, b ≠ a → b ≠ d → H' b = H b) → Q .non H'
theorem spI_len {g : Gx} {c : Nat} {ks : List Str} {vs : List V} {H : Hp} {Q : VK} {E : L2.XK} (h : spI g c ks vs H Q E) : vs.length = ks.length + 1 := by
  obtain ⟨a, ws, rfl, l, _⟩ := h
  rw [List.length_cons, l]
structure XCls (P : Program) (w : World) (mg : Str → Option Value) (base : Heap) (g : Gx) (k c : Nat) (x : Str) (ks : List Str) : Prop where
  ex : ∃ fI fd ps, mg x = some (.ref (g.cl c)) ∧ AexC g.K (g.cl c) ∧ PySem.W.findIn g.K (.ref (g.cl c)) "__init__" = some (some (.ref fI)) ∧ PySem.W.typeIn g.K (.ref fI) = some (.type "function") ∧ Binds g.K fd ps [] ∧ FnOk P w g.K mg base CX0 k fI fd ps (spI g c ks)
theorem XCls.mono {P : Program} {w : World} {mg : Str → Option Value} {base : Heap} {g : Gx} {j k c : Nat} {x : Str} {ks : List Str} (h : XCls P w mg base g j c x ks) (l : j ≤ k) : XCls P w mg base g k c x ks := by
  obtain ⟨f, fd, ps, h1, h2, h3, h4, h5, h6⟩ := h.ex
  exact ⟨f, fd, ps, h1, h2, h3, h4, h5, h6.mono l⟩
theorem s_rse {X : Cx} {g : Gx} {fs : List FS} {e : Expr} {es : List Expr} {ies : List E} {x : Str} {ks : List Str} {p pos' pos : Pos} {c k : Nat} (M : XCls X.prog X.w X.mg X.base g k c x ks) (C : Cok g X) (tk : Tk X Wx) (hr : Room (k + 1) X.A) (hg : Gl X x)
    (ha : PA X (e :: es) (tAs g fs ies)) (hdb : (x == ("__debug__" : Str)) = false) (he : starEach (e :: es) X.env = (false, eval e X.env) :: starEach es X.env) (hpl : (backTo pos' (starEach es X.env)).any (·.1) = false) (hks : ks.length ≤ 1000) :
    PS X (.Raise (some (.Call (.Name x p) (e :: es) [] pos')) none pos) (tSt g Wx fs (.rse c ks ies)) := by
  obtain ⟨f, fd, ps, h1, h2, h3, h4, h5, h6⟩ := M.ex
  rw [← C.K] at h2 h3 h4 h5 h6
  refine PS.weak (ps_raise C.calm tk (pmk_aex h2 h3 h4 h6 hr h5 (fun _ _ _ _ _ _ _ z => z.elim) hg h1 ha hdb he hpl)) ?_
  rintro Dn σ H ⟨pv, Bn, Ow, Γ, o, rs, pn, he, po⟩
  simp only [ex] at he
  obtain ⟨⟨xs, Γ1⟩, e1, he⟩ := Option.bind_eq_some_iff.mp he
  obtain ⟨⟨ds, Γ2⟩, e2, he⟩ := Option.bind_eq_some_iff.mp he
  simp only [Option.ite_none_right_eq_some, Option.some.injEq, excOk, decide_eq_true_eq] at he
  obtain ⟨hl, rfl⟩ := he
  refine ⟨Bn, Ow, Γ, xs, Γ1, rs, e1, fun vs H1 O1 s1 r1 v1 => ?_⟩
  obtain ⟨O2, s2, r2, rp⟩ := fres_ok r1 v1 e2
  have l2 : ks.length = vs.length := by rw [hl, rp.len]
  refine ⟨by omega, fun a na => ⟨a, vs, rfl, l2.symm, upd_same, fun H' d q1 q2 hd hne hk => ⟨rfl, d, _, q1, q2, ?_, ?_⟩⟩⟩
  · rw [upd_ne hne] at hd; exact hd
  · rw [upd_ne hne] at hd
    have sm : Same H1 (upd (del H' a) d (.xd (ks.zip vs).reverse)) := fun b u hb => by
      have nb : b ≠ a := fun z => by rw [z, na] at hb; cases hb
      have nd : b ≠ d := fun z => by rw [z, hd] at hb; cases hb
      rw [upd_ne nd, del_ne nb, hk b nb nd, upd_ne nb]
      exact hb
    refine po d σ _ O2 ((s1.trans s2).trans (Stp.same sm)) (r2.same sm) pn ?_
    simp only [Rep]
    exact ⟨d, vs, rfl, fun z => r2.trk d z hd, l2, upd_same, rp.same sm⟩
/-! ### the readings of an __init__ -/
section
variable {g : Gx} {c : Nat} {K : PySem.W.Frag} {k1 k2 n0 n1 n2 msg : Str} {vs : List V} {H : Hp} {Q : VK} {E : L2.XK}
theorem xin1 (T : AexC K (g.cl c)) (t1 : PySem.W.takerIn K (g.cl c) k1 = some none) (h : spI g c [k1] vs H Q E) :
    tSeq (tDrop (tAeI K (tCons (tVar 0) (tCons (tC (.str msg)) tNil)))) (tSeq (tAes K k1 (tVar 0) (tVar 1)) tNext) { nx := fun _ H' => Q .non H', rt := Q } (L2.start [n0, n1] vs) H := by
  obtain ⟨a, ws, rfl, l, ea, hQ⟩ := h
  match ws, l with
  | [y], _ =>
    exact ⟨.ref a, rfl, a, g.cl c, [.str msg], rfl, by simp, T, ea, y, rfl, .ref a, rfl, a, g.cl c, rfl, T, t1, .inl ⟨ea, fun dx nd ne =>
      hQ _ dx upd_same (by rw [upd_ne ne, upd_same]; rfl) nd ne fun b b1 b2 => by rw [upd_ne b1, upd_ne b2]⟩⟩
theorem xin2 (T : AexC K (g.cl c)) (t1 : PySem.W.takerIn K (g.cl c) k1 = some none) (t2 : PySem.W.takerIn K (g.cl c) k2 = some none) (h : spI g c [k1, k2] vs H Q E) :
    tSeq (tDrop (tAeI K (tCons (tVar 0) (tCons (tC (.str msg)) tNil)))) (tSeq (tAes K k1 (tVar 0) (tVar 1)) (tSeq (tAes K k2 (tVar 0) (tVar 2)) tNext)) { nx := fun _ H' => Q .non H', rt := Q } (L2.start [n0, n1, n2] vs) H := by
  obtain ⟨a, ws, rfl, l, ea, hQ⟩ := h
  match ws, l with
  | [y, z], _ =>
    refine ⟨.ref a, rfl, a, g.cl c, [.str msg], rfl, by simp, T, ea, y, rfl, .ref a, rfl, a, g.cl c, rfl, T, t1, .inl ⟨ea, fun dx nd ne => ?_⟩⟩
    refine ⟨z, rfl, .ref a, rfl, a, g.cl c, rfl, T, t2, .inr ⟨dx, [(k1, y)], upd_same, by rw [upd_ne ne, upd_same], by simp, ?_⟩⟩
    exact hQ _ dx (by rw [upd_ne ne.symm, upd_same]) (by rw [upd_same]; rfl) nd ne fun b b1 b2 => by rw [upd_ne b2, upd_ne b1, upd_ne b2]
end
end DV

namespace DV
open PySem L2
variable {Wx : L2.XK}
/-! ### an error that a suite holds: isinstance(e, C), e.f -/
/-- the suite holds the error -/
abbrev gE (g : Gx) (c : Nat) (e d : Addr) : Gx := ⟨g.K, g.cl, g.T, some (c, e, d), g.A⟩
/-- what is written of an error's class, so that its instances can be asked -/
structure ErrC (K : PySem.W.Frag) (C : Addr) : Prop where
  cl : (PySem.W.clsIn K C).isSome = true
  ga : PySem.W.findIn K (.ref C) "__getattribute__" = some (some (.builtin "BaseException.__getattribute__"))
  gt : PySem.W.findIn K (.ref C) "__getattr__" = some none
  sb : PySem.W.subIn K (.ref C) (.type "BaseException") = some true
  ha : PySem.W.findIn K (.ref C) "__class__" = some (some (.builtin "object.__class__"))
  hn : PySem.W.specialIn K (.builtin "object.__class__") "__get__" = some (some (.builtin "getset_descriptor.__get__"))
  htk : PySem.W.takesIn K (.builtin "object.__class__") = some true
  hm : PySem.W.mroIn K C (.type "object") = some true
  hd : PySem.W.hasDictIn K C = true
section
variable {Y : Cx} {X : Cx} {g : Gx} {fs : List FS} {a dd DC : Addr} {oe : Obj} {pn : List (Addr × Obj)} {c0 i : Nat} {n y : Str} {p p2 pe pos : Pos}
def rXis (K : PySem.W.Frag) (D a dd : Addr) : List V → Hp → VK → Prop := fun xs H Q => ∃ (c : V) (cv : Value) (b : Bool) (fl : List (Str × V)), xs = [.ref a, c] ∧ ClsV c cv ∧ H dd = some (.xd fl) ∧ PySem.W.kitOne K (.ref D) cv = some b ∧ Q (.bl b) H
def rXit (K : PySem.W.Frag) (D a dd : Addr) : List V → Hp → VK → Prop := fun xs H Q => ∃ (tp : Addr) (cs : List V) (us : List Value) (b : Bool) (fl : List (Str × V)), xs = [.ref a, .ref tp] ∧ H tp = some (.tup cs) ∧ Paired ClsV cs us ∧ H dd = some (.xd fl) ∧ PySem.W.kitAny K (.ref D) us = some b ∧ Q (.bl b) H
theorem err_at {pins : List (Addr × Obj)} {σ : L2.St} {H : Hp} {s : Shared} {fl : List (Str × V)} (hz : Zc (.ref DC) (some dd) oe) (hf : ∃ vs, oe.data = .fields vs) (I : Inv (X.suite a ((a, oe) :: pn)) pins σ H s) (hd : H dd = some (.xd fl)) : ∃ od, PySem.W.InstAt s.heap a oe DC (some od) := by
  obtain ⟨hget, _⟩ := I.pin (a, oe) (List.mem_append.mpr (.inl List.mem_cons_self))
  obtain ⟨vs, hv⟩ := hf
  have hx : ObjOk X.prog X.w H s.heap dd (.xd fl) := I.hok dd _ hd
  obtain ⟨mA, hns, hr⟩ := hx
  obtain ⟨od, ho, _⟩ := lookIn_ns hns
  exact ⟨od, hget, hz.1, by unfold PySem.W.notCls; rw [hv] <;> rfl, by rw [hz.2]; exact ho⟩
theorem call_xis (C : ErrC X.K DC) (hz : Zc (.ref DC) (some dd) oe) (hf : ∃ vs, oe.data = .fields vs) : CallR (X.suite a ((a, oe) :: pn)) (.builtin "isinstance") (rXis X.K DC a dd) := by
  intro pins s σ H xs us Q I r h
  obtain ⟨c, cv, b, fl, rfl, k, hd, e, q⟩ := h
  obtain ⟨u1, u2, rfl, r1, r2⟩ := vals2 r
  have e2 := k.eq r2
  subst e2
  cases (show u1 = Value.ref a from r1)
  obtain ⟨od, J⟩ := err_at hz hf I hd
  exact PySem.W.kia_one (PySem.W.kitx_exc C.cl C.ga C.gt C.sb C.ha C.hn C.htk C.hm) I.kIn J e (fun z => nomatch z) fun tk => ⟨.bl b, H, I.kept (t' := tk) fun _ _ z => z, rfl, q⟩
theorem call_xit (C : ErrC X.K DC) (hz : Zc (.ref DC) (some dd) oe) (hf : ∃ vs, oe.data = .fields vs) : CallR (X.suite a ((a, oe) :: pn)) (.builtin "isinstance") (rXit X.K DC a dd) := by
  intro pins s σ H xs us Q I r h
  obtain ⟨tp, cs, ws, b, fl, rfl, hT, k, hd, e, q⟩ := h
  obtain ⟨u1, u2, rfl, r1, r2⟩ := vals2 r
  cases (show u1 = Value.ref a from r1)
  cases (show u2 = Value.ref tp from r2)
  obtain ⟨od, J⟩ := err_at hz hf I hd
  obtain ⟨_, its, rv, o, h1, h2, m, h3⟩ := (show ObjOk X.prog X.w H s.heap tp (.tup cs) from I.hok tp _ hT)
  have e3 := ClsV.all k rv
  subst e3
  obtain ⟨oc, od', dt, sl⟩ := o
  simp only at h2 h3
  subst h2 h3
  exact PySem.W.kia_tup (PySem.W.kitx_exc C.cl C.ga C.gt C.sb C.ha C.hn C.htk C.hm) I.kIn J h1 e (fun z => nomatch z) fun tk => ⟨.bl b, H, I.kept (t' := tk) fun _ _ z => z, rfl, q⟩
/-- the slot that holds the error -/
theorem err_slot {Bn : Addr → Prop} {Ow : List Addr} {H : Hp} {σ : L2.St} {Γ : Ct} {c : Nat} {ks : List Str} {ds : List D} (rs : RS (gE g c0 a dd) Bn Ow H σ Γ) (h : Γ.getD i none = some (.err c ks ds, false)) :
    c = c0 ∧ σ[i]? = some (some (.ref a)) ∧ ∃ vs, ks.length = vs.length ∧ H dd = some (.xd (ks.zip vs).reverse) ∧ Reps (gE g c0 a dd) (Av Bn Ow) H ds vs := by
  have h' : Γ[i]? = some (some (.err c ks ds, false)) := by
    rw [List.getD_eq_getElem?_getD] at h
    cases e : Γ[i]? with
    | none => rw [e] at h; simp at h
    | some z => rw [e] at h; simp at h; rw [h]
  obtain ⟨v, e1, r1⟩ := rs.slot i _ h'
  simp only [Rep] at r1
  obtain ⟨e0, a0, vs, q1, rfl, _, l, hd, rp⟩ := r1
  simp only [Option.some.injEq, Prod.mk.injEq] at q1
  obtain ⟨rfl, rfl, rfl⟩ := q1
  exact ⟨rfl, e1, vs, l, hd, rp⟩
theorem p_xis {all cs : List Nat} {cv : Value} {cV : V} (hall : ∀ c ∈ all, ErrC g.K (g.cl c) ∧ PySem.W.kitOne g.K (.ref (g.cl c)) cv = some (cs.contains c)) (hcv : ClsV cV cv) (hK : X.K = g.K) (hz : Zc (.ref (g.cl c0)) (some dd) oe) (hf : ∃ vs, oe.data = .fields vs)
    (he : PE (X.suite a ((a, oe) :: pn)) (.Name n pe) (tVar i)) (hc : PE (X.suite a ((a, oe) :: pn)) (.Name y p2) (tC cV)) (hg : Gl (X.suite a ((a, oe) :: pn)) "isinstance") (hm : X.mg "isinstance" = none)
    (hst : starEach (.Name n pe :: [.Name y p2]) (X.suite a ((a, oe) :: pn)).env = (false, eval (.Name n pe) (X.suite a ((a, oe) :: pn)).env) :: starEach [.Name y p2] (X.suite a ((a, oe) :: pn)).env) (hpl : (backTo pos (starEach [.Name y p2] (X.suite a ((a, oe) :: pn)).env)).any (·.1) = false) :
    PE (X.suite a ((a, oe) :: pn)) (.Call (.Name "isinstance" p) [.Name n pe, .Name y p2] [] pos) (tR (gE g c0 a dd) fs (.xis all cs i)) := by
  by_cases hm0 : c0 ∈ all
  · obtain ⟨C, hk⟩ := hall c0 hm0
    rw [← hK] at C hk
    refine PE.weak (pe_callB (call_xis C hz hf) hg hm PyProof.Rows.boot_isinstance (pa_cons he (pa_cons hc pa_nil rfl) hst) (by decide) (by decide) hst hpl) ?_
    rintro σ H Q ⟨Bn, Ow, Γ, r, Γ', rs, hev, hQ⟩
    simp only [ev] at hev
    obtain ⟨b, e1, e2⟩ := Option.map_eq_some_iff.mp hev
    simp only [Prod.mk.injEq] at e2
    obtain ⟨rfl, rfl⟩ := e2
    unfold xisD at e1
    split at e1
    · rename_i c ks ds hs
      simp only [Option.ite_none_right_eq_some, Option.some.injEq] at e1
      obtain ⟨hall', rfl⟩ := e1
      obtain ⟨rfl, e3, vs, l, hd, rp⟩ := err_slot rs hs
      exact ⟨.ref a, e3, cV, cv, _, _, rfl, hcv, hd, hk, hQ _ H Ow (.refl _ _) rs (by simp only [Val, Rep])⟩
    · cases e1
  · refine PE.weak (p_stuck (g := g) (fs := fs)) ?_
    rintro σ H Q ⟨Bn, Ow, Γ, r, Γ', rs, hev, hQ⟩
    exfalso
    simp only [ev] at hev
    obtain ⟨b, e1, e2⟩ := Option.map_eq_some_iff.mp hev
    unfold xisD at e1
    split at e1
    · rename_i c ks ds hs
      simp only [Option.ite_none_right_eq_some, Option.some.injEq] at e1
      obtain ⟨rfl, _⟩ := err_slot rs hs
      exact hm0 (by simpa using e1.1)
    · cases e1
end
end DV

namespace DV
open PySem L2
variable {Wx : L2.XK}
/-! ### data without an error inside -/
section
variable {g : Gx} {A : Addr → Prop} {H : Hp} {c : Nat} {e dd : Addr}
mutual
theorem rep_up (h0 : g.ea = none) : ∀ (d : D) (v : V), Rep g A H d v → Rep (gE g c e dd) A H d v
  | .non, _, h => by simpa [Rep] using h
  | .bl _, _, h => by simpa [Rep] using h
  | .int _, _, h => by simpa [Rep] using h
  | .str _, _, h => by simpa [Rep] using h
  | .scr _, _, h => by simpa [Rep] using h
  | .dct, _, h => by simpa [Rep] using h
  | .ref _, _, h => by simpa [Rep] using h
  | .lst ds, v, h => by
    simp only [Rep] at h ⊢
    obtain ⟨a, vs, q, n, s, r⟩ := h
    exact ⟨a, vs, q, n, s, reps_up h0 ds vs r⟩
  | .tup ds, v, h => by
    simp only [Rep] at h ⊢
    obtain ⟨a, vs, q, n, s, r⟩ := h
    exact ⟨a, vs, q, n, s, reps_up h0 ds vs r⟩
  | .obj _ ks ds, v, h => by
    simp only [Rep] at h ⊢
    obtain ⟨a, dx, vs, q, n, l, s, r⟩ := h
    exact ⟨a, dx, vs, q, n, l, s, reps_up h0 ds vs r⟩
  | .dic ks ds, v, h => by
    simp only [Rep] at h ⊢
    obtain ⟨a, vs, q, n, l, s, r⟩ := h
    exact ⟨a, vs, q, n, l, s, reps_up h0 ds vs r⟩
  | .exc _ ks ds, v, h => by
    simp only [Rep] at h ⊢
    obtain ⟨a, vs, q, n, l, s, r⟩ := h
    exact ⟨a, vs, q, n, l, s, reps_up h0 ds vs r⟩
  | .err _ ks ds, v, h => by
    simp only [Rep] at h
    obtain ⟨_, _, _, q, _⟩ := h
    rw [h0] at q; cases q
theorem reps_up (h0 : g.ea = none) : ∀ (ds : List D) (vs : List V), Reps g A H ds vs → Reps (gE g c e dd) A H ds vs
  | [], _, h => by simpa [Reps] using h
  | d :: ds, _, h => by
    simp only [Reps] at h ⊢
    obtain ⟨v, r, q, h1, h2⟩ := h
    exact ⟨v, r, q, rep_up h0 d v h1, reps_up h0 ds r h2⟩
end
mutual
theorem rep_dn : ∀ (d : D) (v : V), noE d = true → Rep (gE g c e dd) A H d v → Rep g A H d v
  | .non, _, _, h => by simpa [Rep] using h
  | .bl _, _, _, h => by simpa [Rep] using h
  | .int _, _, _, h => by simpa [Rep] using h
  | .str _, _, _, h => by simpa [Rep] using h
  | .scr _, _, _, h => by simpa [Rep] using h
  | .dct, _, _, h => by simpa [Rep] using h
  | .ref _, _, _, h => by simpa [Rep] using h
  | .lst ds, v, k, h => by
    simp only [Rep] at h ⊢
    simp only [noE] at k
    obtain ⟨a, vs, q, n, s, r⟩ := h
    exact ⟨a, vs, q, n, s, reps_dn ds vs k r⟩
  | .tup ds, v, k, h => by
    simp only [Rep] at h ⊢
    simp only [noE] at k
    obtain ⟨a, vs, q, n, s, r⟩ := h
    exact ⟨a, vs, q, n, s, reps_dn ds vs k r⟩
  | .obj _ ks ds, v, k, h => by
    simp only [Rep] at h ⊢
    simp only [noE] at k
    obtain ⟨a, dx, vs, q, n, l, s, r⟩ := h
    exact ⟨a, dx, vs, q, n, l, s, reps_dn ds vs k r⟩
  | .dic ks ds, v, k, h => by
    simp only [Rep] at h ⊢
    simp only [noE] at k
    obtain ⟨a, vs, q, n, l, s, r⟩ := h
    exact ⟨a, vs, q, n, l, s, reps_dn ds vs k r⟩
  | .exc _ ks ds, v, k, h => by
    simp only [Rep] at h ⊢
    simp only [noE] at k
    obtain ⟨a, vs, q, n, l, s, r⟩ := h
    exact ⟨a, vs, q, n, l, s, reps_dn ds vs k r⟩
  | .err _ ks ds, v, k, h => by simp [noE] at k
theorem reps_dn : ∀ (ds : List D) (vs : List V), noEs ds = true → Reps (gE g c e dd) A H ds vs → Reps g A H ds vs
  | [], _, _, h => by simpa [Reps] using h
  | d :: ds, _, k, h => by
    simp only [Reps] at h ⊢
    simp only [noEs, Bool.and_eq_true] at k
    obtain ⟨v, r, q, h1, h2⟩ := h
    exact ⟨v, r, q, rep_dn d v k.1 h1, reps_dn ds r k.2 h2⟩
end
end
/-- plain slots without an error inside -/
def plainG (Γ : Ct) : Bool := Γ.all fun s => match s with
  | some (d, false) => noE d
  | some (_, true) => false
  | none => true
section
variable {g : Gx} {Bn : Addr → Prop} {Ow O : List Addr} {H H' : Hp} {σ σs : L2.St} {Γ Γs Γ' : Ct} {c : Nat} {e dd : Addr}
theorem plainG_at {i : Nat} {d : D} {b : Bool} (h : plainG Γ = true) (q : Γ[i]? = some (some (d, b))) : b = false ∧ noE d = true := by
  have := List.all_eq_true.mp h _ (List.mem_of_getElem? q)
  cases b with
  | false => exact ⟨rfl, this⟩
  | true => cases this
/-- plain slots alone -/
theorem RS.plain {σ1 : L2.St} {Γ1 : Ct} (rs : RS g Bn Ow H σ Γ) (hl : σ1.length = Γ1.length) (hp : plainG Γ1 = true) (hs : ∀ (i : Nat) d, Γ1[i]? = some (some (d, false)) → ∃ v, σ1[i]? = some (some v) ∧ Rep g (Av Bn Ow) H d v) : RS g (Av Bn Ow) [] H σ1 Γ1 := by
  have av : ∀ a, Av (Av Bn Ow) [] a → Av Bn Ow a := fun a z => z.elim id fun z => nomatch z
  refine ⟨hl, fun i d h => ?_, fun i d h => ?_, fun i j d f a h => ?_, fun a h => rs.trl a (av a h), fun a _ => by simp, fun a h => rs.kf a (av a h), rs.tabs⟩
  · obtain ⟨v, q, r⟩ := hs i d h
    exact ⟨v, q, rep_less av r⟩
  · exact absurd (plainG_at hp h).1 Bool.noConfusion
  · exact absurd (plainG_at hp h).1 Bool.noConfusion
theorem nones_plain (k : Nat) : plainG (List.replicate k none) = true := by
  simp only [plainG, List.all_eq_true]
  intro x hx
  rw [List.eq_of_mem_replicate hx]
theorem RS.frame {k : Nat} (rs : RS g Bn Ow H σ Γ) (hl : σs.length = k) : RS g (Av Bn Ow) [] H σs (List.replicate k none) :=
  rs.plain (by rw [List.length_replicate]; exact hl) (nones_plain k) fun i d h => by
    rw [List.getElem?_replicate] at h
    split at h <;> cases h
/-- a frame behind what another one did that could not touch it -/
theorem RS.over (r0 : RS g Bn Ow H σ Γ) (s : Stp [] H O H') (t : Tb g.T H') : RS g Bn Ow H' σ Γ := by
  have kp : ∀ a, Vst g (Av Bn Ow) H a → (∀ o, H a = some o → nT o → H' a = some o) ∧ ¬ Av Bn Ow a := fun a z => ⟨fun o h q => s.keep0 a o h q (by simp), z.1⟩
  refine ⟨r0.len, fun i d h => ?_, fun i d h => ?_, r0.dist, fun a h => ?_, r0.sep, r0.kf, t⟩
  · obtain ⟨v, q, r⟩ := r0.slot i d h
    exact ⟨v, q, rep_mono kp _ _ r⟩
  · obtain ⟨a, q, m, r⟩ := r0.own i d h
    refine ⟨a, q, m, ?_⟩
    cases d with
    | lst ds => obtain ⟨ws, z1, z2⟩ := r; exact ⟨ws, s.keep0 a _ z1 nofun (by simp), reps_mono kp _ _ z2⟩
    | obj c ks ds => obtain ⟨dx, ws, l, z1, z2⟩ := r; exact ⟨dx, ws, l, s.keep0 a _ z1 nofun (by simp), reps_mono kp _ _ z2⟩
    | _ => exact r
  · rcases r0.trl a h with ⟨vs, q⟩ | ⟨C, dx, fl, q⟩
    · exact .inl ⟨vs, s.keep0 a _ q nofun (by simp)⟩
    · exact .inr ⟨C, dx, fl, s.keep0 a _ q nofun (by simp)⟩
theorem Stp.any (s : Stp [] H O H') : Stp Ow H Ow H' := ⟨fun a o h t _ => s.keep0 a o h t (by simp), fun _ h => .inl h⟩
theorem RS.up (h0 : g.ea = none) (rs : RS g Bn Ow H σ Γ) : RS (gE g c e dd) Bn Ow H σ Γ := by
  refine ⟨rs.len, fun i d h => ?_, fun i d h => ?_, rs.dist, rs.trl, rs.sep, rs.kf, rs.tabs⟩
  · obtain ⟨v, q, r⟩ := rs.slot i d h
    exact ⟨v, q, rep_up h0 _ _ r⟩
  · obtain ⟨a, q, m, r⟩ := rs.own i d h
    refine ⟨a, q, m, ?_⟩
    cases d with
    | lst ds => obtain ⟨ws, z1, z2⟩ := r; exact ⟨ws, z1, reps_up h0 _ _ z2⟩
    | obj c ks ds => obtain ⟨dx, ws, l, z1, z2⟩ := r; exact ⟨dx, ws, l, z1, reps_up h0 _ _ z2⟩
    | _ => exact r
theorem Vst.eq {a : Addr} {A : Addr → Prop} (h : Vst (gE g c e dd) A H a) : Vst g A H a := h
/-- tables alone: a lambda was made -/
theorem RS.ext (r0 : RS g Bn Ow H σ Γ) (k : LamX.ExtN H H') (t : Tb g.T H') : Stp Ow H Ow H' ∧ RS g Bn Ow H' σ Γ := by
  have s : Stp [] H [] H' := ⟨fun a o h n _ => k a o h n, fun _ h => .inl h⟩
  exact ⟨s.any, r0.over s t⟩
end
end DV

namespace DV
open PySem L2
/-! ### a def that calls what it got, and tells of the error: told(lambda: e) -/
def nxP : Option Out → Option Ct
  | some (.nx Γ) => if plainG Γ then some Γ else none
  | _ => none
def retD : Option Out → Option D
  | some (.rt r Γ) => (fre Γ r).map fun p => p.1
  | _ => none
/-- what it tells if nothing is raised: the statements ahead of the try, behind the call, behind the try -/
def saidN (fs : List FS) (n : Nat) (i2 : S) (im : List S) (iq : S) : Option D :=
  (nxP (ex fs [0] i2 (List.replicate n none))).bind fun Γ2 => (nxP (exs fs [] im Γ2)).bind fun Γ3 => retD (ex fs [] iq Γ3)
/-- what it tells of an error: the suite, where slot ie holds the error, and what stands behind -/
def saidX (fs : List FS) (n ie : Nat) (all : List Nat) (is : List S) (iq : S) (c : Nat) (ks : List Str) (ds : List D) : Option D :=
  if all.contains c then match exs fs [] is ((List.replicate n none).set ie (some (.err c ks ds, false))) with
    | some (.nx Γ) => if plainG (Γ.set ie none) then retD (ex fs [] iq (Γ.set ie none)) else none
    | _ => none
  else none
theorem nxP_some {o : Option Out} {Γ : Ct} (h : nxP o = some Γ) : o = some (.nx Γ) ∧ plainG Γ = true := by
  unfold nxP at h
  split at h
  · simp only [Option.ite_none_right_eq_some, Option.some.injEq] at h
    obtain ⟨h1, rfl⟩ := h
    exact ⟨rfl, h1⟩
  · cases h
theorem retD_some {o : Option Out} {d : D} (h : retD o = some d) : ∃ r Γ Γ', o = some (.rt r Γ) ∧ fre Γ r = some (d, Γ') := by
  unfold retD at h
  split at h
  · rename_i r Γ
    obtain ⟨⟨d', Γ'⟩, h1, rfl⟩ := Option.map_eq_some_iff.mp h
    exact ⟨r, Γ, Γ', rfl, h1⟩
  · cases h
abbrev WF : L2.XK := fun _ _ _ => False
section
variable {g : Gx} {fs0 : List FS} {B : Addr → Prop} {H : Hp} {σ : L2.St} {Γ : Ct}
/-- the return behind the try -/
theorem said_ret {n : Nat} {iq : S} {d : D} {D' : Ends} (rs : RS g B [] H σ Γ) (hl : σ.length = n) (hr : retD (ex fs0 [] iq Γ) = some d)
    (hQ : ∀ v H4 O4, Stp [] H O4 H4 → Tb g.T H4 → Rep g B H4 d v → D'.rt v H4) : tSeq (tSt g WF fs0 iq) tNext D' σ H := by
  obtain ⟨r, Γ5, Γ6, e1, e2⟩ := retD_some hr
  refine ⟨(n, []), B, [], Γ, .rt r Γ5, rs, ⟨hl, nofun⟩, e1, fun v σ' H' O' st r1 _ vl => ?_⟩
  obtain ⟨O6, s6, r6, p6⟩ := fre_ok r1 vl e2
  exact hQ v H' O6 (st.trans s6) r6.tabs (rep_less (fun a z => .inl z) p6)
theorem plain_step {Bn : Addr → Prop} {Ow O : List Addr} {H2 : Hp} {σ0 σ1 : L2.St} {Γ0 Γ1 : Ct} (r1 : RS g B O H σ1 Γ1) (hp : plainG Γ1 = true) (sub : ∀ a, Av Bn Ow a → B a) {Ow2 : List Addr} (s : Stp Ow H Ow2 H2) (r2 : RS g Bn Ow2 H2 σ0 Γ0) : RS g (Av Bn Ow2) [] H2 σ1 Γ1 :=
  r2.plain r1.len hp fun i d h => by
    obtain ⟨v, e, r⟩ := r1.slot i d h
    exact ⟨v, e, Rep.step (rep_less (fun a z => .inl (sub a z)) r) s r2⟩
theorem err_frame {Bn : Addr → Prop} {Ow : List Addr} {c ie n : Nat} {a dd : Addr} {ks : List Str} {ds : List D} {σ0 σ1 : L2.St} {Γ0 : Ct} (h0 : g.ea = none) (rs : RS g Bn Ow H σ0 Γ0) (hl : σ1.length = n) (hi : ie < n) (r : Rep g (Av Bn Ow) H (.exc c ks ds) (.ref dd)) :
    RS (gE g c a dd) (Av Bn Ow) [] H (σ1.set ie (some (.ref a))) ((List.replicate n none).set ie (some (.err c ks ds, false))) := by
  have av : ∀ x, Av (Av Bn Ow) [] x → Av Bn Ow x := fun x z => z.elim id fun z => nomatch z
  have at_ : ∀ (i : Nat) (p : D × Bool), ((List.replicate n (none : Sl)).set ie (some (.err c ks ds, false)))[i]? = some (some p) → i = ie ∧ p = (.err c ks ds, false) := fun i p h => by
    by_cases e : ie = i
    · subst e
      rw [List.getElem?_set_self (by rw [List.length_replicate]; exact hi)] at h
      cases h; exact ⟨rfl, rfl⟩
    · rw [List.getElem?_set_ne e, List.getElem?_replicate] at h
      split at h <;> cases h
  refine ⟨by rw [List.length_set, List.length_set, List.length_replicate]; exact hl, fun i d h => ?_, fun i d h => ?_, fun i j d f x h => ?_, fun x h => rs.trl x (av x h), fun x _ => by simp, fun x h => rs.kf x (av x h), rs.tabs⟩
  · obtain ⟨rfl, q⟩ := at_ i _ h
    cases q
    refine ⟨.ref a, List.getElem?_set_self (by rw [hl]; exact hi), ?_⟩
    simp only [Rep] at r ⊢
    obtain ⟨x, vs, q1, n1, l, hx, rp⟩ := r
    cases q1
    exact ⟨a, dd, vs, rfl, rfl, fun z => n1 (av _ z), l, hx, reps_less av (reps_up h0 _ _ rp)⟩
  · obtain ⟨_, q⟩ := at_ i _ h; cases q
  · obtain ⟨_, q⟩ := at_ i _ h; cases q
end
/-- the promise of such a def, by what its lambda does -/
def TTs (g : Gx) (fs0 : List FS) (d0 : D) (sd : Nat → List Str → List D → Option D) : (L2.XK → Hp → VK → Prop) → Hp → VK → Prop := fun tl H Q =>
  ∃ Bn Ow σ0 Γ0 r Γ1 d, RS g Bn Ow H σ0 Γ0 ∧ saidD d0 sd r = some d ∧
    (∀ (E' : L2.XK) (Q' : VK) (H' : Hp), RS g Bn Ow H' σ0 Γ0 → (∀ v H2 O2, Stp Ow H' O2 H2 → RS g Bn O2 H2 σ0 Γ1 → Val g Bn O2 H2 σ0 Γ1 r v → xcQ g E' Q' r v H2) → tl E' H' Q') ∧
    ∀ v H' Ow', Stp Ow H Ow' H' → RS g Bn Ow' H' σ0 Γ1 → Rep g (Av Bn Ow') H' d v → Q v H'
section
variable {X : Cx} {g : Gx} {fs0 : List FS} {Ng : List Str} {x a be n q : Str} {sg : Scope} {g0 BE : Addr} {cdg : Value} {p2 q1 b0 : Stmt} {mid suite : List Stmt} {pa pb pc np pos' pos : Pos} {i2 iq : S} {im isu : List S} {ie nn : Nat} {all : List Nat} {d0 : D}
theorem takesLen {Y : Cx} {W : WX} (tk : Takes Y W) : Takes Y (fun cls d σ H => σ.length = Y.N.length → W cls d σ H) := fun u s' ⟨a, B, sI, pins, σ, H, cls, d, e, I, nb, up, sky, na, os, ag, w⟩ =>
  tk u s' ⟨a, B, sI, pins, σ, H, cls, d, e, I, nb, up, sky, na, os, ag, w I.len⟩
abbrev cxS (X : Cx) (Ng : List Str) (x : Str) (sg : Scope) (g0 : Addr) (cdg : Value) (s : Shared) (H : Hp) : Cx := (cxOf C8.CX0 X.prog X.w X.K X.mg X.base Ng x sg g0 cdg X.A X.stack s H C8.E0)
theorem said_gives (h0 : g.ea = none) (hnn : Ng.length = nn) (hNd : Ng.Nodup) (hie : Ng[ie]? = some n) (hie0 : ie < nn) (hln : sg.names.lookup n = some .local) (hbe : sg.names.lookup be = some .globalImplicit) (hmb : X.mg be = some (.ref BE)) (hdb : (be == ("__debug__" : Str)) = false)
    (hsub : ∀ c ∈ all, PySem.W.exmOne X.K (.ref (g.cl c)) (.ref BE) = some true)
    (hp2 : ∀ s H, PS (cxS X Ng x sg g0 cdg s H).nox p2 (tSt g WF fs0 i2)) (hq1 : ∀ s H, PS (cxS X Ng x sg g0 cdg s H).nox q1 (tSt g WF fs0 iq))
    (hmid : ∀ s H pn xe, PSs ((cxS X Ng x sg g0 cdg s H).nox.tr pn xe) mid (tSs g WF fs0 im))
    (hsu : ∀ s H (e : Addr) (oe : Obj) (pn : List (Addr × Obj)) (c : Nat) (dd : Addr), Zc (.ref (g.cl c)) (some dd) oe → (∃ vs, oe.data = .fields vs) → PSs ((cxS X Ng x sg g0 cdg s H).nox.suite e ((e, oe) :: pn)) (b0 :: suite) (tSs (gE g c e dd) WF fs0 isu))
    (hN : saidN fs0 nn i2 im iq = some d0) (hsw : ∀ s H, swapsWith (.Call (.Name a pa) [] [] pb) none pc.line (cxS X Ng x sg g0 cdg s H).nox.env = pure false) :
    LamX.GivesTo X Ng x sg g0 cdg [p2, .Try (.Expr (.Call (.Name a pa) [] [] pb) pc :: mid) [.ExceptHandler (some (.Name be np)) (some n) (b0 :: suite) pos'] [] [] pos, q1] a q (TTs g fs0 d0 (saidX fs0 nn ie all isu iq)) := by
  intro f c' s H Q tl act hco hTT
  obtain ⟨Bn, Ow, σ0, Γ0, r, Γ1, d, rs0, hd, hdeed, hfin⟩ := hTT
  let Z := (cxS X Ng x sg g0 cdg s H).nox
  obtain ⟨Γb, n2, hN⟩ := Option.bind_eq_some_iff.mp hN
  obtain ⟨Γc, n3, hN⟩ := Option.bind_eq_some_iff.mp hN
  obtain ⟨e2, pl2⟩ := nxP_some n2
  obtain ⟨e3, pl3⟩ := nxP_some n3
  let ts : Addr → Value → Option Addr → TS := fun e cls d Dn σ H => ∃ c dd, cls = .ref (g.cl c) ∧ d = some dd ∧ tSs (gE g c e dd) WF fs0 isu Dn σ H
  let tb : WX → TS := fun W D σ H => ∃ Ech : L2.XK, (∀ cls d σ' H', σ'.length = nn → Ech cls d H' → W cls d σ' H') ∧ σ[0]? = some (some (.ref f)) ∧ H c' = some (LamX.CodeO c' q) ∧ tl Ech H (fun v H' => tSs g WF fs0 im D σ H')
  have hnm : Names Z be (.ref BE) := ⟨hbe, hdb, .inl hmb⟩
  have body : ∀ (W : WX) (pn : List (Addr × Obj)) (xe : Value → Shared → Prop), Takes (Z.tr pn xe) W → PassesOwn (model Z.prog Z.w) Z.A Z.env xe → PSs (Z.tr pn xe) (.Expr (.Call (.Name a pa) [] [] pb) pc :: mid) (tb W) := fun W pn xe tk _ => ⟨fun pins s' σ H' D I h' => by
    obtain ⟨Ech, hW, h1, h2, h3⟩ := h'
    have tk' : Takes (Z.tr pn xe) (fun cls d σ H => σ.length = nn → W cls d σ H) := by
      have z := takesLen tk
      have e : (Z.tr pn xe).N.length = nn := hnn
      rw [e] at z
      exact z
    have hp := act (fun cls d σ H => σ.length = nn → W cls d σ H) pn xe Ech pa pb tk' (fun cls d σ' H' hE hl => hW cls d σ' H' hl hE)
    exact (pss_cons (ps_expr hp (hsw s H)) (hmid s H pn xe)).run pins s' σ H' D I ⟨h1, h2, h3⟩⟩
  have suit : ∀ (e : Addr) (oe : Obj) (cls : Value) (d : Option Addr) (pn : List (Addr × Obj)), Zc cls d oe → (∃ vs, oe.data = .fields vs) → PSs (Z.suite e ((e, oe) :: pn)) (b0 :: suite) (ts e cls d) := fun e oe cls d pn hz hf => ⟨fun pins s' σ H' D I h' => by
    obtain ⟨c, dd, rfl, rfl, h⟩ := h'
    exact (hsu s H e oe pn c dd hz hf).run pins s' σ H' D I h⟩
  refine ⟨_, pss_cons (hp2 s H) (pss_cons (ps_try_as (X := Z) (c := .ref BE) (i := ie) (ts := ts) (tb := tb) rfl rfl hNd hie hln hnm LamX.takes0 body suit) (pss_cons (hq1 s H) pss_nil)), ?_⟩
  have hst : (L2.start Ng [V.ref f]).length = nn := by
    rw [← hnn]
    show (([V.ref f].map some) ++ List.replicate (Ng.length - [V.ref f].length) none).length = Ng.length
    have hpos : 0 < Ng.length := by omega
    simp
    omega
  have h00 : (L2.start Ng [V.ref f])[0]? = some (some (.ref f)) := rfl
  have f0 := rs0.frame hst
  -- the statements ahead of the try keep slot 0
  refine ⟨(nn, [(0, .ref f)]), Av Bn Ow, [], _, .nx Γb, f0, ⟨hst, fun p hp => by cases List.mem_singleton.mp hp; exact h00⟩, e2, fun σ2 H2 O2 st2 r2 q2' => ?_⟩
  have rsb : RS g Bn Ow H2 σ0 Γ0 := rs0.over st2 r2.tabs
  let EE : L2.XK := fun cls d H' => ∃ c ks ds dd Ow', r = .fz (.exc c ks ds) ∧ cls = .ref (g.cl c) ∧ d = some dd ∧ Stp Ow H2 Ow' H' ∧ RS g Bn Ow' H' σ0 Γ1 ∧ Rep g (Av Bn Ow') H' (.exc c ks ds) (.ref dd)
  -- the end, with what is told
  have fin : ∀ {Ow' : List Addr} {H3 : Hp} {B3 : Addr → Prop} {σ3 : L2.St} {Γ3 : Ct}, Stp Ow H Ow' H3 → RS g Bn Ow' H3 σ0 Γ1 → (∀ a, Av Bn Ow' a → B3 a) → RS g B3 [] H3 σ3 Γ3 → σ3.length = nn → retD (ex fs0 [] iq Γ3) = some d →
      tSeq (tSt g WF fs0 iq) tNext { nx := fun _ H' => Q .non H', rt := Q } σ3 H3 := fun st rsx sub rs3 hl hr =>
    said_ret rs3 hl hr fun v H4 O4 s4 t4 rp => hfin v H4 _ (st.trans s4.any) (rsx.over s4 t4) (rep_less sub rp)
  refine ⟨EE, ?_, q2'.2 _ (List.mem_singleton.mpr rfl), st2.keep0 _ _ hco LamX.codeO_ne (by simp), hdeed EE _ H2 rsb fun v H3 O3 s3 r3 vl => ?_⟩
  · rintro cls dx σ' H' hl ⟨c, ks, ds, dd, Ow', er, rfl, rfl, st', rs', rp⟩
    subst er
    simp only [saidD, saidX, Option.ite_none_right_eq_some] at hd
    obtain ⟨hall, hd⟩ := hd
    refine ⟨true, hsub c (by simpa using hall), fun _ e na => ?_, nofun⟩
    split at hd
    · rename_i Γ3 e4
      simp only [Option.ite_none_right_eq_some] at hd
      obtain ⟨pl4, hd⟩ := hd
      refine ⟨c, dd, rfl, rfl, (nn, []), Av Bn Ow', [], _, .nx Γ3, err_frame h0 rs' hl hie0 rp, ⟨by rw [List.length_set]; exact hl, nofun⟩, e4, fun σ3 H3 O3 s3 r3 q3 => ?_⟩
      have hl3 : (σ3.set ie none).length = nn := by rw [List.length_set]; exact q3.1
      refine fin (B3 := Av (Av Bn Ow') O3) (((st2.any).trans st').trans s3.any) (rs'.over s3 r3.tabs) (fun a z => .inl z) ?_ hl3 hd
      -- the frame behind the suite
      have up : ∀ (i : Nat) dt, (Γ3.set ie none)[i]? = some (some (dt, false)) → i ≠ ie ∧ Γ3[i]? = some (some (dt, false)) := fun i dt h => by
        by_cases e : ie = i
        · subst e
          by_cases hlt : ie < Γ3.length
          · rw [List.getElem?_set_self hlt] at h; cases h
          · rw [List.getElem?_eq_none (by rw [List.length_set]; omega)] at h; cases h
        · rw [List.getElem?_set_ne e] at h
          exact ⟨fun z => e z.symm, h⟩
      refine ⟨by rw [List.length_set, List.length_set]; exact r3.len, fun i dt h => ?_, fun i dt h => ?_, fun i j dt f x h => ?_, fun x h => r3.trl x (h.elim id fun z => nomatch z), fun x _ => by simp, fun x h => r3.kf x (h.elim id fun z => nomatch z), r3.tabs⟩
      · obtain ⟨n1, h1⟩ := up i dt h
        obtain ⟨v, q1, q2⟩ := r3.slot i dt h1
        exact ⟨v, by rw [List.getElem?_set_ne (fun z => n1 z.symm)]; exact q1, rep_less (fun x z => z.elim id fun z => nomatch z) (rep_dn _ _ (plainG_at pl4 h).2 q2)⟩
      · exact absurd (plainG_at pl4 h).1 Bool.noConfusion
      · exact absurd (plainG_at pl4 h).1 Bool.noConfusion
    · cases hd
  · by_cases hx : isXc r = true
    · obtain ⟨c, ks, ds, rfl⟩ : ∃ c ks ds, r = .fz (.exc c ks ds) := by
        cases r with
        | fz z => cases z <;> first | exact ⟨_, _, _, rfl⟩ | (simp [isXc] at hx)
        | nw z => simp [isXc] at hx
        | sl z => simp [isXc] at hx
      intro dd hv
      subst hv
      exact ⟨c, ks, ds, dd, O3, rfl, rfl, rfl, s3, r3, vl⟩
    · have hx' : isXc r = false := by simpa using hx
      rw [xcQ_no hx']
      have ed : d = d0 := by
        cases r with
        | fz z => cases z <;> first | (simp only [saidD, Option.some.injEq] at hd; exact hd.symm) | (simp [isXc] at hx')
        | nw z => simp only [saidD, Option.some.injEq] at hd; exact hd.symm
        | sl z => simp only [saidD, Option.some.injEq] at hd; exact hd.symm
      subst ed
      have r4 : RS g (Av Bn O3) [] H3 σ2 Γb := plain_step r2 pl2 (fun a z => z) s3 r3
      refine ⟨(nn, []), Av Bn O3, [], Γb, .nx Γc, r4, ⟨q2'.1, nofun⟩, e3, fun σ4 H4 O4 s4 r5 q4 => ?_⟩
      refine fin (B3 := Av (Av Bn O3) O4) (((st2.any).trans s3).trans s4.any) (r3.over s4 r5.tabs) (fun a z => .inl z) ?_ q4.1 hN
      exact r5.plain r5.len pl3 fun i dt h => r5.slot i dt h
end
end DV

namespace DV
open PySem L2
/-! ### told(lambda: e), in the frame that asks -/
section
variable {X : Cx} {g : Gx} {fs fs0 : List FS} {d0 : D} {sd : Nat → List Str → List D → Option D} {ie : E} {x a : Str} {g0 c P : Addr} {k : Nat} {pg : Arguments} {bg : List Stmt} {sg : Scope} {dV kV doc pm cdv ct oc : Value} {an od : Option Addr} {osl : Array (Option Value)} {Ng : List Str}
  {params : Arguments} {body : Expr} {scope : Scope} {p lpos pos : Pos}
theorem p_said (C : Cok g X) (hg : Gl X x) (hm : X.mg x = some (.ref g0)) (hk : PySem.W.keepIn X.K (.ref g0) = true)
    (lk : X.K.lookup g0 = some ⟨oc, od, .func (PySem.W.fnOf x x pg bg sg dV kV doc pm an cdv ct), osl⟩) (hcg : PySem.W.codeIn X.K cdv x = true) (hb : L2.Binds X.K (PySem.W.fnOf x x pg bg sg dV kV doc pm an cdv ct) [a] []) (Sg : FnScope Ng [a] sg) (hNg : Ng[0]? = some a) (hva : Vis sg a)
    (hG : LamX.GivesTo X Ng x sg g0 cdv bg a (X.env.qual ++ "<lambda>") (TTs g fs0 d0 sd))
    (TB : LamX.TabB X.base X.mg c P) (hcode : X.env.code = .ref c) (hmT : (P, X.env.qual ++ "<lambda>") ∈ g.T) (hu : ∀ q ∈ g.T, q.1 = P → q.2 = X.env.qual ++ "<lambda>") (hr : Room (k + 2) X.A) (L : LamX.LamS X.env.scope scope) (hdef : defaultsOf params X.env = ([], []))
    (hbind : ∀ (q : Str) (cl : List (Str × Addr)) (pm cv ctv : Value), bindArgs (PySem.W.kla_fn "<lambda>" q params body scope cl pm cv ctv) ⟨[], []⟩ = pure [])
    (hbody : ∀ (A : Around) (outer : List Env) (s : Shared) (H : Hp) (E : L2.XK) (f c' : Addr), Room k (LamX.lamCx X A outer s H E scope f c').A → Cok g (LamX.lamCx X A outer s H E scope f c') → Tk (LamX.lamCx X A outer s H E scope f c') E → PE (LamX.lamCx X A outer s H E scope f c') body (tRX g E fs ie))
    (hdb : (x == ("__debug__" : Str)) = false) (hd : (a == ("__debug__" : Str)) = false) (hcd : (a == ("__classdict__" : Str)) = false) :
    PE X (.Call (.Name x p) [.Lambda params body scope lpos] [] pos) (tR g fs (.said d0 sd ie)) := by
  refine PE.weak (LamX.pe_lamcall (T := g.T) (TT := TTs g fs0 d0 sd) (t := fun E => tRX g E fs ie) hg hm hk lk hcg hb Sg hNg hva hG TB hcode hmT hu hr L hdef hbind
    (fun A outer s H E f c' hr' => hbody A outer s H E f c' hr' ⟨C.K, rfl, hr'.units, C.nd, C.ea⟩ (takes_of rfl rfl rfl rfl)) hdb hd hcd) ?_
  rintro σ H Q ⟨Bn, Ow, Γ, r, Γ', rs, he, hQ⟩
  simp only [ev] at he
  obtain ⟨⟨x1, Γ1⟩, e1, he⟩ := Option.bind_eq_some_iff.mp he
  obtain ⟨d, e2, he⟩ := Option.map_eq_some_iff.mp he
  simp only [Prod.mk.injEq] at he
  obtain ⟨rfl, rfl⟩ := he
  refine ⟨rs.tabs, fun H1 kx t => ?_⟩
  obtain ⟨st, rs1⟩ := rs.ext kx t
  exact ⟨Bn, Ow, σ, Γ, x1, Γ1, d, rs1, e2, fun E' Q' H' rs' cont => ⟨Bn, Ow, Γ, x1, Γ1, rs', e1, cont⟩, fun v H' Ow' s' r' rp => hQ v H' Ow' (st.trans s') r' rp⟩
end
/-! ### a def that makes lambdas: its code object is at c -/
section
variable {P : Program} {w : World} {mg : Str → Option Value} {base : Heap} {g : Gx} {fs : List FS}
end
/-! ### the law behind the top, with tables -/
def spT (K : PySem.W.Frag) (T : List (Addr × Str)) (F : FS) : Sp := fun vs H Q E => vs.length = 1 ∧ Tb T H ∧ ∀ cl, spF ⟨K, cl, T, none, []⟩ 1 F vs H Q E
theorem sp_lawT {K : PySem.W.Frag} {T : List (Addr × Str)} {F : FS} {ns : List Int} {a : Addr} {H : Hp} {os : Ct} (hF : F [some (.scr ns, false)] = some (.fz (.bl true), os)) (hS : SqL K H a (ns.map V.int)) (hT : ∀ p ∈ T, H p.1 = some (.tbl #[])) : spT K T F [.ref a] H (fun v _ => v = .bl true) fun _ _ _ => False :=
  have t : Tb T H := fun p hp => LamX.TabS.nil (hT p hp)
  ⟨rfl, t, fun cl => sp_law hF hS t⟩
/-- a def's code object and its empty table, behind the top -/
theorem tab_at {q : Program} {lo : List Str} {mean : ExcName → Option Value} {mg mb : Str → Option Value} {h : Heap} {K : PySem.W.Frag} {x : Str} {c P : Addr} (T : PyProof.Rows.Top q lo mean mg mb h) (X : K.In h) (hr : ((PyProof.Rows.recsOf q).find? fun e => e.name == x).isSome = true) (ht : PySem.W.tabIn K x = some (c, P)) :
    PySem.W.CodeHd h c P ∧ h.get? P = some { cls := .none, data := .fields #[] } := by
  obtain ⟨d, hd⟩ := Option.isSome_iff_exists.mp hr
  exact PySem.W.tab_of T X hd ht
end DV

namespace DV
open PySem L2
variable {Wx : L2.XK}
theorem zip_rev {α β : Type} : ∀ {a : List α} {b : List β}, a.length = b.length → (a.zip b).reverse = a.reverse.zip b.reverse
  | [], b, h => by simp
  | x :: a, [], h => by simp at h
  | x :: a, y :: b, h => by
    have l : a.length = b.length := by simpa using h
    rw [List.zip_cons_cons, List.reverse_cons, List.reverse_cons, List.reverse_cons, zip_rev l, List.zip_append (by simpa using l)]
    rfl
/-- written classes, one behind another -/
def tCs (vs : List V) : TA := fun _ H Q => Q vs H
section
variable {X : Cx} {g : Gx} {fs : List FS} {a dd : Addr} {oe : Obj} {pn : List (Addr × Obj)} {c0 i : Nat} {n y : Str} {p p2 pe pos tp : Pos} {es : List Expr} {kt : Nat} {Y : Cx} {e : Expr} {v : V} {vs : List V}
theorem cs_nil : PA Y [] (tCs []) := pa_nil
theorem cs_cons (h : PE Y e (tC v)) (hr : PA Y es (tCs vs)) (hs : starEach (e :: es) Y.env = (false, eval e Y.env) :: starEach es Y.env) : PA Y (e :: es) (tCs (v :: vs)) := PA.weak (pa_cons h hr hs) fun _ _ _ q => q
theorem p_xit {all cs : List Nat} {us : List Value} (hall : ∀ c ∈ all, ErrC g.K (g.cl c) ∧ PySem.W.kitAny g.K (.ref (g.cl c)) us = some (cs.contains c)) (hcv : Paired ClsV vs us) (hK : X.K = g.K) (hz : Zc (.ref (g.cl c0)) (some dd) oe) (hf : ∃ vs, oe.data = .fields vs)
    (he : PE (X.suite a ((a, oe) :: pn)) (.Name n pe) (tVar i)) (hc : PA (X.suite a ((a, oe) :: pn)) es (tCs vs)) (hlen : vs.length ≤ sizeLine) (hg : Gl (X.suite a ((a, oe) :: pn)) "isinstance") (hm : X.mg "isinstance" = none)
    (hst : starEach (.Name n pe :: [.Tuple es kt tp]) (X.suite a ((a, oe) :: pn)).env = (false, eval (.Name n pe) (X.suite a ((a, oe) :: pn)).env) :: starEach [.Tuple es kt tp] (X.suite a ((a, oe) :: pn)).env) (hpl : (backTo pos (starEach [.Tuple es kt tp] (X.suite a ((a, oe) :: pn)).env)).any (·.1) = false) :
    PE (X.suite a ((a, oe) :: pn)) (.Call (.Name "isinstance" p) [.Name n pe, .Tuple es kt tp] [] pos) (tR (gE g c0 a dd) fs (.xis all cs i)) := by
  by_cases hm0 : c0 ∈ all
  · obtain ⟨C, hk⟩ := hall c0 hm0
    rw [← hK] at C hk
    refine PE.weak (pe_callB (call_xit C hz hf) hg hm PyProof.Rows.boot_isinstance (pa_cons he (pa_cons (pe_tup hc) pa_nil rfl) hst) (by decide) (by decide) hst hpl) ?_
    rintro σ H Q ⟨Bn, Ow, Γ, r, Γ', rs, hev, hQ⟩
    simp only [ev] at hev
    obtain ⟨b, e1, e2⟩ := Option.map_eq_some_iff.mp hev
    simp only [Prod.mk.injEq] at e2
    obtain ⟨rfl, rfl⟩ := e2
    unfold xisD at e1
    split at e1
    · rename_i c ks ds hs
      simp only [Option.ite_none_right_eq_some, Option.some.injEq] at e1
      obtain ⟨hall', rfl⟩ := e1
      obtain ⟨rfl, e3, ws, l, hd, rp⟩ := err_slot rs hs
      refine ⟨.ref a, e3, hlen, fun q hq => ?_⟩
      have sm : Same H (upd H q (.tup vs)) := same_new hq
      exact ⟨q, vs, us, _, _, rfl, upd_same, hcv, sm _ _ hd, hk, hQ _ _ Ow (Stp.same sm) (rs.same sm) (by simp only [Val, Rep])⟩
    · cases e1
  · refine PE.weak (p_stuck (g := g) (fs := fs)) ?_
    rintro σ H Q ⟨Bn, Ow, Γ, r, Γ', rs, hev, hQ⟩
    exfalso
    simp only [ev] at hev
    obtain ⟨b, e1, e2⟩ := Option.map_eq_some_iff.mp hev
    unfold xisD at e1
    split at e1
    · rename_i c ks ds hs
      simp only [Option.ite_none_right_eq_some, Option.some.injEq] at e1
      obtain ⟨rfl, _⟩ := err_slot rs hs
      exact hm0 (by simpa using e1.1)
    · cases e1
theorem p_xfld {all : List Nat} {nm : Str} (hall : ∀ c ∈ all, XfC g.K (g.cl c) ∧ PySem.W.findIn g.K (.ref (g.cl c)) nm = some none) (hK : X.K = g.K) (hz : Zc (.ref (g.cl c0)) (some dd) oe) (hf : ∃ vs, oe.data = .fields vs)
    (he : PE (X.suite a ((a, oe) :: pn)) (.Name n pe) (tVar i)) (hb : attributeBase (.Name n pe) nm (X.suite a ((a, oe) :: pn)).env (eval (.Name n pe) (X.suite a ((a, oe) :: pn)).env) = eval (.Name n pe) (X.suite a ((a, oe) :: pn)).env) :
    PE (X.suite a ((a, oe) :: pn)) (.Attribute (.Name n pe) nm pos) (tR (gE g c0 a dd) fs (.xfld all i nm)) := by
  by_cases hm0 : c0 ∈ all
  · obtain ⟨C, hk⟩ := hall c0 hm0
    rw [← hK] at C hk
    refine PE.weak (pe_xf C hk hz hf he hb) ?_
    rintro σ H Q ⟨Bn, Ow, Γ, r, Γ', rs, hev, hQ⟩
    simp only [ev] at hev
    obtain ⟨d, e1, e2⟩ := Option.map_eq_some_iff.mp hev
    simp only [Prod.mk.injEq] at e2
    obtain ⟨rfl, rfl⟩ := e2
    unfold xfldD at e1
    split at e1
    · rename_i c ks ds hs
      simp only [Option.ite_none_right_eq_some] at e1
      obtain ⟨hall', e4⟩ := e1
      obtain ⟨rfl, e3, ws, l, hd, rp⟩ := err_slot rs hs
      obtain ⟨v, l1, r1⟩ := fldL_ok (by simpa using l) rp.rev e4
      rw [zip_rev l] at hd
      exact ⟨.ref a, e3, rfl, rfl, dd, _, v, rfl, hd, l1, hQ v H Ow (.refl _ _) rs r1⟩
    · cases e1
  · refine PE.weak (p_stuck (g := g) (fs := fs)) ?_
    rintro σ H Q ⟨Bn, Ow, Γ, r, Γ', rs, hev, hQ⟩
    exfalso
    simp only [ev] at hev
    obtain ⟨d, e1, e2⟩ := Option.map_eq_some_iff.mp hev
    unfold xfldD at e1
    split at e1
    · rename_i c ks ds hs
      simp only [Option.ite_none_right_eq_some] at e1
      obtain ⟨rfl, _⟩ := err_slot rs hs
      exact hm0 (by simpa using e1.1)
    · cases e1
end
end DV

namespace DV
open PySem L2
/-- the qualified name of the lambdas of a def -/
abbrev lamQ (qual : Str) : Str := (qual ++ (".<locals>." : Str)) ++ ("<lambda>" : Str)
/-- a def's code object at c has a table, which is told -/
structure LamT (g : Gx) (base : Heap) (mg : Str → Option Value) (c : Addr) (qual : Str) : Prop where
  ex : ∃ P, LamX.TabB base mg c P ∧ (P, lamQ qual) ∈ g.T ∧ ∀ q ∈ g.T, q.1 = P → q.2 = lamQ qual
/-- a def of one parameter that calls it -/
structure Told (g : Gx) (mg : Str → Option Value) (x a : Str) (st : Stmt) : Prop where
  ex : ∃ (g0 : Addr) (oc : Value) (od : Option Addr) (kV doc pm : Value) (an : Option Addr) (cdv ct : Value) (osl : Array (Option Value)), mg x = some (.ref g0) ∧ PySem.W.keepIn g.K (.ref g0) = true ∧
    g.K.lookup g0 = some ⟨oc, od, .func (PySem.W.fnOf x x (defArgs st) (defBody st) (defScope st) .none kV doc pm an cdv ct), osl⟩ ∧ PySem.W.codeIn g.K cdv x = true ∧ L2.Binds g.K (PySem.W.fnOf x x (defArgs st) (defBody st) (defScope st) .none kV doc pm an cdv ct) [a] []
theorem told_of {g : Gx} {mg : Str → Option Value} {x a : Str} {st : Stmt} {g0 : Addr} {oc kV doc pm cdv ct : Value} {od an : Option Addr} {osl : Array (Option Value)} (h1 : mg x = some (.ref g0)) (h2 : PySem.W.keepIn g.K (.ref g0) = true)
    (h3 : g.K.lookup g0 = some ⟨oc, od, .func (PySem.W.fnOf x x (defArgs st) (defBody st) (defScope st) .none kV doc pm an cdv ct), osl⟩) (h4 : PySem.W.codeIn g.K cdv x = true)
    (h5 : ∀ (us : List Value), us.length = [a].length → bindArgs (PySem.W.fnOf x x (defArgs st) (defBody st) (defScope st) .none kV doc pm an cdv ct) ⟨us, []⟩ = pure ([a].zip us)) : Told g mg x a st :=
  ⟨g0, oc, od, kV, doc, pm, an, cdv, ct, osl, h1, h2, h3, h4, .all h5⟩
theorem p_told {X : Cx} {g : Gx} {fs fs0 : List FS} {d0 : D} {sd : Nat → List Str → List D → Option D} {ie : E} {x a qual : Str} {st : Stmt} {c : Addr} {k : Nat} {Ng : List Str} {params : Arguments} {body : Expr} {scope : Scope} {p lpos pos : Pos} (C : Cok g X) (W : Told g X.mg x a st) (LT : LamT g X.base X.mg c qual) (hg : Gl X x)
    (Sg : FnScope Ng [a] (defScope st)) (hNg : Ng[0]? = some a) (hva : Vis (defScope st) a) (hG : ∀ (g0 : Addr) (cdv : Value), LamX.GivesTo X Ng x (defScope st) g0 cdv (defBody st) a (X.env.qual ++ "<lambda>") (TTs g fs0 d0 sd))
    (hcode : X.env.code = .ref c) (hq : X.env.qual ++ ("<lambda>" : Str) = lamQ qual) (hr : Room (k + 2) X.A) (L : LamX.LamS X.env.scope scope) (hdef : defaultsOf params X.env = ([], []))
    (hbind : ∀ (q : Str) (cl : List (Str × Addr)) (pm cv ctv : Value), bindArgs (PySem.W.kla_fn "<lambda>" q params body scope cl pm cv ctv) ⟨[], []⟩ = pure [])
    (hbody : ∀ (A : Around) (outer : List Env) (s : Shared) (H : Hp) (E : L2.XK) (f c' : Addr), Room k (LamX.lamCx X A outer s H E scope f c').A → Cok g (LamX.lamCx X A outer s H E scope f c') → Tk (LamX.lamCx X A outer s H E scope f c') E → PE (LamX.lamCx X A outer s H E scope f c') body (tRX g E fs ie))
    (hdb : (x == ("__debug__" : Str)) = false) (hd : (a == ("__debug__" : Str)) = false) (hcd : (a == ("__classdict__" : Str)) = false) :
    PE X (.Call (.Name x p) [.Lambda params body scope lpos] [] pos) (tR g fs (.said d0 sd ie)) := by
  obtain ⟨g0, oc, od, kV, doc, pm, an, cdv, ct, osl, h1, h2, h3, h4, h5⟩ := W.ex
  obtain ⟨P, TB, m1, m2⟩ := LT.ex
  rw [← C.K] at h2 h3 h4 h5
  exact p_said C hg h1 h2 h3 h4 h5 Sg hNg hva (hG g0 cdv) TB hcode (by rw [hq]; exact m1) (by rw [hq]; exact m2) hr L hdef hbind hbody hdb hd hcd
theorem tabIn_of {K : PySem.W.Frag} {x : Str} {f c P : Addr} {c1 c2 : Value} {d1 d2 : Option Addr} {s1 s2 : Array (Option Value)} {fd : FuncData} {vs : Array Value} (h1 : PySem.W.nsIn K mainGlobals x = some (some (.ref f)))
    (h2 : K.lookup f = some ⟨c1, d1, .func fd, s1⟩) (h3 : fd.code = .ref c) (h4 : K.lookup c = some ⟨c2, d2, .fields vs, s2⟩) (h5 : (vs[11]? : Option Value) = some (.ref P)) : PySem.W.tabIn K x = some (c, P) := by
  unfold PySem.W.tabIn
  simp only [h1, h2, h3, h4, h5]
end DV

namespace DV
open PySem L2 PySem.Spec PyProof.Rows
/-! ### sorted list of ints -/
section
variable {X : Cx} {g : Gx}
variable {fs : List FS} {e : Expr} {es : List Expr} {ies : List E} {p pos : Pos}
end
/-! ### min of tuples of an int and a list of ints -/
section
variable {X : Cx} {g : Gx}
variable {fs : List FS} {e : Expr} {es : List Expr} {ies : List E} {p pos : Pos}
end
end DV

namespace DV
open PySem L2
section
variable {g : Gx} {fs : List FS} {H : Hp} {σ : St}
end
section
variable {X : Cx} {g : Gx} {fs : List FS}
end
end DV

namespace DV
open PySem L2 PySem.Spec
section
variable {X : Cx} {g : Gx} {fs : List FS} {a : Expr} {ia : E} {pos p p2 pos2 : Pos}
/-- list(range(a)) -/
theorem p_rngl1 (C : Cok g X) (hg : Gl X "list") (hm : X.mg "list" = none) (hg2 : Gl X "range") (hm2 : X.mg "range" = none) (ha : PE X a (tR g fs ia)) (na : starEach [a] X.env = (false, eval a X.env) :: starEach [] X.env)
    (nc : starEach [.Call (.Name "range" p2) [a] [] pos2] X.env = (false, eval (.Call (.Name "range" p2) [a] [] pos2) X.env) :: starEach [] X.env) : PE X (.Call (.Name "list" p) [.Call (.Name "range" p2) [a] [] pos2] [] pos) (tR g fs (.rngl (.cst (.int 0)) ia)) := by
  refine PE.weak (PE.kf (pe_listRg C.calm hg hm (prg_1 hg2 hm2 ha na) nc)) ?_
  rintro σ H Q ⟨Bn, Ow, Γ, r, Γ', rs, he, hQ⟩
  simp only [ev] at he
  obtain ⟨⟨x, Γ1⟩, e1, he⟩ := Option.bind_eq_some_iff.mp he
  simp only [Option.some.injEq, Prod.mk.injEq] at e1
  obtain ⟨rfl, rfl⟩ := e1
  obtain ⟨⟨y, Γ2⟩, e2, he⟩ := Option.bind_eq_some_iff.mp he
  obtain ⟨d0, ed0, he⟩ := Option.bind_eq_some_iff.mp he
  obtain rfl : D.int 0 = d0 := Option.some.inj ed0
  obtain ⟨e, ee, he⟩ := Option.bind_eq_some_iff.mp he
  obtain ⟨ds, h6, he⟩ := Option.map_eq_some_iff.mp he
  simp only [Prod.mk.injEq] at he
  obtain ⟨rfl, rfl⟩ := he
  rw [← datum_dn] at ee
  rw [C.K]
  refine tR_one rs e2 fun w H2 O2 s2 r2 w2 => ?_
  have q2 := w2.rdb r2 ee
  cases e with
  | int j =>
    simp only [rnglD] at h6
    split at h6
    · rename_i hc
      simp only [Bool.and_eq_true, decide_eq_true_eq] at hc
      cases h6
      have t1 := in62_of hc.1.1
      have t2 := in62_of hc.1.2
      refine ⟨j, rdb_int q2, ⟨t1.1, t1.2, t2.1, t2.2, by have := hc.2; omega⟩, fun q hq kf => ?_⟩
      have sm : Same H2 (upd H2 q (.lst (rgV 0 j))) := same_new hq
      obtain ⟨O3, s3, r3, v3⟩ := Res.val (r := .nw (.lst (rngD 0 1 (j - 0).toNat))) r2 sm (new_lst hq (kf_new kf upd_same) (reps_rg _ 0 _ fun _ => rfl))
      exact hQ _ _ O3 (s2.trans s3) r3 v3
    · cases h6
  | _ => simp only [rnglD, reduceCtorEq] at h6
end
end DV

namespace DV
open PySem PySem.Spec PyProof.Rows L2 LamX
/-- the table of modules is an object of the ground -/
def SmB (base : Heap) : Prop := ∃ o, base.get? sysModules = some o
/-- the promise of a def, where no repr is under way -/
structure FnG (P : Program) (w : World) (K : PySem.W.Frag) (mg : Str → Option Value) (base : Heap) (CX : CXT) (k : Nat) (f : Addr) (fd : FuncData) (ps : List Str) (sp : Sp) : Prop where
  len : ∀ vs H Q E, sp vs H Q E → vs.length = ps.length
  run : ∀ (A : Around) (ot : List Env) (s : Shared) (H : Hp) (as : Args) (us : List Value) (vs : List V) (Q : VK) (E : XK), A.guards = some [] → Room k A → Env0 P w K mg base A ot s H → BindsTo s fd as (ps.zip us) → Vals vs us → sp vs H Q E →
    codeAny (model P w) A (.call (.ref f) as) (CR CX ot P w H s Q E) s
theorem fnG_of {CX : CXT} {P : Program} {w : World} {K : PySem.W.Frag} {mg : Str → Option Value} {base : Heap} {k : Nat} {f : Addr} {name qual : Str} {params : Arguments} {body : List Stmt} {scope : Scope} {dv0 kV doc pm cdv ct oc : Value} {an od : Option Addr}
    {sl0 : Array (Option Value)} {N ps : List Str} {sp : Sp} (lk : K.lookup f = some ⟨oc, od, .func (PySem.W.fnOf name qual params body scope dv0 kV doc pm an cdv ct), sl0⟩) (hcd : PySem.W.codeIn K cdv qual = true) (S : FnScope N ps scope)
    (len : ∀ xs H0 W0 X0, sp xs H0 W0 X0 → xs.length = ps.length)
    (hbody : ∀ (A0 : Around) (ot : List Env) (t0 : Shared) (H0 : Hp) (xs : List V) (W0 : VK) (X0 : XK), (A0.deeper (envOfC qual scope t0.heap.objs.size f cdv)).guards = some [] → Room k (A0.deeper (envOfC qual scope t0.heap.objs.size f cdv)) → sp xs H0 W0 X0 →
      ∃ td, PSs (cxOf CX P w K mg base N qual scope f cdv A0 ot t0 H0 X0) body td ∧ td { nx := fun _ H' => W0 .non H', rt := W0 } (start N xs) H0) :
    FnG P w K mg base CX (k + 1) f (PySem.W.fnOf name qual params body scope dv0 kV doc pm an cdv ct) ps sp := by
  refine ⟨len, fun A0 ot t0 H0 as0 ws xs W0 X0 hgd hr hE hb r hS => ?_⟩
  have hL := len _ _ _ _ hS
  have kx : K.In t0.heap := hE.mod.kin.keeps fun b o ex0 => (hE.bs b o ex0).1
  have nl : t0.heap.NoLimit := hE.mod.nolimit.keeps fun b o ex0 => (hE.bs b o ex0).1
  have hkd : ∀ y ∈ ps.zip ws, scope.names.lookup y.1 = some .local ∨ (scope.names.lookup y.1 = some .cell ∧ ((cellsFrom (t0.heap.objs.size + 1) scope.names []).lookup y.1).isSome = true) := fun ⟨n, v⟩ hy => by
    rcases S.par n (List.of_mem_zip hy).1 with qq | qq
    · exact .inl qq
    · exact .inr ⟨qq, PySem.W.cellsFrom_some _ _ _ (.inl qq)⟩
  refine codeAny_call_function hr.depth (kx _ _ lk) rfl S.co S.gen rfl (PySem.W.codeRec_of kx hcd) (hb _ _ _ _ ?_)
  refine wpAny_newFunctionEnv_cells S.kind hkd fun ev0 hev s1 x => ?_
  subst hev
  refine ⟨nl.keeps x.toInCall.keep, codeAny_func ?_⟩
  obtain ⟨td, htd, hqd⟩ := hbody A0 ot t0 H0 xs W0 X0 hgd (hr.deeper _) hS
  have J0 : Inv (cxOf CX P w K mg base N qual scope f cdv A0 ot t0 H0 X0) [] (start N xs) H0 s1 := inv_start S hr.hd hE hL r x
  refine wpAny_mono (htd.run [] s1 (start N xs) H0 _ J0 hqd) (fun fl0 s' hfl => ?_) fun ex0 s' hfl => hfl
  have fin0 : ∀ {σ' : L2.St} {H' : Hp} {v : V} {u : Value}, Inv (cxOf CX P w K mg base N qual scope f cdv A0 ot t0 H0 X0) [] σ' H' s' → RelV v u → W0 v H' → CE ot P w H0 t0 W0 u s' :=
    fun {σ' H' v u} J1 rvl qq => ⟨v, H', J1.os, J1.bare, J1.base, J1.hok, rvl, qq⟩
  cases fl0 with
  | ret u =>
    obtain ⟨v, σ', H', J1, rvl, qq⟩ := hfl
    exact fin0 J1 rvl qq
  | next =>
    obtain ⟨σ', H', J1, qq⟩ := hfl
    exact fin0 (v := V.non) (u := Value.none) J1 rfl qq
  | brk =>
    obtain ⟨_, _, _, qq⟩ := hfl
    exact False.elim qq
  | cont =>
    obtain ⟨_, _, _, qq⟩ := hfl
    exact False.elim qq
theorem law_callG {P : Program} {ww : World} {KK : PySem.W.Frag} {mg mb : Str → Option Value} {CX : CXT} {kk : Nat} {fa0 aa : Addr} {cz : List (Addr × Addr)} {fd0 : FuncData} {xx : Str} {spp : Sp} {t0₁ : Shared} {xs : List Value} {ms : List Int}
    (kx : KK.In t0₁.heap) (hn0 : t0₁.heap.Ns mainGlobals mg) (hsy : ∃ ym, t0₁.heap.Ns sysModules ym) (hb0 : t0₁.heap.Ns builtinsNs mb) (hb1 : ∀ xx : Str, xx ≠ "__name__" → mb xx = bootBuiltins xx) (hl0 : t0₁.heap.NoLimit) (hg0 : t0₁.gens = #[])
    (tT : ∀ pp ∈ cz, t0₁.heap.get? pp.2 = some { cls := .none, data := .fields #[] }) (tN : ∀ pp ∈ cz, KK.lookup pp.2 = none) (tC : ∀ pp ∈ cz, PySem.W.CodeHd t0₁.heap pp.1 pp.2)
    (tB : ∃ (bm : Addr) (ob : Obj), mg "__builtins__" = some (.ref bm) ∧ bm ≠ builtinsNs ∧ t0₁.heap.get? bm = some ob ∧ ob.cls = .type "module" ∧ ob.dict = some builtinsNs ∧ ob.data = .plain)
    (ha0 : t0₁.heap.get? aa = some { cls := .type "list", data := .seq xs.toArray }) (hi0 : IntsAre xs ms) (hl1 : ms.length ≤ sizeLine) (hr0 : Room kk callerA)
    (fF : ∀ base : Heap, KK.In base → base.Ns mainGlobals mg → SmB base → (∀ pp ∈ cz, TabB base mg pp.1 pp.2) → FnG P ww KK mg base CX kk fa0 fd0 [xx] spp) (hbd : ∀ (t0 : Shared) (uu : Value), BindsTo t0 fd0 ⟨[uu], []⟩ [(xx, uu)])
    (hs0 : ∀ H0 : Hp, (∀ pp ∈ cz, H0 pp.2 = some (.tbl #[])) → SqL KK H0 aa (ms.map V.int) → spp [.ref aa] H0 (fun vv _ => vv = .bl true) fun _ _ _ => False)
    (hX : ∀ H0 ee s', CX [] H0 t0₁ (fun _ _ _ => False) ee s' → False) :
    codeAny (model P ww) callerA (.call (.ref fa0) ⟨[.ref aa], []⟩) (fun rr s' => rr = .ok (.ret (.bool true)) ∧ OldK t0₁.heap s'.heap ∧ s'.os = t0₁.os ∧ AllBare s'.gens) t0₁ := by
  have rvv := vals_ints hi0
  have lnV := hi0.length
  have tIs : ∀ bb : Addr, bb ∈ cz.map (·.2) → t0₁.heap.get? bb = some { cls := .none, data := .fields #[] } := fun bb hb0 => by
    obtain ⟨pp, hpp, ee⟩ := List.mem_map.mp hb0
    rw [← ee]
    exact tT pp hpp
  have aTn : aa ∉ cz.map (·.2) := fun zz => by
    have qq := tIs aa zz
    rw [ha0] at qq
    have z' : Data.seq xs.toArray _ = Data.fields #[] := congrArg Obj.data (Option.some.inj qq)
    cases z'
  have mT : ∀ pp ∈ cz, pp.2 ∈ cz.map (·.2) := fun pp hpp => List.mem_map.mpr ⟨pp, hpp, rfl⟩
  have cr : ∀ H0 : Hp, (∀ pp ∈ cz, H0 pp.2 = some (.tbl #[])) → (∀ bb, H0 bb = none ∨ bb ∈ cz.map (·.2) ∨ ∃ oo xs, H0 bb = some (.frz oo (.lst xs))) → SqL KK H0 aa (ms.map V.int) → HOk P ww H0 t0₁.heap → (∀ bb, H0 bb ≠ none → bb = aa ∨ bb ∈ cz.map (·.2)) → (H0 aa ≠ none → KK.lookup aa = none) →
      codeAny (model P ww) callerA (.call (.ref fa0) ⟨[.ref aa], []⟩) (fun rr s' => rr = .ok (.ret (.bool true)) ∧ OldK t0₁.heap s'.heap ∧ s'.os = t0₁.os ∧ AllBare s'.gens) t0₁ := by
    intro H0 hH hO hS hok hA hK
    have bs0 : ∀ {bb : Addr} {oo : Obj}, t0₁.heap.get? bb = some oo → H0 bb = none → (hidT t0₁.heap H0).get? bb = some oo := fun ee nn => hidT_get ee nn
    have nD : ∀ {bb : Addr} {oo : Obj}, t0₁.heap.get? bb = some oo → (∀ xs nn, oo.data ≠ .seq xs nn) → oo.data ≠ .fields #[] → H0 bb = none := fun {bb oo} ee h1 h2 => by
      cases qq : H0 bb with
      | none => rfl
      | some uu =>
        rcases hA bb (by rw [qq]; simp) with e' | e'
        · rw [e', ha0] at ee
          cases ee
          exact (h1 _ _ rfl).elim
        · rw [tIs bb e'] at ee
          cases ee
          exact (h2 rfl).elim
    have nA : ∀ {bb : Addr} {oo : Obj} {es : Array DictEntry} {ep : Nat}, t0₁.heap.get? bb = some oo → oo.data = .dict es ep → H0 bb = none := fun {bb oo es ep} ee dd => by
      refine nD ee (fun xs nn zz => ?_) fun zz => ?_
      · rw [dd] at zz
        cases zz
      · rw [dd] at zz
        cases zz
    have nK : ∀ {bb : Addr} {m : Str → Option Value}, t0₁.heap.Ns bb m → (hidT t0₁.heap H0).Ns bb m := fun {bb m} ⟨oo, es, ep, ee, dd, rr⟩ => ⟨oo, es, ep, bs0 ee (nA ee dd), dd, rr⟩
    have kb : KK.In (hidT t0₁.heap H0) := fun bb oo ee => bs0 (kx bb oo ee) (by
      cases qq : H0 bb with
      | none => rfl
      | some uu =>
        rcases hA bb (by rw [qq]; simp) with e' | e'
        · rw [e'] at ee qq
          rw [hK (by rw [qq]; simp)] at ee
          cases ee
        · obtain ⟨pp, hpp, ep⟩ := List.mem_map.mp e'
          rw [← ep, tN pp hpp] at ee
          cases ee)
    have hm0 : L2.Mod KK mg (hidT t0₁.heap H0) := ⟨kb, nK hn0, ⟨mb, nK hb0, hb1⟩, let ⟨mc, h1, h2⟩ := hl0; ⟨mc, nK h1, h2⟩⟩
    have tb : ∀ pp ∈ cz, TabB (hidT t0₁.heap H0) mg pp.1 pp.2 := fun pp hpp => by
      have hTp := tT pp hpp
      refine ⟨?_, ?_, fun zz => ?_⟩
      · obtain ⟨oo, us, file, tf, flags, tg, inF, text, tt, e1, r1, r2, r3, r4, r5, r6, r7, r8, hne⟩ := tC pp hpp
        refine ⟨oo, us, file, tf, flags, tg, inF, text, tt, bs0 e1 (nD e1 (fun xs nn zz => ?_) fun zz => ?_), r1, r2, r3, r4, r5, r6, r7, r8, hne⟩
        · rw [r2] at zz
          cases zz
        · rw [r2] at zz
          cases zz
          simp at r3
      · obtain ⟨bm, ob, b1, b2, b3, b4, b5, b6⟩ := tB
        have nG : bm ≠ mainGlobals := fun qq => by
          obtain ⟨oo, es, ep, ee, hd, _⟩ := hn0
          rw [qq, ee] at b3
          cases b3
          rw [hd] at b6
          cases b6
        have nP : bm ≠ pp.2 := fun qq => by
          rw [qq, hTp] at b3
          cases b3
          cases b6
        refine ⟨bm, ob, b1, b2, nG, nP, bs0 b3 (nD b3 (fun xs nn zz => ?_) fun zz => ?_), b4, b5, b6⟩
        · rw [b6] at zz
          cases zz
        · rw [b6] at zz
          cases zz
      · obtain ⟨oo, es, ep, ee, hd, _⟩ := hn0
        rw [zz, hTp] at ee
        cases ee
        cases hd
    have ev0 : Env0 P ww KK mg (hidT t0₁.heap H0) callerA [] t0₁ H0 := ⟨rfl, hm0, fun bb oo ee => of_hidT ee, Nat.le_of_eq (hidT_size _ _), trivial, fun bb hb0 => absurd (show bb ∈ ([] : List Addr) from hb0) (by simp), hok, .of_eq hg0⟩
    refine codeAny_mono ((fF _ kb (nK hn0) (let ⟨_, hy⟩ := hsy; let ⟨yo, _, _, y1, _⟩ := nK hy; ⟨yo, y1⟩) tb).run callerA [] t0₁ H0 ⟨[.ref aa], []⟩ [.ref aa] [.ref aa] _ _ rfl hr0 ev0 (hbd t0₁ (.ref aa)) (.cons rfl .nil) (hs0 H0 hH hS)) fun rr s' hh => ?_
    cases rr with
    | error ee => exact (hX H0 ee s' hh).elim
    | ok fl =>
      cases fl with
      | next => exact False.elim hh
      | brk => exact False.elim hh
      | cont => exact False.elim hh
      | ret uu =>
        obtain ⟨vv, H', oss, br, unn, hok', r', qq⟩ := hh
        have q' : vv = .bl true := qq
        subst q'
        obtain rfl : uu = Value.bool true := r'
        have ky : ∀ bb oo, bb ∉ cz.map (·.2) → t0₁.heap.get? bb = some oo → s'.heap.get? bb = some oo := fun bb oo nb ee => by
          cases qq : H0 bb with
          | none => exact unn.keep bb oo ee qq (by intro zz; exact absurd (show bb ∈ ([] : List Addr) from zz) (by simp)) (by simp)
          | some uu =>
            rcases hO bb with zz | zz | ⟨ob, xs, zz⟩
            · rw [qq] at zz; cases zz
            · exact absurd zz nb
            · have z2 := unn.frzs bb ob _ zz
              obtain ⟨e1, _⟩ := hok bb _ zz
              obtain ⟨e2, _⟩ := hok' bb _ z2
              rw [ee] at e1; cases e1
              exact e2
        have gr : ∀ pp ∈ cz, ∃ more : Array Value, s'.heap.get? pp.2 = some { cls := .none, data := .fields more } := fun pp hpp => by
          obtain ⟨more, zz⟩ := unn.tbls pp.2 #[] (hH pp hpp)
          exact ⟨_, hok' pp.2 _ zz⟩
        refine ⟨rfl, ⟨fun bb oo ee => ?_, fun bb oo ee => ?_⟩, oss, br⟩
        · by_cases hb0 : bb ∈ cz.map (·.2)
          · obtain ⟨pp, hpp, ep⟩ := List.mem_map.mp hb0
            obtain ⟨more, hm⟩ := gr pp hpp
            rw [← ep] at ee ⊢
            rw [tT pp hpp] at ee
            cases ee
            exact .inr (.inl ⟨((tC pp hpp).tab (tT pp hpp)).isCodeTable, rfl, #[], more, rfl, by rw [Array.empty_append]; exact hm⟩)
          · exact .inl (ky bb oo hb0 ee)
        · by_cases hb0 : bb ∈ cz.map (·.2)
          · obtain ⟨pp, hpp, ep⟩ := List.mem_map.mp hb0
            obtain ⟨more, hm⟩ := gr pp hpp
            rw [← ep]
            exact ⟨_, hm⟩
          · exact ⟨oo, ky bb oo hb0 ee⟩
  cases hk : KK.lookup aa with
  | some oo =>
    have ee := kx aa oo hk
    rw [ha0] at ee
    cases ee
    refine cr (fun bb => if bb ∈ cz.map (·.2) then some (.tbl #[]) else none) (fun pp hpp => if_pos (mT pp hpp)) (fun bb => ?_) (.inr ⟨_, xs.toArray, _, hk, rfl, rfl, rfl, by rw [List.size_toArray, lnV]; exact hl1, by simpa using rvv⟩) (fun bb uu zz => ?_) (fun bb zz => ?_) fun zz => absurd (show (if aa ∈ cz.map (·.2) then some (HO.tbl #[]) else none) = none from if_neg aTn) zz
    · by_cases hb0 : bb ∈ cz.map (·.2)
      · exact .inr (.inl hb0)
      · exact .inl (if_neg hb0)
    · by_cases hb0 : bb ∈ cz.map (·.2)
      · have z' := (if_pos hb0).symm.trans zz
        cases z'
        exact tIs bb hb0
      · have z' := (if_neg hb0).symm.trans zz
        cases z'
    · by_cases hb0 : bb ∈ cz.map (·.2)
      · exact .inr hb0
      · exact absurd (if_neg hb0) zz
  | none =>
    refine cr (fun bb => if bb = aa then some (.frz { cls := .type "list", data := .seq xs.toArray } (.lst (ms.map V.int))) else if bb ∈ cz.map (·.2) then some (.tbl #[]) else none) (fun pp hpp => (if_neg (show ¬ pp.2 = aa from fun zz => aTn (by rw [← zz]; exact mT pp hpp))).trans (if_pos (mT pp hpp))) (fun bb => ?_)
      (.inl (.inr ⟨{ cls := .type "list", data := .seq xs.toArray }, if_pos rfl⟩)) (fun bb uu zz => ?_) (fun bb zz => ?_) fun _ => hk
    · by_cases hb0 : bb = aa
      · exact .inr (.inr ⟨_, _, if_pos hb0⟩)
      · by_cases hb2 : bb ∈ cz.map (·.2)
        · exact .inr (.inl hb2)
        · exact .inl ((if_neg hb0).trans (if_neg hb2))
    · by_cases hb0 : bb = aa
      · have z' := (if_pos hb0).symm.trans zz
        cases z'
        rw [hb0]
        exact ⟨ha0, by rw [List.length_map]; exact hl1, xs, _, rvv, ha0⟩
      · have z1 := (if_neg hb0).symm.trans zz
        by_cases hb2 : bb ∈ cz.map (·.2)
        · have y' := (if_pos hb2).symm.trans z1
          cases y'
          exact tIs bb hb2
        · have y' := (if_neg hb2).symm.trans z1
          cases y'
    · by_cases hb0 : bb = aa
      · exact .inl hb0
      · by_cases hb2 : bb ∈ cz.map (·.2)
        · exact .inr hb2
        · exact absurd ((if_neg hb0).trans (if_neg hb2)) zz
/-- what is known of the law's promise at the head's heap hh -/
def LawAtG (ll : PySem.W.OpenLaw) (ww : World) (KK : PySem.W.Frag) (CX : CXT) (kk nn : Nat) (xx : Str) (mg : Str → Option Value) (fa0 : Addr) (hh : Heap) : Prop :=
  ∃ (fd0 : FuncData) (cz : List (Addr × Addr)) (spp : Sp), (∀ pp ∈ cz, hh.get? pp.2 = some { cls := .none, data := .fields #[] }) ∧ (∀ pp ∈ cz, KK.lookup pp.2 = none) ∧ (∀ pp ∈ cz, PySem.W.CodeHd hh pp.1 pp.2) ∧ (∀ (t0 : Shared) (uu : Value), BindsTo t0 fd0 ⟨[uu], []⟩ [(xx, uu)]) ∧
    (∀ (H0 : Hp) (aa : Addr) (ms : List Int), ms.length ≤ nn → (∀ zz ∈ ms, Builtin.Int.intBits zz ≤ 1048576) → (∀ pp ∈ cz, H0 pp.2 = some (.tbl #[])) → SqL KK H0 aa (ms.map V.int) → spp [.ref aa] H0 (fun vv _ => vv = .bl true) fun _ _ _ => False) ∧
    ∀ base : Heap, KK.In base → base.Ns mainGlobals mg → SmB base → (∀ pp ∈ cz, TabB base mg pp.1 pp.2) → FnG ll.prog ww KK mg base CX kk fa0 fd0 [xx] spp
theorem walk_ofG {ll : PySem.W.OpenLaw} {nn kk : Nat} {qq : Program} {loose : List Str} {XP : (Str → Option Value) → Heap → Prop} {YP : World → Heap → Prop} {dd : DefRec} {KK : Params → PySem.W.Frag} {CX : World → CXT} {xx : Str}
    (hn : ll.most = some nn) (hn2 : nn ≤ sizeLine) (hdf : dd.params.defaults = []) (hr0 : Room kk callerA) (hY : ∀ (ww : World) (hh : Heap), YP ww hh → (KK ww.params).In hh) (hi : importsNone qq = true)
    (fF : ∀ (ww : World) (mg mb : Str → Option Value) (mean : ExcName → Option Value) (fa0 : Addr) (hh : Heap), PyProof.Rows.Top qq (PySem.W.looseW qq loose) mean mg mb hh → (KK ww.params).In hh → mg dd.name = some (.ref fa0) → LawAtG ll ww (KK ww.params) (CX ww) kk nn xx mg fa0 hh)
    (hX : ∀ (ww : World) (H0 : Hp) (t0 : Shared) (ee : Value) (s' : Shared), CX ww [] H0 t0 (fun _ _ _ => False) ee s' → False) :
    PySem.W.WalkO qq loose XP YP ll.row.toRowW dd [] (fun f xs => PySem.call f xs) := by
  refine Att.attach_callB hn hdf fun ww t0₀ t0₁ mg mb fa0 oo pm cd doc aa xs ms G Y ho hd hcd hmg hobj hints hlen hbits hg0 => ?_
  have kx := hY ww _ Y
  have tpp := G.T
  obtain ⟨fd0, cz, spp, tT, tN, tC, hb0, hs0, hF⟩ := fF ww mg mb _ fa0 _ tpp kx hmg
  exact law_callG kx tpp.g (let ⟨ym, hy, _⟩ := (tpp.seer hi).mods; ⟨ym, hy⟩) tpp.b tpp.builtins tpp.nolimit hg0 tT tN tC tpp.bmain hobj hints (Nat.le_trans hlen hn2) hr0 hF hb0 (fun H0 hH hS => hs0 H0 aa ms hlen hbits hH hS) fun H0 ee z1 => hX ww H0 t0₁ ee z1
/-! ### defs over this promise -/
theorem FnG.mono {P : Program} {w : World} {K : PySem.W.Frag} {mg : Str → Option Value} {base : Heap} {CX : CXT} {j k : Nat} {f : Addr} {fd : FuncData} {ps : List Str} {sp : Sp} (h : FnG P w K mg base CX j f fd ps sp) (l : j ≤ k) : FnG P w K mg base CX k f fd ps sp :=
  ⟨h.len, fun A ot s H as us vs Q E hg hr he hb hv hs => h.run A ot s H as us vs Q E hg (hr.mono l) he hb hv hs⟩
theorem FnG.of {P : Program} {w : World} {K : PySem.W.Frag} {mg : Str → Option Value} {base : Heap} {CX : CXT} {k : Nat} {f : Addr} {fd : FuncData} {ps : List Str} {sp : Sp} (h : FnOk P w K mg base CX k f fd ps sp) : FnG P w K mg base CX k f fd ps sp :=
  ⟨h.len, fun A ot s H as us vs Q E _ hr he hb hv hs => h.run A ot s H as us vs Q E hr he hb hv hs⟩
/-- a def that can be called where no repr is under way -/
structure CalG (P : Program) (w : World) (mg : Str → Option Value) (base : Heap) (g : Gx) (k : Nat) (x : Str) (n : Nat) (F : FS) : Prop where
  ex : ∃ f fd ps, mg x = some (.ref f) ∧ PySem.W.keepIn g.K (.ref f) = true ∧ Binds g.K fd ps [] ∧ FnG P w g.K mg base CX0 k f fd ps (spF g n F)
section
variable {P : Program} {w : World} {mg : Str → Option Value} {base : Heap} {g : Gx} {fs : List FS}
theorem CalG.mono {j k : Nat} {x : Str} {n : Nat} {F : FS} (h : CalG P w mg base g j x n F) (l : j ≤ k) : CalG P w mg base g k x n F := by
  obtain ⟨f, fd, ps, h1, h2, h3, h4⟩ := h.ex
  exact ⟨f, fd, ps, h1, h2, h3, h4.mono l⟩
theorem def_fnG {x qual : Str} {st : Stmt} {f c : Addr} {oc kV doc pm cdv ct : Value} {od an : Option Addr} {osl : Array (Option Value)} {N ps : List Str} {k np n : Nat} {ir : List S} (lk : g.K.lookup f = some ⟨oc, od, .func (PySem.W.fnOf x qual (defArgs st) (defBody st) (defScope st) .none kV doc pm an cdv ct), osl⟩)
    (hcd : PySem.W.codeIn g.K cdv qual = true) (S : FnScope N ps (defScope st)) (hp : ps.length = np) (hN : N.length = n) (ge : g.ea = none)
    (hbody : ∀ (A : Around) (outer : List Env) (s : Shared) (H : Hp) (E : L2.XK), (cxOf CX0 P w g.K mg base N qual (defScope st) f cdv A outer s H E).nox.A.guards = some [] → Room k (cxOf CX0 P w g.K mg base N qual (defScope st) f cdv A outer s H E).nox.A → Cok g (cxOf CX0 P w g.K mg base N qual (defScope st) f cdv A outer s H E).nox →
      PSs (cxOf CX0 P w g.K mg base N qual (defScope st) f cdv A outer s H E).nox (defBody st) (tSs g (fun _ _ _ => False) fs ir)) : FnG P w g.K mg base CX0 (k + 1) f (PySem.W.fnOf x qual (defArgs st) (defBody st) (defScope st) .none kV doc pm an cdv ct) ps (spF g np (runF fs np n ir)) := by
  refine fnG_of lk hcd S (fun vs H Q E h => by rw [h.1, hp]) fun A outer s H vs Q E hgd hr h => ?_
  refine ⟨_, (hbody A outer s H E hgd hr ⟨rfl, rfl, hr.units, S.nd, ge⟩).nox, ?_⟩
  obtain ⟨hl, Bn, Ow, Γ, r, os, rs, ef, nr, hQ⟩ := h
  have hG : Γ.length = np := by rw [← rs.len, List.length_map, hl]
  have hle : np ≤ n := by
    rw [← hN, ← hp]
    have := congrArg List.length S.pre
    rw [List.length_take] at this
    omega
  simp only [runF, hG, if_true] at ef
  obtain ⟨o, e1, e2⟩ := Option.bind_eq_some_iff.mp ef
  have est : L2.start N vs = vs.map some ++ List.replicate (n - np) none := by rw [← hN, ← hl]; rfl
  refine ⟨(n, (ownPs 0 Γ).map fun i => (i, vs.getD i .non)), Bn, Ow, Γ ++ List.replicate (n - np) none, o, ?_, ⟨?_, fun p hp => ?_⟩, ?_, ?_⟩
  · rw [est]; exact rs.start _
  · rw [est, List.length_append, List.length_map, List.length_replicate, hl]; show np + (n - np) = n; omega
  · obtain ⟨i, hi, rfl⟩ := List.mem_map.mp hp
    obtain ⟨j, d, rfl, h⟩ := ownPs_mem.mp hi
    have hj : j < vs.length := by
      have h1 := (List.getElem?_eq_some_iff.mp h).1
      omega
    rw [est]
    show (vs.map some ++ List.replicate (n - np) none)[0 + j]? = some (some (vs.getD (0 + j) .non))
    rw [Nat.zero_add, List.getElem?_append_left (by rw [List.length_map]; exact hj), List.getElem?_map, List.getElem?_eq_getElem hj, List.getD_eq_getElem?_getD, List.getElem?_eq_getElem hj]
    rfl
  · rw [List.map_map]
    show exs fs ((ownPs 0 Γ).map id) ir _ = some o
    rw [List.map_id]
    exact e1
  · rw [← hG] at e2
    exact finish_ok rs (by omega) e2 hQ
end
section
variable {X : Cx} {g : Gx} {fs : List FS} {e : Expr} {es : List Expr} {ies : List E} {x : Str} {p pos : Pos} {k i n : Nat} {F : FS}
theorem c_callG (c : CalG X.prog X.w X.mg X.base g k x n F) (hgd : X.A.guards = some []) (C : Cok0 g X) (hF : fs[i]? = some F) (hn : ies.length = n) (hr : Room k X.A) (hg : Gl X x)
    (ha : PA X (e :: es) (tAw g fs ies)) (hdb : (x == ("__debug__" : Str)) = false) (he : starEach (e :: es) X.env = (false, eval e X.env) :: starEach es X.env) (hpl : (backTo pos (starEach es X.env)).any (·.1) = false) :
    PE X (.Call (.Name x p) (e :: es) [] pos) (tR g fs (.call i ies)) := by
  obtain ⟨f, fd, ps, h1, h2, h3, h4⟩ := c.ex
  rw [← C.K] at h2 h3 h4
  have key : PE X (.Call (.Name x p) (e :: es) [] pos) (fun σ H Q => tAw g fs ies σ H fun vs H1 => spF g n F vs H1 Q E0) := by
    refine ⟨fun pins s σ H Q I h => ?_⟩
    refine wpAny_Call_Name_kw (ld_glob I hg h1 ?_ hdb)
    refine PySem.W.callWith_K (h₀ := X.base) I.ok.mod.kin h2 (thn (ha.run pos pins s σ H _ I h) fun us s1 ⟨vs, H1, I1, r, q⟩ => ⟨I1.kIn, ?_⟩) he hpl
    have hL : us.length = ps.length := by rw [← r.length]; exact h4.len _ _ _ _ q
    have bb := h3 s1 us I1.kIn (by rw [List.append_nil]; exact hL)
    rw [List.append_nil] at bb
    refine wpAny_call (codeAny_mono (h4.run X.A X.stack s1 H1 ⟨us, []⟩ us vs Q E0 hgd hr I1.env0 bb r q) fun fl s' hq => ?_)
    cases fl with
    | error er => exact (show False from hq).elim
    | ok fl =>
      cases fl with
      | ret u => exact I1.after hq
      | next => exact (show False from hq).elim
      | brk => exact (show False from hq).elim
      | cont => exact (show False from hq).elim
  refine PE.weak key ?_
  rintro σ H Q ⟨Bn, Ow, Γ, r, Γ', rs, he, hQ⟩
  have q := call_core2 (Ex := E0) hF hn rs he hQ
  obtain ⟨Bn', Ow', G0, xs, G1, rs', e1, k1⟩ := q
  refine ⟨Bn', Ow', G0, xs, G1, rs', e1, fun vs H1 O1 s1 r1 v1 => ?_⟩
  have z := k1 vs H1 O1 s1 r1 v1
  simpa only [List.append_nil] using z
end
end DV

namespace DV
open PySem L2
/-! ### repr of plain data, where no repr is under way -/
section
variable {X : Cx} {g : Gx} {A : Addr → Prop} {pins : List (Addr × Obj)} {σ : L2.St} {H : Hp} {s : Shared}
theorem dk_reads (I : Inv X pins σ H s) {a : Addr} (e : H a = some (.dK [])) : ∃ as, Reads s.heap (.ref a) (.dict []) as ∧ sysModules ∉ as := by
  obtain ⟨_, hne, vs, kv, hd⟩ := dk_of I.hok e
  cases kv
  obtain ⟨o, es, ep, e1, e2, e3, e4⟩ := hd
  have e5 : es.toList = [] := by
    have e6 := e4.2.1
    cases q : es.toList with
    | nil => rfl
    | cons z r => rw [q] at e6; cases e6
  refine ⟨_, .dict (as := []) (bs := []) e1 e2.1 e3 (by rw [e5]; exact .nil) (by rw [e5]; exact .nil), ?_⟩
  intro m
  have e6 : sysModules = a := by simpa using m
  rw [← e6] at hne
  simp at hne
mutual
theorem rep_reads (I : Inv X pins σ H s) (hK : X.K = g.K) (h1 : H sysModules = none) : ∀ (d : D) (p : PyData) (v : V) (u : Value), pyO d = some p → Rep g A H d v → RelV v u → ∃ as, Reads s.heap u p as ∧ sysModules ∉ as
  | .non, p, v, u, e, h, r => by
    simp only [pyO, Option.some.injEq] at e; simp only [Rep] at h; subst e h
    cases r
    exact ⟨_, .none, by simp⟩
  | .bl b, p, v, u, e, h, r => by
    simp only [pyO, Option.some.injEq] at e; simp only [Rep] at h; subst e h
    cases r
    exact ⟨_, .bool b, by simp⟩
  | .int i, p, v, u, e, h, r => by
    simp only [pyO, Option.some.injEq] at e; simp only [Rep] at h; subst e h
    obtain ⟨t, rfl⟩ := r
    exact ⟨_, .int i t, by simp⟩
  | .str x, p, v, u, e, h, r => by
    simp only [pyO, Option.some.injEq] at e; simp only [Rep] at h; subst e h
    obtain ⟨t, rfl⟩ := r
    exact ⟨_, .str x t, by simp⟩
  | .lst ds, p, v, u, e, h, r => by
    simp only [pyO] at e
    obtain ⟨ps, e1, rfl⟩ := Option.map_eq_some_iff.mp e
    simp only [Rep] at h
    obtain ⟨a, vs, rfl, _, ha, rp⟩ := h
    cases r
    obtain ⟨its, rv, ⟨o, n, ho, hc, _, hd⟩, _⟩ := I.list (show SqL X.K H a vs from .inl (.inl ha))
    obtain ⟨as, hr, hn⟩ := reps_reads I hK h1 ds ps vs its e1 rp rv
    refine ⟨_, .list ho hc hd hr, fun m => ?_⟩
    rcases List.mem_cons.mp m with m | m
    · rw [← m, h1] at ha; cases ha
    · exact hn m
  | .tup ds, p, v, u, e, h, r => by
    simp only [pyO] at e
    obtain ⟨ps, e1, rfl⟩ := Option.map_eq_some_iff.mp e
    simp only [Rep] at h
    obtain ⟨a, vs, rfl, _, ha, rp⟩ := h
    cases r
    rw [← hK] at ha
    obtain ⟨its, rv, ⟨o, ho, hc, n, hd⟩, _⟩ := I.tuple ha
    obtain ⟨as, hr, hn⟩ := reps_reads I hK h1 ds ps vs its e1 rp rv
    exact ⟨_, .tuple ho hc hd hr, hn⟩
  | .dct, p, v, u, e, h, r => by
    simp only [pyO, Option.some.injEq] at e; simp only [Rep] at h; subst e
    obtain ⟨a, rfl, _, ha⟩ := h
    cases r
    exact dk_reads I ha
  | .obj _ _ _, p, v, u, e, h, r => by simp [pyO] at e
  | .scr _, p, v, u, e, h, r => by simp [pyO] at e
  | .dic _ _, p, v, u, e, h, r => by simp [pyO] at e
  | .exc _ _ _, p, v, u, e, h, r => by simp [pyO] at e
  | .err _ _ _, p, v, u, e, h, r => by simp [pyO] at e
  | .ref _, p, v, u, e, h, r => by simp [pyO] at e
theorem reps_reads (I : Inv X pins σ H s) (hK : X.K = g.K) (h1 : H sysModules = none) : ∀ (ds : List D) (ps : List PyData) (vs : List V) (us : List Value), pyOs ds = some ps → Reps g A H ds vs → Vals vs us → ∃ as, ReadsAll s.heap us ps as ∧ sysModules ∉ as
  | [], ps, vs, us, e, h, r => by
    simp only [pyOs, Option.some.injEq] at e; simp only [Reps] at h; subst e h
    cases r
    exact ⟨_, .nil, by simp⟩
  | d :: ds, ps, vs, us, e, h, r => by
    simp only [pyOs] at e
    obtain ⟨p, e1, e⟩ := Option.bind_eq_some_iff.mp e
    obtain ⟨ps', e2, rfl⟩ := Option.map_eq_some_iff.mp e
    simp only [Reps] at h
    obtain ⟨v, w, rfl, q1, q2⟩ := h
    cases r with
    | cons r1 r2 =>
      obtain ⟨as, z1, n1⟩ := rep_reads I hK h1 d p v _ e1 q1 r1
      obtain ⟨bs, z2, n2⟩ := reps_reads I hK h1 ds ps' w _ e2 q2 r2
      exact ⟨_, .cons z1 z2, fun m => (List.mem_append.mp m).elim n1 n2⟩
end
theorem rdb_reads (I : Inv X pins σ H s) (hK : X.K = g.K) (h1 : H sysModules = none) {d : D} {p : PyData} {v : V} {u : Value} (e : pyO d = some p) (h : Rdb g A H d v) (r : RelV v u) : ∃ as, Reads s.heap u p as ∧ sysModules ∉ as := by
  cases d with
  | lst ds =>
    obtain ⟨a, vs, rfl, q1, q2⟩ := h
    exact rep_reads (A := fun _ => False) I hK h1 (.lst ds) p _ u e (by simp only [Rep]; exact ⟨a, vs, rfl, nofun, q1, reps_less nofun q2⟩) r
  | obj _ _ _ => simp [pyO] at e
  | scr _ => simp [pyO] at e
  | dic _ _ => simp [pyO] at e
  | exc _ _ _ => simp [pyO] at e
  | err _ _ _ => simp [pyO] at e
  | ref _ => simp [pyO] at e
  | _ => exact rep_reads (A := A) I hK h1 _ p v u e h r
theorem b_rpr (C : Cok0 g X) (hg : X.A.guards = some []) (hB : SmB X.base) : CallR X (.builtin "repr") (rBi g .rpr) := by
  intro pins s σ H vs us Q I r h
  obtain ⟨A, ds, r0, hp, tr, hb, hQ⟩ := h
  have h1 : H sysModules = none := by
    obtain ⟨o, ho⟩ := hB
    exact (I.bs _ _ ho).2
  match ds, hb with
  | [d], hb =>
    simp only [biD] at hb
    obtain ⟨p, e1, hb⟩ := Option.bind_eq_some_iff.mp hb
    simp only [Option.ite_none_right_eq_some, Option.some.injEq] at hb
    obtain ⟨hs, rfl⟩ := hb
    unfold shwOk at hs
    simp only [Bool.and_eq_true, decide_eq_true_eq] at hs
    obtain ⟨hs1, hs2, hs3⟩ := hs
    obtain ⟨v, rfl, q⟩ := paired1 hp
    cases r with
    | @cons _ u _ _ ru rn =>
      cases rn
      obtain ⟨as, hr, hn⟩ := rdb_reads I C.K h1 e1 q ru
      have fin : ∀ h' x tk, (∀ b o, s.heap.get? b = some o → h'.get? b = some o) → EP X pins σ Q (.str p.shown x) { s with heap := h', toks := tk } := fun h' x tk hk =>
        ⟨.str p.shown, H, I.kept hk, ⟨_, rfl⟩, hQ _ H (same_rfl H) (by simp only [Res, Rep])⟩
      have hu := C.hu
      cases hr with
      | none => exact P.repr_of_none (fin _ _ _ fun _ _ z => z)
      | bool b => exact P.repr_of_bool (fin _ _ _ fun _ _ z => z)
      | int i t => exact P.repr_of_int (by simpa [PyData.showable] using hs1) (fin _ _ _ fun _ _ z => z)
      | str x t => exact P.repr_of_str (fin _ _ _ fun _ _ z => z) (by simpa only [PyData.shown] using hs2)
      | list a1 a2 a3 a4 => exact repr_of_reads' (.list a1 a2 a3 a4) hs1 (fun _ => hn) hg (by omega) (fun _ _ z => z) fin hs2
      | tuple a1 a2 a3 a4 => exact repr_of_reads' (.tuple a1 a2 a3 a4) hs1 (fun _ => hn) hg (by omega) (fun _ _ z => z) fin hs2
      | dict a1 a2 a3 a4 a5 => exact repr_of_reads' (.dict a1 a2 a3 a4 a5) hs1 (fun _ => hn) hg (by omega) (fun _ _ z => z) fin hs2
variable {fs : List FS} {e : Expr} {es : List Expr} {ies : List E} {p pos : Pos}
theorem k_rpr (C : Cok0 g X) (hgd : X.A.guards = some []) (hB : SmB X.base) (ha : PA X (e :: es) (tAs g fs ies)) (he : starEach (e :: es) X.env = (false, eval e X.env) :: starEach es X.env) (hpl : (backTo pos (starEach es X.env)).any (·.1) = false) (hm : X.mg "repr" = none) (hg : Gl X "repr") : PE X (.Call (.Name "repr" p) (e :: es) [] pos) (tR g fs (.bi .rpr ies)) :=
  p_biB (b_rpr C hgd hB) hg hm (by decide +kernel) ha (by decide) (by decide) he hpl
end
end DV

namespace DV
open PySem L2
variable {Wx : L2.XK}
/-! ### try: a call / except C as e: .. / further clauses that are never asked -/
section
variable {g : Gx} {Bn : Addr → Prop} {Ow : List Addr} {H : Hp} {σ : L2.St} {Γ : Ct} {c : Nat} {e dd : Addr}
theorem noG_at {i : Nat} {d : D} {b : Bool} (h : noG Γ = true) (q : Γ[i]? = some (some (d, b))) : noE d = true := List.all_eq_true.mp h _ (List.mem_of_getElem? q)
theorem RS.dn (rs : RS (gE g c e dd) Bn Ow H σ Γ) (hn : noG Γ = true) : RS g Bn Ow H σ Γ := by
  refine ⟨rs.len, fun i d h => ?_, fun i d h => ?_, rs.dist, rs.trl, rs.sep, rs.kf, rs.tabs⟩
  · obtain ⟨v, q, r⟩ := rs.slot i d h
    exact ⟨v, q, rep_dn _ _ (noG_at hn h) r⟩
  · have k := noG_at hn h
    obtain ⟨a, q, m, r⟩ := rs.own i d h
    refine ⟨a, q, m, ?_⟩
    cases d with
    | lst ds => obtain ⟨ws, z1, z2⟩ := r; exact ⟨ws, z1, reps_dn _ _ (by simpa only [noE] using k) z2⟩
    | obj c ks ds => obtain ⟨dx, ws, l, z1, z2⟩ := r; exact ⟨dx, ws, l, z1, reps_dn _ _ (by simpa only [noE] using k) z2⟩
    | _ => exact r
end
section
variable {X : Cx} {x n : Str} {cv : Value} {i : Nat} {bdy sui : List Stmt} {st0 : Stmt} {hdl : List ExceptHandler} {npq pos posb : Pos} {tb : WX → TS} {ts : Addr → Value → Option Addr → TS}
end
/-! ### calls that may raise, told at the caller's slots -/
section
variable {X : Cx} {W : WX} {g : Gx} {fs : List FS} {e : Expr} {es : List Expr} {ie : E} {ies : List E} {x : Str} {p pos : Pos} {c k i n : Nat} {F : FS} {C f : Addr} {fd : FuncData} {ps : List Str} {sp : Sp} {E : XK}
end
/-! ### the statement -/
section
variable {X : Cx} {g : Gx} {fs : List FS} {e : Expr} {ie : E} {x n : Str} {cv : Value} {i : Nat} {sui : List Stmt} {st0 : Stmt} {hdl : List ExceptHandler} {npq pos posb pc : Pos} {all : List Nat} {isu : List S}
end
end DV

namespace DV
open PySem L2
theorem Cok.tr {g : Gx} {X : Cx} (C : Cok g X) (pn : List (Addr × Obj)) (xe : Value → Shared → Prop) : Cok g (X.tr pn xe) := ⟨C.K, C.calm, C.hu, C.nd, C.ea⟩
theorem spT_ofG {P : Program} {w : World} {K : PySem.W.Frag} {T : List (Addr × Str)} {mg : Str → Option Value} {base : Heap} {k : Nat} {f : Addr} {fd : FuncData} {ps : List Str} {F : FS} {cl : Nat → Addr} (h : FnG P w K mg base CX0 k f fd ps (spF ⟨K, cl, T, none, []⟩ 1 F)) : FnG P w K mg base CX0 k f fd ps (spT K T F) :=
  ⟨fun vs H Q E q => h.len vs H Q E (q.2.2 cl), fun A outer s H args us vs Q E hg hr he hb hv hs => h.run A outer s H args us vs Q E hg hr he hb hv (hs.2.2 cl)⟩
theorem lawAtG {l : PySem.W.OpenLaw} {w : World} {K : PySem.W.Frag} {k n : Nat} {x : Str} {mg : Str → Option Value} {fa : Addr} {h : Heap} {cs : List (Addr × Addr)} {T : List (Addr × Str)} {F : FS} (hc : ∀ p ∈ cs, PySem.W.CodeHd h p.1 p.2 ∧ h.get? p.2 = some { cls := .none, data := .fields #[] }) (nP : ∀ p ∈ cs, K.lookup p.2 = none)
    (hT : ∀ q ∈ T, ∃ p ∈ cs, p.2 = q.1) (ht : ∀ ns : List Int, ns.length ≤ n → (∀ z ∈ ns, Builtin.Int.intBits z ≤ 1048576) → ∃ os, F [some (.scr ns, false)] = some (.fz (.bl true), os))
    (A : ∃ fd : FuncData, (∀ (s : Shared) (u : Value), BindsTo s fd ⟨[u], []⟩ [(x, u)]) ∧ ∀ base : Heap, K.In base → base.Ns mainGlobals mg → SmB base → (∀ p ∈ cs, LamX.TabB base mg p.1 p.2) → FnG l.prog w K mg base CX0 k fa fd [x] (spT K T F)) : LawAtG l w K CX0 k n x mg fa h := by
  obtain ⟨fd, hb, hF⟩ := A
  refine ⟨fd, cs, spT K T F, fun p hp => (hc p hp).2, nP, fun p hp => (hc p hp).1, hb, fun H a ns hl hz hH hS => ?_, hF⟩
  obtain ⟨os, e⟩ := ht ns hl hz
  refine sp_lawT e hS fun q hq => ?_
  obtain ⟨p, hp, z⟩ := hT q hq
  rw [← z]
  exact hH p hp
end DV

namespace DV
open PySem L2

/-! ### a store: objects that are told by their numbers -/
def Gx.w (g : Gx) (A : List Addr) : Gx := { g with A := A }
section
variable {g : Gx} {A A' : List Addr} {av av' : Addr → Prop} {H H' : Hp}
theorem pre_get {α : Type} {xs ys : List α} {k : Nat} {x : α} (h : xs <+: ys) (e : xs[k]? = some x) : ys[k]? = some x := by
  obtain ⟨zs, rfl⟩ := h
  have hl := (List.getElem?_eq_some_iff.mp e).1
  rw [List.getElem?_append_left hl]
  exact e
mutual
theorem rep_w (p : A <+: A') : ∀ (d : D) (v : V), Rep (g.w A) av H d v → Rep (g.w A') av H d v
  | .non, _, h => by simpa [Rep] using h
  | .bl _, _, h => by simpa [Rep] using h
  | .int _, _, h => by simpa [Rep] using h
  | .str _, _, h => by simpa [Rep] using h
  | .lst ds, v, h => by
    simp only [Rep] at h ⊢
    obtain ⟨a, vs, e, n, s, r⟩ := h
    exact ⟨a, vs, e, n, s, reps_w p ds vs r⟩
  | .scr ns, v, h => by
    simp only [Rep] at h ⊢
    exact h
  | .tup ds, v, h => by
    simp only [Rep] at h ⊢
    obtain ⟨a, vs, e, n, s, r⟩ := h
    exact ⟨a, vs, e, n, s, reps_w p ds vs r⟩
  | .obj c ks ds, v, h => by
    simp only [Rep] at h ⊢
    obtain ⟨a, dx, vs, e, n, l, s, r⟩ := h
    exact ⟨a, dx, vs, e, n, l, s, reps_w p ds vs r⟩
  | .dct, v, h => by
    simp only [Rep] at h ⊢
    exact h
  | .dic ks ds, v, h => by
    simp only [Rep] at h ⊢
    obtain ⟨a, vs, e, n, l, s, r⟩ := h
    exact ⟨a, vs, e, n, l, s, reps_w p ds vs r⟩
  | .exc c ks ds, v, h => by
    simp only [Rep] at h ⊢
    obtain ⟨a, vs, e, n, l, s, r⟩ := h
    exact ⟨a, vs, e, n, l, s, reps_w p ds vs r⟩
  | .err c ks ds, v, h => by
    simp only [Rep] at h ⊢
    obtain ⟨e0, a, vs, e1, e, n, l, s, r⟩ := h
    exact ⟨e0, a, vs, e1, e, n, l, s, reps_w p ds vs r⟩
  | .ref k, v, h => by
    simp only [Rep] at h ⊢
    obtain ⟨a, e, rfl⟩ := h
    exact ⟨a, pre_get p e, rfl⟩
theorem reps_w (p : A <+: A') : ∀ (ds : List D) (vs : List V), Reps (g.w A) av H ds vs → Reps (g.w A') av H ds vs
  | [], _, h => by simpa [Reps] using h
  | d :: ds, _, h => by
    simp only [Reps] at h ⊢
    obtain ⟨v, r, e, h1, h2⟩ := h
    exact ⟨v, r, e, rep_w p d v h1, reps_w p ds r h2⟩
end
theorem own_w (p : A <+: A') {d : D} {a : Addr} (h : OwnA (g.w A) av H d a) : OwnA (g.w A') av H d a := by
  cases d with
  | lst ds => obtain ⟨vs, e, r⟩ := h; exact ⟨vs, e, reps_w p _ _ r⟩
  | obj c ks ds => obtain ⟨dx, vs, l, e, r⟩ := h; exact ⟨dx, vs, l, e, reps_w p _ _ r⟩
  | _ => exact h
theorem RS.w {Bn : Addr → Prop} {Ow : List Addr} {σ : St} {Γ : Ct} (r : RS (g.w A) Bn Ow H σ Γ) (p : A <+: A') : RS (g.w A') Bn Ow H σ Γ where
  len := r.len
  slot := fun i d h => let ⟨v, e, q⟩ := r.slot i d h; ⟨v, e, rep_w p _ _ q⟩
  own := fun i d h => let ⟨a, e, m, q⟩ := r.own i d h; ⟨a, e, m, own_w p q⟩
  dist := r.dist
  trl := r.trl
  sep := r.sep
  kf := r.kf
  tabs := r.tabs
end
abbrev Bx (Bn : Addr → Prop) (A : List Addr) : Addr → Prop := fun a => Bn a ∨ a ∈ A
/-- the frame beside a store -/
structure SS (g : Gx) (A : List Addr) (Bn : Addr → Prop) (Ow : List Addr) (H : Hp) (σ : St) (Γ : Ct) (M : List D) : Prop where
  rs : RS (g.w A) (Bx Bn A) Ow H σ Γ
  len : A.length = M.length
  nd : A.Nodup
  sepA : ∀ a, a ∈ A → ¬ Bn a
  cell : ∀ (k : Nat) d a, M[k]? = some d → A[k]? = some a → OwnA (g.w A) (Av (Bx Bn A) Ow) H d a
/-- a step of frame and store -/
structure Sm (A Ow : List Addr) (H : Hp) (A' Ow' : List Addr) (H' : Hp) : Prop where
  pre : A <+: A'
  keep0 : ∀ a o, H a = some o → nT o → a ∉ Ow → a ∉ A → H' a = some o
  grow : ∀ a, a ∈ Ow' ∨ a ∈ A' → a ∈ Ow ∨ a ∈ A ∨ Nw H a
theorem Sm.refl (A Ow : List Addr) (H : Hp) : Sm A Ow H A Ow H := ⟨List.prefix_refl _, fun _ _ h _ _ _ => h, fun _ h => h.elim .inl fun h => .inr (.inl h)⟩
theorem Sm.trans {A1 O1 A2 O2 A3 O3 : List Addr} {H1 H2 H3 : Hp} (a : Sm A1 O1 H1 A2 O2 H2) (b : Sm A2 O2 H2 A3 O3 H3) : Sm A1 O1 H1 A3 O3 H3 where
  pre := a.pre.trans b.pre
  keep0 := fun x o h t n1 n2 => b.keep0 x o (a.keep0 x o h t n1 n2) t (fun z => by
    rcases a.grow x (.inl z) with q | q | q
    · exact n1 q
    · exact n2 q
    · exact q o h t) fun z => by
    rcases a.grow x (.inr z) with q | q | q
    · exact n1 q
    · exact n2 q
    · exact q o h t
  grow := fun x h => by
    rcases b.grow x h with q | q | q
    · exact a.grow x (.inl q)
    · exact a.grow x (.inr q)
    · by_cases m : x ∈ O1
      · exact .inl m
      · by_cases m2 : x ∈ A1
        · exact .inr (.inl m2)
        · exact .inr (.inr fun o e t => q o (a.keep0 x o e t m m2) t)
theorem Sm.of {A Ow Ow' : List Addr} {H H' : Hp} (s : Stp Ow H Ow' H') : Sm A Ow H A Ow' H' := ⟨List.prefix_refl _, fun a o h t n _ => s.keep0 a o h t n, fun a h => by
  rcases h with h | h
  · exact (s.grow a h).imp id .inr
  · exact .inr (.inl h)⟩
section
variable {g : Gx} {A A' : List Addr} {Bn : Addr → Prop} {Ow Ow' : List Addr} {H H' : Hp} {σ σ' : St} {Γ Γ' : Ct} {M M' : List D}
theorem sm_vst (s : Sm A Ow H A' Ow' H') (kf : ∀ a, a ∈ Ow' ∨ a ∈ A' → g.K.lookup a = none) : ∀ a, Vst g (Av (Bx Bn A) Ow) H a → (∀ o, H a = some o → nT o → H' a = some o) ∧ ¬ Av (Bx Bn A') Ow' a := fun a ⟨n, t⟩ => by
  have n1 : ¬ Bn a := fun z => n (.inl (.inl z))
  have n2 : a ∉ A := fun z => n (.inl (.inr z))
  have n3 : a ∉ Ow := fun z => n (.inr z)
  refine ⟨fun o h t => s.keep0 a o h t n3 n2, fun z => ?_⟩
  have z' : a ∈ Ow' ∨ a ∈ A' := by
    rcases z with (z | z) | z
    · exact absurd z n1
    · exact .inr z
    · exact .inl z
  rcases t with ⟨o, t, nt⟩ | ⟨o, t⟩
  · rcases s.grow a z' with q | q | q
    · exact n3 q
    · exact n2 q
    · exact q o t nt
  · rw [show g.K.lookup a = none from kf a z'] at t; cases t
theorem SS.kf (r : SS g A Bn Ow H σ Γ M) : ∀ a, a ∈ Ow ∨ a ∈ A → g.K.lookup a = none := fun a h => r.rs.kf a (h.elim .inr fun h => .inl (.inr h))
theorem Rep.sm {d : D} {v : V} (h : Rep (g.w A) (Av (Bx Bn A) Ow) H d v) (s : Sm A Ow H A' Ow' H') (r : SS g A' Bn Ow' H' σ' Γ' M') : Rep (g.w A') (Av (Bx Bn A') Ow') H' d v :=
  rep_w s.pre d v (rep_mono (g := g.w A) (sm_vst (g := g) s r.kf) d v h)
theorem Reps.sm {d : List D} {v : List V} (h : Reps (g.w A) (Av (Bx Bn A) Ow) H d v) (s : Sm A Ow H A' Ow' H') (r : SS g A' Bn Ow' H' σ' Γ' M') : Reps (g.w A') (Av (Bx Bn A') Ow') H' d v :=
  reps_w s.pre d v (reps_mono (g := g.w A) (sm_vst (g := g) s r.kf) d v h)
theorem Val.sm {r : RV} {v : V} (h : Val (g.w A) (Bx Bn A) Ow H σ Γ r.dn v) (s : Sm A Ow H A' Ow' H') (rs : SS g A' Bn Ow' H' σ Γ' M') : Val (g.w A') (Bx Bn A') Ow' H' σ Γ' r.dn v := by
  cases r with
  | fz x => exact Rep.sm h s rs
  | nw x => exact Rep.sm h s rs
  | sl i => exact h
theorem SS.ad {k : Nat} {a : Addr} (r : SS g A Bn Ow H σ Γ M) (e : A[k]? = some a) : a ∈ A ∧ a ∉ Ow := by
  have m : a ∈ A := by
    obtain ⟨h, rfl⟩ := List.getElem?_eq_some_iff.mp e
    exact List.getElem_mem h
  exact ⟨m, r.rs.sep a (.inr m)⟩
/-- a step that leaves the store -/
theorem SS.step (r : SS g A Bn Ow H σ Γ M) (s : Stp Ow H Ow' H') (rs : RS (g.w A) (Bx Bn A) Ow' H' σ' Γ') : SS g A Bn Ow' H' σ' Γ' M :=
  ⟨rs, r.len, r.nd, r.sepA, fun k d a h1 h2 => (r.cell k d a h1 h2).step (r.ad h2).2 s rs⟩
theorem SS.same (r : SS g A Bn Ow H σ Γ M) (s : Same H H') : SS g A Bn Ow H' σ Γ M := r.step (Stp.same s) (r.rs.same s)
theorem bx_or {p : Addr} : orB (Bx Bn A) p = Bx Bn (A ++ [p]) := by
  funext a
  simp only [orB, Bx, List.mem_append, List.mem_singleton, or_assoc]
/-- a new owned object becomes one of the store -/
theorem SS.alc {d : D} {v : V} (r : SS g A Bn Ow H σ Γ M) (h : Val (g.w A) (Bx Bn A) Ow H σ Γ (.nw d) v) :
    ∃ A' Ow', Sm A Ow H A' Ow' H ∧ SS g A' Bn Ow' H σ Γ (M ++ [d]) ∧ Rep (g.w A') (Av (Bx Bn A') Ow') H (.ref M.length) v := by
  obtain ⟨a, rfl, m, o, no⟩ := h
  have na : a ∉ A := fun z => r.rs.sep a (.inr z) m
  have nb : ¬ Bn a := fun z => r.rs.sep a (.inl z) m
  have r2 := (r.rs.ban (d := d) m no).w (A' := A ++ [a]) (List.prefix_append _ _)
  rw [bx_or] at r2
  have k1 : ∀ b, Av (Bx Bn (A ++ [a])) (Ow.filter fun x => decide (x ≠ a)) b → Av (Bx Bn A) Ow b := fun b z => by
    rcases z with (z | z) | z
    · exact .inl (.inl z)
    · rcases List.mem_append.mp z with z | z
      · exact .inl (.inr z)
      · rw [List.mem_singleton.mp z]; exact .inr m
    · exact .inr (mem_ne z).1
  refine ⟨A ++ [a], Ow.filter fun x => decide (x ≠ a), ⟨List.prefix_append _ _, fun _ _ h _ _ _ => h, fun b z => ?_⟩, ⟨r2, by simp [r.len], ?_, fun b z => ?_, fun k e b h1 h2 => ?_⟩, ?_⟩
  · rcases z with z | z
    · exact .inl (mem_ne z).1
    · rcases List.mem_append.mp z with z | z
      · exact .inr (.inl z)
      · rw [List.mem_singleton.mp z]; exact .inl m
  · refine List.nodup_append.mpr ⟨r.nd, by simp, fun x hx y hy => ?_⟩
    rw [List.mem_singleton.mp hy]
    exact fun z => na (z ▸ hx)
  · rcases List.mem_append.mp z with z | z
    · exact r.sepA b z
    · rw [List.mem_singleton.mp z]; exact nb
  · by_cases hk : k < M.length
    · rw [List.getElem?_append_left hk] at h1
      rw [List.getElem?_append_left (by rw [r.len]; exact hk)] at h2
      exact own_w (List.prefix_append _ _) (own_less k1 (r.cell k e b h1 h2))
    · rw [List.getElem?_append_right (by omega)] at h1
      rw [List.getElem?_append_right (by rw [r.len]; omega)] at h2
      rw [r.len] at h2
      cases hz : k - M.length with
      | zero =>
        rw [hz] at h1 h2
        simp only [List.getElem?_cons_zero, Option.some.injEq] at h1 h2
        subst h1; subst h2
        exact own_w (List.prefix_append _ _) (own_less k1 o)
      | succ n => rw [hz] at h1; simp at h1
  · simp only [Rep]
    refine ⟨a, ?_, rfl⟩
    show (A ++ [a])[M.length]? = some a
    rw [List.getElem?_append_right (by rw [r.len]; exact Nat.le_refl _), r.len, Nat.sub_self]
    rfl
theorem set_get {α : Type} {xs : List α} {k j : Nat} {x y : α} (h : (xs.set k x)[j]? = some y) : (j = k ∧ y = x) ∨ (j ≠ k ∧ xs[j]? = some y) := by
  by_cases e : k = j
  · subst e
    have hl : k < xs.length := by
      have := (List.getElem?_eq_some_iff.mp h).1
      rwa [List.length_set] at this
    rw [List.getElem?_set_self hl] at h
    cases h
    exact .inl ⟨rfl, rfl⟩
  · rw [List.getElem?_set_ne e] at h
    exact .inr ⟨fun z => e z.symm, h⟩
/-! ### a look at the store -/
/-! data that stand apart from any list and object -/
mutual
def safe : D → Bool
  | .non => true
  | .bl _ => true
  | .int _ => true
  | .str _ => true
  | .tup ds => safes ds
  | _ => false
def safes : List D → Bool
  | [] => true
  | d :: ds => safe d && safes ds
end
def safeR : RV → Bool
  | .fz d => safe d
  | .nw (.lst ds) => safes ds
  | _ => false
mutual
theorem rep_safe {g : Gx} {av av' : Addr → Prop} (hk : ∀ a, av' a → LI H a ∧ g.K.lookup a = none) : ∀ (d : D) (v : V), safe d = true → Rep g av H d v → Rep g av' H d v
  | .non, _, _, h => by simpa [Rep] using h
  | .bl _, _, _, h => by simpa [Rep] using h
  | .int _, _, _, h => by simpa [Rep] using h
  | .str _, _, _, h => by simpa [Rep] using h
  | .tup ds, v, hs, h => by
    simp only [Rep] at h ⊢
    obtain ⟨a, vs, e, n, s, r⟩ := h
    refine ⟨a, vs, e, fun z => ?_, s, reps_safe hk ds vs (by simpa only [safe] using hs) r⟩
    obtain ⟨l, k⟩ := hk a z
    rcases s with (s | ⟨o, s⟩) | ⟨o, _, _, s, _⟩
    · rcases l with ⟨_, l⟩ | ⟨_, _, _, l⟩ <;> (rw [s] at l; cases l)
    · rcases l with ⟨_, l⟩ | ⟨_, _, _, l⟩ <;> (rw [s] at l; cases l)
    · rw [k] at s; cases s
  | .lst _, _, hs, _ => by simp [safe] at hs
  | .scr _, _, hs, _ => by simp [safe] at hs
  | .obj _ _ _, _, hs, _ => by simp [safe] at hs
  | .dct, _, hs, _ => by simp [safe] at hs
  | .dic _ _, _, hs, _ => by simp [safe] at hs
  | .exc _ _ _, _, hs, _ => by simp [safe] at hs
  | .err _ _ _, _, hs, _ => by simp [safe] at hs
  | .ref _, _, hs, _ => by simp [safe] at hs
theorem reps_safe {g : Gx} {av av' : Addr → Prop} (hk : ∀ a, av' a → LI H a ∧ g.K.lookup a = none) : ∀ (ds : List D) (vs : List V), safes ds = true → Reps g av H ds vs → Reps g av' H ds vs
  | [], _, _, h => by simpa [Reps] using h
  | d :: ds, _, hs, h => by
    simp only [safes, Bool.and_eq_true] at hs
    simp only [Reps] at h ⊢
    obtain ⟨v, r, e, h1, h2⟩ := h
    exact ⟨v, r, e, rep_safe hk d v hs.1 h1, reps_safe hk ds r hs.2 h2⟩
end
/-- behind the look -/
theorem SS.back {Γs : Ct} (r : SS g A Bn Ow H σ Γ M) (s : Stp [] H Ow' H') (rs : RS (g.w A) Bn Ow' H' σ Γs) : SS g A Bn (Ow ++ Ow') H' σ Γ M ∧ Sm A Ow H A (Ow ++ Ow') H' ∧
    ∀ x v, safeR x = true → Val (g.w A) Bn Ow' H' σ Γs x v → Val (g.w A) (Bx Bn A) (Ow ++ Ow') H' σ Γ x v := by
  have kp : ∀ a o, H a = some o → nT o → H' a = some o := fun a o h t => s.keep0 a o h t (by simp)
  have kL : ∀ a, LI H a → LI H' a := fun a h => by
    rcases h with ⟨vs, e⟩ | ⟨C, dx, fl, e⟩
    · exact .inl ⟨vs, kp a _ e nofun⟩
    · exact .inr ⟨C, dx, fl, kp a _ e nofun⟩
  have nw : ∀ a, a ∈ Ow' → Nw H a := fun a m => (s.grow a m).elim (fun z => by cases z) id
  have hk : ∀ a, Av (Bx Bn A) (Ow ++ Ow') a → LI H' a ∧ (g.w A).K.lookup a = none := fun a z => by
    rcases z with z | z
    · exact ⟨kL a (r.rs.trl a (.inl z)), r.rs.kf a (.inl z)⟩
    · rcases List.mem_append.mp z with z | z
      · exact ⟨kL a (r.rs.trl a (.inr z)), r.rs.kf a (.inr z)⟩
      · exact ⟨rs.trl a (.inr z), rs.kf a (.inr z)⟩
  have vst : ∀ a, Vst (g.w A) (Av (Bx Bn A) Ow) H a → (∀ o, H a = some o → nT o → H' a = some o) ∧ ¬ Av (Bx Bn A) (Ow ++ Ow') a := fun a ⟨n, t⟩ => by
    refine ⟨fun o h t => kp a o h t, fun z => ?_⟩
    rcases z with z | z
    · exact n (.inl z)
    · rcases List.mem_append.mp z with z | z
      · exact n (.inr z)
      · rcases t with ⟨o, t, nt⟩ | ⟨o, t⟩
        · exact nw a z o t nt
        · rw [rs.kf a (.inr z)] at t; cases t
  have own : ∀ d a, OwnA (g.w A) (Av (Bx Bn A) Ow) H d a → OwnA (g.w A) (Av (Bx Bn A) (Ow ++ Ow')) H' d a := fun d a o => by
    cases d with
    | lst es => obtain ⟨us, e2, r2⟩ := o; exact ⟨us, kp _ _ e2 nofun, reps_mono vst _ _ r2⟩
    | obj c ks es => obtain ⟨dx, us, l, e2, r2⟩ := o; exact ⟨dx, us, l, kp _ _ e2 nofun, reps_mono vst _ _ r2⟩
    | _ => exact o
  refine ⟨⟨⟨r.rs.len, fun i d q => ?_, fun i d q => ?_, r.rs.dist, fun a z => (hk a z).1, fun a z w => ?_, fun a z => (hk a z).2, rs.tabs⟩, r.len, r.nd, r.sepA, fun k d a h1 h2 => own d a (r.cell k d a h1 h2)⟩, ⟨List.prefix_refl _, fun a o h t _ _ => kp a o h t, fun a z => ?_⟩, fun x v hs h => ?_⟩
  · obtain ⟨w, e1, r1⟩ := r.rs.slot i d q
    exact ⟨w, e1, rep_mono vst d w r1⟩
  · obtain ⟨a, e1, m1, o1⟩ := r.rs.own i d q
    exact ⟨a, e1, List.mem_append_left _ m1, own d a o1⟩
  · rcases List.mem_append.mp w with w | w
    · exact r.rs.sep a z w
    · exact r.rs.trn a (.inl z) (nw a w)
  · rcases z with z | z
    · rcases List.mem_append.mp z with z | z
      · exact .inl z
      · exact .inr (.inr (nw a z))
    · exact .inr (.inl z)
  · cases x with
    | fz d => exact rep_safe hk d v hs h
    | sl i => cases hs
    | nw d =>
      cases d <;> simp only [safeR, Bool.false_eq_true] at hs
      rename_i ds
      obtain ⟨a, rfl, m, ⟨vs, e1, r1⟩, no⟩ := h
      refine ⟨a, rfl, List.mem_append_right _ m, ⟨vs, e1, reps_safe hk ds vs hs r1⟩, fun i e q1 q2 => ?_⟩
      obtain ⟨b, e2, m2, _⟩ := r.rs.own i e q1
      rw [q2] at e2; cases e2
      exact r.rs.trn a (.inr m2) (nw a m)
end
end DV

namespace DV
open PySem L2

/-! ### the language beside a store: expressions -/
abbrev FM := Ct → List D → Option (RV × List D)
inductive XE where
  | stuck
  | raw (e : E)
  | snp (is : List (Nat × Nat × Bool)) (e : E)
  | rfld (o : E) (c : Nat) (nm : Str)
  | callS (k : Nat) (xs : List XE)
  | callM (k : Nat) (xs : List XE)
  | methM (c : Nat) (nm : Str) (k : Nat) (o : E) (xs : List XE)
  | mkM (c k : Nat) (xs : List XE)
  | alc (x : XE)
  | cmp (op : COp) (a b : XE)
  | and (a b : XE)
  | or (a b : XE)
  | not (a : XE)
  | tup (xs : List XE)
  | lst (xs : List XE)
  | ixX (a : XE) (b : E)
  | bor (i : Nat) (e : E)
  | methK (c : Nat) (nm : Str) (k : Nat) (p : List Nat) (o : E) (xs : List XE)
  | ownM (op : OOp) (c k n : Nat) (a b : XE)
  | sem (F : List FS → List (Ct → List D → Option (RV × List D)) → Ct → List D → Option (RV × Ct × List D))
def plG (ds : List D) : Ct := ds.map fun d => some (d, false)
def noSl : RV → Bool
  | .sl _ => false
  | _ => true
/-- a slot with a list of the store: the list itself, for a while -/
def borG (M : List D) (i : Nat) (Γ : Ct) : Option (Nat × Ct) := match Γ[i]? with
  | some (some (.ref k, false)) => match M[k]? with
    | some (.lst ds) => some (k, Γ.set i (some (.lst ds, true)))
    | _ => none
  | _ => none
section
variable {g : Gx} {A A' : List Addr} {Bn : Addr → Prop} {Ow Ow' : List Addr} {H H' : Hp} {σ σ' : St} {Γ Γ' : Ct} {M M' : List D}
theorem SS.fre {x : RV} {v : V} {d : D} (r : SS g A Bn Ow H σ Γ M) (h : Val (g.w A) (Bx Bn A) Ow H σ Γ x v) (e : fre Γ x = some (d, Γ')) : ∃ Ow', Sm A Ow H A Ow' H ∧ SS g A Bn Ow' H σ Γ' M ∧ Rep (g.w A) (Av (Bx Bn A) Ow') H d v := by
  obtain ⟨O2, s2, r2, p2⟩ := fre_ok r.rs h e
  exact ⟨O2, Sm.of s2, r.step s2 r2, p2⟩
theorem SS.dn {x : RV} {v : V} (r : SS g A Bn Ow H σ Γ M) (h : Val (g.w A) (Bx Bn A) Ow H σ Γ x v) : ∃ Ow', Sm A Ow H A Ow' H ∧ SS g A Bn Ow' H σ Γ M ∧ Val (g.w A) (Bx Bn A) Ow' H σ Γ x.dn v := by
  obtain ⟨O2, s2, r2, p2⟩ := dn_ok r.rs h
  exact ⟨O2, Sm.of s2, r.step s2 r2, p2⟩
/-- a call with plain values: the callee's frame -/
theorem SS.sub {ds : List D} {vs : List V} (r : SS g A Bn Ow H σ Γ M) (q : Reps (g.w A) (Av (Bx Bn A) Ow) H ds vs) : SS g A (fun a => Bn a ∨ a ∈ Ow) [] H (vs.map some) (plG ds) M := by
  have kk : ∀ a, Av (Bx (fun a => Bn a ∨ a ∈ Ow) A) [] a → Av (Bx Bn A) Ow a := fun a z => by
    rcases z with ((z | z) | z) | z
    · exact .inl (.inl z)
    · exact .inr z
    · exact .inl (.inr z)
    · cases z
  have pg : ∀ {i : Nat} {d : D} {b : Bool}, (plG ds)[i]? = some (some (d, b)) → b = false ∧ ds[i]? = some d := fun {i d b} h => by
    unfold plG at h
    rw [List.getElem?_map] at h
    cases e : ds[i]? with
    | none => rw [e] at h; simp at h
    | some x => rw [e] at h; simp at h; exact ⟨h.2, by rw [h.1]⟩
  refine ⟨⟨by rw [plG, List.length_map, List.length_map, q.len], fun i d h => ?_, fun i d h => ?_, fun i j d e a h1 => ?_, fun a h => r.rs.trl a (kk a h), fun a _ z => (by cases z), fun a h => r.rs.kf a (kk a h), r.rs.tabs⟩, r.len, r.nd, fun a h z => ?_, fun k d a h1 h2 => own_less kk (r.cell k d a h1 h2)⟩
  · obtain ⟨v, e, rp⟩ := q.get (pg h).2
    exact ⟨v, by rw [List.getElem?_map, e]; rfl, rep_less kk rp⟩
  · cases (pg h).1
  · cases (pg h1).1
  · rcases z with z | z
    · exact r.sepA a h z
    · exact r.rs.sep a (.inr h) z
theorem SS.ret {σ1 : St} {Γ1 : Ct} (r : SS g A Bn Ow H σ Γ M) (s : Sm A [] H A' Ow' H') (r' : SS g A' (fun a => Bn a ∨ a ∈ Ow) Ow' H' σ1 Γ1 M') : SS g A' Bn (Ow ++ Ow') H' σ Γ M' ∧ Sm A Ow H A' (Ow ++ Ow') H' ∧
    ∀ x v, noSl x = true → Val (g.w A') (Bx (fun a => Bn a ∨ a ∈ Ow) A') Ow' H' σ1 Γ1 x v → Val (g.w A') (Bx Bn A') (Ow ++ Ow') H' σ Γ x v := by
  have kk : ∀ a, Av (Bx Bn A') (Ow ++ Ow') a → Av (Bx (fun a => Bn a ∨ a ∈ Ow) A') Ow' a := fun a z => by
    rcases z with (z | z) | z
    · exact .inl (.inl (.inl z))
    · exact .inl (.inr z)
    · rcases List.mem_append.mp z with z | z
      · exact .inl (.inl (.inr z))
      · exact .inr z
  have st : Sm A Ow H A' (Ow ++ Ow') H' := ⟨s.pre, fun a o h t _ n => s.keep0 a o h t (by simp) n, fun a z => by
    have z' : a ∈ Ow ∨ (a ∈ Ow' ∨ a ∈ A') := by
      rcases z with z | z
      · rcases List.mem_append.mp z with z | z
        · exact .inl z
        · exact .inr (.inl z)
      · exact .inr (.inr z)
    rcases z' with z | z
    · exact .inl z
    · rcases s.grow a z with q | q | q
      · cases q
      · exact .inr (.inl q)
      · exact .inr (.inr q)⟩
  have nOA : ∀ a, a ∈ Ow → a ∉ A' := fun a m z => by
    rcases s.grow a (.inr z) with q | q | q
    · cases q
    · exact r.rs.sep a (.inr q) m
    · exact r.rs.trn a (.inr m) q
  have vst : ∀ a, Vst g (Av (Bx Bn A) Ow) H a → (∀ o, H a = some o → nT o → H' a = some o) ∧ ¬ Av (Bx Bn A') (Ow ++ Ow') a := sm_vst (g := g) st fun a z => by
    refine r'.rs.kf a ?_
    rcases z with z | z
    · rcases List.mem_append.mp z with z | z
      · exact .inl (.inl (.inr z))
      · exact .inr z
    · exact .inl (.inr z)
  refine ⟨⟨⟨r.rs.len, fun i d h => ?_, fun i d h => ?_, r.rs.dist, fun a h => r'.rs.trl a (kk a h), fun a h z => ?_, fun a h => r'.rs.kf a (kk a h), r'.rs.tabs⟩, r'.len, r'.nd, fun a h z => r'.sepA a h (.inl z), fun k d a h1 h2 => own_less kk (r'.cell k d a h1 h2)⟩, st, fun x v hs h => ?_⟩
  · obtain ⟨v, e, q⟩ := r.rs.slot i d h
    exact ⟨v, e, rep_w s.pre d v (rep_mono (g := g.w A) vst d v q)⟩
  · obtain ⟨a, e, m, o⟩ := r.rs.own i d h
    have nA : a ∉ A := fun z => r.rs.sep a (.inr z) m
    refine ⟨a, e, List.mem_append_left _ m, own_w s.pre ?_⟩
    cases d with
    | lst es => obtain ⟨us, e2, r2⟩ := o; exact ⟨us, s.keep0 a _ e2 nofun (by simp) nA, reps_mono (g := g.w A) vst _ _ r2⟩
    | obj c ks es => obtain ⟨dx, us, l, e2, r2⟩ := o; exact ⟨dx, us, l, s.keep0 a _ e2 nofun (by simp) nA, reps_mono (g := g.w A) vst _ _ r2⟩
    | _ => exact o
  · rcases List.mem_append.mp z with z | z
    · rcases h with h | h
      · exact r.rs.sep a (.inl h) z
      · exact nOA a z h
    · rcases h with h | h
      · exact r'.rs.sep a (.inl (.inl h)) z
      · exact r'.rs.sep a (.inr h) z
  · cases x with
    | sl i => cases hs
    | fz d => exact rep_less kk h
    | nw d =>
      obtain ⟨a, rfl, m, o, no⟩ := h
      refine ⟨a, rfl, List.mem_append_right _ m, own_less kk o, fun i e q1 q2 => ?_⟩
      obtain ⟨b, e2, m2, _⟩ := r.rs.own i e q1
      rw [q2] at e2; cases e2
      exact r'.rs.sep a (.inl (.inr m2)) m
end
/-- the promise of a def that works on the store -/
def spM (g : Gx) (n : Nat) (F : FM) : Sp := fun vs H Q _ => vs.length = n ∧ ∃ A Bn ds M r M', SS g A Bn [] H (vs.map some) (plG ds) M ∧ F (plG ds) M = some (r, M') ∧ noSl r = true ∧
  ∀ v H' A' Ow', Sm A [] H A' Ow' H' → SS g A' Bn Ow' H' (vs.map some) (plG ds) M' → Val (g.w A') (Bx Bn A') Ow' H' (vs.map some) (plG ds) r v → Q v H'
section
variable {g : Gx} {A : List Addr} {Bn : Addr → Prop} {Ow : List Addr} {H : Hp} {σ : St} {Γ : Ct} {M M' : List D}
end
section
variable {X : Cx} {g : Gx} {fs : List FS} {ms : List FM} {a b : Expr} {ia ib : E} {xa xb : XE} {pos : Pos}
theorem PE.exA {α : Type} {e : Expr} {t : α → TE} (h : ∀ A, PE X e (t A)) : PE X e (fun σ H Q => ∃ A, t A σ H Q) := ⟨fun pins s σ H Q I ⟨A, q⟩ => (h A).run pins s σ H Q I q⟩
theorem PT.exA {α : Type} {e : Expr} {t : α → TT} (h : ∀ A, PT X e (t A)) : PT X e (fun σ H Q => ∃ A, t A σ H Q) := ⟨fun pins s σ H Q I ⟨A, q⟩ => (h A).run pins s σ H Q I q⟩
theorem OpR.exA {α : Type} {f : Value → Value → Sem Value} {r : α → R2} (h : ∀ A, OpR X f (r A)) : OpR X f (fun x y H Q => ∃ A, r A x y H Q) := fun pins s σ H x y v u Q I rx ry ⟨A, q⟩ => h A pins s σ H x y v u Q I rx ry q
end
end DV

namespace DV
open PySem L2

/-! ### calls beside a store -/
theorem FnOk.exA {P : Program} {w : World} {K : PySem.W.Frag} {mg : Str → Option Value} {base : Heap} {CX : CXT} {k : Nat} {f : Addr} {fd : FuncData} {ps : List Str} {α : Type} {sp : α → Sp} (F : ∀ A, FnOk P w K mg base CX k f fd ps (sp A)) :
    FnOk P w K mg base CX k f fd ps (fun vs H Q E => ∃ A, sp A vs H Q E) :=
  ⟨fun vs H Q E ⟨A, q⟩ => (F A).len vs H Q E q, fun A' outer s H args us vs Q E hr he hb hv ⟨A, hs⟩ => (F A).run A' outer s H args us vs Q E hr he hb hv hs⟩
/-- a def that can be called whatever the store is -/
structure CalA (P : Program) (w : World) (mg : Str → Option Value) (base : Heap) (g : Gx) (k : Nat) (x : Str) (n : Nat) (F : FS) : Prop where
  ex : ∃ f fd ps, mg x = some (.ref f) ∧ PySem.W.keepIn g.K (.ref f) = true ∧ Binds g.K fd ps [] ∧ ∀ A, FnOk P w g.K mg base CX0 k f fd ps (spF (g.w A) n F)
/-- a def that works on the store -/
structure CalM (P : Program) (w : World) (mg : Str → Option Value) (base : Heap) (g : Gx) (k : Nat) (x : Str) (n : Nat) (F : FM) : Prop where
  ex : ∃ f fd ps, mg x = some (.ref f) ∧ PySem.W.keepIn g.K (.ref f) = true ∧ Binds g.K fd ps [] ∧ FnOk P w g.K mg base CX0 k f fd ps (spM g n F)
structure MtdM (P : Program) (w : World) (mg : Str → Option Value) (base : Heap) (g : Gx) (k : Nat) (c : Nat) (x : Str) (n : Nat) (F : FM) : Prop where
  ex : ∃ f fd ps, Cls g.K (g.cl c) ∧ Meth g.K (g.cl c) x f ∧ Binds g.K fd ps [] ∧ FnOk P w g.K mg base CX0 k f fd ps (spM g n F)
structure MkdM (P : Program) (w : World) (mg : Str → Option Value) (base : Heap) (g : Gx) (k : Nat) (c : Nat) (x : Str) (n : Nat) (F : FM) : Prop where
  ex : ∃ f fd ps, mg x = some (.ref (g.cl c)) ∧ Mk g.K (g.cl c) f ∧ Binds g.K fd ps [] ∧ ps.length = n + 1 ∧ FnOk P w g.K mg base CX0 k f fd ps (spM g (n + 1) F)
section
variable {P : Program} {w : World} {mg : Str → Option Value} {base : Heap} {g : Gx} {j k c n : Nat} {x : Str}
theorem CalA.mono {F : FS} (h : CalA P w mg base g j x n F) (l : j ≤ k) : CalA P w mg base g k x n F := by
  obtain ⟨f, fd, ps, h1, h2, h3, h4⟩ := h.ex
  exact ⟨f, fd, ps, h1, h2, h3, fun A => (h4 A).mono l⟩
theorem CalA.at {F : FS} (h : CalA P w mg base g k x n F) (A : List Addr) : Cal P w mg base (g.w A) k x n F := by
  obtain ⟨f, fd, ps, h1, h2, h3, h4⟩ := h.ex
  exact ⟨f, fd, ps, h1, h2, h3, h4 A⟩
theorem CalM.mono {F : FM} (h : CalM P w mg base g j x n F) (l : j ≤ k) : CalM P w mg base g k x n F := by
  obtain ⟨f, fd, ps, h1, h2, h3, h4⟩ := h.ex
  exact ⟨f, fd, ps, h1, h2, h3, h4.mono l⟩
theorem MtdM.mono {F : FM} (h : MtdM P w mg base g j c x n F) (l : j ≤ k) : MtdM P w mg base g k c x n F := by
  obtain ⟨f, fd, ps, h1, h2, h3, h4⟩ := h.ex
  exact ⟨f, fd, ps, h1, h2, h3, h4.mono l⟩
theorem MkdM.mono {F : FM} (h : MkdM P w mg base g j c x n F) (l : j ≤ k) : MkdM P w mg base g k c x n F := by
  obtain ⟨f, fd, ps, h1, h2, h3, h5, h4⟩ := h.ex
  exact ⟨f, fd, ps, h1, h2, h3, h5, h4.mono l⟩
end
section
variable {X : Cx} {g : Gx} {fs : List FS} {ms : List FM} {e o : Expr} {es : List Expr} {io : E} {xs : List XE} {x m : Str} {p pos apos : Pos} {c k i n : Nat}
variable {F : FS} {FF : FM}
end
end DV

namespace DV
open PySem L2

/-! ### the language beside a store: statements -/
inductive TX where
  | nm (i : Nat) | at (i c : Nat) (nm : Str)

def PostM (g : Gx) (Dn : Ends) (A : List Addr) (Bn : Addr → Prop) (Ow : List Addr) (H : Hp) : Out → List D → Prop
  | .nx Γ', M' => ∀ σ' H' A' Ow', Sm A Ow H A' Ow' H' → SS g A' Bn Ow' H' σ' Γ' M' → Dn.nx σ' H'
  | .bk Γ', M' => ∀ σ' H' A' Ow', Sm A Ow H A' Ow' H' → SS g A' Bn Ow' H' σ' Γ' M' → Dn.bk σ' H'
  | .ct Γ', M' => ∀ σ' H' A' Ow', Sm A Ow H A' Ow' H' → SS g A' Bn Ow' H' σ' Γ' M' → Dn.ct σ' H'
  | .rt r Γ', M' => ∀ v σ' H' A' Ow', Sm A Ow H A' Ow' H' → SS g A' Bn Ow' H' σ' Γ' M' → Val (g.w A') (Bx Bn A') Ow' H' σ' Γ' r v → Dn.rt v H'
  | .xc _ _ _ _, _ => True

/-! ### a target's attribute -/

section
variable {g : Gx} {A A' : List Addr} {Bn : Addr → Prop} {Ow Ow' : List Addr} {H H' : Hp} {σ σ' : St} {Γ Γ' : Ct} {M M' : List D} {fs : List FS} {ms : List FM}
theorem PostM.step {Dn : Ends} {o : Out} (h : PostM g Dn A Bn Ow H o M) (s : Sm A Ow H A' Ow' H') : PostM g Dn A' Bn Ow' H' o M := by
  cases o with
  | nx G => exact fun σ1 H1 A1 O1 s1 r => h σ1 H1 A1 O1 (s.trans s1) r
  | bk G => exact fun σ1 H1 A1 O1 s1 r => h σ1 H1 A1 O1 (s.trans s1) r
  | ct G => exact fun σ1 H1 A1 O1 s1 r => h σ1 H1 A1 O1 (s.trans s1) r
  | rt r G => exact fun v σ1 H1 A1 O1 s1 r => h v σ1 H1 A1 O1 (s.trans s1) r
  | xc c ks ds G => trivial
theorem SS.frm (r : SS g A Bn Ow H σ Γ M) (rs : RS (g.w A) (Bx Bn A) Ow H σ' Γ') : SS g A Bn Ow H σ' Γ' M := ⟨rs, r.len, r.nd, r.sepA, r.cell⟩
/-! a new owned object is banned while the others are made -/
theorem bx_orB {p : Addr} : orB (Bx Bn A) p = Bx (orB Bn p) A := by
  funext a
  simp only [orB, Bx, or_right_comm]
theorem SS.ban {d : D} {p : Addr} (r : SS g A Bn Ow H σ Γ M) (m : p ∈ Ow) (no : ∀ (i : Nat) e, Γ[i]? = some (some (e, true)) → σ[i]? ≠ some (some (.ref p))) : SS g A (orB Bn p) (Ow.filter (fun x => decide (x ≠ p))) H σ Γ M := by
  have r2 := r.rs.ban (d := d) m no
  rw [bx_orB] at r2
  refine ⟨r2, r.len, r.nd, fun a h z => ?_, fun k e a h1 h2 => own_less (fun b z => ?_) (r.cell k e a h1 h2)⟩
  · rcases z with z | z
    · exact r.sepA a h z
    · rw [z] at h; exact r.rs.sep p (.inr h) m
  · rcases z with ((z | z) | z) | z
    · exact .inl (.inl z)
    · rw [z]; exact .inr m
    · exact .inl (.inr z)
    · exact .inr (mem_ne z).1
theorem SS.unB {p : Addr} (r : SS g A (orB Bn p) Ow H σ Γ M) (nb : ¬ Bn p) : SS g A Bn (p :: Ow) H σ Γ M := by
  have nA : p ∉ A := fun z => r.sepA p z (.inr rfl)
  have r1 : RS (g.w A) (orB (Bx Bn A) p) Ow H σ Γ := by rw [bx_orB]; exact r.rs
  refine ⟨r1.unB fun z => z.elim nb nA, r.len, r.nd, fun a h z => r.sepA a h (.inl z), fun k e a h1 h2 => own_less (fun b z => ?_) (r.cell k e a h1 h2)⟩
  rcases z with (z | z) | z
  · exact .inl (.inl (.inl z))
  · exact .inl (.inr z)
  · rcases List.mem_cons.mp z with z | z
    · exact .inl (.inl (.inr z))
    · exact .inr z
theorem OwnA.sm {d : D} {p : Addr} (o : OwnA (g.w A) (Av (Bx Bn A) Ow) H d p) (np : p ∉ Ow) (nA : p ∉ A) (s : Sm A Ow H A' Ow' H') (r : SS g A' Bn Ow' H' σ Γ M) : OwnA (g.w A') (Av (Bx Bn A') Ow') H' d p := by
  cases d with
  | lst es => obtain ⟨us, e2, r2⟩ := o; exact ⟨us, s.keep0 _ _ e2 nofun np nA, r2.sm s r⟩
  | obj c ks es => obtain ⟨dx, us, l, e2, r2⟩ := o; exact ⟨dx, us, l, s.keep0 _ _ e2 nofun np nA, r2.sm s r⟩
  | _ => exact o
end
section
variable {X : Cx} {g : Gx} {fs : List FS} {ms : List FM} {a : Expr} {es : List Expr} {xa : XE} {st : Stmt} {pos : Pos}
theorem PS.exA {α : Type} {t : α → TS} (h : ∀ A, PS X st (t A)) : PS X st (fun Dn σ H => ∃ A, t A Dn σ H) := ⟨fun pins s σ H Dn I ⟨A, q⟩ => (h A).run pins s σ H Dn I q⟩
theorem PI.exA {α : Type} {tg it : Expr} {t : α → TI} (h : ∀ A, PI X tg it (t A)) : PI X tg it (fun σ H R => ∃ A, t A σ H R) := ⟨fun pins s σ H R I ⟨A, q⟩ => (h A).run pins s σ H R I q⟩
end
/-! ### defs that work on the store -/
section
variable {g : Gx} {A A' : List Addr} {Bn : Addr → Prop} {Ow Ow' : List Addr} {H H' : Hp} {σ σ' : St} {Γ Γ' : Ct} {M M' : List D} {fs : List FS} {ms : List FM}
theorem SS.start {vs : List V} {G0 : Ct} (k : Nat) (r0 : SS g A Bn Ow H (vs.map some) G0 M) : SS g A Bn Ow H (vs.map some ++ List.replicate k none) (G0 ++ List.replicate k none) M := r0.frm (r0.rs.start k)
end
section
variable {P : Program} {w : World} {mg : Str → Option Value} {base : Heap} {g : Gx} {fs : List FS} {ms : List FM}
end
end DV

namespace DV
open PySem L2
theorem Cok.w {g : Gx} {X : Cx} (C : Cok g X) (A : List Addr) : Cok (g.w A) X := ⟨C.K, C.calm, C.hu, C.nd, C.ea⟩
section
variable {X : Cx} {g : Gx} {e o : Expr} {es : List Expr} {ts : List TX} {i c : Nat} {nm : Str} {pos : Pos}
end
end DV

namespace DV
open PySem L2

/-! ### a list of the store, handed to the language of plain frames for a while -/
abbrev Bo (Bn : Addr → Prop) (A : List Addr) (a : Addr) : Addr → Prop := fun b => Bn b ∨ (b ∈ A ∧ b ≠ a)
section
variable {g : Gx} {A A' : List Addr} {Bn : Addr → Prop} {Ow Ow' : List Addr} {H H' : Hp} {σ σ' : St} {Γ Γ' Γ2 : Ct} {M M2 : List D} {i k : Nat} {a : Addr}
theorem av_bo (m : a ∈ A) : ∀ b, Av (Bo Bn A a) (a :: Ow) b ↔ Av (Bx Bn A) Ow b := fun b => by
  constructor
  · rintro ((h | h) | h)
    · exact .inl (.inl h)
    · exact .inl (.inr h.1)
    · rcases List.mem_cons.mp h with h | h
      · rw [h]; exact .inl (.inr m)
      · exact .inr h
  · rintro ((h | h) | h)
    · exact .inl (.inl h)
    · by_cases e : b = a
      · rw [e]; exact .inr List.mem_cons_self
      · exact .inl (.inr ⟨h, e⟩)
    · exact .inr (List.mem_cons_of_mem _ h)
theorem SS.bor {Γb : Ct} (r : SS g A Bn Ow H σ Γ M) (h : borG M i Γ = some (k, Γb)) : ∃ a, A[k]? = some a ∧ σ[i]? = some (some (.ref a)) ∧ RS (g.w A) (Bo Bn A a) (a :: Ow) H σ Γb := by
  unfold borG at h
  split at h
  · rename_i k0 hi
    split at h
    · rename_i ds hk
      simp only [Option.some.injEq, Prod.mk.injEq] at h
      obtain ⟨rfl, rfl⟩ := h
      obtain ⟨v, e1, q⟩ := r.rs.slot i _ hi
      simp only [Rep] at q
      obtain ⟨a, ea, rfl⟩ := q
      have ea : A[k0]? = some a := ea
      have m := (r.ad ea).1
      have no := (r.ad ea).2
      have av := av_bo (Bn := Bn) (Ow := Ow) m
      have hil : i < Γ.length := (List.getElem?_eq_some_iff.mp hi).1
      refine ⟨a, ea, e1, by rw [List.length_set]; exact r.rs.len, fun j d hj => ?_, fun j d hj => ?_, fun j l d e b h1 h2 h3 h4 => ?_, fun b hb => r.rs.trl b ((av b).mp hb), fun b hb z => ?_, fun b hb => r.rs.kf b ((av b).mp hb), r.rs.tabs⟩
      · rcases set_get hj with ⟨_, w⟩ | ⟨_, w⟩
        · cases w
        · obtain ⟨v, e2, q2⟩ := r.rs.slot j d w
          exact ⟨v, e2, rep_less (fun b hb => (av b).mp hb) q2⟩
      · rcases set_get hj with ⟨z, w⟩ | ⟨_, w⟩
        · cases w
          rw [z]
          exact ⟨a, e1, List.mem_cons_self, own_less (fun b hb => (av b).mp hb) (r.cell k0 _ a hk ea)⟩
        · obtain ⟨b, e2, m2, o2⟩ := r.rs.own j d w
          exact ⟨b, e2, List.mem_cons_of_mem _ m2, own_less (fun b hb => (av b).mp hb) o2⟩
      · rcases set_get h1 with ⟨z1, w1⟩ | ⟨n1, w1⟩ <;> rcases set_get h2 with ⟨z2, w2⟩ | ⟨n2, w2⟩
        · rw [z1, z2]
        · exfalso
          rw [z1, e1] at h3; cases h3
          obtain ⟨c, e2, m2, _⟩ := r.rs.own l e w2
          rw [h4] at e2; cases e2
          exact no m2
        · exfalso
          rw [z2, e1] at h4; cases h4
          obtain ⟨c, e2, m2, _⟩ := r.rs.own j d w1
          rw [h3] at e2; cases e2
          exact no m2
        · exact r.rs.dist j l d e b w1 w2 h3 h4
      · rcases List.mem_cons.mp z with z | z
        · rcases hb with hb | hb
          · rw [z] at hb; exact r.sepA a m hb
          · exact hb.2 z
        · rcases hb with hb | hb
          · exact r.rs.sep b (.inl hb) z
          · exact r.rs.sep b (.inr hb.1) z
    · cases h
  · cases h
end
section
variable {X : Cx} {g : Gx} {fs : List FS} {ms : List FM} {a b : Expr} {ia ib : E} {xa xb : XE} {pos : Pos} {st : Stmt}
theorem PostM.sm {A A' : List Addr} {Bn : Addr → Prop} {Ow Ow' : List Addr} {H H' : Hp} {M : List D} {Dn : Ends} {o : Out} (h : PostM g Dn A Bn Ow H o M) (s : Sm A Ow H A' Ow' H') : PostM g Dn A' Bn Ow' H' o M := h.step s
/-! ### turns over a list of the store -/
end
end DV
namespace DV
open PySem L2
section
variable {X : Cx} {g : Gx} {fs : List FS} {ms : List FM} {a : Expr} {ia : E}
theorem ClsX.un {A : List Addr} {c : Nat} (h : ClsX (g.w A) c) : ClsX g c := ⟨h.cl, h.ha, h.hn, h.htk, h.hm, h.nf⟩
end
end DV

namespace DV
open PySem L2

/-! ### a method of an object of the store, called with keywords alone -/
structure MtdMK (P : Program) (w : World) (mg : Str → Option Value) (base : Heap) (g : Gx) (k : Nat) (c : Nat) (x : Str) (ks : List Str) (p : List Nat) (F : FM) : Prop where
  ex : ∃ f fd ps gg gV, Cls g.K (g.cl c) ∧ Meth g.K (g.cl c) x f ∧ KBn g.K fd ps 1 ks gg gV ∧ (∀ (s : V) (zs : List V), zs.length = ks.length → gV [s] zs = s :: permL p zs) ∧ FnOk P w g.K mg base CX0 k f fd ps (spM g (p.length + 1) F)
section
variable {P : Program} {w : World} {mg : Str → Option Value} {base : Heap} {g : Gx}
theorem MtdMK.mono {j k c : Nat} {x : Str} {ks : List Str} {p : List Nat} {F : FM} (h : MtdMK P w mg base g j c x ks p F) (l : j ≤ k) : MtdMK P w mg base g k c x ks p F := by
  obtain ⟨f, fd, ps, gg, gV, h1, h2, h3, h5, h4⟩ := h.ex
  exact ⟨f, fd, ps, gg, gV, h1, h2, h3, h5, h4.mono l⟩
end
section
variable {X : Cx} {g : Gx} {fs : List FS} {ms : List FM} {a b e o : Expr} {es : List Expr} {io : E} {xa xb : XE} {xs : List XE} {x m : Str} {q pos apos kpos : Pos} {c k i n : Nat} {kws : List Keyword} {ks : List Str} {p : List Nat}
theorem PK.weak {t t' : TA} (h : PK X kws t) (k : ∀ σ H Q, t' σ H Q → t σ H Q) : PK X kws t' := ⟨fun pos pins s σ H Q I q => h.run pos pins s σ H Q I (k σ H Q q)⟩
/-! ### == of objects of the store, looked at -/
end
end DV

namespace DV
open PySem L2 PySem.Spec
section
variable {X : Cx} {g : Gx} {fs : List FS} {ms : List FM} {pos : Pos}
end
end DV

namespace DV
open PySem L2

/-! ### further expressions beside a store -/
section
variable {X : Cx} {g : Gx} {fs : List FS} {ms : List FM} {a e : Expr} {es : List Expr} {xa : XE} {xs : List XE} {p pos : Pos} {k i n : Nat} {x : Str}
theorem CallR.exA {α : Type} {f : Value} {r : α → List V → Hp → VK → Prop} (h : ∀ A, CallR X f (r A)) : CallR X f (fun xs H Q => ∃ A, r A xs H Q) := fun pins s σ H xs us Q I vs ⟨A, q⟩ => h A pins s σ H xs us Q I vs q
end
/-! ### an item of a local list is set to a value of the store's language -/
section
variable {X : Cx} {g : Gx} {fs : List FS} {ms : List FM} {xa : XE} {pos : Pos}
end
end DV

namespace DV
open PySem L2

/-! ### a value picked from a written dict of texts -/
section
variable {X : Cx} {g : Gx} {fs : List FS} {b : Expr} {ib : E} {pos dpos q1 q2 q3 q4 : Pos} {j1 j2 j3 j4 : Nat} {k1 k2 v1 v2 : Str}
end
end DV

namespace DV
open PySem L2

/-! ### a comprehension whose items are made with the store -/
section
variable {g : Gx} {A A' : List Addr} {Bn : Addr → Prop} {Ow Ow' : List Addr} {H H' : Hp} {σ σ' : St} {Γ Γ' : Ct} {M M' : List D} {p : Addr}
theorem SS.wipe (own : List Nat) (r : SS g A Bn Ow H σ Γ M) : SS g A Bn Ow H (L2.wipe σ own) (wipeG Γ own) M := ⟨r.rs.wipe own, r.len, r.nd, r.sepA, r.cell⟩
theorem orB_bx : orB (Bx Bn A) p = Bx (orB Bn p) A := by
  funext a
  simp only [orB, Bx, eq_iff_iff]
  constructor
  · rintro ((h | h) | h)
    · exact .inl (.inl h)
    · exact .inr h
    · exact .inl (.inr h)
  · rintro ((h | h) | h)
    · exact .inl (.inl h)
    · exact .inr h
    · exact .inl (.inr h)
theorem SS.addB (r : SS g A Bn Ow H σ Γ M) (s : Same H H') (np : H p = none) (hp : LI H' p) (hk : g.K.lookup p = none) : SS g A (orB Bn p) Ow H' σ Γ M := by
  have r2 := r.step ⟨fun a o h _ _ => s a o h, fun a h => by
    rcases List.mem_cons.mp h with h | h
    · rw [h]; exact .inr (nw_none np)
    · exact .inl h⟩ (r.rs.add s np hp hk)
  have av : ∀ a, Av (Bx (orB Bn p) A) Ow a → Av (Bx Bn A) (p :: Ow) a := fun a h => by
    rcases h with ((h | h) | h) | h
    · exact .inl (.inl h)
    · exact .inr (by rw [h]; exact List.mem_cons_self)
    · exact .inl (.inr h)
    · exact .inr (List.mem_cons_of_mem _ h)
  refine ⟨?_, r.len, r.nd, fun a m z => ?_, fun k d a h1 h2 => own_less av (r2.cell k d a h1 h2)⟩
  · have := r.rs.addB s np hp hk
    rw [orB_bx] at this
    exact this
  · rcases z with z | z
    · exact r.sepA a m z
    · rw [z] at m
      exact r.rs.trk p (.inl (.inr m)) np
theorem SS.updB {o : HO} (r : SS g A (orB Bn p) Ow H σ Γ M) (ho : LI (upd H p o) p) : SS g A (orB Bn p) Ow (upd H p o) σ Γ M := by
  have v := ban_vst (g := g.w A) (H := H) (o := o) (A := Av (Bx (orB Bn p) A) Ow) (p := p) (.inl (.inl (.inr rfl)))
  refine ⟨r.rs.updB (.inl (.inr rfl)) ho, r.len, r.nd, r.sepA, fun k d a h1 h2 => ?_⟩
  have ne : a ≠ p := fun z => r.sepA a (r.ad h2).1 (.inr z)
  have q := r.cell k d a h1 h2
  cases d with
  | lst ds => obtain ⟨ws, z1, z2⟩ := q; exact ⟨ws, by rw [upd_ne ne]; exact z1, reps_mono v _ _ z2⟩
  | obj c ks ds => obtain ⟨dx, ws, l, z1, z2⟩ := q; exact ⟨dx, ws, l, by rw [upd_ne ne]; exact z1, reps_mono v _ _ z2⟩
  | _ => exact q
theorem SS.rest {own : List Nat} (r0 : SS g A Bn Ow H σ Γ M) (hp : plainIx Γ own = true) (np : H p = none) (hk : g.K.lookup p = none) (s : Sm A Ow H A' Ow' H') (r : SS g A' (orB Bn p) Ow' H' (L2.wipe σ own) Γ' M') : SS g A' (orB Bn p) Ow' H' σ (restG Γ Γ' own) M' := by
  have rs := r.rs
  have hl : σ.length = Γ'.length := by rw [← rs.len, wipe_length]
  have pl : ∀ i, i ∈ own → ∀ d, Γ[i]? ≠ some (some (d, true)) := fun i hi d z => by
    unfold plainIx at hp
    have q := List.all_eq_true.mp hp i hi
    rw [z] at q
    cases q
  have inn : ∀ {i : Nat} {q : D × Bool}, i ∈ own → (restG Γ Γ' own)[i]? = some (some q) → Γ[i]? = some (some q) := fun {i q} hi h => by
    have hlt : i < Γ'.length := by
      rw [← restG_len Γ Γ' own]
      exact (List.getElem?_eq_some_iff.mp h).1
    rw [restG_in hi hlt] at h
    have hlt2 : i < Γ.length := by rw [← r0.rs.len, hl]; exact hlt
    rw [List.getD_eq_getElem?_getD, List.getElem?_eq_getElem hlt2] at h
    rw [List.getElem?_eq_getElem hlt2]
    simpa using h
  have vst : ∀ a, Vst (g.w A) (Av (Bx Bn A) Ow) H a → (∀ o, H a = some o → nT o → H' a = some o) ∧ ¬ Av (Bx (orB Bn p) A') Ow' a := fun a h => by
    have q := sm_vst (g := g) (Bn := Bn) s (fun a z => rs.kf a (z.elim .inr fun z => .inl (.inr z))) a h
    refine ⟨q.1, fun z => ?_⟩
    rcases z with ((z | z) | z) | z
    · exact q.2 (.inl (.inl z))
    · obtain ⟨_, t⟩ := h
      rw [z] at t
      rcases t with ⟨o, t, _⟩ | ⟨o, t⟩
      · rw [np] at t; cases t
      · have t : g.K.lookup p = some o := t
        rw [hk] at t; cases t
    · exact q.2 (.inl (.inr z))
    · exact q.2 (.inr z)
  refine ⟨⟨by rw [restG_len]; exact hl, fun i d h => ?_, fun i d h => ?_, fun i j d e a h1 h2 h3 h4 => ?_, rs.trl, rs.sep, rs.kf, rs.tabs⟩, r.len, r.nd, r.sepA, r.cell⟩
  · by_cases hi : i ∈ own
    · obtain ⟨v, e, q⟩ := r0.rs.slot i d (inn hi h)
      exact ⟨v, e, rep_w s.pre _ _ (rep_mono (g := g.w A) vst _ _ q)⟩
    · rw [restG_out hi] at h
      obtain ⟨v, e, q⟩ := rs.slot i d h
      rw [wipe_nout hi] at e
      exact ⟨v, e, q⟩
  · by_cases hi : i ∈ own
    · exact absurd (inn hi h) (pl i hi d)
    · rw [restG_out hi] at h
      obtain ⟨v, e, q⟩ := rs.own i d h
      rw [wipe_nout hi] at e
      exact ⟨v, e, q⟩
  · have n1 : i ∉ own := fun z => pl i z d (inn z h1)
    have n2 : j ∉ own := fun z => pl j z e (inn z h2)
    rw [restG_out n1] at h1
    rw [restG_out n2] at h2
    exact rs.dist i j _ _ _ h1 h2 (by rw [wipe_nout n1]; exact h3) (by rw [wipe_nout n2]; exact h4)
end
section
variable {g : Gx} {fs : List FS} {ms : List FM}
end
section
variable {X : Cx} {g : Gx} {fs : List FS} {ms : List FM}
end
end DV

namespace DV
open PySem L2

/-! ### an item of a list of the store -/
section
variable {X : Cx} {g : Gx} {fs : List FS} {ms : List FM} {a b : Expr} {xa : XE} {ib : E} {pos : Pos}
end
/-! ### a comprehension over a list of the store -/
section
variable {g : Gx} {fs : List FS} {ms : List FM}
end
section
variable {X : Cx} {g : Gx} {fs : List FS} {ms : List FM}
end
end DV

namespace DV
open PySem PySem.SeqAt
open AutoSeq1 (wpAny_loadPart')
open MeetsSeq MeetsSeq2 MeetsSeq3 SeqRoads2
section
variable {prog : Program} {w : World} {A : Around} {R : Result → Shared → Prop}
end
section
variable {prog : Program} {w : World} {A : Around} {E : Value → Shared → Prop} {s : Shared}
end
open L2
section
/-- all stays but tables, which stay in order -/
structure Ex (g : Gx) (H H' : Hp) : Prop where
  k : LamX.ExtN H H'
  t : Tb g.T H → Tb g.T H'
theorem Ex.refl (g : Gx) (H : Hp) : Ex g H H := ⟨LamX.ExtN.refl H, id⟩
theorem Ex.trans {g : Gx} {H H1 H2 : Hp} (a : Ex g H H1) (b : Ex g H1 H2) : Ex g H H2 := ⟨a.k.trans b.k, fun t => b.t (a.t t)⟩
variable {X : Cx} {g : Gx} {n m : Nat} {E E' : Eqv}
def MonN (g : Gx) (E : Eqv) : Prop := ∀ x y H H', Ex g H H' → E x y H → E x y H'
def EqN (X : Cx) (g : Gx) (n : Nat) (E : Eqv) : Prop :=
  ∀ (A : Around) (pins : List (Addr × Obj)) (s : Shared) (σ : St) (H : Hp) (x y : V) (u v : Value), L2.Sub X n A → Inv X pins σ H s → RelV x u → RelV y v → E x y H →
    wpAny (model X.prog X.w) A (eqBool u v) (fun r s' => r = true ∧ ∃ H', Inv X pins σ H' s' ∧ Ex g H H') X.xe s
theorem EqN.mono (h : EqN X g n E) (hn : n ≤ m) : EqN X g m E := fun A pins s σ H x y u v sb => h A pins s σ H x y u v (sb.mono hn)
theorem EqN.or (h : EqN X g n E) (h' : EqN X g n E') : EqN X g n (fun x y H => E x y H ∨ E' x y H) := fun A pins s σ H x y u v sb I rx ry d => by
  rcases d with d | d
  · exact h A pins s σ H x y u v sb I rx ry d
  · exact h' A pins s σ H x y u v sb I rx ry d
theorem MonN.or (h : MonN g E) (h' : MonN g E') : MonN g (fun x y H => E x y H ∨ E' x y H) := fun x y H H' e d => d.elim (fun d => .inl (h x y H H' e d)) fun d => .inr (h' x y H H' e d)
end
/-! ### data that are equal, objects by their own == -/
section
variable {X : Cx} {g : Gx} {n k c : Nat} {F : FS}
end
section
variable {g : Gx} {c : Nat} {F : FS} {H : Hp}
end
section
variable {X : Cx} {g : Gx} {fs : List FS} {ms : List FM} {a b : Expr} {xa xb : XE} {pos : Pos} {c k i : Nat} {F : FS}
end
end DV

namespace DV
open PySem L2

/-! ### the own == of a class, asked with an object of another class, too -/
section
variable {X : Cx} {g : Gx} {fs : List FS} {a b : Expr} {ia ib : E} {pos : Pos} {c c2 k i : Nat} {F : FS}
end
end DV

namespace DV
open PySem L2

/-! ### a name gets a comprehension whose variable is a name of the function, too -/
section
variable {X : Cx} {g : Gx} {fs : List FS} {ms : List FM}
end
end DV

namespace DV
open PySem L2 PySem.W PyProof.Rows
/-! ### lambdas as values: made, kept, called later -/
/-- nothing is asked of it -/
def anyO : HO := .ext fun _ => True
/-- the lambda's object -/
abbrev lamO (X : Cx) (params : Arguments) (body : Expr) (scope : Scope) (dV doc pm : Value) (c' : Addr) (ctv : Value) : Obj :=
  kdv_obj "<lambda>" (X.env.qual ++ "<lambda>") params (.expr body) scope (cloFrom X.env.cells scope.names []) dV doc pm c' ctv
/-- f is the lambda -/
def LamAt (X : Cx) (H : Hp) (f : Addr) (params : Arguments) (body : Expr) (scope : Scope) : Prop :=
  ∃ c' dV doc pm ctv, H f = some (.frz (lamO X params body scope dV doc pm c' ctv) anyO) ∧ H c' = some (LamX.CodeO c' (X.env.qual ++ "<lambda>")) ∧ ((params.defaults = [] ∧ dV = .none) ∨ (params.defaults ≠ [] ∧ ∃ t d, dV = .ref t ∧ H t = some (.tup [d])))
theorem ne_none_of {H H' : Hp} {f : Addr} (k : ∀ b o, H b = some o → H' b = some o) (n : H' f = none) : H f = none := by
  cases e : H f with
  | none => rfl
  | some o => rw [k f o e] at n; cases n
section
variable {X : Cx} {pins : List (Addr × Obj)} {σ : L2.St} {H : Hp} {s : Shared}
theorem lay_fn {a : Addr} {ob : Obj} {h' : Heap} {t' : Nat} (I : Inv X pins σ H s) (k : ∀ b u, s.heap.get? b = some u → h'.get? b = some u) (hp : s.heap.objs.size ≤ a) (ho : h'.get? a = some ob) : Inv X pins σ (upd H a (.frz ob anyO)) { s with heap := h', toks := t' } :=
  I.laid k hp ⟨ho, True.intro, ⟨ob, ho⟩, fun _ _ _ _ => True.intro⟩
theorem lam_tail {T : List (Addr × Str)} {c P : Addr} {params : Arguments} {body : Expr} {scope : Scope} {pos : Pos} {dV : Value} {E : Value → Shared → Prop} {Q : Value → Shared → Prop} (I : Inv X pins σ H s) (TB : LamX.TabB X.base X.mg c P) (hcode : X.env.code = .ref c)
    (hm : (P, X.env.qual ++ "<lambda>") ∈ T) (hu : ∀ p ∈ T, p.1 = P → p.2 = X.env.qual ++ "<lambda>") (hT : LamX.Tabs T H) (hfree : ∀ y ∈ scope.names, y.2 = .free → ∃ c, X.env.cells.lookup y.1 = some c)
    (h : ∀ (f c' : Addr) (pm ctv doc : Value) (H1 : Hp) (s' : Shared), Inv X pins σ H1 s' → LamX.ExtN H H1 → LamX.Tabs T H1 → H f = none → H1 f = some (.frz (lamO X params body scope dV doc pm c' ctv) anyO) → H1 c' = some (LamX.CodeO c' (X.env.qual ++ "<lambda>")) → Q (.ref f) s') :
    wpAny (model X.prog X.w) X.A (makeTail "<lambda>" (X.env.qual ++ "<lambda>") params (.expr body) scope X.env dV .none none pos pos.line) Q E s := by
  obtain ⟨ps, hP, ht, ha⟩ := hT _ hm
  have bP : s.heap.BuiltinsAt X.mg P := TB.bm.keeps I.bk
  have hP' : s.heap.get? P = some { cls := .none, data := .fields ps } := I.hok P _ hP
  -- the last step: the function's object is laid
  have fin : ∀ {H0 : Hp} {h' : Heap} {tk : Nat} {c' : Addr} {pm ctv doc : Value}, Inv X pins σ H0 { s with heap := h', toks := tk } → LamX.ExtN H H0 → LamX.Tabs T H0 → s.heap.objs.size ≤ h'.objs.size → H0 c' = some (LamX.CodeO c' (X.env.qual ++ "<lambda>")) →
      Q (.ref h'.objs.size) { s with heap := h'.push (lamO X params body scope dV doc pm c' ctv), toks := tk } := fun {H0 h' tk c' pm ctv doc} I0 eN T0 hsz hco => by
    have nf : H0 h'.objs.size = none := I0.hok.fresh (Nat.le_refl _)
    have I1 := lay_fn (h' := h'.push (lamO X params body scope dV doc pm c' ctv)) (t' := tk) I0 (fun b o e => Heap.get?_push_of_some _ e) (Nat.le_refl _) (Heap.get?_push_size _ rfl)
    have e1 : ∀ b o, H0 b = some o → upd H0 h'.objs.size (.frz (lamO X params body scope dV doc pm c' ctv) anyO) b = some o := fun b o e => by
      rw [upd_ne (ne_of_none e nf)]; exact e
    exact h h'.objs.size c' pm ctv doc _ _ I1 (eN.trans (LamX.ExtN.of e1)) (T0.ext e1) (I.hok.fresh hsz) upd_same (e1 _ _ hco)
  cases hc : codeAmong pos ps.toList with
  | none =>
    refine kdv_makeTail (mg := X.mg) (c := c) (P := P) (ps := ps) (closure_ok hfree) I.ok.glob (I.mod.glob.keeps I.bk) hcode (TB.code.keeps I.bk) hP' ht hc TB.gP bP fun c' ctv doc h' tk hx hge hlt hrec htb => ?_
    obtain ⟨c2, oc, vs, t, e2, hoc, hd, hv⟩ := hrec
    cases e2
    have nC : H c' = none := I.hok.fresh hge
    have I1 := LamX.inv_table (t' := tk) (more := #[rawInt pos.line, rawInt pos.col, .ref c']) (h' := h') I hP (fun b o hb e => hx b o hb e) htb hge ⟨oc, vs, t, hoc, hd, hv⟩
    have hE : LamX.ExtN H (upd (upd H P (.tbl (ps ++ #[rawInt pos.line, rawInt pos.col, .ref c']))) c' (LamX.CodeO c' (X.env.qual ++ "<lambda>"))) := fun b o e n => by
      rw [upd_ne (ne_of_none e nC), upd_ne (fun z => n ps (Option.some.inj (e.symm.trans (by rw [z]; exact hP))))]
      exact e
    have eL : (ps ++ #[rawInt pos.line, rawInt pos.col, .ref c']).toList = ps.toList ++ [rawInt pos.line, rawInt pos.col, .ref c'] := by simp
    refine fin I1 hE (fun p hp => ?_) (Nat.le_trans hge (Nat.le_of_lt hlt)) upd_same
    by_cases hb : p.1 = P
    · rw [hu p hp hb, hb]
      refine ⟨_, by rw [upd_ne (ne_of_none hP nC), upd_same], by rw [eL]; exact PySem.TriplesOk_snoc _ _ _ _ ht, fun p' cv hcv => ?_⟩
      rw [eL] at hcv
      rcases LamX.among_app _ ht hcv with z | z
      · obtain ⟨c0, e1, e2⟩ := ha p' cv z
        exact ⟨c0, e1, hE _ _ e2 LamX.codeO_ne⟩
      · exact ⟨c', z, upd_same⟩
    · obtain ⟨ps', a1, a2, a3⟩ := hT p hp
      refine ⟨ps', by rw [upd_ne (ne_of_none a1 nC), upd_ne hb]; exact a1, a2, fun p' cv hcv => ?_⟩
      obtain ⟨c0, e1, e2⟩ := a3 p' cv hcv
      exact ⟨c0, e1, hE _ _ e2 LamX.codeO_ne⟩
  | some cv =>
    obtain ⟨c', e, hco⟩ := ha pos cv hc
    subst e
    refine kdv_makeTailHit (mg := X.mg) (c := c) (P := P) (ps := ps) (closure_ok hfree) I.ok.glob (I.mod.glob.keeps I.bk) hcode (TB.code.keeps I.bk) hP' ht hc bP fun ctv doc h' tk hx hsz => ?_
    exact fin (I.kept fun b o e => hx b o e) (LamX.ExtN.refl H) hT hsz hco
/-- the lambda is made -/
def tMk (X : Cx) (T : List (Addr × Str)) (params : Arguments) (body : Expr) (scope : Scope) : TE := fun σ H Q => LamX.Tabs T H ∧ ∀ f H1, LamX.ExtN H H1 → LamX.Tabs T H1 → H f = none → LamAt X H1 f params body scope → Q (.ref f) H1
theorem pe_mk0 {T : List (Addr × Str)} {c P : Addr} {params : Arguments} {body : Expr} {scope : Scope} {pos : Pos} (TB : LamX.TabB X.base X.mg c P) (hcode : X.env.code = .ref c)
    (hm : (P, X.env.qual ++ "<lambda>") ∈ T) (hu : ∀ p ∈ T, p.1 = P → p.2 = X.env.qual ++ "<lambda>") (hfree : X.Ok → ∀ y ∈ scope.names, y.2 = .free → ∃ c, X.env.cells.lookup y.1 = some c) (hdef : defaultsOf params X.env = ([], [])) (hd0 : params.defaults = []) :
    PE X (.Lambda params body scope pos) (tMk X T params body scope) := by
  refine ⟨fun pins s σ H Q I h => ?_⟩
  refine kla_eval hdef ?_
  rw [makeFunction_eq]
  simp only [List.zip_nil_right, List.filterMap_nil, List.isEmpty_nil, if_true, pure_bind]
  exact lam_tail I TB hcode hm hu h.1 (hfree I.ok) fun f c' pm ctv doc H1 s' I1 eN T1 nf h1 h2 => ⟨.ref f, H1, I1, rfl, h.2 f H1 eN T1 nf ⟨c', _, doc, pm, ctv, h1, h2, .inl ⟨hd0, rfl⟩⟩⟩
theorem pe_mk1 {T : List (Addr × Str)} {c P : Addr} {params : Arguments} {body : Expr} {scope : Scope} {pos : Pos} {e : Expr} {v : V} (TB : LamX.TabB X.base X.mg c P) (hcode : X.env.code = .ref c)
    (hm : (P, X.env.qual ++ "<lambda>") ∈ T) (hu : ∀ p ∈ T, p.1 = P → p.2 = X.env.qual ++ "<lambda>") (hfree : X.Ok → ∀ y ∈ scope.names, y.2 = .free → ∃ c, X.env.cells.lookup y.1 = some c) (hd : params.defaults = [e]) (hk : params.kw_defaults = []) (he : PE X e (tC v)) :
    PE X (.Lambda params body scope pos) (tMk X T params body scope) := by
  refine ⟨fun pins s σ H Q I h => ?_⟩
  refine kdv_lam (by rw [hd]; rfl) hk ?_
  rw [hd]
  refine kdv_all1 (thn (he.run pins s σ H (fun x H1 => x = v ∧ H1 = H) I ⟨rfl, rfl⟩) fun u s1 ⟨x, H1, I1, r1, e1, e2⟩ => ?_)
  subst e1 e2
  refine kdv_all0 ?_
  rw [makeFunction_eq]
  simp only [List.zip_nil_right, List.filterMap_nil, List.isEmpty_nil, List.isEmpty_cons, if_true, pure_bind, Bool.false_eq_true, if_false]
  refine wpAny_bind (wpAny_newTextTuple ?_)
  have nf : H1 s1.heap.objs.size = none := I1.hok.fresh (Nat.le_refl _)
  have I2 : Inv X pins σ (upd H1 s1.heap.objs.size (.tup [x])) { s1 with heap := s1.heap.push (kdv_tup [u]) } :=
    I1.laid (t' := s1.toks) (fun b u e => Heap.get?_push_of_some _ e) (Nat.le_refl _) ⟨by show 1 ≤ sizeLine; decide, [u], .cons r1 .nil, ⟨_, Heap.get?_push_size _ rfl, rfl, _, rfl⟩⟩
  have e1 : ∀ b o, H1 b = some o → upd H1 s1.heap.objs.size (.tup [x]) b = some o := fun b o e => by
    rw [upd_ne (ne_of_none e nf)]; exact e
  refine lam_tail I2 TB hcode hm hu (h.1.ext e1) (hfree I2.ok) fun f c' pm ctv doc H2 s' I3 eN T1 n1 h1 h2 => ⟨.ref f, H2, I3, rfl, h.2 f H2 ((LamX.ExtN.of e1).trans eN) T1 ?_ ⟨c', _, doc, pm, ctv, h1, h2, .inr ⟨by rw [hd]; simp, _, x, rfl, eN _ _ upd_same (by simp)⟩⟩⟩
  exact ne_none_of (fun b o => e1 b o) n1
end
/-! ### the lambda's frame -/
/-- no captured name is its own; its parameters are no names of the maker -/
structure LamY (N : List Str) (sc scope : Scope) : Prop where
  kind : scope.kind = .function
  co : scope.isCoroutine = false
  gen : scope.isGenerator = false
  ncell : ∀ y ∈ scope.names, y.2 ≠ .cell
  loc : ∀ y ∈ scope.names, y.2 = .local → y.1 ∉ N
  free : ∀ y ∈ scope.names, y.2 = .free → sc.names.lookup y.1 = some .cell ∨ sc.names.lookup y.1 = some .free
def lamYB (N : List Str) (sc scope : Scope) : Bool :=
  decide (scope.kind = .function) && !scope.isCoroutine && !scope.isGenerator && scope.names.all fun y => !decide (y.2 = .cell) && (!decide (y.2 = .local) || !N.contains y.1) && (!decide (y.2 = .free) || decide (sc.names.lookup y.1 = some .cell) || decide (sc.names.lookup y.1 = some .free))
theorem lamY_by {N : List Str} {sc scope : Scope} (h : lamYB N sc scope = true) : LamY N sc scope := by
  unfold lamYB at h
  simp only [Bool.and_eq_true, Bool.or_eq_true, Bool.not_eq_true', decide_eq_true_eq, decide_eq_false_iff_not, List.all_eq_true, List.contains_eq_mem] at h
  obtain ⟨⟨⟨h1, h2⟩, h3⟩, h4⟩ := h
  refine ⟨h1, h2, h3, fun y hy => (h4 y hy).1.1, fun y hy e => ?_, fun y hy e => ?_⟩
  · rcases (h4 y hy).1.2 with z | z
    · exact absurd e z
    · exact z
  · rcases (h4 y hy).2 with (z | z) | z
    · exact absurd e z
    · exact .inl z
    · exact .inr z
theorem LamY.has {X : Cx} {scope : Scope} (L : LamY X.N X.env.scope scope) (ok : X.Ok) : ∀ y ∈ scope.names, y.2 = .free → ∃ c, X.env.cells.lookup y.1 = some c := fun y hy e => by
  rcases L.free y hy e with k | k
  · exact ok.has _ (.inl k)
  · exact ok.has _ (.inr k)
section
variable {X : Cx} {pins : List (Addr × Obj)} {σ : L2.St} {H HZ : Hp} {s s1 : Shared}
theorem lam_enter {A : Around} {outer : List Env} {E : XK} {scope : Scope} {f c' : Addr} {h₁ : Heap} {tk : Nat} {m : Str → Option Value} (I : Inv X pins σ H s) (L : LamY X.N X.env.scope scope) (e0 : Env0 X.prog X.w X.K X.mg X.base A outer s1 HZ) (hd : A.handled = none)
    (un : Un (frs X.stack) [] H HZ s.heap s1.heap) (hns : h₁.Ns s1.heap.objs.size m) (kp : ∀ b o, s1.heap.get? b = some o → h₁.get? b = some o) :
    Inv (LamX.lamCx X A outer s1 HZ E scope f c') [] σ HZ { s1 with heap := h₁, toks := tk } := by
  have cm : ∀ {y c}, (cloFrom X.env.cells scope.names []).lookup y = some c → X.env.cells.lookup y = some c := fun {y c} e => by
    rcases cloFrom_mem (PySem.mem_of_lookup e) with hm | ⟨h1, h2⟩
    · cases hm
    · obtain ⟨c1, hc⟩ := L.has I.ok _ h1 rfl
      have hc : X.env.cells.lookup y = some c1 := hc
      rw [hc] at h2
      rw [hc, h2]; rfl
  have get : ∀ {y}, scope.names.lookup y = some .free → ∃ c, (cloFrom X.env.cells scope.names []).lookup y = some c := fun {y} hl =>
    mem_lookup (cloFrom_has (cells := X.env.cells) (acc := []) (show (y, NameKind.free) ∈ scope.names from PySem.mem_of_lookup hl))
  have isC : ∀ {c : Addr} {v : Option Value}, H c = none → s.heap.IsCell c v → h₁.IsCell c v := fun {c v} n ⟨o, ho, hd⟩ => by
    obtain ⟨sl, q⟩ := un.any ho n (by simp)
    exact ⟨_, kp _ _ q, hd⟩
  have noE : ∀ b : Addr, b ∉ (LamX.lamCx X A outer s1 HZ E scope f c').ex := fun b z => nomatch (show b ∈ ([] : List Addr) from z)
  refine ⟨⟨e0.mod, L.kind, rfl, rfl, Nat.le_refl _, fun y z c e1 e2 => I.ok.inj y z c (cm e1) (cm e2), fun y hy => ?_, fun y c z _ => ?_, fun _ => hd, Around.frames_deeper e0.frames, .inr ⟨rfl, rfl⟩, fun b z => absurd z (noE b), e0.bs, e0.bsz, fun b _ _ => noE b,
      fun b z => absurd z (noE b), e0.funs, e0.frf⟩,
    rfl, e0.bare, Un.kept kp, ⟨_, hns, fun i y v e1 e2 e3 => ?_⟩, fun y c e => ?_, e0.hok.fresh (Nat.le_refl _), fun y c e => ?_, fun q hq => absurd (show q ∈ ([] : List (Addr × Obj)) ++ [] from hq) (by simp), e0.hok.kept kp, I.len⟩
  · have hy : scope.names.lookup y = some .cell ∨ scope.names.lookup y = some .free := hy
    rcases hy with hy | hy
    · exact absurd rfl (L.ncell _ (PySem.mem_of_lookup hy))
    · exact get hy
  · have z : false = true := z
    cases z
  · have e3 : Vis scope y := e3
    rcases e3 with k | k | k
    · exact absurd (List.mem_of_getElem? e1) (L.loc _ (PySem.mem_of_lookup k) rfl)
    · exact absurd rfl (L.ncell _ (PySem.mem_of_lookup k))
    · obtain ⟨m, hn, hl⟩ := I.loc
      have hvis : Vis X.env.scope y := (L.free _ (PySem.mem_of_lookup k) rfl).elim (fun k => .inr (.inl k)) (fun k => .inr (.inr k))
      obtain ⟨w', r, q⟩ := hl i y v e1 e2 hvis
      obtain ⟨c2, h2⟩ := get k
      refine ⟨w', r, .inr ⟨.inr k, c2, h2, ?_⟩⟩
      have c1 := cm h2
      rcases q with ⟨k', _⟩ | ⟨_, c3, e', z⟩
      · have k' : X.env.scope.names.lookup y = some .local := k'
        rcases L.free _ (PySem.mem_of_lookup k) rfl with k2 | k2 <;> rw [show X.env.scope.names.lookup y = _ from k2] at k' <;> cases k'
      · rw [c1] at e'
        cases e'
        exact isC (I.freeC y _ c1) z
  · obtain ⟨w', z⟩ := I.cell y c (cm e)
    exact ⟨w', isC (I.freeC y c (cm e)) z⟩
  · obtain ⟨v, o, ho, hd⟩ := I.cell y c (cm e)
    exact un.free c o ho (I.freeC y c (cm e)) (by simp)
/-- how the lambda's own parameters are bound, with no argument -/
def LamB (params : Arguments) (body : Expr) (scope : Scope) : Prop :=
  (params.defaults = [] → ∀ q cl doc pm cv ctv, bindArgs (kdv_fn "<lambda>" q params (.expr body) scope cl .none doc pm cv ctv) ⟨[], []⟩ = pure []) ∧
  (params.defaults ≠ [] → ∀ q cl doc pm cv ctv t, ∃ k y, bindArgs (kdv_fn "<lambda>" q params (.expr body) scope cl (.ref t) doc pm cv ctv) ⟨[], []⟩ = seqItems? (.ref t) >>= k ∧ (∀ u, k (some #[u]) = pure [(y, u)]) ∧ scope.names.lookup y = some .local)
theorem lamB_binds {params : Arguments} {body : Expr} {scope : Scope} {dV doc pm ctv cv : Value} {q : Str} {cl : List (Str × Addr)} {P : Program} {w : World} (B : LamB params body scope) (ok : HOk P w H s.heap)
    (hd : (params.defaults = [] ∧ dV = .none) ∨ (params.defaults ≠ [] ∧ ∃ t d, dV = .ref t ∧ H t = some (.tup [d]))) :
    ∃ binds, BindsTo s (kdv_fn "<lambda>" q params (.expr body) scope cl dV doc pm cv ctv) ⟨[], []⟩ binds ∧ ∀ y ∈ binds, scope.names.lookup y.1 = some .local := by
  rcases hd with ⟨h1, rfl⟩ | ⟨h1, t, d, rfl, h2⟩
  · exact ⟨[], BindsTo.of_eq (B.1 h1 _ _ _ _ _ _), fun y hy => absurd hy (by simp)⟩
  · obtain ⟨_, its, r, ob, e, _, n, hdt⟩ := ok t _ h2
    obtain ⟨k, y, e1, e2, e3⟩ := B.2 h1 q cl doc pm cv ctv t
    cases r with
    | cons ru rn =>
      cases rn
      exact ⟨_, BindsTo.of_defaults rfl e hdt e1 (e2 _), fun z hz => by cases List.mem_singleton.mp hz; exact e3⟩
/-- a(), in the def that got the lambda -/
theorem lam_act {CXg : CXT} {Eg : XK} {Ng : List Str} {qg : Str} {sg : Scope} {g f c' : Addr} {cdg dV doc pm ctv : Value} {params : Arguments} {body : Expr} {scope : Scope} {k i : Nat} {a : Str} {pn : List (Addr × Obj)} {xe : Value → Shared → Prop} {W : WX} {E : XK} {tb : TE} {p1 p2 : Pos}
    (I : Inv X pins σ H s) (L : LamY X.N X.env.scope scope) (B : LamB params body scope) (hf : H f = some (.frz (lamO X params body scope dV doc pm c' ctv) anyO)) (hd : (params.defaults = [] ∧ dV = .none) ∨ (params.defaults ≠ [] ∧ ∃ t d, dV = .ref t ∧ H t = some (.tup [d])))
    (tk : Takes ((cxOf CXg X.prog X.w X.K X.mg X.base Ng qg sg g cdg X.A X.stack s H Eg).tr pn xe) W) (hW : ∀ cls d σ' H', E cls d H' → W cls d σ' H') (hr : Room (k + 1) (X.A.deeper (envOfC qg sg s.heap.objs.size g cdg)))
    (hbody : ∀ (A : Around) (outer : List Env) (s : Shared) (H : Hp), Room k (A.deeper (LamX.lamEnv X scope s.heap.objs.size f c')) → PE (LamX.lamCx X A outer s H E scope f c') body tb)
    (hN : Ng[i]? = some a) (hv : Vis sg a) (hdb : (a == ("__debug__" : Str)) = false) (hcd : (a == ("__classdict__" : Str)) = false) :
    PE ((cxOf CXg X.prog X.w X.K X.mg X.base Ng qg sg g cdg X.A X.stack s H Eg).tr pn xe) (.Call (.Name a p1) [] [] p2)
      (fun σZ HZ Q => σZ[i]? = some (some (.ref f)) ∧ HZ c' = some (LamX.CodeO c' (X.env.qual ++ "<lambda>")) ∧ tb σ HZ Q) := by
  refine ⟨fun pinsZ sZ σZ HZ Q IZ h => ?_⟩
  obtain ⟨hs, hc, ht⟩ := h
  refine wpAny_Call_Name_kw (thn ((pe_var (pos := p1) (i := i) hN hv hdb hcd).run pinsZ sZ σZ HZ (fun v H1 => v = .ref f ∧ H1 = HZ) IZ ⟨.ref f, hs, rfl, rfl⟩) fun u s1 ⟨v, H1, I1, r1, q1⟩ => ?_)
  obtain ⟨ev, eH⟩ := q1
  subst ev
  rw [eH] at I1
  obtain rfl : u = Value.ref f := r1
  have un : Un (frs X.stack) [] H HZ s.heap s1.heap := I1.base
  have of1 : s1.heap.get? f = some (lamO X params body scope dV doc pm c' ctv) := (I1.hok f _ (un.frzs f _ _ hf)).1
  refine PySem.W.callWith_F0 ⟨_, _, _, _, of1⟩ ?_
  obtain ⟨⟨oc, vs, t, hoc, hdc, hvc⟩, _, _⟩ := I1.hok c' _ hc
  obtain ⟨binds, hb, hbl⟩ := lamB_binds (q := X.env.qual ++ "<lambda>") (cl := cloFrom X.env.cells scope.names []) (doc := doc) (pm := pm) (cv := .ref c') (ctv := ctv) B I1.hok (hd.imp id fun ⟨h1, t, d, e1, e2⟩ => ⟨h1, t, d, e1, un.tups t _ e2⟩)
  have rc : codeAny (model X.prog X.w) (X.A.deeper (envOfC qg sg s.heap.objs.size g cdg)) (.call (.ref f) ⟨[], []⟩) (CR (L2.CX X.prog X.w) (envOfC qg sg s.heap.objs.size g cdg :: X.stack) X.prog X.w HZ s1 Q E) s1 := by
    refine kla_callFunE hr.depth of1 rfl L.co L.gen rfl ⟨c', oc, vs, t, rfl, hoc, hdc, hvc⟩ (hb _ _ _ _ ?_)
    refine wpAny_newFunctionEnv L.ncell hbl (fun h₁ hns hsb => ⟨I1.nolimit.fresh _ hsb, ?_⟩) L.kind
    show codeAny _ _ (.expr body (LamX.lamEnv X scope s1.heap.objs.size f c')) _ _
    have kp : ∀ b o, s1.heap.get? b = some o → h₁.get? b = some o := fun b o e => hsb.extBut b o (Nat.ne_of_lt (Heap.lt_size e)) (Heap.get?_push_of_some _ e)
    have J : Inv (LamX.lamCx X (X.A.deeper (envOfC qg sg s.heap.objs.size g cdg)) (envOfC qg sg s.heap.objs.size g cdg :: X.stack) s1 HZ E scope f c') [] σ HZ { s1 with heap := h₁, toks := s1.toks + binds.length } :=
      lam_enter I L I1.env0 hr.hd un hns kp
    refine kla_codeExpr (wpAny_mono ((hbody _ _ s1 HZ (hr.deeper _)).run [] _ _ HZ Q J ht) (fun v s' hq => ?_) fun e s' hq => hq)
    obtain ⟨w', H', J', rv, q⟩ := hq
    exact ⟨w', H', J'.os, J'.bare, J'.base, J'.hok, rv, q⟩
  have hx : Passes (L2.CX X.prog X.w) ((cxOf CXg X.prog X.w X.K X.mg X.base Ng qg sg g cdg X.A X.stack s H Eg).tr pn xe) E := passes_call tk hW
  refine wpAny_call (codeAny_mono rc fun r s' hq => ?_)
  cases r with
  | error e => exact hx pinsZ σZ HZ s1 e s' I1 hq
  | ok fl =>
    cases fl with
    | ret u => exact I1.after hq
    | next => exact False.elim hq
    | brk => exact False.elim hq
    | cont => exact False.elim hq
/-- the def is called with the lambda at f, in the maker's frame as it stands -/
theorem lam_told {TT : (XK → Hp → VK → Prop) → Hp → VK → Prop} {x a : Str} {g f : Addr} {k : Nat} {pg : Arguments} {bg : List Stmt} {sg : Scope} {dV kV doc pm cdv ct oc : Value} {an od : Option Addr} {osl : Array (Option Value)} {Ng : List Str}
    {params : Arguments} {body : Expr} {scope : Scope} {t : XK → TE} {Q : VK} (I : Inv X pins σ H s) (L : LamY X.N X.env.scope scope) (B : LamB params body scope) (la : LamAt X H f params body scope)
    (lk : X.K.lookup g = some ⟨oc, od, .func (PySem.W.fnOf x x pg bg sg dV kV doc pm an cdv ct), osl⟩) (hcg : PySem.W.codeIn X.K cdv x = true) (hb : L2.Binds X.K (PySem.W.fnOf x x pg bg sg dV kV doc pm an cdv ct) [a] []) (Sg : FnScope Ng [a] sg) (hNg : Ng[0]? = some a) (hva : Vis sg a)
    (hG : LamX.GivesTo X Ng x sg g cdv bg a (X.env.qual ++ "<lambda>") TT) (hr : Room (k + 2) X.A)
    (hbody : ∀ (A : Around) (outer : List Env) (s : Shared) (H : Hp) (E : XK) (f c' : Addr), Room k (A.deeper (LamX.lamEnv X scope s.heap.objs.size f c')) → PE (LamX.lamCx X A outer s H E scope f c') body (t E))
    (hd : (a == ("__debug__" : Str)) = false) (hcd : (a == ("__classdict__" : Str)) = false) (hTT : TT (fun E H' Q' => t E σ H' Q') H Q) :
    codeAny (model X.prog X.w) X.A (.call (.ref g) ⟨[.ref f], []⟩) (CR C8.CX0 X.stack X.prog X.w H s Q C8.E0) s := by
  obtain ⟨c', dV', doc', pm', ctv', h1, h2, h3⟩ := la
  refine LamX.run_ofS (N := Ng) (ps := [a]) (us := [.ref f]) (vs := [.ref f]) lk hcg Sg hr I.env0 (hb s [.ref f] I.kIn rfl) (.cons rfl .nil) rfl fun hr' => ?_
  obtain ⟨t', ht', hq'⟩ := hG f c' s H Q (fun E H' Q' => t E σ H' Q') (fun W pn xe E p1 p2 tk hW => lam_act (i := 0) I L B h1 h3 tk hW hr' (fun A outer s H hr2 => hbody A outer s H E f c' hr2) hNg hva hd hcd) h2 hTT
  exact ⟨t', ht'.nox, hq'⟩
end
end DV

namespace DV
open PySem L2 PySem.W PyProof.Rows
/-! ### a comprehension over a list of known values, its parts told of the very state it starts in -/
section
variable {X : Cx} {pins : List (Addr × Obj)} {σ : L2.St} {H : Hp} {s : Shared}
theorem lc_at {elt tg l : Expr} {ifs : List Expr} {scope : Scope} {own : List (Str × Nat)} {pos : Pos} {il : Nat} {g : TG} {tt : TT} {te : TE} {a : Addr} {xs : List V} {W : Addr → Nat → Hp → Prop} {Q : VK}
    (hc : X.calm = true) (hN : X.N.Nodup) (I : Inv X pins σ H s) (hl : PE X l (tVar il)) (hq : σ[il]? = some (some (.ref a))) (ha : H a = some (.lst xs)) (ok : BlkOk X.N X.env.scope scope own)
    (hall : ∀ (s3 : Shared) (H3 : Hp) (C : Addr) (cl : List (Str × Addr)) (fp : List Addr), Inv X pins σ H3 s3 → (∀ b ∈ fp, FpOk X pins H3 b) →
      PG (X.blk s3 H3 scope (compEnvC scope cl C X.env) fp) tg g ∧ PTs (X.blk s3 H3 scope (compEnvC scope cl C X.env) fp) ifs tt ∧ PE (X.blk s3 H3 scope (compEnvC scope cl C X.env) fp) elt te)
    (hs : ∀ x, foldedSetIterable l X.env x = pure x) (h0 : ∀ D, H D = none → X.K.lookup D = none → W D 0 (upd H D (.lst []))) (hK : ∀ D i H', W D i H' → i ≤ xs.length ∧ H' a = some (.lst xs))
    (step : ∀ D i x H', xs[i]? = some x → W D i H' → g x (wipe σ (own.map (·.2))) H' fun σ2 H2 => wipe σ2 (own.map (·.2)) = wipe σ (own.map (·.2)) ∧ tt σ2 H2 fun b H3 =>
      if b = true then te σ2 H3 fun y H4 => ∃ acc, H4 D = some (.lst acc) ∧ acc.length < sizeLine ∧ W D (i + 1) (upd H4 D (.lst (acc ++ [y]))) else W D (i + 1) H3)
    (hQ : ∀ D H', W D xs.length H' → Q (.ref D) H') :
    wpAny (model X.prog X.w) X.A (eval (.ListComp elt [⟨tg, l, ifs, 0⟩] scope pos) X.env) (EP X pins σ Q) X.xe s := by
  have hfree : ∀ y ∈ scope.names, y.2 = .free → ∃ c, X.env.cells.lookup y.1 = some c := fun y hy e => (ok.free y hy e).elim (fun k => I.ok.has _ (.inl k)) fun k => I.ok.has _ (.inr k)
  rw [eval_ListComp]
  refine wpAny_comprehension_free (use := none) rfl hs (closure_ok hfree) ok.kind (fun y hy e => by rw [ok.uniq y hy, e])
    (thn ((pi_list (tg := tg) hl).run pins s σ H (fun J H2 => H2 = H ∧ J = Itl X.K a) I ⟨.ref a, hq, a, rfl, ⟨xs, .inl (.inl ha)⟩, rfl, rfl⟩) fun xv s1 hx => thn hx fun itv s2 h2 => ?_)
  obtain ⟨it, fp, tn, J, H2, e, I2, T, st2, f2, e2, e3⟩ := h2
  subst e e2 e3
  refine wpAny_newObj_type (newEnv_comp ?_) (by show 0 ≤ sizeLine; decide)
  -- the list that is filled
  obtain ⟨D, hD⟩ : ∃ D, s2.heap.objs.size = D := ⟨_, rfl⟩
  obtain ⟨s3, hs3⟩ : ∃ s3 : Shared, s3 = { s2 with heap := s2.heap.push { cls := .type "list", data := .seq ([] : List Value).toArray } } := ⟨_, rfl⟩
  obtain ⟨H3, hH3⟩ : ∃ H3, H3 = upd H2 D (.lst []) := ⟨_, rfl⟩
  have hDn : H2 D = none := I2.hok.fresh (Nat.le_of_eq hD)
  have h3 : s3.heap = s2.heap.push { cls := .type "list", data := .seq ([] : List Value).toArray } := by rw [hs3]
  have I3 : Inv X pins σ H3 s3 := by
    rw [hs3, hH3]
    refine I2.laid (t' := s2.toks) (fun b o e => Heap.get?_push_of_some _ e) (Nat.le_of_eq hD) ⟨Nat.zero_le _, [], 0, .nil, ?_⟩
    rw [← hD]
    exact Heap.get?_push_size _ rfl
  have w0 : W D 0 H3 := by
    rw [hH3]
    refine h0 D hDn ?_
    cases eK : X.K.lookup D with
    | none => rfl
    | some o =>
      have z := Inv.kf I3 D o eK
      rw [hH3, upd_same] at z
      cases z
  have lt2 : ∀ b ∈ fp, b < s2.heap.objs.size := fun b hb => let ⟨_, e, _⟩ := T.obj _ _ st2 b hb; Heap.lt_size e
  have f3 : ∀ b ∈ fp, FpOk X pins H3 b ∧ b < s3.heap.objs.size := fun b hb => by
    have hlt := lt2 b hb
    refine ⟨⟨?_, (f2 b hb).2⟩, by rw [h3, Heap.size_push]; exact Nat.lt_succ_of_lt hlt⟩
    rw [hH3, upd_ne (by rw [← hD]; exact Nat.ne_of_lt hlt)]
    exact (f2 b hb).1
  have I4 := block_start I3 ok hN f3
  show codeAny _ _ (.compStart (.ListComp elt [⟨tg, l, ifs, 0⟩] scope pos) 0 (.ref it) (.ref s2.heap.objs.size) (compEnvC scope (cellsFrom ((s2.heap.push { cls := .type "list", data := .seq ([] : List Value).toArray }).objs.size + 1) scope.names (cloFrom X.env.cells scope.names [])) (s2.heap.push { cls := .type "list", data := .seq ([] : List Value).toArray }).objs.size X.env)) (compPost (model X.prog X.w) X.A X.xe none (EP X pins σ Q) (.ref s2.heap.objs.size) (s2.heap.push { cls := .type "list", data := .seq ([] : List Value).toArray }).objs.size) { s2 with heap := pushCells ((s2.heap.push { cls := .type "list", data := .seq ([] : List Value).toArray }).push { cls := .type "dict", data := .dict #[] }) scope.names }
  rw [hD, ← h3]
  obtain ⟨s4, hs4⟩ : ∃ s4 : Shared, s4 = { s3 with heap := pushCells (s3.heap.push { cls := .type "dict", data := .dict #[] }) scope.names } := ⟨_, rfl⟩
  have e4 : ({ s2 with heap := pushCells (s3.heap.push { cls := .type "dict", data := .dict #[] }) scope.names } : Shared) = s4 := by rw [hs4, hs3]
  rw [e4]
  rw [← hs4] at I4
  have st4 : tn 0 s4.heap := T.keep _ _ _ st2 fun b _ o e => by
    rw [hs4]
    exact pushCells_keeps _ _ _ _ (Heap.get?_push_of_some _ (by rw [h3]; exact Heap.get?_push_of_some _ e))
  obtain ⟨pg, pt, pe⟩ := hall s3 H3 s3.heap.objs.size (cellsFrom (s3.heap.objs.size + 1) scope.names (cloFrom X.env.cells scope.names [])) fp I3 fun b hb => (f3 b hb).1
  obtain ⟨ce, hce⟩ : ∃ ce, compEnvC scope (cellsFrom (s3.heap.objs.size + 1) scope.names (cloFrom X.env.cells scope.names [])) s3.heap.objs.size X.env = ce := ⟨_, rfl⟩
  have cL : ce.locals = s3.heap.objs.size := by rw [← hce]; rfl
  rw [hce] at I4 pg pt pe ⊢
  have nfp : ∀ b ∈ fp, H3 b = none := fun b hb => (f3 b hb).1.1
  -- the iterator's objects, in the block
  have own' : ∀ {σ' : L2.St} {H' : Hp} {s' : Shared}, Inv (X.blk s3 H3 scope ce fp) [] σ' H' s' → (∀ b ∈ fp, H' b = none) → ∀ b ∈ fp, FpOk (X.blk s3 H3 scope ce fp) [] H' b := fun {σ' H' s'} I' hn b hb =>
    ⟨hn b hb, (I'.ok.exf b hb).1, I'.ok.exfs b hb, .inl hb, fun x c e => (I'.ok.exf b hb).2 x c e, fun p hp => nomatch (show p ∈ ([] : List (Addr × Obj)) ++ [] from hp)⟩
  refine codeAny_compStart_list (R := compPost (model X.prog X.w) X.A X.xe none (EP X pins σ Q) (.ref D) s3.heap.objs.size) ?loop (T.self X.A 0 _ _ _ st4 ?loop)
  refine compLoop_any (fun n s' => ∃ i H', n = xs.length - i ∧ Inv (X.blk s3 H3 scope ce fp) [] (wipe σ (own.map (·.2))) H' s' ∧ tn i s'.heap ∧ (∀ b ∈ fp, H' b = none) ∧ W D i H') ?_ xs.length ⟨0, H3, rfl, I4, st4, nfp, w0⟩
  rintro n s5 ⟨i, H5, rfl, I5, st5, n5, w5⟩
  obtain ⟨hle, hxs⟩ := hK D i H5 w5
  by_cases hlt : i < xs.length
  · have hx := List.getElem?_eq_getElem hlt
    refine thnF (T.item (X.blk s3 H3 scope ce fp) rfl rfl rfl hc i [] s5 _ H5 (fun _ _ => False) I5 (own' I5 n5) st5 ⟨xs, _, .inl (.inl hxs), hx⟩) fun r s6 ⟨u, hr, h6⟩ => ?_
    subst hr
    refine thnF h6 fun _ s7 ⟨x, H7, I7, r7, ⟨e7, y7⟩, st7, n7⟩ => ?_
    subst e7
    have ex := y7 xs (.inl (.inl hxs))
    refine thnF (pg.run _ s7 _ H7 x u _ (I7.pinned (own' I7 n7) (T.obj _ _ st7)) r7 (step D i x H7 ex w5)) fun _ s8 ⟨σ8, H8, I8, hw8, q8⟩ => ?_
    refine thnF (pt.run _ s8 σ8 H8 _ I8 q8) fun b s9 ⟨H9, I9, q9⟩ => ?_
    have back : ∀ {s' : Shared} {H' : Hp}, Inv (X.blk s3 H3 scope ce fp) ([] ++ pinsAt fp s7.heap) σ8 H' s' → W D (i + 1) H' → ∃ m, m < xs.length - i ∧ ∃ j H', m = xs.length - j ∧ Inv (X.blk s3 H3 scope ce fp) [] (wipe σ (own.map (·.2))) H' s' ∧ tn j s'.heap ∧ (∀ b ∈ fp, H' b = none) ∧ W D j H' := fun {s' H'} I' w' => by
      have pin' : ∀ b ∈ fp, ∀ o, s7.heap.get? b = some o → s'.heap.get? b = some o ∧ H' b = none := fun b hb o e =>
        let z := I'.pin (b, o) (List.mem_append_right _ (List.mem_append_right _ (mem_pinsAt hb e)))
        ⟨z.1, z.2.1⟩
      refine ⟨xs.length - (i + 1), by omega, i + 1, H', rfl, (I'.unpinned (pins := [])).weak (by rw [← hw8, wipe_length]) (fun j v e => ?_), T.keep _ _ _ st7 fun b hb o e => (pin' b hb o e).1, fun b hb => ?_, w'⟩
      · rw [← hw8] at e
        exact (wipe_some e).1
      · obtain ⟨o, e, _⟩ := T.obj _ _ st7 b hb
        exact (pin' b hb o e).2
    cases b with
    | false =>
      simp only [Bool.false_eq_true, if_false] at q9 ⊢
      exact back I9 q9
    | true =>
      simp only [if_true] at q9 ⊢
      refine thnF (pe.run _ s9 σ8 H9 _ I9 q9) fun z s10 ⟨yv, H10, I10, r10, acc, hD10, hz10, nx⟩ => ?_
      exact app_ok (X := X.blk s3 H3 scope ce fp) I10 hD10 hz10 r10 fun s11 I11 => back I11 nx
  · have hi : i = xs.length := by omega
    subst hi
    refine thnF (T.done (X.blk s3 H3 scope ce fp) rfl rfl rfl hc xs.length [] s5 _ H5 (fun _ _ => False) I5 (own' I5 n5) st5 ⟨xs, .inl (.inl hxs), Nat.le_refl _⟩) fun r s6 ⟨hr, I6⟩ => ?_
    subst hr
    have I7 : Inv X pins σ H5 s6 := I3.call' (ch := fp) I6.os I6.base I6.hok I6.bare fun b hb => ⟨(f3 b hb).1.2.2.2.1, (f3 b hb).1.2.1, (f3 b hb).1.2.2.2.2.1, (f3 b hb).1.2.2.2.2.2⟩
    have nC : H5 s3.heap.objs.size = none := by
      have z : H5 ce.locals = none := I6.free
      rw [cL] at z
      exact z
    obtain ⟨m, hn, _⟩ := I6.loc
    have hn : s6.heap.Ns ce.locals m := hn
    rw [cL] at hn
    obtain ⟨f0, f1, f2', f3', f4, f5⟩ := I3.fpOk (H' := H5) (Nat.le_refl _) nC
    exact ⟨m, hn, fun h'' sb => ⟨.ref D, H5, I7.turned (t' := s6.toks) (fun b o hb e => (sb.2 b hb).trans e) f0 f1 f3' f4 f5, rfl, hQ D H5 w5⟩⟩
end
end DV

namespace DV
open PySem L2 PySem.W PyProof.Rows
/-! ### [told(a) for a in asks], asks a list of lambdas -/
/-- a lambda: its text and what it computes -/
structure LS where
  params : Arguments
  body : Expr
  scope : Scope
  e : E
/-- what is asked of a lambda that is kept -/
structure LsOk (X : Cx) (g : Gx) (fs : List FS) (k : Nat) (l : LS) : Prop where
  Y : LamY X.N X.env.scope l.scope
  B : LamB l.params l.body l.scope
  body : ∀ (A : Around) (outer : List Env) (s : Shared) (H : Hp) (E : L2.XK) (f c' : Addr), Room k (LamX.lamCx X A outer s H E l.scope f c').A → Cok g (LamX.lamCx X A outer s H E l.scope f c') → Tk (LamX.lamCx X A outer s H E l.scope f c') E → PE (LamX.lamCx X A outer s H E l.scope f c') l.body (tRX g E fs l.e)
/-- the lambdas of a list -/
def Lams (X : Cx) (H : Hp) : List LS → List V → Prop
  | [], vs => vs = []
  | l :: ls, vs => ∃ f r, vs = .ref f :: r ∧ LamAt X H f l.params l.body l.scope ∧ Lams X H ls r
section
variable {X : Cx} {g : Gx} {fs fs0 : List FS}
theorem LamAt.keep {H H' : Hp} {f : Addr} {p : Arguments} {b : Expr} {sc : Scope} (h : LamAt X H f p b sc) (k : ∀ a o, H a = some o → nT o → ¬ LI H a → H' a = some o) : LamAt X H' f p b sc := by
  obtain ⟨c', dV, doc, pm, ctv, h1, h2, h3⟩ := h
  have nl : ∀ {a : Addr} {o : HO}, H a = some o → (∀ vs, o ≠ .lst vs) → (∀ C dx fl, o ≠ .ins C dx fl) → ¬ LI H a := fun e n1 n2 z => by
    rcases z with ⟨vs, q⟩ | ⟨C, dx, fl, q⟩
    · rw [e] at q; cases q; exact n1 _ rfl
    · rw [e] at q; cases q; exact n2 _ _ _ rfl
  refine ⟨c', dV, doc, pm, ctv, k _ _ h1 nofun (nl h1 nofun nofun), k _ _ h2 (fun ps => LamX.codeO_ne ps) (nl h2 (by unfold LamX.CodeO; nofun) (by unfold LamX.CodeO; nofun)), h3.imp id fun ⟨h4, t, d, e, h5⟩ => ⟨h4, t, d, e, k _ _ h5 nofun (nl h5 nofun nofun)⟩⟩
theorem Lams.keep {H H' : Hp} (k : ∀ a o, H a = some o → nT o → ¬ LI H a → H' a = some o) : ∀ {ls : List LS} {vs : List V}, Lams X H ls vs → Lams X H' ls vs
  | [], _, h => h
  | l :: ls, _, ⟨f, r, e, h1, h2⟩ => ⟨f, r, e, h1.keep k, Lams.keep k h2⟩
theorem Lams.len {H : Hp} : ∀ {ls : List LS} {vs : List V}, Lams X H ls vs → vs.length = ls.length
  | [], _, h => by rw [show _ = [] from h]; rfl
  | l :: ls, _, ⟨f, r, e, h1, h2⟩ => by rw [e, List.length_cons, List.length_cons, h2.len]
theorem Lams.at_ {H : Hp} : ∀ {ls : List LS} {vs : List V} {i : Nat} {x : V}, Lams X H ls vs → vs[i]? = some x → ∃ l f, ls[i]? = some l ∧ x = .ref f ∧ LamAt X H f l.params l.body l.scope
  | [], _, _, _, h, e => by rw [show _ = [] from h] at e; cases e
  | l :: ls, _, 0, _, ⟨f, r, e, h1, h2⟩, q => by subst e; cases q; exact ⟨l, f, rfl, rfl, h1⟩
  | l :: ls, _, i + 1, _, ⟨f, r, e, h1, h2⟩, q => by subst e; exact h2.at_ (by simpa using q)
theorem Lams.app {H : Hp} : ∀ {ls ms : List LS} {vs ws : List V}, Lams X H ls vs → Lams X H ms ws → Lams X H (ls ++ ms) (vs ++ ws)
  | [], _, _, _, h, h2 => by rw [show _ = [] from h]; exact h2
  | l :: ls, _, _, _, ⟨f, r, e, h1, h2⟩, h3 => by subst e; exact ⟨f, _, rfl, h1, h2.app h3⟩
/-- a step of the machine keeps them -/
theorem lams_step {Bn : Addr → Prop} {Ow Ow' : List Addr} {H H' : Hp} {σ : L2.St} {Γ : Ct} {ls : List LS} {vs : List V} (h : Lams X H ls vs) (rs : RS g Bn Ow H σ Γ) (s : Stp Ow H Ow' H') : Lams X H' ls vs :=
  h.keep fun a o e t n => s.keep0 a o e t fun z => n (rs.trl a (.inr z))
/-- told(a), in the block of a comprehension that started at s3 -/
theorem pe_ask {pins : List (Addr × Obj)} {σ : L2.St} {H3 : Hp} {s3 : Shared} {ls : List LS} {TT : (L2.XK → Hp → VK → Prop) → Hp → VK → Prop} {x a ask : Str} {g0 : Addr} {k ia : Nat} {pg : Arguments} {bg : List Stmt} {sg : Scope} {dV kV doc pm cdv ct oc : Value} {an od : Option Addr} {osl : Array (Option Value)} {Ng : List Str}
    {scope : Scope} {C : Addr} {cl : List (Str × Addr)} {fp : List Addr} {p p2 pos : Pos} (Ck : Cok g X) (I3 : Inv X pins σ H3 s3) (ff : ∀ b ∈ fp, FpOk X pins H3 b)
    (hg : Gl (X.blk s3 H3 scope (compEnvC scope cl C X.env) fp) x) (hm : X.mg x = some (.ref g0)) (hk : PySem.W.keepIn X.K (.ref g0) = true)
    (lk : X.K.lookup g0 = some ⟨oc, od, .func (PySem.W.fnOf x x pg bg sg dV kV doc pm an cdv ct), osl⟩) (hcg : PySem.W.codeIn X.K cdv x = true) (hb : L2.Binds X.K (PySem.W.fnOf x x pg bg sg dV kV doc pm an cdv ct) [a] []) (Sg : FnScope Ng [a] sg) (hNg : Ng[0]? = some a) (hva : Vis sg a)
    (hG : LamX.GivesTo X Ng x sg g0 cdv bg a (X.env.qual ++ "<lambda>") TT) (hr : Room (k + 2) X.A) (ok : ∀ l ∈ ls, LsOk X g fs k l)
    (hN : X.N[ia]? = some ask) (hv : Vis (compEnvC scope cl C X.env).scope ask)
    (hdb : (x == ("__debug__" : Str)) = false) (hd : (a == ("__debug__" : Str)) = false) (hcd : (a == ("__classdict__" : Str)) = false) (hd2 : (ask == ("__debug__" : Str)) = false) (hcd2 : (ask == ("__classdict__" : Str)) = false) (hst : starEach [.Name ask p2] (compEnvC scope cl C X.env) = [(false, eval (.Name ask p2) (compEnvC scope cl C X.env))]) :
    PE (X.blk s3 H3 scope (compEnvC scope cl C X.env) fp) (.Call (.Name x p) [.Name ask p2] [] pos)
      (fun σ' H' Q => ∃ f l, l ∈ ls ∧ σ'[ia]? = some (some (.ref f)) ∧ LamAt X H' f l.params l.body l.scope ∧ TT (fun E H2 Q2 => tRX g E fs l.e σ H2 Q2) H' Q) := by
  refine ⟨fun pinsY s σ' H Q I h => ?_⟩
  obtain ⟨f, l, hl, hs, la, hT⟩ := h
  have lok := ok l hl
  refine wpAny_Call_Name_kw (ld_glob I hg hm ?_ hdb)
  refine PySem.W.callWith_K (h₀ := X.base) I.ok.mod.kin hk ?_ (by rfl) (by rfl)
  rw [hst]
  show wpAny _ _ (spliced ((false, eval (.Name ask p2) (compEnvC scope cl C X.env)) :: backTo pos [])) _ _ s
  refine Calls.spliced_cons (thn ((pe_var (X := X.blk s3 H3 scope (compEnvC scope cl C X.env) fp) (pos := p2) (i := ia) hN hv hd2 hcd2).run pinsY s σ' H (fun v H1 => v = .ref f ∧ H1 = H) I ⟨.ref f, hs, rfl, rfl⟩) fun u s1 ⟨v, H1, I1, r1, q1⟩ => ?_)
  obtain ⟨e1, e2⟩ := q1
  subst e1 e2
  obtain rfl : u = Value.ref f := r1
  refine Calls.spliced_nil ⟨I1.kIn, ?_⟩
  have I7 : Inv X pins σ H1 s1 := I3.call' (ch := fp) I1.os I1.base I1.hok I1.bare fun b hb => ⟨(ff b hb).2.2.2.1, (ff b hb).2.1, (ff b hb).2.2.2.2.1, (ff b hb).2.2.2.2.2⟩
  have rc := lam_told (k := k) (t := fun E => tRX g E fs l.e) I7 lok.Y lok.B la lk hcg hb Sg hNg hva hG hr (fun A outer s H E f c' hr' => lok.body A outer s H E f c' hr' ⟨Ck.K, rfl, hr'.units, Ck.nd, Ck.ea⟩ (takes_of rfl rfl rfl rfl)) hd hcd hT
  refine wpAny_call (codeAny_mono rc fun r s2 hq => ?_)
  cases r with
  | error e => exact (show False from hq).elim
  | ok fl =>
    cases fl with
    | ret u => exact I1.after hq
    | next => exact False.elim hq
    | brk => exact False.elim hq
    | cont => exact False.elim hq
end
/-- what they tell, one after another -/
def saidL (fs : List FS) (d0 : D) (sd : Nat → List Str → List D → Option D) : List LS → Ct → Option (List D × Ct)
  | [], Γ => some ([], Γ)
  | l :: ls, Γ => (ev fs l.e Γ).bind fun (x, Γ1) => (saidD d0 sd x).bind fun d => (saidL fs d0 sd ls Γ1).map fun (ds, Γ2) => (d :: ds, Γ2)
section
variable {X : Cx} {g : Gx} {fs fs0 : List FS} {d0 : D} {sd : Nat → List Str → List D → Option D}
/-- the list of lambdas stands in slot il, and what they tell -/
def tAsks (X : Cx) (g : Gx) (fs : List FS) (d0 : D) (sd : Nat → List Str → List D → Option D) (il : Nat) (ls : List LS) : TE := fun σ H Q =>
  ∃ Bn Ow Γ ds Γ' a vs, RS g Bn Ow H σ Γ ∧ σ[il]? = some (some (.ref a)) ∧ ¬ Av Bn Ow a ∧ H a = some (.lst vs) ∧ Lams X H ls vs ∧ ls.length ≤ 1000 ∧ saidL fs d0 sd ls Γ = some (ds, Γ') ∧
    ∀ v H' Ow', Stp Ow H Ow' H' → RS g Bn Ow' H' σ Γ' → Val g Bn Ow' H' σ Γ' (.nw (.lst ds)) v → Q v H'
theorem p_asks {ls : List LS} {x a ask : Str} {g0 : Addr} {k ia il : Nat} {pg : Arguments} {bg : List Stmt} {sg : Scope} {dV kV doc pm cdv ct oc : Value} {an od : Option Addr} {osl : Array (Option Value)} {Ng : List Str}
    {scope : Scope} {own : List (Str × Nat)} {p p2 p3 pos1 pos : Pos} {l : Expr} (Ck : Cok g X) (hl : PE X l (tVar il)) (ok : BlkOk X.N X.env.scope scope own)
    (hg : ∀ C cl, (compEnvC scope cl C X.env).scope.names.lookup x = some .globalImplicit) (hm : X.mg x = some (.ref g0)) (hk : PySem.W.keepIn X.K (.ref g0) = true)
    (lk : X.K.lookup g0 = some ⟨oc, od, .func (PySem.W.fnOf x x pg bg sg dV kV doc pm an cdv ct), osl⟩) (hcg : PySem.W.codeIn X.K cdv x = true) (hb : L2.Binds X.K (PySem.W.fnOf x x pg bg sg dV kV doc pm an cdv ct) [a] []) (Sg : FnScope Ng [a] sg) (hNg : Ng[0]? = some a) (hva : Vis sg a)
    (hG : LamX.GivesTo X Ng x sg g0 cdv bg a (X.env.qual ++ "<lambda>") (TTs g fs0 d0 sd)) (hr : Room (k + 2) X.A) (lok : ∀ l ∈ ls, LsOk X g fs k l)
    (hN : X.N[ia]? = some ask) (hio : ia ∈ own.map (·.2)) (hv : ∀ C cl, (compEnvC scope cl C X.env).scope.names.lookup ask = some .local)
    (hdb : (x == ("__debug__" : Str)) = false) (hd : (a == ("__debug__" : Str)) = false) (hcd : (a == ("__classdict__" : Str)) = false) (hd2 : (ask == ("__debug__" : Str)) = false) (hcd2 : (ask == ("__classdict__" : Str)) = false) (hst : ∀ E, starEach [.Name ask p2] E = [(false, eval (.Name ask p2) E)])
    (hs : ∀ x, foldedSetIterable l X.env x = pure x) :
    PE X (.ListComp (.Call (.Name x p) [.Name ask p2] [] pos1) [⟨.Name ask p3, l, [], 0⟩] scope pos) (tAsks X g fs d0 sd il ls) := by
  refine ⟨fun pins s σ H Q I h => ?_⟩
  obtain ⟨Bn, Ow, Γ, ds, Γ', a', vs, rs, hil, na, ha, lam, hlz, he, hQ⟩ := h
  have hiaσ : ia < σ.length := by
    have := I.len
    have h2 := (List.getElem?_eq_some_iff.mp hN).1
    omega
  have kX : X.K = g.K := Ck.K
  refine lc_at (X := X) (g := gName ia) (tt := tYes) (te := fun σ' H' Q => ∃ f l, l ∈ ls ∧ σ'[ia]? = some (some (.ref f)) ∧ LamAt X H' f l.params l.body l.scope ∧ TTs g fs0 d0 sd (fun E H2 Q2 => tRX g E fs l.e σ H2 Q2) H' Q)
    (W := fun D i H' => H D = none ∧ ∃ O Γi acc rest ws, Stp Ow H O H' ∧ RS g (orB Bn D) O H' σ Γi ∧ H' D = some (.lst ws) ∧ ws.length = i ∧ i ≤ vs.length ∧ Reps g (Av (orB Bn D) O) H' acc ws ∧ saidL fs d0 sd (ls.drop i) Γi = some (rest, Γ') ∧ acc ++ rest = ds)
    Ck.calm Ck.nd I hl hil ha ok (fun s3 H3 C cl fp I3 ff => ⟨pg_name Ck.nd hN (.inl (hv C cl)) (.inr (hv C cl)), pts_nil, pe_ask Ck I3 ff (hg C cl) hm hk lk hcg hb Sg hNg hva hG hr lok hN (.inl (hv C cl)) hdb hd hcd hd2 hcd2 (hst _)⟩) hs ?_ ?_ ?_ ?_
  · intro D hD hkD
    rw [kX] at hkD
    exact ⟨hD, Ow, Γ, [], ds, [], (Stp.refl Ow H).updN hD, rs.addB (same_new hD) hD (.inl ⟨_, upd_same⟩) hkD, upd_same, rfl, Nat.zero_le _, by simp only [Reps], he, rfl⟩
  · rintro D i H' ⟨hD, O, Γi, acc, rest, ws, st, r2, hDl, hwl, hi, rp, lp, e⟩
    exact ⟨hi, st.keep _ _ ha fun z => na (.inr z)⟩
  · rintro D i x H' hx ⟨hD, O, Γi, acc, rest, ws, st, r2, hDl, hwl, hi, rp, lp, e⟩
    obtain ⟨l, f, hl', rfl, la⟩ := (lams_step lam rs st).at_ hx
    have hlt : i < ls.length := (List.getElem?_eq_some_iff.mp hl').1
    have edr : ls.drop i = l :: ls.drop (i + 1) := by
      rw [List.drop_eq_getElem_cons hlt, (List.getElem?_eq_some_iff.mp hl').2]
    rw [edr] at lp
    simp only [saidL] at lp
    obtain ⟨⟨r, Γ1⟩, e1, lp⟩ := Option.bind_eq_some_iff.mp lp
    obtain ⟨d, e2, lp⟩ := Option.bind_eq_some_iff.mp lp
    obtain ⟨⟨rest2, Γ2⟩, e3, lp⟩ := Option.map_eq_some_iff.mp lp
    simp only [Prod.mk.injEq] at lp
    obtain ⟨rfl, rfl⟩ := lp
    have hw : L2.wipe ((L2.wipe σ (own.map (·.2))).set ia (some (.ref f))) (own.map (·.2)) = L2.wipe σ (own.map (·.2)) := by
      refine (wipe_same (σ := L2.wipe σ (own.map (·.2))) (by rw [List.length_set]) fun j hj => ?_).trans (wipe_wipe _ _)
      rw [List.getElem?_set_ne (fun z : ia = j => hj (by rw [← z]; exact hio))]
    refine ⟨hw, ?_⟩
    simp only [tYes, if_true]
    refine ⟨f, l, List.mem_of_getElem? hl', List.getElem?_set_self (by rw [wipe_length]; exact hiaσ), la, orB Bn D, O, σ, Γi, r, Γ1, d, r2, e2, fun E' Q' H2 rs2 cont => ⟨orB Bn D, O, Γi, r, Γ1, rs2, e1, cont⟩, fun y H4 O4 s4 r4 v4 => ?_⟩
    have hD4 : H4 D = some (.lst ws) := s4.keep _ _ hDl (r2.sep D (.inr rfl))
    have rp4 := rp.step s4 r4
    have hv0 : vs.length = ls.length := lam.len
    refine ⟨ws, hD4, by rw [hwl]; have : (1000 : Nat) < sizeLine := by decide
                        omega, hD, O4, Γ1, acc ++ [d], rest2, ws ++ [y], (st.trans s4).updN hD, r4.updB (.inr rfl) (.inl ⟨_, upd_same⟩), upd_same, by rw [List.length_append, hwl]; rfl, by omega, ?_, e3, by rw [List.append_assoc]; exact e⟩
    exact reps_mono (ban_vst (.inl (.inr rfl))) _ _ (rp4.app (Reps.one v4))
  · rintro D H' ⟨hD, O, Γi, acc, rest, ws, st, r2, hDl, hwl, hi, rp, lp, e⟩
    have hv0 : vs.length = ls.length := lam.len
    rw [hv0, List.drop_length] at lp
    simp only [saidL, Option.some.injEq, Prod.mk.injEq] at lp
    obtain ⟨rfl, rfl⟩ := lp
    rw [List.append_nil] at e
    subst e
    have nbD : ¬ Bn D := fun z => rs.trk D (.inl z) hD
    refine hQ _ H' (D :: O) ⟨st.keep0, fun b h => ?_⟩ (r2.unB nbD) ⟨D, rfl, List.mem_cons_self, ⟨ws, hDl, ?_⟩, fun j e h1 h2 => ?_⟩
    · rcases List.mem_cons.mp h with h | h
      · rw [h]; exact .inr (nw_none hD)
      · exact st.grow b h
    · refine reps_less (fun b z => ?_) rp
      rcases z with z | z
      · exact .inl (.inl z)
      · rcases List.mem_cons.mp z with z | z
        · exact .inl (.inr z)
        · exact .inr z
    · obtain ⟨b, e2, m2, _⟩ := r2.own j e h1
      rw [h2] at e2; cases e2
      exact r2.sep D (.inr rfl) m2
end
end DV

namespace DV
open PySem L2 PySem.W PyProof.Rows
/-! ### statements that make and use a list of lambdas -/
section
variable {g : Gx} {Bn : Addr → Prop} {Ow Ow' : List Addr} {H H' : Hp} {σ : L2.St} {Γ Γ' : Ct}
theorem RS.setN {i : Nat} {v : Option V} (rs : RS g Bn Ow H σ Γ) (h : Γ[i]? = some none) : RS g Bn Ow H (σ.set i v) Γ := by
  have ne : ∀ {j : Nat} {p : D × Bool}, Γ[j]? = some (some p) → i ≠ j := fun e z => by rw [← z, h] at e; cases e
  refine ⟨by rw [List.length_set]; exact rs.len, fun j d e => ?_, fun j d e => ?_, fun j l d e a h1 h2 h3 h4 => ?_, rs.trl, rs.sep, rs.kf, rs.tabs⟩
  · obtain ⟨w, q, r⟩ := rs.slot j d e
    exact ⟨w, by rw [List.getElem?_set_ne (ne e)]; exact q, r⟩
  · obtain ⟨a, q, m, r⟩ := rs.own j d e
    exact ⟨a, by rw [List.getElem?_set_ne (ne e)]; exact q, m, r⟩
  · rw [List.getElem?_set_ne (ne h1)] at h3
    rw [List.getElem?_set_ne (ne h2)] at h4
    exact rs.dist j l d e a h1 h2 h3 h4
theorem RS.unban {p : Addr} (rs : RS g (orB Bn p) Ow H σ Γ) : RS g Bn Ow H σ Γ := by
  have av : ∀ a, Av Bn Ow a → Av (orB Bn p) Ow a := fun a h => h.elim (fun h => .inl (.inl h)) .inr
  exact ⟨rs.len, fun i d h => let ⟨v, e, q⟩ := rs.slot i d h; ⟨v, e, rep_less av q⟩, fun i d h => let ⟨a, e, m, q⟩ := rs.own i d h; ⟨a, e, m, own_less av q⟩, rs.dist, fun a h => rs.trl a (av a h), fun a h => rs.sep a (.inl h), fun a h => rs.kf a (av a h), rs.tabs⟩
end
/-- nothing is told of slot i -/
def noneAt (Γ : Ct) (i : Nat) : Bool := match Γ[i]? with
  | some none => true
  | _ => false
theorem noneAt_eq {Γ : Ct} {i : Nat} (h : noneAt Γ i = true) : Γ[i]? = some none := by
  unfold noneAt at h
  split at h
  · assumption
  · cases h
section
variable {X : Cx} {g : Gx} {fs fs0 : List FS} {Wx : L2.XK} {d0 : D} {sd : Nat → List Str → List D → Option D}
/-- the lambdas of a display -/
def tMks (X : Cx) (T : List (Addr × Str)) (ls : List LS) : TA := fun σ H Q => LamX.Tabs T H ∧ ∀ vs H1, LamX.ExtN H H1 → LamX.Tabs T H1 → Lams X H1 ls vs → Q vs H1
theorem a_mks0 {T : List (Addr × Str)} : PA X [] (tMks X T []) := PA.weak pa_nil fun σ H Q h => h.2 [] H (LamX.ExtN.refl H) h.1 rfl
theorem a_mks {T : List (Addr × Str)} {l : LS} {ls : List LS} {e : Expr} {es : List Expr} (he : PE X e (tMk X T l.params l.body l.scope)) (h : PA X es (tMks X T ls)) (hs : starEach (e :: es) X.env = (false, eval e X.env) :: starEach es X.env) : PA X (e :: es) (tMks X T (l :: ls)) := by
  refine PA.weak (pa_cons he h hs) fun σ H Q h => ⟨h.1, fun f H1 e1 t1 nf la => ⟨t1, fun vs H2 e2 t2 ms => h.2 _ H2 (e1.trans e2) t2 ⟨f, vs, rfl, la.keep fun a o q n _ => e2 a o q n, ms⟩⟩⟩
/-- the list stands in slot il (at a); what comes behind -/
def tRL (X : Cx) (g : Gx) (Wx : L2.XK) (fs : List FS) (il : Nat) (ls : List LS) (irs : List S) : TS := fun Dn σ H =>
  ∃ pv Bn Ow0 H0 Ow Γ o a vs, Post g Wx Dn pv Bn Ow0 H0 o ∧ Stp Ow0 H0 Ow H ∧ H0 a = none ∧ ¬ Bn a ∧ RS g (orB Bn a) Ow H σ Γ ∧ Pin pv σ ∧ disjB [il] (pv.2.map (·.1)) = true ∧ Γ[il]? = some none ∧ σ[il]? = some (some (.ref a)) ∧ H a = some (.lst vs) ∧ Lams X H ls vs ∧ exs fs (pv.2.map (·.1)) irs Γ = some o
theorem pin_set {pv : Nat × List (Nat × V)} {σ : L2.St} {il : Nat} {v : Option V} (pn : Pin pv σ) (hd : disjB [il] (pv.2.map (·.1)) = true) : Pin pv (σ.set il v) := by
  refine ⟨by rw [List.length_set]; exact pn.1, fun p hp => ?_⟩
  rw [List.getElem?_set_ne (fun z => ?_)]
  · exact pn.2 p hp
  · subst z
    simp only [disjB, List.all_cons, List.all_nil, Bool.and_true, Bool.not_eq_true', List.contains_eq_mem, decide_eq_false_iff_not] at hd
    exact hd (List.mem_map_of_mem hp)
/-- asks = [lambda: .., ..] -/
theorem k_new {il : Nat} {y : Str} {py lpos pos : Pos} {es : List Expr} {rest : List Stmt} {ls : List LS} {irs : List S} (Ck : Cok g X) (hm : PA X es (tMks X g.T ls)) (hz : ls.length ≤ 1000) (hN : X.N[il]? = some y) (hy : X.env.scope.names.lookup y = some .local)
    (hs : swapsWithSole [.Name y py] (.List es lpos) pos.line X.env = pure false) (hw : swappedStores [.Name y py] (.List es lpos) X.env = pure none) (h1 : (assignEach [.Name y py] X.env).map (·.2) = [assign (.Name y py) X.env])
    (hr : PSs X rest (tRL X g Wx fs il ls irs)) : PSs X (.Assign [.Name y py] (.List es lpos) pos :: rest) (tSs g Wx fs (.sem [il] (fun _ Γ => if noneAt Γ il = true then some (.nx Γ) else none) :: irs)) := by
  refine PSs.weak (pss_cons (ps_asg (PE.kf (pe_lst hm)) (pg_name Ck.nd hN (.inl hy) (.inr hy)) hs hw h1) hr) ?_
  rintro Dn σ H ⟨pv, Bn, Ow, Γ, o, rs, pn, he, po⟩
  simp only [exs, ex] at he
  obtain ⟨o1, e1, he⟩ := Option.bind_eq_some_iff.mp he
  simp only [Option.ite_none_right_eq_some, Option.some.injEq] at e1
  obtain ⟨hd, hn, rfl⟩ := e1
  have hn := noneAt_eq hn
  refine ⟨rs.tabs, fun vs H1 eN t1 lm => ?_⟩
  obtain ⟨st, r1⟩ := rs.ext eN t1
  refine ⟨by rw [lm.len]; have : (1000 : Nat) < sizeLine := by decide
             omega, fun p np kf => ?_⟩
  have hkp : g.K.lookup p = none := by
    cases eK : g.K.lookup p with
    | none => rfl
    | some ob =>
      have z := kf p ob (by rw [Ck.K]; exact eK)
      rw [upd_same] at z; cases z
  have r2 : RS g (orB Bn p) Ow (upd H1 p (.lst vs)) σ Γ := r1.addB (same_new np) np (.inl ⟨_, upd_same⟩) hkp
  have hil : il < σ.length := by
    have := (List.getElem?_eq_some_iff.mp hn).1
    rw [rs.len]; exact this
  exact ⟨pv, Bn, Ow, H1, Ow, Γ, o, p, vs, po.step st, (Stp.refl Ow H1).updN np, np, fun z => r1.trk p (.inl z) np, r2.setN hn, pin_set pn hd, hd, hn, List.getElem?_set_self hil, upd_same, lm.keep fun a ob e _ _ => same_new np a ob e, he⟩
/-- asks.append(lambda: ..) -/
theorem k_app {il : Nat} {o e : Expr} {apos cpos pos : Pos} {rest : List Stmt} {ls : List LS} {l : LS} {irs : List S} (Ck : Cok g X) (ho : PE X o (tVar il)) (he : PE X e (tMk X g.T l.params l.body l.scope)) (hz : ls.length ≤ 1000) (hbase : attributeBase o "append" X.env (eval o X.env) = eval o X.env)
    (hline : (apos.endLine == cpos.line) = true) (hs : starEach [e] X.env = [(false, eval e X.env)]) (hsw : swapsWith (.Call (.Attribute o "append" apos) [e] [] cpos) none pos.line X.env = pure false)
    (hr : PSs X rest (tRL X g Wx fs il (ls ++ [l]) irs)) : PSs X (.Expr (.Call (.Attribute o "append" apos) [e] [] cpos) pos :: rest) (tRL X g Wx fs il ls irs) := by
  refine PSs.weak (pss_cons (ps_expr (pe_bm PySem.F.plainAttrs_list PySem.F.slot_list_append PySem.F.type_list_append mt_append ho (pa_cons he pa_nil (by rw [hs]; rfl)) hbase (by rw [hs]; rfl) hline (by rw [hs]; rfl) rfl) hsw) hr) ?_
  rintro Dn σ H ⟨pv, Bn, Ow0, H0, Ow, Γ, ou, a, vs, po, st, na, nb, rs, pn, hd, hn, hil, ha, lm, hx⟩
  refine ⟨.ref a, hil, .inl ⟨rfl, vs, .inl (.inl ha)⟩, rs.tabs, fun f H1 eN t1 nf la => ?_⟩
  obtain ⟨s1, r1⟩ := rs.ext eN t1
  have ha1 : H1 a = some (.lst vs) := eN _ _ ha nofun
  have lm1 : Lams X H1 ls vs := lm.keep fun b ob e t _ => eN b ob e t
  refine ⟨a, vs, .ref f, rfl, rfl, ha1, by rw [lm.len]; have : (1000 : Nat) < sizeLine := by decide
                                           omega, ?_⟩
  have nl : ∀ b ob, H1 b = some ob → nT ob → ¬ LI H1 b → upd H1 a (.lst (vs ++ [.ref f])) b = some ob := fun b ob e _ n => by
    rw [upd_ne fun z => n (by rw [z]; exact .inl ⟨vs, ha1⟩)]; exact e
  exact ⟨pv, Bn, Ow0, H0, Ow, Γ, ou, a, vs ++ [.ref f], po, (st.trans s1).updN na, na, nb, r1.updB (.inr rfl) (.inl ⟨_, upd_same⟩), pn, hd, hn, hil, upd_same, (lm1.keep nl).app ⟨f, [], rfl, la.keep nl, rfl⟩, hx⟩
/-- an expression, a test that uses the list -/
def tEL (X : Cx) (g : Gx) (fs : List FS) (il : Nat) (ls : List LS) (ie : E) : TE := fun σ H Q =>
  ∃ Bn Ow Γ r Γ' a vs, RS g Bn Ow H σ Γ ∧ σ[il]? = some (some (.ref a)) ∧ ¬ Av Bn Ow a ∧ H a = some (.lst vs) ∧ Lams X H ls vs ∧ ev fs ie Γ = some (r, Γ') ∧ ∀ v H' Ow', Stp Ow H Ow' H' → RS g Bn Ow' H' σ Γ' → Val g Bn Ow' H' σ Γ' r v → Q v H'
def tTL (X : Cx) (g : Gx) (fs : List FS) (il : Nat) (ls : List LS) (ie : E) : TT := fun σ H Q =>
  ∃ Bn Ow Γ r Γ' t a vs, RS g Bn Ow H σ Γ ∧ σ[il]? = some (some (.ref a)) ∧ ¬ Av Bn Ow a ∧ H a = some (.lst vs) ∧ Lams X H ls vs ∧ ev fs ie Γ = some (r, Γ') ∧ testD Γ' r = some t ∧ ∀ H' Ow', Stp Ow H Ow' H' → RS g Bn Ow' H' σ Γ' → Q t H'
/-- what they tell, as the display of what each one tells -/
theorem saids_of : ∀ {ls : List LS} {Γ Γ' : Ct} {xs : List RV}, evs fs (ls.map fun l => .said d0 sd l.e) Γ = some (xs, Γ') → ∃ ds, xs = ds.map .fz ∧ saidL fs d0 sd ls Γ = some (ds, Γ')
  | [], Γ, Γ', xs, h => by
    simp only [List.map_nil, evs, Option.some.injEq, Prod.mk.injEq] at h
    obtain ⟨rfl, rfl⟩ := h
    exact ⟨[], rfl, rfl⟩
  | l :: ls, Γ, Γ', xs, h => by
    simp only [List.map_cons, evs, ev] at h
    obtain ⟨⟨x, Γ1⟩, e1, h⟩ := Option.bind_eq_some_iff.mp h
    obtain ⟨⟨ys, Γ2⟩, e2, h⟩ := Option.map_eq_some_iff.mp h
    simp only [Prod.mk.injEq] at h
    obtain ⟨rfl, rfl⟩ := h
    obtain ⟨⟨y, Γ3⟩, e3, e1⟩ := Option.bind_eq_some_iff.mp e1
    obtain ⟨d, e4, e1⟩ := Option.map_eq_some_iff.mp e1
    simp only [Prod.mk.injEq] at e1
    obtain ⟨rfl, rfl⟩ := e1
    obtain ⟨ds, rfl, e5⟩ := saids_of e2
    exact ⟨d :: ds, rfl, by simp only [saidL, e3, e4, e5, Option.bind_some, Option.map_some]⟩
theorem fres_fz : ∀ {ds es : List D} {Γ Γ' : Ct}, fres (ds.map .fz) Γ = some (es, Γ') → es = ds ∧ Γ' = Γ
  | [], es, Γ, Γ', h => by
    simp only [List.map_nil, fres, Option.some.injEq, Prod.mk.injEq] at h
    exact ⟨h.1.symm, h.2.symm⟩
  | d :: ds, es, Γ, Γ', h => by
    simp only [List.map_cons, fres, fre, Option.bind_some] at h
    obtain ⟨⟨x, Γ1⟩, e1, h⟩ := Option.map_eq_some_iff.mp h
    simp only [Prod.mk.injEq] at h
    obtain ⟨rfl, rfl⟩ := h
    obtain ⟨rfl, rfl⟩ := fres_fz e1
    exact ⟨rfl, rfl⟩
theorem p_askL {il : Nat} {ls : List LS} {e : Expr} (hz : ls.length ≤ 1000) (h : PE X e (tAsks X g fs d0 sd il ls)) : PE X e (tEL X g fs il ls (.lst (ls.map fun l => .said d0 sd l.e))) := by
  refine PE.weak h ?_
  rintro σ H Q ⟨Bn, Ow, Γ, r, Γ', a, vs, rs, hil, na, ha, lm, he, hQ⟩
  simp only [ev] at he
  obtain ⟨⟨xs, Γ1⟩, e1, he⟩ := Option.bind_eq_some_iff.mp he
  obtain ⟨⟨ds, Γ2⟩, e2, he⟩ := Option.bind_eq_some_iff.mp he
  simp only [Option.ite_none_right_eq_some, Option.some.injEq, Prod.mk.injEq] at he
  obtain ⟨_, rfl, rfl⟩ := he
  obtain ⟨ds', rfl, e3⟩ := saids_of e1
  obtain ⟨rfl, rfl⟩ := fres_fz e2
  exact ⟨Bn, Ow, Γ, ds, Γ2, a, vs, rs, hil, na, ha, lm, hz, e3, hQ⟩
section
variable {il : Nat} {ls : List LS} {ia ib : E} {a b : Expr} {pos : Pos}
theorem cmpL_core {op : COp} {σ : L2.St} {H : Hp} {Q : VK} {Bn : Addr → Prop} {Ow : List Addr} {Γ Γ' : Ct} {r : RV} {p : Addr} {vs : List V} (rs : RS g Bn Ow H σ Γ) (hil : σ[il]? = some (some (.ref p))) (na : ¬ Av Bn Ow p) (hp : H p = some (.lst vs)) (lm : Lams X H ls vs)
    (he : ev fs (.cmp op ia ib) Γ = some (r, Γ')) (hQ : ∀ v H' Ow', Stp Ow H Ow' H' → RS g Bn Ow' H' σ Γ' → Val g Bn Ow' H' σ Γ' r v → Q v H') : tOp (rCmp g op) (tEL X g fs il ls ia) (tR g fs ib) σ H Q := by
  simp only [ev] at he
  obtain ⟨⟨x, Γ1⟩, e1, he⟩ := Option.bind_eq_some_iff.mp he
  obtain ⟨⟨y, Γ2⟩, e2, he⟩ := Option.bind_eq_some_iff.mp he
  obtain ⟨d, ed, he⟩ := Option.bind_eq_some_iff.mp he
  obtain ⟨e, ee, he⟩ := Option.bind_eq_some_iff.mp he
  obtain ⟨r', hb, he⟩ := Option.map_eq_some_iff.mp he
  simp only [Prod.mk.injEq] at he
  obtain ⟨rfl, rfl⟩ := he
  rw [← datum_dn] at ed ee
  exact ⟨Bn, Ow, Γ, x, Γ1, p, vs, rs, hil, na, hp, lm, e1, fun v H1 O1 s1 r1 v1 => let ⟨O2, s2, r2, v2⟩ := dn_ok r1 v1
    tR_one r2 e2 fun w H3 O3 s3 r3 w3 => ⟨Av Bn O3, d, e, r', (v2.step s3 r3).rdb r3 ed, w3.rdb r3 ee, hb, hQ _ H3 O3 ((s1.trans s2).trans s3) r3 (by simp only [Val, Rep])⟩⟩
theorem t_cmpL {op : COp} (C : Cok0 g X) (ha : PE X a (tEL X g fs il ls ia)) (hb : PE X b (tR g fs ib)) (hm : behindInMarks (cmpOf op) b = false) : PT X (.Compare a [cmpOf op] [b] pos) (tTL X g fs il ls (.cmp op ia ib)) := by
  refine PT.weak (pt_cmpR (op_cmp C.K C.hu op) ha hb hm) ?_
  rintro σ H Q ⟨Bn, Ow, Γ, r, Γ', t, p, vs, rs, hil, na, hp, lm, he, ht, hQ⟩
  refine cmpL_core rs hil na hp lm he fun v H1 O1 s1 r1 v1 => ?_
  simp only [ev] at he
  obtain ⟨⟨x, Γ1⟩, e1, he⟩ := Option.bind_eq_some_iff.mp he
  obtain ⟨⟨y, Γ2⟩, e2, he⟩ := Option.bind_eq_some_iff.mp he
  obtain ⟨d, ed, he⟩ := Option.bind_eq_some_iff.mp he
  obtain ⟨e, ee, he⟩ := Option.bind_eq_some_iff.mp he
  obtain ⟨r', hb, he⟩ := Option.map_eq_some_iff.mp he
  simp only [Prod.mk.injEq] at he
  obtain ⟨rfl, rfl⟩ := he
  simp only [testD, datum, Option.bind_some, truthD, Option.some.injEq] at ht
  subst ht
  simp only [Val, Rep] at v1
  exact ⟨_, v1, hQ H1 O1 s1 r1⟩
/-- the last statement that uses the list -/
theorem k_ite {c : Expr} {x y : List Stmt} {ic : E} {ix iy : List S} {rest : List Stmt} {irs : List S} (hc : PT X c (tTL X g fs il ls ic)) (ha : PSs X x (tSs g Wx fs ix)) (hb : PSs X y (tSs g Wx fs iy)) (hr : PSs X rest (tSs g Wx fs irs)) :
    PSs X (.If c x y pos :: rest) (tRL X g Wx fs il ls (.ite ic ix iy :: irs)) := by
  refine PSs.weak (pss_cons (ps_if hc ha hb) hr) ?_
  rintro Dn σ H ⟨pv, Bn, Ow0, H0, Ow, Γ, o, a, vs, po0, st, na, nb, rs, pn, hd, hn, hil, hl, lm, he⟩
  have nav : ¬ Av Bn Ow a := fun z => z.elim nb (rs.sep a (.inr rfl))
  have po := po0.step st
  simp only [exs] at he
  obtain ⟨o1, e1, he⟩ := Option.bind_eq_some_iff.mp he
  simp only [ex] at e1
  obtain ⟨⟨z, Γ1⟩, e0, e1⟩ := Option.bind_eq_some_iff.mp e1
  obtain ⟨t, e2, e1⟩ := Option.bind_eq_some_iff.mp e1
  -- what comes behind the statement
  have behind : ∀ {H1 : Hp} {O1 : List Addr}, Stp Ow H O1 H1 → Post g Wx { Dn with nx := tSs g Wx fs irs Dn } pv Bn O1 H1 o1 := fun {H1 O1} s1 => by
    cases o1 with
    | nx G => exact fun σ1 H2 O2 s2 r2 p2 => ⟨pv, Bn, O2, G, o, r2, p2, he, po.step (s1.trans s2)⟩
    | bk G => simp only [Option.some.injEq] at he; subst he; exact po.step s1
    | ct G => simp only [Option.some.injEq] at he; subst he; exact po.step s1
    | rt r G => simp only [Option.some.injEq] at he; subst he; exact po.step s1
    | xc c ks ds G => simp only [Option.some.injEq] at he; subst he; exact po.step s1
  refine ⟨Bn, Ow, Γ, z, Γ1, t, a, vs, rs.unban, hil, nav, hl, lm, e0, e2, fun H1 O1 s1 r1 => ?_⟩
  cases t with
  | true => rw [if_pos rfl] at e1 ⊢; exact ⟨pv, Bn, O1, Γ1, o1, r1, pn, e1, behind s1⟩
  | false => rw [if_neg (by simp)] at e1 ⊢; exact ⟨pv, Bn, O1, Γ1, o1, r1, pn, e1, behind s1⟩
end
end
end DV

namespace DV
open PySem L2 PySem.W PyProof.Rows
/-! ### the rules as the generator prints them -/
theorem lamB0 {body : Expr} {scope : Scope} : LamB ⟨[], [], none, [], [], none, []⟩ body scope := ⟨fun _ _ _ _ _ _ _ => rfl, fun h => absurd rfl h⟩
theorem lamB1 {a : Arg} {e body : Expr} {scope : Scope} (h : scope.names.lookup a.arg = some .local) : LamB ⟨[], [a], none, [], [], none, [e]⟩ body scope := by
  refine ⟨(fun h => absurd h (by simp)), fun _ q cl doc pm cv ctv t => ⟨_, a.arg, rfl, fun u => ?_, h⟩⟩
  simp [Suggest.didYouMean, List.lookup]
section
variable {X : Cx} {g : Gx} {fs fs0 : List FS} {d0 : D} {sd : Nat → List Str → List D → Option D}
theorem mk_lam0 {qual : Str} {c : Addr} {params : Arguments} {body : Expr} {scope : Scope} {pos : Pos} (LT : LamT g X.base X.mg c qual) (hcode : X.env.code = .ref c) (hq : X.env.qual ++ ("<lambda>" : Str) = lamQ qual) (L : LamY X.N X.env.scope scope) (hdef : defaultsOf params X.env = ([], [])) (hd0 : params.defaults = []) :
    PE X (.Lambda params body scope pos) (tMk X g.T params body scope) := by
  obtain ⟨P, TB, m1, m2⟩ := LT.ex
  exact pe_mk0 TB hcode (by rw [hq]; exact m1) (by rw [hq]; exact m2) (fun ok => L.has ok) hdef hd0
theorem mk_lam1 {qual : Str} {c : Addr} {params : Arguments} {body e : Expr} {scope : Scope} {pos : Pos} {v : V} (LT : LamT g X.base X.mg c qual) (hcode : X.env.code = .ref c) (hq : X.env.qual ++ ("<lambda>" : Str) = lamQ qual) (L : LamY X.N X.env.scope scope) (hd : params.defaults = [e]) (hk : params.kw_defaults = []) (he : PE X e (tC v)) :
    PE X (.Lambda params body scope pos) (tMk X g.T params body scope) := by
  obtain ⟨P, TB, m1, m2⟩ := LT.ex
  exact pe_mk1 TB hcode (by rw [hq]; exact m1) (by rw [hq]; exact m2) (fun ok => L.has ok) hd hk he
theorem p_asksT {ls : List LS} {x a ask : Str} {st : Stmt} {k ia il : Nat} {Ng : List Str} {scope : Scope} {own : List (Str × Nat)} {p p2 p3 pos1 pos : Pos} {l : Expr} (C : Cok g X) (W : Told g X.mg x a st) (hz : ls.length ≤ 1000) (hl : PE X l (tVar il)) (ok : BlkOk X.N X.env.scope scope own)
    (hg : ∀ C cl, (compEnvC scope cl C X.env).scope.names.lookup x = some .globalImplicit) (Sg : FnScope Ng [a] (defScope st)) (hNg : Ng[0]? = some a) (hva : Vis (defScope st) a)
    (hG : ∀ (g0 : Addr) (cdv : Value), LamX.GivesTo X Ng x (defScope st) g0 cdv (defBody st) a (X.env.qual ++ "<lambda>") (TTs g fs0 d0 sd)) (hr : Room (k + 2) X.A) (lok : ∀ l ∈ ls, LsOk X g fs k l)
    (hN : X.N[ia]? = some ask) (hio : ia ∈ own.map (·.2)) (hv : ∀ C cl, (compEnvC scope cl C X.env).scope.names.lookup ask = some .local)
    (hdb : (x == ("__debug__" : Str)) = false) (hd : (a == ("__debug__" : Str)) = false) (hcd : (a == ("__classdict__" : Str)) = false) (hd2 : (ask == ("__debug__" : Str)) = false) (hcd2 : (ask == ("__classdict__" : Str)) = false) (hst : ∀ E, starEach [.Name ask p2] E = [(false, eval (.Name ask p2) E)])
    (hs : ∀ x, foldedSetIterable l X.env x = pure x) :
    PE X (.ListComp (.Call (.Name x p) [.Name ask p2] [] pos1) [⟨.Name ask p3, l, [], 0⟩] scope pos) (tEL X g fs il ls (.lst (ls.map fun l => .said d0 sd l.e))) := by
  obtain ⟨g0, oc, od, kV, doc, pm, an, cdv, ct, osl, h1, h2, h3, h4, h5⟩ := W.ex
  rw [← C.K] at h2 h3 h4 h5
  exact p_askL hz (p_asks C hl ok hg h1 h2 h3 h4 h5 Sg hNg hva (hG g0 cdv) hr lok hN hio hv hdb hd hcd hd2 hcd2 hst hs)
end
end DV

namespace DV
open PySem L2
variable {Wx : L2.XK}
/-! ### methods that may raise -/
section
variable {X : Cx} {g : Gx} {fs : List FS} {o e : Expr} {es : List Expr} {io ie : E} {ies : List E} {c k i n : Nat} {F : FS} {m : Str} {apos pos : Pos}
/-! ### an expression of which a part raises -/
open PyProof.Rows in
end
end DV

namespace DV
open PySem L2

section
variable {fs : List FS} {ms : List FM} {Γ Γ1 Γ2 : Ct} {M M1 M2 : List D}
end
end DV

namespace L
open PySem L2 DV
def F__law_well : FS := runF [] 1 1 [.ret (.lst [.bin .mul (.var 0) (.bi .int1 [.cmp .ge (.var 0) (.bin .pow (.cst (.int 10)) (.cst (.int 18)))]), .var 0, .cst (.int 0)])]
def F__law_mixed : FS := runF [] 2 3 [.asgO 2 (.bin .mod (.bi .int1 [.bin .pow (.bin .add (.bin .add (.bin .mod (.bi .int1 [.var 0]) (.cst (.int 2147483629))) (.bin .mul (.cst (.int 30011)) (.var 1))) (.cst (.int 7))) (.cst (.int 3))]) (.cst (.int 2147483647))),
  .asgO 2 (.bin .mod (.bi .int1 [.bin .add (.var 2) (.bin .mul (.bin .mod (.bi .int1 [.bin .fdiv (.var 0) (.cst (.int 2147483629))]) (.cst (.int 65537))) (.bin .add (.var 1) (.cst (.int 5))))]) (.cst (.int 2147483587))),
  .asgO 2 (.bin .mod (.bi .int1 [.bin .mul (.var 2) (.bin .add (.bin .add (.bin .fdiv (.var 2) (.cst (.int 1009))) (.cst (.int 69621))) (.var 1))]) (.cst (.int 2147483563))),
  .ret (.bin .mod (.bi .int1 [.bin .mul (.var 2) (.bin .add (.bin .fdiv (.var 2) (.cst (.int 2003))) (.cst (.int 40692)))]) (.cst (.int 2147483399)))]
def F__law_draw : FS := runF [F__law_mixed] 2 3 [.ite (.cmp .gt (.ix (.var 0) (.cst (.int 0))) (.cst (.int 0))) [.asgO 2 (.bin .mod (.bi .int1 [.ix (.var 0) (.cst (.int 0))]) (.var 1)),
  .seti 0 (.cst (.int 0)) (.bin .fdiv (.ix (.var 0) (.cst (.int 0))) (.var 1)),
  .ret (.var 2)] [],
  .seti 0 (.cst (.int 2)) (.bin .add (.ix (.var 0) (.cst (.int 2))) (.cst (.int 1))),
  .ret (.bin .mod (.bi .int1 [.call 0 [.ix (.var 0) (.cst (.int 1)), .ix (.var 0) (.cst (.int 2))]]) (.var 1))]
def F_is_integer : FS := runF [] 1 1 [.ret (.and (.bi (.isi .int) [.var 0]) (.not (.bi (.isi .bool) [.var 0])))]
def F_is_between : FS := runF [F_is_integer] 3 3 [.ret (.and (.call 0 [.var 0]) (.chain .le .le (.var 1) (.var 0) (.var 2)))]
def F_is_breaker : FS := runF [F_is_between] 1 1 [.ite (.or (.not (.bi (.isi .tuple) [.var 0])) (.cmp .ne (.bi .len [.var 0]) (.cst (.int 3)))) [.ret (.cst (.bl false))] [],
  .ite (.or (.not (.call 0 [.ix (.var 0) (.cst (.int 0)), .cst (.int 1), .cst (.int 1000000000000)])) (.not (.call 0 [.ix (.var 0) (.cst (.int 1)), .cst (.int 1), .cst (.int 1000000000000000000000000000000)]))) [.ret (.cst (.bl false))] [],
  .ret (.call 0 [.ix (.var 0) (.cst (.int 2)), .cst (.int 1), .cst (.int 1000000000000)])]
def B_check_times_1 : List S := [.ite (.or (.not (.call 0 [.var 2])) (.or (.cmp .lt (.var 2) (.cst (.int 0))) (.and (.cmp .gt (.var 1) (.cst (.int 0))) (.cmp .le (.var 2) (.ix (.var 0) (.bin .sub (.var 1) (.cst (.int 1)))))))) [.stuck] []]
def F_check_times : FS := runF [F_is_integer] 1 3 [.ite (.or (.not (.bi (.isi .list) [.var 0])) (.cmp .gt (.bi .len [.var 0]) (.cst (.int 1000)))) [.stuck] [],
  .for_ (.tp [.nm 1, .nm 2]) .enum [.var 0] B_check_times_1]
def B_log_of_1 : List S := [.asgO 6 (.or (.cmp .gt (.var 4) (.cst (.int 0))) (.cmp .ge (.bin .sub (.var 2) (.var 5)) (.ix (.var 0) (.cst (.int 1))))),
  .ite (.var 6) [.asgO 4 (.bi .max2 [.cst (.int 0), .bin .sub (.var 4) (.cst (.int 1))]),
  .asgO 5 (.var 2)] [],
  .app 3 (.tup [.var 2, .var 6])]
def F_log_of : FS := runF [F_is_breaker, F_check_times] 2 7 [.ite (.not (.call 0 [.var 0])) [.stuck] [],
  .expr (.call 1 [.var 1]),
  .par [(3, true), (4, true), (5, true)] [.lst [], .ix (.var 0) (.cst (.int 0)), .cst (.int 0)],
  .for_ (.nm 2) .seq [.var 1] B_log_of_1,
  .ret (.var 3)]
def D0__law_said : D := .non
def I2__law_said : S := .asgO 1 (.cst .non)
def IM__law_said : List S := []
def IS__law_said : List S := [.asg (.nm 3) (.lst [.xis [15, 9, 10] [9] 2, .xis [15, 9, 10] [10] 2, .xis [15, 9, 10] [] 2]),
  .asg (.nm 3) (.bin .add (.var 3) (.lst [.xis [15, 9, 10] [] 2, .xis [15, 9, 10] [] 2, .xis [15, 9, 10] [15] 2])),
  .asgO 4 (.xis [15, 9, 10] [] 2),
  .ite (.or (.cmp .ne (.cnt (.var 3) (.cst (.bl true))) (.cst (.int 1))) (.or (.var 4) (.not (.xis [15, 9, 10] [15, 9, 10] 2)))) [.asgO 1 (.cst (.str "other"))] [.ite (.ix (.var 3) (.cst (.int 0))) [.asgO 1 (.tup [.cst (.str "row"), .xfld [9] 2 "part", .xfld [15, 9] 2 "at"])] [.ite (.or (.ix (.var 3) (.cst (.int 1))) (.ix (.var 3) (.cst (.int 3)))) [.asgO 1 (.ite (.ix (.var 3) (.cst (.int 1))) (.tup [.cst (.str "time"), .bi .rpr [.xfld [10] 2 "time"]]) (.tup [.cst (.str "index"), .bi .rpr [.stuck]]))] [.ite (.or (.ix (.var 3) (.cst (.int 2))) (.ix (.var 3) (.cst (.int 5)))) [.asgO 1 (.tup [.ite (.ix (.var 3) (.cst (.int 2))) (.cst (.str "outages")) (.cst (.str "log")), .xfld [15, 9] 2 "at"])] [.asgO 1 (.tup [.cst (.str "bound"), .xfld [9] 2 "part"])]]]]]
def IQ__law_said : S := .ret (.var 1)
def SD__law_said : Nat → List Str → List D → Option D := saidX [] 5 2 [15, 9, 10] IS__law_said IQ__law_said

def F_is_entry : FS := runF [F_is_integer] 1 1 [.ite (.or (.not (.bi (.isi .tuple) [.var 0])) (.or (.cmp .ne (.bi .len [.var 0]) (.cst (.int 2))) (.not (.bi (.isi .bool) [.ix (.var 0) (.cst (.int 1))])))) [.ret (.cst (.bl false))] [],
  .ret (.and (.call 0 [.ix (.var 0) (.cst (.int 0))]) (.cmp .ge (.ix (.var 0) (.cst (.int 0))) (.cst (.int 0))))]
def B_check_log_x_1 : List S := [.ite (.or (.not (.call 0 [.var 2])) (.and (.cmp .gt (.var 1) (.cst (.int 0))) (.cmp .le (.ix (.var 2) (.cst (.int 0))) (.ix (.ix (.var 0) (.bin .sub (.var 1) (.cst (.int 1)))) (.cst (.int 0)))))) [.rse 15 ["at"] [.var 1]] []]
def F_check_log_x : FS := runX [F_is_entry] 1 3 [.ite (.or (.not (.bi (.isi .list) [.var 0])) (.cmp .gt (.bi .len [.var 0]) (.cst (.int 1000)))) [.rse 15 ["at"] [.neg (.cst (.int 1))]] [],
  .for_ (.tp [.nm 1, .nm 2]) .enum [.var 0] B_check_log_x_1]
def B_first_passes_1 : List S := [.asgO 1 (.bin .add (.var 1) (.cst (.int 1)))]
def C_first_passes_2 : E := .and (.cmp .lt (.var 1) (.bi .len [.var 0])) (.ix (.ix (.var 0) (.var 1)) (.cst (.int 1)))
def F_first_passes : FS := runF [] 1 2 [.asgO 1 (.cst (.int 0)),
  .whl C_first_passes_2 B_first_passes_1,
  .ret (.var 1)]
def B_later_bounds_1 : List S := [.asg (.tp [.nm 6, .nm 7]) (.ix (.var 0) (.var 2)),
  .ite (.var 7) [.par [(4, true), (5, true)] [.bi .min2 [.var 4, .bin .sub (.var 6) (.var 5)], .var 6]] [.asgO 3 (.bi .max2 [.var 3, .bin .add (.bin .sub (.var 6) (.var 5)) (.cst (.int 1))])],
  .ite (.cmp .gt (.var 3) (.var 4)) [.ret (.tup [.var 3, .var 4, .var 2])] []]
def F_later_bounds : FS := runF [F_first_passes] 1 8 [.asgO 1 (.call 0 [.var 0]),
  .ite (.cmp .eq (.var 1) (.cst (.int 0))) [.ret (.tup [.cst (.int 1), .cst (.int 1000000000000000000000000000000), .ite (.cmp .eq (.var 0) (.lst [])) (.cst .non) (.cst (.int 0))])] [],
  .par [(3, true), (4, true), (5, true)] [.cst (.int 1), .cst (.int 1000000000000000000000000000000), .ix (.ix (.var 0) (.bin .sub (.var 1) (.cst (.int 1)))) (.cst (.int 0))],
  .for_ (.nm 2) .rng [.var 1, .bi .len [.var 0]] B_later_bounds_1,
  .ret (.tup [.var 3, .var 4, .cst .non])]
def B_explanations_x_1 : List S := [.ite (.cmp .lt (.var 1) (.var 6)) [.asgO 3 (.bi .min2 [.var 3, .bin .sub (.ix (.ix (.var 0) (.var 1)) (.cst (.int 0))) (.ix (.ix (.var 0) (.bin .sub (.var 1) (.cst (.int 1)))) (.cst (.int 0)))])] [],
  .ite (.cmp .le (.var 2) (.var 3)) [.app 5 (.tup [.var 1, .var 2, .var 3])] []]
def F_explanations_x : FS := runX [F_check_log_x, F_later_bounds, F_first_passes] 1 7 [.xex (.call 0 [.var 0]) .drop,
  .asg (.tp [.nm 2, .nm 3, .nm 4]) (.call 1 [.var 0]),
  .ite (.cmp .isnot (.var 4) (.cst .non)) [.ret (.lst [])] [],
  .par [(5, true), (6, true)] [.lst [], .call 2 [.var 0]],
  .for_ (.nm 1) .rng [.bi .max2 [.cst (.int 1), .var 6], .cst (.int 0), .neg (.cst (.int 1))] B_explanations_x_1,
  .ret (.rev (.var 5))]
def F_first_conflict_x : FS := runX [F_check_log_x, F_later_bounds] 1 1 [.xex (.call 0 [.var 0]) .drop,
  .ret (.ix (.call 1 [.var 0]) (.cst (.int 2)))]

def F_forecast_x : FS := runX [F_check_log_x, F_is_integer, F_later_bounds, F_first_passes] 2 8 [.xex (.call 0 [.var 0]) .drop,
  .ite (.or (.not (.call 1 [.var 1])) (.or (.cmp .lt (.var 1) (.cst (.int 0))) (.and (.cmp .ne (.var 0) (.lst [])) (.cmp .le (.var 1) (.ix (.ix (.var 0) (.neg (.cst (.int 1)))) (.cst (.int 0))))))) [.rse 10 ["time"] [.var 1]] [],
  .asg (.tp [.nm 4, .nm 5, .nm 6]) (.call 2 [.var 0]),
  .ite (.cmp .isnot (.var 6) (.cst .non)) [.rse 15 ["at"] [.var 6]] [],
  .ite (.cmp .eq (.var 0) (.lst [])) [.ret (.cst (.str "pass"))] [],
  .asgO 2 (.bi .maxl [.comp [7] (.nm 7) .seq [.var 0] [.ix (.var 7) (.cst (.int 1))] (.ix (.var 7) (.cst (.int 0)))]),
  .asgO 3 (.or (.cmp .eq (.call 3 [.var 0]) (.bi .len [.var 0])) (.cmp .le (.var 4) (.bin .sub (.var 1) (.var 2)))),
  .ite (.not (.var 3)) [.ret (.cst (.str "reject"))] [],
  .ret (.ite (.cmp .gt (.var 5) (.bin .sub (.var 1) (.var 2))) (.cst (.str "either")) (.cst (.str "pass")))]
def B_check_log_1 : List S := [.ite (.or (.not (.call 0 [.var 2])) (.and (.cmp .gt (.var 1) (.cst (.int 0))) (.cmp .le (.ix (.var 2) (.cst (.int 0))) (.ix (.ix (.var 0) (.bin .sub (.var 1) (.cst (.int 1)))) (.cst (.int 0)))))) [.stuck] []]
def F_check_log : FS := runF [F_is_entry] 1 3 [.ite (.or (.not (.bi (.isi .list) [.var 0])) (.cmp .gt (.bi .len [.var 0]) (.cst (.int 1000)))) [.stuck] [],
  .for_ (.tp [.nm 1, .nm 2]) .enum [.var 0] B_check_log_1]
def B_explanations_1 : List S := [.ite (.cmp .lt (.var 1) (.var 6)) [.asgO 3 (.bi .min2 [.var 3, .bin .sub (.ix (.ix (.var 0) (.var 1)) (.cst (.int 0))) (.ix (.ix (.var 0) (.bin .sub (.var 1) (.cst (.int 1)))) (.cst (.int 0)))])] [],
  .ite (.cmp .le (.var 2) (.var 3)) [.app 5 (.tup [.var 1, .var 2, .var 3])] []]
def F_explanations : FS := runF [F_check_log, F_later_bounds, F_first_passes] 1 7 [.expr (.call 0 [.var 0]),
  .asg (.tp [.nm 2, .nm 3, .nm 4]) (.call 1 [.var 0]),
  .ite (.cmp .isnot (.var 4) (.cst .non)) [.ret (.lst [])] [],
  .par [(5, true), (6, true)] [.lst [], .call 2 [.var 0]],
  .for_ (.nm 1) .rng [.bi .max2 [.cst (.int 1), .var 6], .cst (.int 0), .neg (.cst (.int 1))] B_explanations_1,
  .ret (.rev (.var 5))]
def B__law_logs_right_1 : List S := [.ret (.cst (.bl false))]
def B__law_logs_right_2 : List S := []
def B__law_logs_right_3 : List S := [.sem [3] (fun _ Γ => if noneAt Γ 3 = true then some (.nx Γ) else none),
  .ite (.cmp .ne (.lst [.said D0__law_said SD__law_said (.call 0 [.var 4]), .said D0__law_said SD__law_said (.call 1 [.var 4]), .said D0__law_said SD__law_said (.call 2 [.var 4, .cst .non])]) (.bin .mul (.lst [.tup [.cst (.str "log"), .var 5]]) (.cst (.int 3)))) B__law_logs_right_1 B__law_logs_right_2]
def B__law_logs_right_4 : List S := [.ret (.cst (.bl false))]
def B__law_logs_right_5 : List S := []
def F__law_logs_right : FS := runF [F_explanations_x, F_first_conflict_x, F_forecast_x, F_explanations, F_log_of] 1 8 [.asg (.nm 1) (.lst [.tup [.cst .non, .neg (.cst (.int 1))], .tup [.tup [.tup [.cst (.int 0), .cst (.bl true)]], .neg (.cst (.int 1))], .tup [.dct, .neg (.cst (.int 1))], .tup [.cst (.str "x"), .neg (.cst (.int 1))], .tup [.comp [5] (.nm 5) .rng [.cst (.int 1001)] [] (.tup [.var 5, .cst (.bl true)]), .neg (.cst (.int 1))]]),
  .asg (.nm 1) (.bin .add (.var 1) (.lst [.tup [.lst [.cst .non], .cst (.int 0)], .tup [.lst [.tup [.cst (.int 0), .cst (.bl true)], .lst [.cst (.int 1), .cst (.bl true)]], .cst (.int 1)], .tup [.lst [.tup [.cst (.int 0), .cst (.bl true)], .tup [.cst (.int 0), .cst (.bl true)]], .cst (.int 1)], .tup [.lst [.tup [.cst (.int 3), .cst (.bl true)], .tup [.cst (.int 2), .cst (.bl false)]], .cst (.int 1)]])),
  .asg (.nm 1) (.bin .add (.var 1) (.lst [.tup [.lst [.tup [.neg (.cst (.int 1)), .cst (.bl true)]], .cst (.int 0)], .tup [.lst [.tup [.cst (.int 0), .cst (.int 1)]], .cst (.int 0)], .tup [.lst [.tup [.cst (.int 0), .cst .non]], .cst (.int 0)], .tup [.lst [.tup [.cst (.bl true), .cst (.bl true)]], .cst (.int 0)], .tup [.lst [.tup [.cst (.int 0), .cst (.bl true), .cst (.int 1)]], .cst (.int 0)]])),
  .asg (.nm 1) (.bin .add (.var 1) (.lst [.tup [.lst [.tup [.cst (.str "0"), .cst (.bl true)]], .cst (.int 0)], .tup [.lst [.dct], .cst (.int 0)], .tup [.lst [.tup [.cst (.int 0), .cst (.bl true)], .tup [.cst (.int 1), .cst (.str "True")]], .cst (.int 1)], .tup [.lst [.tup [.lst [.cst (.int 0)], .cst (.bl true)]], .cst (.int 0)], .tup [.lst [.tup [.cst (.int 0)]], .cst (.int 0)]])),
  .for_ (.tp [.nm 4, .nm 5]) .seq [.var 1] B__law_logs_right_3,
  .asg (.nm 2) (.comp [5] (.nm 5) .rng [.cst (.int 1000)] [] (.tup [.var 5, .cst (.bl true)])),
  .sem [3] (fun _ Γ => if noneAt Γ 3 = true then some (.nx Γ) else none),
  .ite (.cmp .ne (.lst [.said D0__law_said SD__law_said (.call 0 [.bin .add (.slc (.var 2) [] [.var 0]) (.lst [.tup [.var 0, .cst (.int 1)]])]), .said D0__law_said SD__law_said (.call 1 [.bin .add (.slc (.var 2) [] [.var 0]) (.lst [.cst .non])]), .said D0__law_said SD__law_said (.call 2 [.bin .add (.slc (.var 2) [] [.var 0]) (.lst [.tup [.bin .sub (.var 0) (.cst (.int 1)), .cst (.bl false)]]), .cst (.int 2000)])]) (.bin .mul (.lst [.tup [.cst (.str "log"), .var 0]]) (.cst (.int 3)))) B__law_logs_right_4 B__law_logs_right_5,
  .ite (.cmp .ne (.call 3 [.var 2]) (.bin .add (.comp [7] (.nm 7) .rng [.cst (.int 1), .cst (.int 1000)] [] (.tup [.var 7, .cst (.int 1), .cst (.int 1)])) (.lst [.tup [.cst (.int 1000), .cst (.int 1), .bin .pow (.cst (.int 10)) (.cst (.int 30))]]))) [.ret (.cst (.bl false))] [],
  .ret (.cmp .eq (.call 4 [.tup [.cst (.int 1), .cst (.int 2), .cst (.int 1)], .rngl (.cst (.int 0)) (.cst (.int 1000))]) (.comp [5] (.nm 5) .rng [.cst (.int 1000)] [] (.tup [.var 5, .cmp .eq (.bin .mod (.bi .int1 [.var 5]) (.cst (.int 2))) (.cst (.int 0))])))]

def B_check_times_x_1 : List S := [.ite (.or (.not (.call 0 [.var 2])) (.or (.cmp .lt (.var 2) (.cst (.int 0))) (.and (.cmp .gt (.var 1) (.cst (.int 0))) (.cmp .le (.var 2) (.ix (.var 0) (.bin .sub (.var 1) (.cst (.int 1)))))))) [.rse 15 ["at"] [.var 1]] []]
def F_check_times_x : FS := runX [F_is_integer] 1 3 [.ite (.or (.not (.bi (.isi .list) [.var 0])) (.cmp .gt (.bi .len [.var 0]) (.cst (.int 1000)))) [.rse 15 ["at"] [.neg (.cst (.int 1))]] [],
  .for_ (.tp [.nm 1, .nm 2]) .enum [.var 0] B_check_times_x_1]
def B_log_of_x_1 : List S := [.asgO 6 (.or (.cmp .gt (.var 4) (.cst (.int 0))) (.cmp .ge (.bin .sub (.var 2) (.var 5)) (.ix (.var 0) (.cst (.int 1))))),
  .ite (.var 6) [.asgO 4 (.bi .max2 [.cst (.int 0), .bin .sub (.var 4) (.cst (.int 1))]),
  .asgO 5 (.var 2)] [],
  .app 3 (.tup [.var 2, .var 6])]
def F_log_of_x : FS := runX [F_is_breaker, F_check_times_x] 2 7 [.ite (.not (.call 0 [.var 0])) [.rse 9 ["part", "at"] [.cst (.str "breaker"), .neg (.cst (.int 1))]] [],
  .xex (.call 1 [.var 1]) .drop,
  .par [(3, true), (4, true), (5, true)] [.lst [], .ix (.var 0) (.cst (.int 0)), .cst (.int 0)],
  .for_ (.nm 2) .seq [.var 1] B_log_of_x_1,
  .ret (.var 3)]
def B_waits_of_x_1 : List S := [.ite (.or (.not (.call 0 [.var 3, .cst (.int 1), .bin .mul (.cst (.int 2)) (.cst (.int 1000000000000000000000000000000))])) (.and (.cmp .eq (.var 2) (.cst (.int 0))) (.cmp .gt (.var 3) (.cst (.int 1000000000000000000000000000000))))) [.rse 15 ["at"] [.var 2]] [],
  .ite (.cmp .gt (.var 2) (.cst (.int 0))) [.asgO 4 (.ix (.var 0) (.bin .sub (.var 2) (.cst (.int 1)))),
  .ite (.or (.cmp .ne (.bin .mod (.var 3) (.var 4)) (.cst (.int 0))) (.cmp .ge (.bin .sub (.var 3) (.var 4)) (.cst (.int 1000000000000000000000000000000)))) [.rse 15 ["at"] [.var 2]] [],
  .app 1 (.tup [.bin .add (.bin .sub (.var 3) (.var 4)) (.cst (.int 1)), .bi .min2 [.var 3, .cst (.int 1000000000000000000000000000000)]])] []]
def F_waits_of_x : FS := runX [F_is_between] 1 5 [.ite (.or (.not (.bi (.isi .list) [.var 0])) (.not (.chain .le .le (.cst (.int 1)) (.bi .len [.var 0]) (.bin .add (.cst (.int 12)) (.cst (.int 1)))))) [.rse 15 ["at"] [.neg (.cst (.int 1))]] [],
  .asgO 1 (.lst []),
  .for_ (.tp [.nm 2, .nm 3]) .enum [.var 0] B_waits_of_x_1,
  .ret (.var 1)]
def B__law_others_right_1 : List S := [.ite (.cmp .ne (.said D0__law_said SD__law_said (.call 0 [.var 3, .cst .non])) (.tup [.cst (.str "row"), .cst (.str "breaker"), .neg (.cst (.int 1))])) [.ret (.cst (.bl false))] []]
def B__law_others_right_2 : List S := [.ite (.cmp .ne (.said D0__law_said SD__law_said (.call 0 [.tup [.cst (.int 1), .cst (.int 1), .cst (.int 1)], .var 3])) (.tup [.cst (.str "log"), .var 5])) [.ret (.cst (.bl false))] []]
def B__law_others_right_3 : List S := [.ite (.cmp .ne (.said D0__law_said SD__law_said (.call 1 [.var 0, .var 3])) (.tup [.cst (.str "time"), .bi .rpr [.var 3]])) [.ret (.cst (.bl false))] [],
  .ite (.and (.cmp .notin (.var 3) (.tup [.var 1, .bin .sub (.var 1) (.cst (.int 1))])) (.cmp .ne (.said D0__law_said SD__law_said (.call 1 [.lst [], .var 3])) (.tup [.cst (.str "time"), .bi .rpr [.var 3]]))) [.ret (.cst (.bl false))] []]
def B__law_others_right_4 : List S := [.ite (.cmp .ne (.said D0__law_said SD__law_said (.call 2 [.var 3])) (.tup [.cst (.str "log"), .var 5])) [.ret (.cst (.bl false))] []]
def F__law_others_right : FS := runF [F_log_of_x, F_forecast_x, F_waits_of_x] 2 6 [.asg (.nm 2) (.lst [.cst .non, .tup [.cst (.int 1), .cst (.int 1)], .tup [.cst (.int 0), .cst (.int 1), .cst (.int 1)], .tup [.cst (.int 1), .cst (.int 0), .cst (.int 1)], .tup [.cst (.int 1), .cst (.int 1), .cst (.int 0)], .lst [.cst (.int 1), .cst (.int 1), .cst (.int 1)], .tup [.cst (.bl true), .cst (.int 1), .cst (.int 1)], .tup [.cst (.int 1), .bin .add (.bin .pow (.cst (.int 10)) (.cst (.int 30))) (.cst (.int 1)), .cst (.int 1)], .dct, .cst (.str "b")]),
  .for_ (.nm 3) .seq [.var 2] B__law_others_right_1,
  .asg (.nm 4) (.lst [.tup [.cst .non, .neg (.cst (.int 1))], .tup [.tup [.cst (.int 0), .cst (.int 1)], .neg (.cst (.int 1))], .tup [.dct, .neg (.cst (.int 1))], .tup [.rngl (.cst (.int 0)) (.cst (.int 1001)), .neg (.cst (.int 1))], .tup [.lst [.neg (.cst (.int 1))], .cst (.int 0)], .tup [.lst [.cst (.int 0), .cst (.int 0)], .cst (.int 1)], .tup [.lst [.cst (.int 0), .cst (.int 2), .cst (.int 1)], .cst (.int 2)]]),
  .for_ (.tp [.nm 3, .nm 5]) .seq [.bin .add (.var 4) (.lst [.tup [.lst [.cst (.bl true)], .cst (.int 0)], .tup [.lst [.cst (.int 0), .cst (.str "1")], .cst (.int 1)], .tup [.lst [.cst (.int 0), .lst [.cst (.int 1)]], .cst (.int 1)], .tup [.lst [.cst .non], .cst (.int 0)], .tup [.lst [.dct], .cst (.int 0)]])] B__law_others_right_2,
  .for_ (.nm 3) .seq [.lst [.var 1, .bin .sub (.var 1) (.cst (.int 1)), .neg (.cst (.int 1)), .cst (.bl true), .cst .non, .cst (.str "9"), .lst [.cst (.int 9)], .dct]] B__law_others_right_3,
  .asg (.nm 4) (.lst [.tup [.cst .non, .neg (.cst (.int 1))], .tup [.lst [], .neg (.cst (.int 1))], .tup [.tup [.cst (.int 1), .cst (.int 3)], .neg (.cst (.int 1))], .tup [.bin .mul (.lst [.cst (.int 1)]) (.cst (.int 14)), .neg (.cst (.int 1))], .tup [.dct, .neg (.cst (.int 1))], .tup [.lst [.cst (.int 0)], .cst (.int 0)], .tup [.lst [.cst (.int 1), .cst (.int 0)], .cst (.int 1)], .tup [.lst [.cst (.bl true)], .cst (.int 0)]]),
  .asg (.nm 4) (.bin .add (.var 4) (.lst [.tup [.lst [.cst (.int 1), .cst (.bl true)], .cst (.int 1)], .tup [.lst [.cst (.int 1), .cst (.str "3")], .cst (.int 1)], .tup [.lst [.cst (.int 1), .cst (.int 3), .lst [.cst (.int 6)]], .cst (.int 2)], .tup [.lst [.cst (.int 1), .cst (.int 3), .cst (.int 7), .cst (.int 0)], .cst (.int 2)], .tup [.lst [.cst .non], .cst (.int 0)], .tup [.lst [.cst (.int 4), .cst (.int 6)], .cst (.int 1)]])),
  .for_ (.tp [.nm 3, .nm 5]) .seq [.bin .add (.var 4) (.lst [.tup [.lst [.neg (.cst (.int 1))], .cst (.int 0)]])] B__law_others_right_4,
  .ret (.cst (.bl true))]
def F_first_conflict : FS := runF [F_check_log, F_later_bounds] 1 1 [.expr (.call 0 [.var 0]),
  .ret (.ix (.call 1 [.var 0]) (.cst (.int 2)))]
def F_forecast : FS := runF [F_check_log, F_is_integer, F_later_bounds, F_first_passes] 2 8 [.expr (.call 0 [.var 0]),
  .ite (.or (.not (.call 1 [.var 1])) (.or (.cmp .lt (.var 1) (.cst (.int 0))) (.and (.cmp .ne (.var 0) (.lst [])) (.cmp .le (.var 1) (.ix (.ix (.var 0) (.neg (.cst (.int 1)))) (.cst (.int 0))))))) [.stuck] [],
  .asg (.tp [.nm 4, .nm 5, .nm 6]) (.call 2 [.var 0]),
  .ite (.cmp .isnot (.var 6) (.cst .non)) [.stuck] [],
  .ite (.cmp .eq (.var 0) (.lst [])) [.ret (.cst (.str "pass"))] [],
  .asgO 2 (.bi .maxl [.comp [7] (.nm 7) .seq [.var 0] [.ix (.var 7) (.cst (.int 1))] (.ix (.var 7) (.cst (.int 0)))]),
  .asgO 3 (.or (.cmp .eq (.call 3 [.var 0]) (.bi .len [.var 0])) (.cmp .le (.var 4) (.bin .sub (.var 1) (.var 2)))),
  .ite (.not (.var 3)) [.ret (.cst (.str "reject"))] [],
  .ret (.ite (.cmp .gt (.var 5) (.bin .sub (.var 1) (.var 2))) (.cst (.str "either")) (.cst (.str "pass")))]
def B_waits_of_1 : List S := [.ite (.or (.not (.call 0 [.var 3, .cst (.int 1), .bin .mul (.cst (.int 2)) (.cst (.int 1000000000000000000000000000000))])) (.and (.cmp .eq (.var 2) (.cst (.int 0))) (.cmp .gt (.var 3) (.cst (.int 1000000000000000000000000000000))))) [.stuck] [],
  .ite (.cmp .gt (.var 2) (.cst (.int 0))) [.asgO 4 (.ix (.var 0) (.bin .sub (.var 2) (.cst (.int 1)))),
  .ite (.or (.cmp .ne (.bin .mod (.var 3) (.var 4)) (.cst (.int 0))) (.cmp .ge (.bin .sub (.var 3) (.var 4)) (.cst (.int 1000000000000000000000000000000)))) [.stuck] [],
  .app 1 (.tup [.bin .add (.bin .sub (.var 3) (.var 4)) (.cst (.int 1)), .bi .min2 [.var 3, .cst (.int 1000000000000000000000000000000)]])] []]
def F_waits_of : FS := runF [F_is_between] 1 5 [.ite (.or (.not (.bi (.isi .list) [.var 0])) (.not (.chain .le .le (.cst (.int 1)) (.bi .len [.var 0]) (.bin .add (.cst (.int 12)) (.cst (.int 1)))))) [.stuck] [],
  .asgO 1 (.lst []),
  .for_ (.tp [.nm 2, .nm 3]) .enum [.var 0] B_waits_of_1,
  .ret (.var 1)]
def F__law_right : FS := runF [F__law_draw, F_log_of, F__law_logs_right, F__law_others_right, F_explanations, F_first_conflict, F_forecast, F_waits_of, F_forecast_x] 1 5 [.asg (.nm 1) (.lst [.cst (.int 3), .cst (.int 4), .cst (.int 6), .bin .add (.cst (.int 9)) (.call 0 [.var 0, .cst (.int 3)]), .cst (.int 14), .cst (.int 20)]),
  .asg (.nm 2) (.tup [.bin .add (.cst (.int 1)) (.call 0 [.var 0, .cst (.int 3)]), .bin .add (.cst (.int 1)) (.call 0 [.var 0, .cst (.int 9)]), .cst (.int 1)]),
  .asg (.nm 3) (.callp 1 [1, 0] [.var 1, .var 2]),
  .ite (.or (.cmp .ne (.var 3) (.call 1 [.var 2, .var 1])) (.not (.call 2 [.shr (.bin .add (.cst (.int 600)) (.call 0 [.var 0, .cst (.int 400)]))]))) [.ret (.cst (.bl false))] [],
  .ite (.not (.call 3 [.var 3, .cst (.int 20)])) [.ret (.cst (.bl false))] [],
  .ite (.or (.cmp .ne (.callp 4 [0] [.var 3]) (.call 4 [.var 3])) (.cmp .ne (.callp 5 [0] [.var 3]) (.call 5 [.var 3]))) [.ret (.cst (.bl false))] [],
  .ite (.or (.cmp .ne (.callp 6 [1, 0] [.cst (.int 24), .var 3]) (.call 6 [.var 3, .cst (.int 24)])) (.cmp .ne (.callp 7 [0] [.lst [.cst (.int 2), .cst (.int 4)]]) (.call 7 [.lst [.cst (.int 2), .cst (.int 4)]]))) [.ret (.cst (.bl false))] [],
  .asg (.nm 4) (.lst [.tup [.cst (.int 0), .cst (.bl false)]]),
  .ite (.cmp .ne (.said D0__law_said SD__law_said (.call 8 [.var 4, .cst (.int 0)])) (.tup [.cst (.str "time"), .cst (.str "0")])) [.ret (.cst (.bl false))] [],
  .ret (.cmp .eq (.said D0__law_said SD__law_said (.call 8 [.var 4, .cst (.int 1)])) (.tup [.cst (.str "log"), .cst (.int 0)]))]
def B_law_1 : List S := [.ite (.not (.call 1 [.call 0 [.var 1]])) [.ret (.cst (.bl false))] []]
def F_law : FS := runF [F__law_well, F__law_right] 1 2 [.for_ (.nm 1) .seq [.bin .add (.slc (.var 0) [] [.cst (.int 4)]) (.lst [.cst (.int 0)])] B_law_1,
  .ret (.cst (.bl true))]
end L
namespace L
open PySem L2 DV
def topS (i : Nat) : Stmt := PySem.Challenge.pw_breakerrow_k50_invalid_logs_and_names.main.body.getD i (.Pass ⟨0, 0, 0, 0⟩)
structure Txt (g : Gx) (mg : Str → Option Value) : Prop where
  tt : g.ea = none
  z_ArithmeticError : mg "ArithmeticError" = none
  z_bool : mg "bool" = none
  z_enumerate : mg "enumerate" = none
  z_int : mg "int" = none
  z_isinstance : mg "isinstance" = none
  z_len : mg "len" = none
  z_list : mg "list" = none
  z_max : mg "max" = none
  z_min : mg "min" = none
  z_range : mg "range" = none
  z_repr : mg "repr" = none
  z_tuple : mg "tuple" = none
  g_MOST_COUNT : GInt mg "MOST_COUNT" 1000000000000
  g_MOST_WAIT : GInt mg "MOST_WAIT" 1000000000000000000000000000000
  g_MOST_ENTRIES : GInt mg "MOST_ENTRIES" 1000
  g_MOST_BREAKERS : GInt mg "MOST_BREAKERS" 12
  xe_InvalidLog : ErrC g.K (g.cl 15)
  xk_InvalidLog_InvalidRow : PySem.W.kitOne g.K (.ref (g.cl 15)) (.ref (g.cl 9)) = some false
  xe_InvalidRow : ErrC g.K (g.cl 9)
  xk_InvalidRow_InvalidRow : PySem.W.kitOne g.K (.ref (g.cl 9)) (.ref (g.cl 9)) = some true
  xe_InvalidTime : ErrC g.K (g.cl 10)
  xk_InvalidTime_InvalidRow : PySem.W.kitOne g.K (.ref (g.cl 10)) (.ref (g.cl 9)) = some false
  n_InvalidRow : mg "InvalidRow" = some (.ref (g.cl 9))
  xk_InvalidLog_InvalidTime : PySem.W.kitOne g.K (.ref (g.cl 15)) (.ref (g.cl 10)) = some false
  xk_InvalidRow_InvalidTime : PySem.W.kitOne g.K (.ref (g.cl 9)) (.ref (g.cl 10)) = some false
  xk_InvalidTime_InvalidTime : PySem.W.kitOne g.K (.ref (g.cl 10)) (.ref (g.cl 10)) = some true
  n_InvalidTime : mg "InvalidTime" = some (.ref (g.cl 10))
  xk_InvalidLog_InvalidOutages : PySem.W.kitOne g.K (.ref (g.cl 15)) (.ref (g.cl 11)) = some false
  xk_InvalidRow_InvalidOutages : PySem.W.kitOne g.K (.ref (g.cl 9)) (.ref (g.cl 11)) = some false
  xk_InvalidTime_InvalidOutages : PySem.W.kitOne g.K (.ref (g.cl 10)) (.ref (g.cl 11)) = some false
  n_InvalidOutages : mg "InvalidOutages" = some (.ref (g.cl 11))
  xk_InvalidLog_InvalidIndex : PySem.W.kitOne g.K (.ref (g.cl 15)) (.ref (g.cl 13)) = some false
  xk_InvalidRow_InvalidIndex : PySem.W.kitOne g.K (.ref (g.cl 9)) (.ref (g.cl 13)) = some false
  xk_InvalidTime_InvalidIndex : PySem.W.kitOne g.K (.ref (g.cl 10)) (.ref (g.cl 13)) = some false
  n_InvalidIndex : mg "InvalidIndex" = some (.ref (g.cl 13))
  xk_InvalidLog_InvalidBound : PySem.W.kitOne g.K (.ref (g.cl 15)) (.ref (g.cl 14)) = some false
  xk_InvalidRow_InvalidBound : PySem.W.kitOne g.K (.ref (g.cl 9)) (.ref (g.cl 14)) = some false
  xk_InvalidTime_InvalidBound : PySem.W.kitOne g.K (.ref (g.cl 10)) (.ref (g.cl 14)) = some false
  n_InvalidBound : mg "InvalidBound" = some (.ref (g.cl 14))
  xk_InvalidLog_InvalidLog : PySem.W.kitOne g.K (.ref (g.cl 15)) (.ref (g.cl 15)) = some true
  xk_InvalidRow_InvalidLog : PySem.W.kitOne g.K (.ref (g.cl 9)) (.ref (g.cl 15)) = some false
  xk_InvalidTime_InvalidLog : PySem.W.kitOne g.K (.ref (g.cl 10)) (.ref (g.cl 15)) = some false
  n_InvalidLog : mg "InvalidLog" = some (.ref (g.cl 15))
  xt_InvalidLog__InvalidTrains_InvalidCall_InvalidText_LimitExceeded : PySem.W.kitAny g.K (.ref (g.cl 15)) [.ref (g.cl 12), .ref (g.cl 16), .ref (g.cl 17), .ref (g.cl 18)] = some false
  xt_InvalidRow__InvalidTrains_InvalidCall_InvalidText_LimitExceeded : PySem.W.kitAny g.K (.ref (g.cl 9)) [.ref (g.cl 12), .ref (g.cl 16), .ref (g.cl 17), .ref (g.cl 18)] = some false
  xt_InvalidTime__InvalidTrains_InvalidCall_InvalidText_LimitExceeded : PySem.W.kitAny g.K (.ref (g.cl 10)) [.ref (g.cl 12), .ref (g.cl 16), .ref (g.cl 17), .ref (g.cl 18)] = some false
  n_LimitExceeded : mg "LimitExceeded" = some (.ref (g.cl 18))
  n_InvalidText : mg "InvalidText" = some (.ref (g.cl 17))
  n_InvalidCall : mg "InvalidCall" = some (.ref (g.cl 16))
  n_InvalidTrains : mg "InvalidTrains" = some (.ref (g.cl 12))
  xk_InvalidLog_ArithmeticError : PySem.W.kitOne g.K (.ref (g.cl 15)) (.type "ArithmeticError") = some true
  xk_InvalidRow_ArithmeticError : PySem.W.kitOne g.K (.ref (g.cl 9)) (.type "ArithmeticError") = some true
  xk_InvalidTime_ArithmeticError : PySem.W.kitOne g.K (.ref (g.cl 10)) (.type "ArithmeticError") = some true
  xf_InvalidRow : XfC g.K (g.cl 9)
  xn_InvalidRow_part : PySem.W.findIn g.K (.ref (g.cl 9)) "part" = some none
  xf_InvalidLog : XfC g.K (g.cl 15)
  xn_InvalidLog_at : PySem.W.findIn g.K (.ref (g.cl 15)) "at" = some none
  xn_InvalidRow_at : PySem.W.findIn g.K (.ref (g.cl 9)) "at" = some none
  xf_InvalidTime : XfC g.K (g.cl 10)
  xn_InvalidTime_time : PySem.W.findIn g.K (.ref (g.cl 10)) "time" = some none
  xm_InvalidLog_BreakerError : PySem.W.exmOne g.K (.ref (g.cl 15)) (.ref (g.cl 8)) = some true
  n_BreakerError : mg "BreakerError" = some (.ref (g.cl 8))
  xm_InvalidRow_BreakerError : PySem.W.exmOne g.K (.ref (g.cl 9)) (.ref (g.cl 8)) = some true
  xm_InvalidTime_BreakerError : PySem.W.exmOne g.K (.ref (g.cl 10)) (.ref (g.cl 8)) = some true
  ax_InvalidLog : AexC g.K (g.cl 15)
  bx_BreakerError : BexC g.K (g.cl 8)
  tx_InvalidLog_at : PySem.W.takerIn g.K (g.cl 15) "at" = some none
  ax_InvalidTime : AexC g.K (g.cl 10)
  tx_InvalidTime_time : PySem.W.takerIn g.K (g.cl 10) "time" = some none
  ax_InvalidRow : AexC g.K (g.cl 9)
  tx_InvalidRow_part : PySem.W.takerIn g.K (g.cl 9) "part" = some none
  tx_InvalidRow_at : PySem.W.takerIn g.K (g.cl 9) "at" = some none
section
variable {P : Program} {w : World} {mg : Str → Option Value} {base : Heap} {g : Gx}
abbrev s__law_well : Stmt := topS 34
theorem sc__law_well : FnScope ["_law_cell"] ["_law_cell"] (defScope s__law_well) := ⟨rfl, rfl, rfl, by decide +kernel, rfl, by decide +kernel, by decide +kernel⟩
theorem ok__law_well {k : Nat} {f : Addr} {fd : FuncData} (T : Txt g mg) (F : Fun g.K "_law_well" "_law_well" s__law_well f fd)  : FnOk P w g.K mg base CX0 (k + 1) f fd ["_law_cell"] (spF g 1 F__law_well) := by
  refine def_fn (fs := []) F sc__law_well rfl rfl T.tt fun cdv A outer s H E hr C => ?_
  exact (ss_cons (s_ret (p_lst C (a_cons (p_bin (op := .mul) C (k_var 0 rfl (by first | exact .inl rfl | exact .inr (.inl rfl) | exact .inr (.inr rfl)) rfl rfl) (k_int1 C (a_cons (p_cmp (op := .ge) C (k_var 0 rfl (by first | exact .inl rfl | exact .inr (.inl rfl) | exact .inr (.inr rfl)) rfl rfl) (p_bin (op := .pow) C (k_int C) (k_int C)) rfl) a_nil rfl) rfl rfl (T.z_int) rfl)) (a_cons (k_var 0 rfl (by first | exact .inl rfl | exact .inr (.inl rfl) | exact .inr (.inr rfl)) rfl rfl) (a_cons (k_int C) a_nil rfl) rfl) rfl)))
  ss_nil)
abbrev s__law_mixed : Stmt := topS 33
theorem sc__law_mixed : FnScope ["_law_cell", "_law_k", "_law_figure"] ["_law_cell", "_law_k"] (defScope s__law_mixed) := ⟨rfl, rfl, rfl, by decide +kernel, rfl, by decide +kernel, by decide +kernel⟩
theorem ok__law_mixed {k : Nat} {f : Addr} {fd : FuncData} (T : Txt g mg) (F : Fun g.K "_law_mixed" "_law_mixed" s__law_mixed f fd)  : FnOk P w g.K mg base CX0 (k + 1) f fd ["_law_cell", "_law_k"] (spF g 2 F__law_mixed) := by
  refine def_fn (fs := []) F sc__law_mixed rfl rfl T.tt fun cdv A outer s H E hr C => ?_
  exact (ss_cons (s_asgO (i := 2) C rfl (by first | exact .inl rfl | exact .inr rfl) (p_bin (op := .mod) C (k_int1 C (a_cons (p_bin (op := .pow) C (p_bin (op := .add) C (p_bin (op := .add) C (p_bin (op := .mod) C (k_int1 C (a_cons (k_var 0 rfl (by first | exact .inl rfl | exact .inr (.inl rfl) | exact .inr (.inr rfl)) rfl rfl) a_nil rfl) rfl rfl (T.z_int) rfl) (k_int C)) (p_bin (op := .mul) C (k_int C) (k_var 1 rfl (by first | exact .inl rfl | exact .inr (.inl rfl) | exact .inr (.inr rfl)) rfl rfl))) (k_int C)) (k_int C)) a_nil rfl) rfl rfl (T.z_int) rfl) (k_int C)) rfl (by first | exact .inr rfl | exact .inl rfl))
  (ss_cons (s_asgO (i := 2) C rfl (by first | exact .inl rfl | exact .inr rfl) (p_bin (op := .mod) C (k_int1 C (a_cons (p_bin (op := .add) C (k_var 2 rfl (by first | exact .inl rfl | exact .inr (.inl rfl) | exact .inr (.inr rfl)) rfl rfl) (p_bin (op := .mul) C (p_bin (op := .mod) C (k_int1 C (a_cons (p_bin (op := .fdiv) C (k_var 0 rfl (by first | exact .inl rfl | exact .inr (.inl rfl) | exact .inr (.inr rfl)) rfl rfl) (k_int C)) a_nil rfl) rfl rfl (T.z_int) rfl) (k_int C)) (p_bin (op := .add) C (k_var 1 rfl (by first | exact .inl rfl | exact .inr (.inl rfl) | exact .inr (.inr rfl)) rfl rfl) (k_int C)))) a_nil rfl) rfl rfl (T.z_int) rfl) (k_int C)) rfl (by first | exact .inr rfl | exact .inl rfl))
  (ss_cons (s_asgO (i := 2) C rfl (by first | exact .inl rfl | exact .inr rfl) (p_bin (op := .mod) C (k_int1 C (a_cons (p_bin (op := .mul) C (k_var 2 rfl (by first | exact .inl rfl | exact .inr (.inl rfl) | exact .inr (.inr rfl)) rfl rfl) (p_bin (op := .add) C (p_bin (op := .add) C (p_bin (op := .fdiv) C (k_var 2 rfl (by first | exact .inl rfl | exact .inr (.inl rfl) | exact .inr (.inr rfl)) rfl rfl) (k_int C)) (k_int C)) (k_var 1 rfl (by first | exact .inl rfl | exact .inr (.inl rfl) | exact .inr (.inr rfl)) rfl rfl))) a_nil rfl) rfl rfl (T.z_int) rfl) (k_int C)) rfl (by first | exact .inr rfl | exact .inl rfl))
  (ss_cons (s_ret (p_bin (op := .mod) C (k_int1 C (a_cons (p_bin (op := .mul) C (k_var 2 rfl (by first | exact .inl rfl | exact .inr (.inl rfl) | exact .inr (.inr rfl)) rfl rfl) (p_bin (op := .add) C (p_bin (op := .fdiv) C (k_var 2 rfl (by first | exact .inl rfl | exact .inr (.inl rfl) | exact .inr (.inr rfl)) rfl rfl) (k_int C)) (k_int C))) a_nil rfl) rfl rfl (T.z_int) rfl) (k_int C)))
  ss_nil))))
abbrev s__law_draw : Stmt := topS 35
theorem sc__law_draw : FnScope ["_law_well_here", "_law_many", "_law_found"] ["_law_well_here", "_law_many"] (defScope s__law_draw) := ⟨rfl, rfl, rfl, by decide +kernel, rfl, by decide +kernel, by decide +kernel⟩
theorem ok__law_draw {k : Nat} {f : Addr} {fd : FuncData} (T : Txt g mg) (F : Fun g.K "_law_draw" "_law_draw" s__law_draw f fd) (c__law_mixed : Cal P w mg base g k "_law_mixed" 2 F__law_mixed) : FnOk P w g.K mg base CX0 (k + 1) f fd ["_law_well_here", "_law_many"] (spF g 2 F__law_draw) := by
  refine def_fn (fs := [F__law_mixed]) F sc__law_draw rfl rfl T.tt fun cdv A outer s H E hr C => ?_
  exact (ss_cons (s_ite (t_cmp (op := .gt) C (p_ix C (k_var 0 rfl (by first | exact .inl rfl | exact .inr (.inl rfl) | exact .inr (.inr rfl)) rfl rfl) (k_int C) (fun _ _ => rfl)) (k_int C) rfl) (ss_cons (s_asgO (i := 2) C rfl (by first | exact .inl rfl | exact .inr rfl) (p_bin (op := .mod) C (k_int1 C (a_cons (p_ix C (k_var 0 rfl (by first | exact .inl rfl | exact .inr (.inl rfl) | exact .inr (.inr rfl)) rfl rfl) (k_int C) (fun _ _ => rfl)) a_nil rfl) rfl rfl (T.z_int) rfl) (k_var 1 rfl (by first | exact .inl rfl | exact .inr (.inl rfl) | exact .inr (.inr rfl)) rfl rfl)) rfl (by first | exact .inr rfl | exact .inl rfl))
  (ss_cons (s_seti C (pe_var (i := 0) rfl (by first | exact .inl rfl | exact .inr (.inl rfl) | exact .inr (.inr rfl)) rfl rfl) (k_int C) (p_bin (op := .fdiv) C (p_ix C (k_var 0 rfl (by first | exact .inl rfl | exact .inr (.inl rfl) | exact .inr (.inr rfl)) rfl rfl) (k_int C) (fun _ _ => rfl)) (k_var 1 rfl (by first | exact .inl rfl | exact .inr (.inl rfl) | exact .inr (.inr rfl)) rfl rfl)) rfl rfl rfl (fun _ => rfl))
  (ss_cons (s_ret (k_var 2 rfl (by first | exact .inl rfl | exact .inr (.inl rfl) | exact .inr (.inr rfl)) rfl rfl))
  ss_nil))) ss_nil)
  (ss_cons (s_seti C (pe_var (i := 0) rfl (by first | exact .inl rfl | exact .inr (.inl rfl) | exact .inr (.inr rfl)) rfl rfl) (k_int C) (p_bin (op := .add) C (p_ix C (k_var 0 rfl (by first | exact .inl rfl | exact .inr (.inl rfl) | exact .inr (.inr rfl)) rfl rfl) (k_int C) (fun _ _ => rfl)) (k_int C)) rfl rfl rfl (fun _ => rfl))
  (ss_cons (s_ret (p_bin (op := .mod) C (k_int1 C (a_cons (c_call c__law_mixed C rfl rfl hr rfl (aw_cons (p_ix C (k_var 0 rfl (by first | exact .inl rfl | exact .inr (.inl rfl) | exact .inr (.inr rfl)) rfl rfl) (k_int C) (fun _ _ => rfl)) (aw_cons (p_ix C (k_var 0 rfl (by first | exact .inl rfl | exact .inr (.inl rfl) | exact .inr (.inr rfl)) rfl rfl) (k_int C) (fun _ _ => rfl)) aw_nil rfl) rfl) rfl rfl rfl) a_nil rfl) rfl rfl (T.z_int) rfl) (k_var 1 rfl (by first | exact .inl rfl | exact .inr (.inl rfl) | exact .inr (.inr rfl)) rfl rfl)))
  ss_nil)))
abbrev s_is_integer : Stmt := topS 13
theorem sc_is_integer : FnScope ["value"] ["value"] (defScope s_is_integer) := ⟨rfl, rfl, rfl, by decide +kernel, rfl, by decide +kernel, by decide +kernel⟩
theorem ok_is_integer {k : Nat} {f : Addr} {fd : FuncData} (T : Txt g mg) (F : Fun g.K "is_integer" "is_integer" s_is_integer f fd)  : FnOk P w g.K mg base CX0 (k + 1) f fd ["value"] (spF g 1 F_is_integer) := by
  refine def_fn (fs := []) F sc_is_integer rfl rfl T.tt fun cdv A outer s H E hr C => ?_
  exact (ss_cons (s_ret (p_and C (p_isi (t := .int) C (k_var 0 rfl (by first | exact .inl rfl | exact .inr (.inl rfl) | exact .inr (.inr rfl)) rfl rfl) (ty_int (T.z_int) rfl) rfl (T.z_isinstance) rfl rfl) (p_one (p_not C (p_isi (t := .bool) C (k_var 0 rfl (by first | exact .inl rfl | exact .inr (.inl rfl) | exact .inr (.inr rfl)) rfl rfl) (ty_bool (T.z_bool) rfl) rfl (T.z_isinstance) rfl rfl)))))
  ss_nil)
abbrev s_is_between : Stmt := topS 14
theorem sc_is_between : FnScope ["value", "low", "high"] ["value", "low", "high"] (defScope s_is_between) := ⟨rfl, rfl, rfl, by decide +kernel, rfl, by decide +kernel, by decide +kernel⟩
theorem ok_is_between {k : Nat} {f : Addr} {fd : FuncData} (T : Txt g mg) (F : Fun g.K "is_between" "is_between" s_is_between f fd) (c_is_integer : Cal P w mg base g k "is_integer" 1 F_is_integer) : FnOk P w g.K mg base CX0 (k + 1) f fd ["value", "low", "high"] (spF g 3 F_is_between) := by
  refine def_fn (fs := [F_is_integer]) F sc_is_between rfl rfl T.tt fun cdv A outer s H E hr C => ?_
  exact (ss_cons (s_ret (p_and C (c_call c_is_integer C rfl rfl hr rfl (aw_cons (k_var 0 rfl (by first | exact .inl rfl | exact .inr (.inl rfl) | exact .inr (.inr rfl)) rfl rfl) aw_nil rfl) rfl rfl rfl) (p_one (p_chain (o1 := .le) (o2 := .le) C (k_var 1 rfl (by first | exact .inl rfl | exact .inr (.inl rfl) | exact .inr (.inr rfl)) rfl rfl) (k_var 0 rfl (by first | exact .inl rfl | exact .inr (.inl rfl) | exact .inr (.inr rfl)) rfl rfl) (k_var 2 rfl (by first | exact .inl rfl | exact .inr (.inl rfl) | exact .inr (.inr rfl)) rfl rfl) rfl))))
  ss_nil)
abbrev s_is_breaker : Stmt := topS 19
theorem sc_is_breaker : FnScope ["value"] ["value"] (defScope s_is_breaker) := ⟨rfl, rfl, rfl, by decide +kernel, rfl, by decide +kernel, by decide +kernel⟩
theorem ok_is_breaker {k : Nat} {f : Addr} {fd : FuncData} (T : Txt g mg) (F : Fun g.K "is_breaker" "is_breaker" s_is_breaker f fd) (c_is_between : Cal P w mg base g k "is_between" 3 F_is_between) : FnOk P w g.K mg base CX0 (k + 1) f fd ["value"] (spF g 1 F_is_breaker) := by
  refine def_fn (fs := [F_is_between]) F sc_is_breaker rfl rfl T.tt fun cdv A outer s H E hr C => ?_
  exact (ss_cons (s_ite (PW.pt (w_or (t_not (t_val C (p_isi (t := .tuple) C (k_var 0 rfl (by first | exact .inl rfl | exact .inr (.inl rfl) | exact .inr (.inr rfl)) rfl rfl) (ty_tuple (T.z_tuple) rfl) rfl (T.z_isinstance) rfl rfl) (fun _ => rfl))) (w_or1 (t_cmp (op := .ne) C (k_len C (a_cons (k_var 0 rfl (by first | exact .inl rfl | exact .inr (.inl rfl) | exact .inr (.inr rfl)) rfl rfl) a_nil rfl) rfl rfl (T.z_len) rfl) (k_int C) rfl)))) (ss_cons (s_ret (k_bl C))
  ss_nil) ss_nil)
  (ss_cons (s_ite (PW.pt (w_or (t_not (t_val C (c_call c_is_between C rfl rfl hr rfl (aw_cons (p_ix C (k_var 0 rfl (by first | exact .inl rfl | exact .inr (.inl rfl) | exact .inr (.inr rfl)) rfl rfl) (k_int C) (fun _ _ => rfl)) (aw_cons (k_int C) (aw_cons (k_gint C T.g_MOST_COUNT rfl rfl) aw_nil rfl) rfl) rfl) rfl rfl rfl) (fun _ => rfl))) (w_or1 (t_not (t_val C (c_call c_is_between C rfl rfl hr rfl (aw_cons (p_ix C (k_var 0 rfl (by first | exact .inl rfl | exact .inr (.inl rfl) | exact .inr (.inr rfl)) rfl rfl) (k_int C) (fun _ _ => rfl)) (aw_cons (k_int C) (aw_cons (k_gint C T.g_MOST_WAIT rfl rfl) aw_nil rfl) rfl) rfl) rfl rfl rfl) (fun _ => rfl)))))) (ss_cons (s_ret (k_bl C))
  ss_nil) ss_nil)
  (ss_cons (s_ret (c_call c_is_between C rfl rfl hr rfl (aw_cons (p_ix C (k_var 0 rfl (by first | exact .inl rfl | exact .inr (.inl rfl) | exact .inr (.inr rfl)) rfl rfl) (k_int C) (fun _ _ => rfl)) (aw_cons (k_int C) (aw_cons (k_gint C T.g_MOST_COUNT rfl rfl) aw_nil rfl) rfl) rfl) rfl rfl rfl))
  ss_nil)))
abbrev s_check_times : Stmt := topS 22
theorem sc_check_times : FnScope ["times", "at", "time"] ["times"] (defScope s_check_times) := ⟨rfl, rfl, rfl, by decide +kernel, rfl, by decide +kernel, by decide +kernel⟩
theorem ok_check_times {k : Nat} {f : Addr} {fd : FuncData} (T : Txt g mg) (F : Fun g.K "check_times" "check_times" s_check_times f fd) (c_is_integer : Cal P w mg base g k "is_integer" 1 F_is_integer) : FnOk P w g.K mg base CX0 (k + 1) f fd ["times"] (spF g 1 F_check_times) := by
  refine def_fn (fs := [F_is_integer]) F sc_check_times rfl rfl T.tt fun cdv A outer s H E hr C => ?_
  exact (ss_cons (s_ite (PW.pt (w_or (t_not (t_val C (p_isi (t := .list) C (k_var 0 rfl (by first | exact .inl rfl | exact .inr (.inl rfl) | exact .inr (.inr rfl)) rfl rfl) (ty_list (T.z_list) rfl) rfl (T.z_isinstance) rfl rfl) (fun _ => rfl))) (w_or1 (t_cmp (op := .gt) C (k_len C (a_cons (k_var 0 rfl (by first | exact .inl rfl | exact .inr (.inl rfl) | exact .inr (.inr rfl)) rfl rfl) a_nil rfl) rfl rfl (T.z_len) rfl) (k_gint C T.g_MOST_ENTRIES rfl rfl) rfl)))) (ss_cons s_stuck
  ss_nil) ss_nil)
  (ss_cons (s_for C PassesOwn.never (i_enum C rfl (T.z_enumerate) (a_cons (k_var 0 rfl (by first | exact .inl rfl | exact .inr (.inl rfl) | exact .inr (.inr rfl)) rfl rfl) a_nil rfl) rfl) (tgp C (tgs_cons (tg_nm (pg_name (i := 1) C.nd rfl (by first | exact .inl rfl | exact .inr rfl) (by first | exact .inr rfl | exact .inl rfl))) (tgs_cons (tg_nm (pg_name (i := 2) C.nd rfl (by first | exact .inl rfl | exact .inr rfl) (by first | exact .inr rfl | exact .inl rfl))) tgs_nil rfl) rfl) rfl rfl) (ss_cons (s_ite (PW.pt (w_or (t_not (t_val C (c_call c_is_integer C rfl rfl hr rfl (aw_cons (k_var 2 rfl (by first | exact .inl rfl | exact .inr (.inl rfl) | exact .inr (.inr rfl)) rfl rfl) aw_nil rfl) rfl rfl rfl) (fun _ => rfl))) (w_or (t_cmp (op := .lt) C (k_var 2 rfl (by first | exact .inl rfl | exact .inr (.inl rfl) | exact .inr (.inr rfl)) rfl rfl) (k_int C) rfl) (w_or1 (PW.pt (w_and (t_cmp (op := .gt) C (k_var 1 rfl (by first | exact .inl rfl | exact .inr (.inl rfl) | exact .inr (.inr rfl)) rfl rfl) (k_int C) rfl) (w_and1 (t_cmp (op := .le) C (k_var 2 rfl (by first | exact .inl rfl | exact .inr (.inl rfl) | exact .inr (.inr rfl)) rfl rfl) (p_ix C (k_var 0 rfl (by first | exact .inl rfl | exact .inr (.inl rfl) | exact .inr (.inr rfl)) rfl rfl) (p_bin (op := .sub) C (k_var 1 rfl (by first | exact .inl rfl | exact .inr (.inl rfl) | exact .inr (.inr rfl)) rfl rfl) (k_int C)) (fun _ _ => rfl)) rfl)))))))) (ss_cons s_stuck
  ss_nil) ss_nil)
  ss_nil) (fun _ => rfl))
  ss_nil))
abbrev s_log_of : Stmt := topS 25
theorem sc_log_of : FnScope ["breaker", "times", "time", "found", "left", "since", "is_passed"] ["breaker", "times"] (defScope s_log_of) := ⟨rfl, rfl, rfl, by decide +kernel, rfl, by decide +kernel, by decide +kernel⟩
theorem ok_log_of {k : Nat} {f : Addr} {fd : FuncData} (T : Txt g mg) (F : Fun g.K "log_of" "log_of" s_log_of f fd) (c_is_breaker : Cal P w mg base g k "is_breaker" 1 F_is_breaker) (c_check_times : Cal P w mg base g k "check_times" 1 F_check_times) : FnOk P w g.K mg base CX0 (k + 1) f fd ["breaker", "times"] (spF g 2 F_log_of) := by
  refine def_fn (fs := [F_is_breaker, F_check_times]) F sc_log_of rfl rfl T.tt fun cdv A outer s H E hr C => ?_
  exact (ss_cons (s_ite (t_not (t_val C (c_call c_is_breaker C rfl rfl hr rfl (aw_cons (k_var 0 rfl (by first | exact .inl rfl | exact .inr (.inl rfl) | exact .inr (.inr rfl)) rfl rfl) aw_nil rfl) rfl rfl rfl) (fun _ => rfl))) (ss_cons s_stuck
  ss_nil) ss_nil)
  (ss_cons (s_expr (c_call c_check_times C rfl rfl hr rfl (aw_cons (k_var 1 rfl (by first | exact .inl rfl | exact .inr (.inl rfl) | exact .inr (.inr rfl)) rfl rfl) aw_nil rfl) rfl rfl rfl) rfl)
  (ss_cons (s_par3 (i := 3) (j := 4) (l := 5) C rfl rfl rfl (by decide) (by decide) (by decide) rfl rfl rfl (an_cons C (p_lst C a_nil) (an_cons C (p_ix C (k_var 0 rfl (by first | exact .inl rfl | exact .inr (.inl rfl) | exact .inr (.inr rfl)) rfl rfl) (k_int C) (fun _ _ => rfl)) (an_cons C (k_int C) an_nil rfl) rfl) rfl) rfl rfl)
  (ss_cons (s_for C PassesOwn.never (i_seq C (k_var 1 rfl (by first | exact .inl rfl | exact .inr (.inl rfl) | exact .inr (.inr rfl)) rfl rfl)) (tg_nm (pg_name (i := 2) C.nd rfl (by first | exact .inl rfl | exact .inr rfl) (by first | exact .inr rfl | exact .inl rfl))) (ss_cons (s_asgO (i := 6) C rfl (by first | exact .inl rfl | exact .inr rfl) (p_or C (p_cmp (op := .gt) C (k_var 4 rfl (by first | exact .inl rfl | exact .inr (.inl rfl) | exact .inr (.inr rfl)) rfl rfl) (k_int C) rfl) (p_one (p_cmp (op := .ge) C (p_bin (op := .sub) C (k_var 2 rfl (by first | exact .inl rfl | exact .inr (.inl rfl) | exact .inr (.inr rfl)) rfl rfl) (k_var 5 rfl (by first | exact .inl rfl | exact .inr (.inl rfl) | exact .inr (.inr rfl)) rfl rfl)) (p_ix C (k_var 0 rfl (by first | exact .inl rfl | exact .inr (.inl rfl) | exact .inr (.inr rfl)) rfl rfl) (k_int C) (fun _ _ => rfl)) rfl))) rfl (by first | exact .inr rfl | exact .inl rfl))
  (ss_cons (s_ite (t_val C (k_var 6 rfl (by first | exact .inl rfl | exact .inr (.inl rfl) | exact .inr (.inr rfl)) rfl rfl) (fun _ => rfl)) (ss_cons (s_asgO (i := 4) C rfl (by first | exact .inl rfl | exact .inr rfl) (k_max2 C (a_cons (k_int C) (a_cons (p_bin (op := .sub) C (k_var 4 rfl (by first | exact .inl rfl | exact .inr (.inl rfl) | exact .inr (.inr rfl)) rfl rfl) (k_int C)) a_nil rfl) rfl) rfl rfl (T.z_max) rfl) rfl (by first | exact .inr rfl | exact .inl rfl))
  (ss_cons (s_asgO (i := 5) C rfl (by first | exact .inl rfl | exact .inr rfl) (k_var 2 rfl (by first | exact .inl rfl | exact .inr (.inl rfl) | exact .inr (.inr rfl)) rfl rfl) rfl (by first | exact .inr rfl | exact .inl rfl))
  ss_nil)) ss_nil)
  (ss_cons (s_app C (pe_var (i := 3) rfl (by first | exact .inl rfl | exact .inr (.inl rfl) | exact .inr (.inr rfl)) rfl rfl) (p_tup C (a_cons (k_var 2 rfl (by first | exact .inl rfl | exact .inr (.inl rfl) | exact .inr (.inr rfl)) rfl rfl) (a_cons (k_var 6 rfl (by first | exact .inl rfl | exact .inr (.inl rfl) | exact .inr (.inr rfl)) rfl rfl) a_nil rfl) rfl)) rfl rfl rfl rfl)
  ss_nil))) (fun _ => rfl))
  (ss_cons (s_ret (k_var 3 rfl (by first | exact .inl rfl | exact .inr (.inl rfl) | exact .inr (.inr rfl)) rfl rfl))
  ss_nil)))))
abbrev s__law_said : Stmt := topS 36
theorem sc__law_said : FnScope ["_law_deed", "_law_found", "e", "_law_kinds", "_law_others"] ["_law_deed"] (defScope s__law_said) := ⟨rfl, rfl, rfl, by decide +kernel, rfl, by decide +kernel, by decide +kernel⟩
theorem nodup__law_said : (["_law_deed", "_law_found", "e", "_law_kinds", "_law_others"] : List Str).Nodup := by decide +kernel
theorem gv__law_said {X : Cx} {g0 : Addr} {cdg : Value} {q : Str} {k : Nat} (T : Txt g X.mg) (hK : X.K = g.K) (hr : Room (k + 2) X.A) (hgd : X.A.guards = some []) (hB : SmB X.base) : LamX.GivesTo X ["_law_deed", "_law_found", "e", "_law_kinds", "_law_others"] "_law_said" (defScope s__law_said) g0 cdg (defBody s__law_said) "_law_deed" q (TTs g [] D0__law_said SD__law_said) := by
  refine said_gives (nn := 5) (ie := 2) (i2 := I2__law_said) (im := IM__law_said) (iq := IQ__law_said) T.tt rfl (by decide) rfl (by decide) rfl rfl T.n_BreakerError rfl (all_cons (hK.symm ▸ T.xm_InvalidLog_BreakerError) (all_cons (hK.symm ▸ T.xm_InvalidRow_BreakerError) (all_cons (hK.symm ▸ T.xm_InvalidTime_BreakerError) (all_nil _)))) ?_ ?_ ?_ ?_ ?_ (fun _ _ => rfl)
  · intro s H
    have C : Cok g (cxS X ["_law_deed", "_law_found", "e", "_law_kinds", "_law_others"] "_law_said" (defScope s__law_said) g0 cdg s H).nox := ⟨hK, rfl, (hr.deeper _).units, nodup__law_said, T.tt⟩
    exact (s_asgO (i := 1) C rfl (by first | exact .inl rfl | exact .inr rfl) (k_non C) rfl (by first | exact .inr rfl | exact .inl rfl))
  · intro s H
    have C : Cok g (cxS X ["_law_deed", "_law_found", "e", "_law_kinds", "_law_others"] "_law_said" (defScope s__law_said) g0 cdg s H).nox := ⟨hK, rfl, (hr.deeper _).units, nodup__law_said, T.tt⟩
    exact (s_ret (k_var 1 rfl (by first | exact .inl rfl | exact .inr (.inl rfl) | exact .inr (.inr rfl)) rfl rfl))
  · intro s H pn xe
    have C : Cok g ((cxS X ["_law_deed", "_law_found", "e", "_law_kinds", "_law_others"] "_law_said" (defScope s__law_said) g0 cdg s H).nox.tr pn xe) := ⟨hK, rfl, (hr.deeper _).units, nodup__law_said, T.tt⟩
    exact ss_nil
  · intro s H e oe pn c dd hz hf
    have C1 : Cok g (cxS X ["_law_deed", "_law_found", "e", "_law_kinds", "_law_others"] "_law_said" (defScope s__law_said) g0 cdg s H).nox := ⟨hK, rfl, (hr.deeper _).units, nodup__law_said, T.tt⟩
    have C : Cok0 (gE g c e dd) ((cxS X ["_law_deed", "_law_found", "e", "_law_kinds", "_law_others"] "_law_said" (defScope s__law_said) g0 cdg s H).nox.suite e ((e, oe) :: pn)) := ⟨hK, C1.hu, nodup__law_said⟩
    exact (ss_cons (s_asg (p_lst C (a_cons (p_xis (all := [15, 9, 10]) (cs := [9]) (all_cons ⟨T.xe_InvalidLog, T.xk_InvalidLog_InvalidRow⟩ (all_cons ⟨T.xe_InvalidRow, T.xk_InvalidRow_InvalidRow⟩ (all_cons ⟨T.xe_InvalidTime, T.xk_InvalidTime_InvalidRow⟩ (all_nil _)))) (.own _) hK hz hf (pe_var (i := 2) rfl (by first | exact .inl rfl | exact .inr (.inl rfl) | exact .inr (.inr rfl)) rfl rfl) (pe_glob (v := .ref (g.cl 9)) rfl T.n_InvalidRow rfl rfl) rfl (T.z_isinstance) rfl rfl) (a_cons (p_xis (all := [15, 9, 10]) (cs := [10]) (all_cons ⟨T.xe_InvalidLog, T.xk_InvalidLog_InvalidTime⟩ (all_cons ⟨T.xe_InvalidRow, T.xk_InvalidRow_InvalidTime⟩ (all_cons ⟨T.xe_InvalidTime, T.xk_InvalidTime_InvalidTime⟩ (all_nil _)))) (.own _) hK hz hf (pe_var (i := 2) rfl (by first | exact .inl rfl | exact .inr (.inl rfl) | exact .inr (.inr rfl)) rfl rfl) (pe_glob (v := .ref (g.cl 10)) rfl T.n_InvalidTime rfl rfl) rfl (T.z_isinstance) rfl rfl) (a_cons (p_xis (all := [15, 9, 10]) (cs := []) (all_cons ⟨T.xe_InvalidLog, T.xk_InvalidLog_InvalidOutages⟩ (all_cons ⟨T.xe_InvalidRow, T.xk_InvalidRow_InvalidOutages⟩ (all_cons ⟨T.xe_InvalidTime, T.xk_InvalidTime_InvalidOutages⟩ (all_nil _)))) (.own _) hK hz hf (pe_var (i := 2) rfl (by first | exact .inl rfl | exact .inr (.inl rfl) | exact .inr (.inr rfl)) rfl rfl) (pe_glob (v := .ref (g.cl 11)) rfl T.n_InvalidOutages rfl rfl) rfl (T.z_isinstance) rfl rfl) a_nil rfl) rfl) rfl)) (tg_nm (pg_name (i := 3) C.nd rfl (by first | exact .inl rfl | exact .inr rfl) (by first | exact .inr rfl | exact .inl rfl))) rfl rfl rfl)
  (ss_cons (s_asg (p_bin (op := .add) C (k_var 3 rfl (by first | exact .inl rfl | exact .inr (.inl rfl) | exact .inr (.inr rfl)) rfl rfl) (p_lst C (a_cons (p_xis (all := [15, 9, 10]) (cs := []) (all_cons ⟨T.xe_InvalidLog, T.xk_InvalidLog_InvalidIndex⟩ (all_cons ⟨T.xe_InvalidRow, T.xk_InvalidRow_InvalidIndex⟩ (all_cons ⟨T.xe_InvalidTime, T.xk_InvalidTime_InvalidIndex⟩ (all_nil _)))) (.own _) hK hz hf (pe_var (i := 2) rfl (by first | exact .inl rfl | exact .inr (.inl rfl) | exact .inr (.inr rfl)) rfl rfl) (pe_glob (v := .ref (g.cl 13)) rfl T.n_InvalidIndex rfl rfl) rfl (T.z_isinstance) rfl rfl) (a_cons (p_xis (all := [15, 9, 10]) (cs := []) (all_cons ⟨T.xe_InvalidLog, T.xk_InvalidLog_InvalidBound⟩ (all_cons ⟨T.xe_InvalidRow, T.xk_InvalidRow_InvalidBound⟩ (all_cons ⟨T.xe_InvalidTime, T.xk_InvalidTime_InvalidBound⟩ (all_nil _)))) (.own _) hK hz hf (pe_var (i := 2) rfl (by first | exact .inl rfl | exact .inr (.inl rfl) | exact .inr (.inr rfl)) rfl rfl) (pe_glob (v := .ref (g.cl 14)) rfl T.n_InvalidBound rfl rfl) rfl (T.z_isinstance) rfl rfl) (a_cons (p_xis (all := [15, 9, 10]) (cs := [15]) (all_cons ⟨T.xe_InvalidLog, T.xk_InvalidLog_InvalidLog⟩ (all_cons ⟨T.xe_InvalidRow, T.xk_InvalidRow_InvalidLog⟩ (all_cons ⟨T.xe_InvalidTime, T.xk_InvalidTime_InvalidLog⟩ (all_nil _)))) (.own _) hK hz hf (pe_var (i := 2) rfl (by first | exact .inl rfl | exact .inr (.inl rfl) | exact .inr (.inr rfl)) rfl rfl) (pe_glob (v := .ref (g.cl 15)) rfl T.n_InvalidLog rfl rfl) rfl (T.z_isinstance) rfl rfl) a_nil rfl) rfl) rfl))) (tg_nm (pg_name (i := 3) C.nd rfl (by first | exact .inl rfl | exact .inr rfl) (by first | exact .inr rfl | exact .inl rfl))) rfl rfl rfl)
  (ss_cons (s_asgO (i := 4) C rfl (by first | exact .inl rfl | exact .inr rfl) (p_xit (all := [15, 9, 10]) (cs := []) (all_cons ⟨T.xe_InvalidLog, T.xt_InvalidLog__InvalidTrains_InvalidCall_InvalidText_LimitExceeded⟩ (all_cons ⟨T.xe_InvalidRow, T.xt_InvalidRow__InvalidTrains_InvalidCall_InvalidText_LimitExceeded⟩ (all_cons ⟨T.xe_InvalidTime, T.xt_InvalidTime__InvalidTrains_InvalidCall_InvalidText_LimitExceeded⟩ (all_nil _)))) (.cons (.own _) (.cons (.own _) (.cons (.own _) (.cons (.own _) .nil)))) hK hz hf (pe_var (i := 2) rfl (by first | exact .inl rfl | exact .inr (.inl rfl) | exact .inr (.inr rfl)) rfl rfl) (cs_cons (pe_glob (v := .ref (g.cl 12)) rfl T.n_InvalidTrains rfl rfl) (cs_cons (pe_glob (v := .ref (g.cl 16)) rfl T.n_InvalidCall rfl rfl) (cs_cons (pe_glob (v := .ref (g.cl 17)) rfl T.n_InvalidText rfl rfl) (cs_cons (pe_glob (v := .ref (g.cl 18)) rfl T.n_LimitExceeded rfl rfl) cs_nil rfl) rfl) rfl) rfl) (show 4 ≤ 16777216 by decide) rfl (T.z_isinstance) rfl rfl) rfl (by first | exact .inr rfl | exact .inl rfl))
  (ss_cons (s_ite (PW.pt (w_or (t_cmp (op := .ne) C (p_cnt C (k_var 3 rfl (by first | exact .inl rfl | exact .inr (.inl rfl) | exact .inr (.inr rfl)) rfl rfl) (k_bl C) rfl rfl rfl) (k_int C) rfl) (w_or (t_val C (k_var 4 rfl (by first | exact .inl rfl | exact .inr (.inl rfl) | exact .inr (.inr rfl)) rfl rfl) (fun _ => rfl)) (w_or1 (t_not (t_val C (p_xis (all := [15, 9, 10]) (cs := [15, 9, 10]) (all_cons ⟨T.xe_InvalidLog, T.xk_InvalidLog_ArithmeticError⟩ (all_cons ⟨T.xe_InvalidRow, T.xk_InvalidRow_ArithmeticError⟩ (all_cons ⟨T.xe_InvalidTime, T.xk_InvalidTime_ArithmeticError⟩ (all_nil _)))) (.ty _) hK hz hf (pe_var (i := 2) rfl (by first | exact .inl rfl | exact .inr (.inl rfl) | exact .inr (.inr rfl)) rfl rfl) (pe_bltn (v := .ty "ArithmeticError") rfl (T.z_ArithmeticError) PyProof.Rows.Boot.«ArithmeticError» rfl (by decide) rfl) rfl (T.z_isinstance) rfl rfl) (fun _ => rfl))))))) (ss_cons (s_asgO (i := 1) C rfl (by first | exact .inl rfl | exact .inr rfl) (k_str C) rfl (by first | exact .inr rfl | exact .inl rfl))
  ss_nil) (ss_cons (s_ite (t_val C (p_ix C (k_var 3 rfl (by first | exact .inl rfl | exact .inr (.inl rfl) | exact .inr (.inr rfl)) rfl rfl) (k_int C) (fun _ _ => rfl)) (fun _ => rfl)) (ss_cons (s_asgO (i := 1) C rfl (by first | exact .inl rfl | exact .inr rfl) (p_tup C (a_cons (k_str C) (a_cons (p_xfld (all := [9]) (all_cons ⟨T.xf_InvalidRow, T.xn_InvalidRow_part⟩ (all_nil _)) hK hz hf (pe_var (i := 2) rfl (by first | exact .inl rfl | exact .inr (.inl rfl) | exact .inr (.inr rfl)) rfl rfl) rfl) (a_cons (p_xfld (all := [15, 9]) (all_cons ⟨T.xf_InvalidLog, T.xn_InvalidLog_at⟩ (all_cons ⟨T.xf_InvalidRow, T.xn_InvalidRow_at⟩ (all_nil _))) hK hz hf (pe_var (i := 2) rfl (by first | exact .inl rfl | exact .inr (.inl rfl) | exact .inr (.inr rfl)) rfl rfl) rfl) a_nil rfl) rfl) rfl)) rfl (by first | exact .inr rfl | exact .inl rfl))
  ss_nil) (ss_cons (s_ite (PW.pt (w_or (t_val C (p_ix C (k_var 3 rfl (by first | exact .inl rfl | exact .inr (.inl rfl) | exact .inr (.inr rfl)) rfl rfl) (k_int C) (fun _ _ => rfl)) (fun _ => rfl)) (w_or1 (t_val C (p_ix C (k_var 3 rfl (by first | exact .inl rfl | exact .inr (.inl rfl) | exact .inr (.inr rfl)) rfl rfl) (k_int C) (fun _ _ => rfl)) (fun _ => rfl))))) (ss_cons (s_asgO (i := 1) C rfl (by first | exact .inl rfl | exact .inr rfl) (p_ite (t_val C (p_ix C (k_var 3 rfl (by first | exact .inl rfl | exact .inr (.inl rfl) | exact .inr (.inr rfl)) rfl rfl) (k_int C) (fun _ _ => rfl)) (fun _ => rfl)) (p_tup C (a_cons (k_str C) (a_cons (k_rpr C hgd hB (a_cons (p_xfld (all := [10]) (all_cons ⟨T.xf_InvalidTime, T.xn_InvalidTime_time⟩ (all_nil _)) hK hz hf (pe_var (i := 2) rfl (by first | exact .inl rfl | exact .inr (.inl rfl) | exact .inr (.inr rfl)) rfl rfl) rfl) a_nil rfl) rfl rfl (T.z_repr) rfl) a_nil rfl) rfl)) (p_tup C (a_cons (k_str C) (a_cons (k_rpr C hgd hB (a_cons p_stuck a_nil rfl) rfl rfl (T.z_repr) rfl) a_nil rfl) rfl))) rfl (by first | exact .inr rfl | exact .inl rfl))
  ss_nil) (ss_cons (s_ite (PW.pt (w_or (t_val C (p_ix C (k_var 3 rfl (by first | exact .inl rfl | exact .inr (.inl rfl) | exact .inr (.inr rfl)) rfl rfl) (k_int C) (fun _ _ => rfl)) (fun _ => rfl)) (w_or1 (t_val C (p_ix C (k_var 3 rfl (by first | exact .inl rfl | exact .inr (.inl rfl) | exact .inr (.inr rfl)) rfl rfl) (k_int C) (fun _ _ => rfl)) (fun _ => rfl))))) (ss_cons (s_asgO (i := 1) C rfl (by first | exact .inl rfl | exact .inr rfl) (p_tup C (a_cons (p_ite (t_val C (p_ix C (k_var 3 rfl (by first | exact .inl rfl | exact .inr (.inl rfl) | exact .inr (.inr rfl)) rfl rfl) (k_int C) (fun _ _ => rfl)) (fun _ => rfl)) (k_str C) (k_str C)) (a_cons (p_xfld (all := [15, 9]) (all_cons ⟨T.xf_InvalidLog, T.xn_InvalidLog_at⟩ (all_cons ⟨T.xf_InvalidRow, T.xn_InvalidRow_at⟩ (all_nil _))) hK hz hf (pe_var (i := 2) rfl (by first | exact .inl rfl | exact .inr (.inl rfl) | exact .inr (.inr rfl)) rfl rfl) rfl) a_nil rfl) rfl)) rfl (by first | exact .inr rfl | exact .inl rfl))
  ss_nil) (ss_cons (s_asgO (i := 1) C rfl (by first | exact .inl rfl | exact .inr rfl) (p_tup C (a_cons (k_str C) (a_cons (p_xfld (all := [9]) (all_cons ⟨T.xf_InvalidRow, T.xn_InvalidRow_part⟩ (all_nil _)) hK hz hf (pe_var (i := 2) rfl (by first | exact .inl rfl | exact .inr (.inl rfl) | exact .inr (.inr rfl)) rfl rfl) rfl) a_nil rfl) rfl)) rfl (by first | exact .inr rfl | exact .inl rfl))
  ss_nil))
  ss_nil))
  ss_nil))
  ss_nil))
  ss_nil))))
  · simp only [saidN, nxP, retD, I2__law_said, IM__law_said, IQ__law_said, D0__law_said, plainG, noE, DV.SC, DV.SE, DV.SX] <;> rfl
abbrev s_InvalidLog___init__ : Stmt := inClass (topS 8) 0
theorem sc_InvalidLog___init__ : FnScope ["self", "at"] ["self", "at"] (defScope s_InvalidLog___init__) := ⟨rfl, rfl, rfl, by decide +kernel, rfl, by decide +kernel, by decide +kernel⟩
theorem ok_InvalidLog___init__ {k : Nat} {f : Addr} {fd : FuncData} (T : Txt g mg) (F : Fun g.K "__init__" "InvalidLog.__init__" s_InvalidLog___init__ f fd) : FnOk P w g.K mg base CX0 (k + 1) f fd ["self", "at"] (spI g 15 ["at"]) := by
  refine F.ok sc_InvalidLog___init__ (fun vs H Q E h => spI_len h) fun cdv A outer s H vs Q E hr h => ?_
  exact ⟨_, pss_cons (ps_expr (pe_aei T.bx_BreakerError rfl T.n_BreakerError rfl (pa_cons (pe_var (i := 0) rfl (.inl rfl) rfl rfl) (pa_cons pe_str pa_nil rfl) rfl) rfl rfl rfl) rfl) (pss_cons (ps_aes (pe_var (i := 0) rfl (.inl rfl) rfl rfl) (pe_var (i := 1) rfl (.inl rfl) rfl rfl) rfl) pss_nil), xin1 T.ax_InvalidLog T.tx_InvalidLog_at h⟩
abbrev s_is_entry : Stmt := topS 23
theorem sc_is_entry : FnScope ["value"] ["value"] (defScope s_is_entry) := ⟨rfl, rfl, rfl, by decide +kernel, rfl, by decide +kernel, by decide +kernel⟩
theorem ok_is_entry {k : Nat} {f : Addr} {fd : FuncData} (T : Txt g mg) (F : Fun g.K "is_entry" "is_entry" s_is_entry f fd) (c_is_integer : Cal P w mg base g k "is_integer" 1 F_is_integer) : FnOk P w g.K mg base CX0 (k + 1) f fd ["value"] (spF g 1 F_is_entry) := by
  refine def_fn (fs := [F_is_integer]) F sc_is_entry rfl rfl T.tt fun cdv A outer s H E hr C => ?_
  exact (ss_cons (s_ite (PW.pt (w_or (t_not (t_val C (p_isi (t := .tuple) C (k_var 0 rfl (by first | exact .inl rfl | exact .inr (.inl rfl) | exact .inr (.inr rfl)) rfl rfl) (ty_tuple (T.z_tuple) rfl) rfl (T.z_isinstance) rfl rfl) (fun _ => rfl))) (w_or (t_cmp (op := .ne) C (k_len C (a_cons (k_var 0 rfl (by first | exact .inl rfl | exact .inr (.inl rfl) | exact .inr (.inr rfl)) rfl rfl) a_nil rfl) rfl rfl (T.z_len) rfl) (k_int C) rfl) (w_or1 (t_not (t_val C (p_isi (t := .bool) C (p_ix C (k_var 0 rfl (by first | exact .inl rfl | exact .inr (.inl rfl) | exact .inr (.inr rfl)) rfl rfl) (k_int C) (fun _ _ => rfl)) (ty_bool (T.z_bool) rfl) rfl (T.z_isinstance) rfl rfl) (fun _ => rfl))))))) (ss_cons (s_ret (k_bl C))
  ss_nil) ss_nil)
  (ss_cons (s_ret (p_and C (c_call c_is_integer C rfl rfl hr rfl (aw_cons (p_ix C (k_var 0 rfl (by first | exact .inl rfl | exact .inr (.inl rfl) | exact .inr (.inr rfl)) rfl rfl) (k_int C) (fun _ _ => rfl)) aw_nil rfl) rfl rfl rfl) (p_one (p_cmp (op := .ge) C (p_ix C (k_var 0 rfl (by first | exact .inl rfl | exact .inr (.inl rfl) | exact .inr (.inr rfl)) rfl rfl) (k_int C) (fun _ _ => rfl)) (k_int C) rfl))))
  ss_nil))
abbrev s_check_log_x : Stmt := topS 24
theorem sc_check_log_x : FnScope ["log", "at", "entry"] ["log"] (defScope s_check_log_x) := ⟨rfl, rfl, rfl, by decide +kernel, rfl, by decide +kernel, by decide +kernel⟩
theorem ok_check_log_x {k : Nat} {f : Addr} {fd : FuncData} (T : Txt g mg) (F : Fun g.K "check_log" "check_log" s_check_log_x f fd) (xc_InvalidLog : XCls P w mg base g k 15 "InvalidLog" ["at"]) (c_is_entry : Cal P w mg base g k "is_entry" 1 F_is_entry) : FnOk P w g.K mg base (L2.CX P w) (k + 2) f fd ["log"] (spX g 1 F_check_log_x) := by
  refine def_fnX (fs := [F_is_entry]) F sc_check_log_x rfl rfl T.tt fun cdv A outer s H E hr1 C tk hp => ?_
  have hr := hr1.mono (Nat.le_succ k)
  exact (ss_cons (s_ite (PW.pt (w_or (t_not (t_val C (p_isi (t := .list) C (k_var 0 rfl (by first | exact .inl rfl | exact .inr (.inl rfl) | exact .inr (.inr rfl)) rfl rfl) (ty_list (T.z_list) rfl) rfl (T.z_isinstance) rfl rfl) (fun _ => rfl))) (w_or1 (t_cmp (op := .gt) C (k_len C (a_cons (k_var 0 rfl (by first | exact .inl rfl | exact .inr (.inl rfl) | exact .inr (.inr rfl)) rfl rfl) a_nil rfl) rfl rfl (T.z_len) rfl) (k_gint C T.g_MOST_ENTRIES rfl rfl) rfl)))) (ss_cons (s_rse xc_InvalidLog C tk hr1 rfl (a_cons (p_neg (k_int C)) a_nil rfl) rfl rfl rfl (by decide))
  ss_nil) ss_nil)
  (ss_cons (s_for C hp (i_enum C rfl (T.z_enumerate) (a_cons (k_var 0 rfl (by first | exact .inl rfl | exact .inr (.inl rfl) | exact .inr (.inr rfl)) rfl rfl) a_nil rfl) rfl) (tgp C (tgs_cons (tg_nm (pg_name (i := 1) C.nd rfl (by first | exact .inl rfl | exact .inr rfl) (by first | exact .inr rfl | exact .inl rfl))) (tgs_cons (tg_nm (pg_name (i := 2) C.nd rfl (by first | exact .inl rfl | exact .inr rfl) (by first | exact .inr rfl | exact .inl rfl))) tgs_nil rfl) rfl) rfl rfl) (ss_cons (s_ite (PW.pt (w_or (t_not (t_val C (c_call c_is_entry C rfl rfl hr rfl (aw_cons (k_var 2 rfl (by first | exact .inl rfl | exact .inr (.inl rfl) | exact .inr (.inr rfl)) rfl rfl) aw_nil rfl) rfl rfl rfl) (fun _ => rfl))) (w_or1 (PW.pt (w_and (t_cmp (op := .gt) C (k_var 1 rfl (by first | exact .inl rfl | exact .inr (.inl rfl) | exact .inr (.inr rfl)) rfl rfl) (k_int C) rfl) (w_and1 (t_cmp (op := .le) C (p_ix C (k_var 2 rfl (by first | exact .inl rfl | exact .inr (.inl rfl) | exact .inr (.inr rfl)) rfl rfl) (k_int C) (fun _ _ => rfl)) (p_ix C (p_ix C (k_var 0 rfl (by first | exact .inl rfl | exact .inr (.inl rfl) | exact .inr (.inr rfl)) rfl rfl) (p_bin (op := .sub) C (k_var 1 rfl (by first | exact .inl rfl | exact .inr (.inl rfl) | exact .inr (.inr rfl)) rfl rfl) (k_int C)) (fun _ _ => rfl)) (k_int C) (fun _ _ => rfl)) rfl))))))) (ss_cons (s_rse xc_InvalidLog C tk hr1 rfl (a_cons (k_var 1 rfl (by first | exact .inl rfl | exact .inr (.inl rfl) | exact .inr (.inr rfl)) rfl rfl) a_nil rfl) rfl rfl rfl (by decide))
  ss_nil) ss_nil)
  ss_nil) (fun _ => rfl))
  ss_nil))
abbrev s_first_passes : Stmt := topS 26
theorem sc_first_passes : FnScope ["log", "found"] ["log"] (defScope s_first_passes) := ⟨rfl, rfl, rfl, by decide +kernel, rfl, by decide +kernel, by decide +kernel⟩
theorem ok_first_passes {k : Nat} {f : Addr} {fd : FuncData} (T : Txt g mg) (F : Fun g.K "first_passes" "first_passes" s_first_passes f fd)  : FnOk P w g.K mg base CX0 (k + 1) f fd ["log"] (spF g 1 F_first_passes) := by
  refine def_fn (fs := []) F sc_first_passes rfl rfl T.tt fun cdv A outer s H E hr C => ?_
  exact (ss_cons (s_asgO (i := 1) C rfl (by first | exact .inl rfl | exact .inr rfl) (k_int C) rfl (by first | exact .inr rfl | exact .inl rfl))
  (ss_cons (s_whl PassesOwn.never (PW.pt (w_and (t_cmp (op := .lt) C (k_var 1 rfl (by first | exact .inl rfl | exact .inr (.inl rfl) | exact .inr (.inr rfl)) rfl rfl) (k_len C (a_cons (k_var 0 rfl (by first | exact .inl rfl | exact .inr (.inl rfl) | exact .inr (.inr rfl)) rfl rfl) a_nil rfl) rfl rfl (T.z_len) rfl) rfl) (w_and1 (t_val C (p_ix C (p_ix C (k_var 0 rfl (by first | exact .inl rfl | exact .inr (.inl rfl) | exact .inr (.inr rfl)) rfl rfl) (k_var 1 rfl (by first | exact .inl rfl | exact .inr (.inl rfl) | exact .inr (.inr rfl)) rfl rfl) (fun _ _ => rfl)) (k_int C) (fun _ _ => rfl)) (fun _ => rfl))))) (ss_cons (s_asgO (i := 1) C rfl (by first | exact .inl rfl | exact .inr rfl) (p_bin (op := .add) C (k_var 1 rfl (by first | exact .inl rfl | exact .inr (.inl rfl) | exact .inr (.inr rfl)) rfl rfl) (k_int C)) rfl (by first | exact .inr rfl | exact .inl rfl))
  ss_nil))
  (ss_cons (s_ret (k_var 1 rfl (by first | exact .inl rfl | exact .inr (.inl rfl) | exact .inr (.inr rfl)) rfl rfl))
  ss_nil)))
abbrev s_later_bounds : Stmt := topS 27
theorem sc_later_bounds : FnScope ["log", "begun", "at", "low", "high", "since", "time", "is_passed"] ["log"] (defScope s_later_bounds) := ⟨rfl, rfl, rfl, by decide +kernel, rfl, by decide +kernel, by decide +kernel⟩
theorem ok_later_bounds {k : Nat} {f : Addr} {fd : FuncData} (T : Txt g mg) (F : Fun g.K "later_bounds" "later_bounds" s_later_bounds f fd) (c_first_passes : Cal P w mg base g k "first_passes" 1 F_first_passes) : FnOk P w g.K mg base CX0 (k + 1) f fd ["log"] (spF g 1 F_later_bounds) := by
  refine def_fn (fs := [F_first_passes]) F sc_later_bounds rfl rfl T.tt fun cdv A outer s H E hr C => ?_
  exact (ss_cons (s_asgO (i := 1) C rfl (by first | exact .inl rfl | exact .inr rfl) (c_call c_first_passes C rfl rfl hr rfl (aw_cons (k_var 0 rfl (by first | exact .inl rfl | exact .inr (.inl rfl) | exact .inr (.inr rfl)) rfl rfl) aw_nil rfl) rfl rfl rfl) rfl (by first | exact .inr rfl | exact .inl rfl))
  (ss_cons (s_ite (t_cmp (op := .eq) C (k_var 1 rfl (by first | exact .inl rfl | exact .inr (.inl rfl) | exact .inr (.inr rfl)) rfl rfl) (k_int C) rfl) (ss_cons (s_ret (p_tup C (a_cons (k_int C) (a_cons (k_gint C T.g_MOST_WAIT rfl rfl) (a_cons (p_ite (t_cmp (op := .eq) C (k_var 0 rfl (by first | exact .inl rfl | exact .inr (.inl rfl) | exact .inr (.inr rfl)) rfl rfl) (p_lst C a_nil) rfl) (k_non C) (k_int C)) a_nil rfl) rfl) rfl)))
  ss_nil) ss_nil)
  (ss_cons (s_par3 (i := 3) (j := 4) (l := 5) C rfl rfl rfl (by decide) (by decide) (by decide) rfl rfl rfl (an_cons C (k_int C) (an_cons C (k_gint C T.g_MOST_WAIT rfl rfl) (an_cons C (p_ix C (p_ix C (k_var 0 rfl (by first | exact .inl rfl | exact .inr (.inl rfl) | exact .inr (.inr rfl)) rfl rfl) (p_bin (op := .sub) C (k_var 1 rfl (by first | exact .inl rfl | exact .inr (.inl rfl) | exact .inr (.inr rfl)) rfl rfl) (k_int C)) (fun _ _ => rfl)) (k_int C) (fun _ _ => rfl)) an_nil rfl) rfl) rfl) rfl rfl)
  (ss_cons (s_for C PassesOwn.never (i_rng2 C rfl (T.z_range) (a_cons (k_var 1 rfl (by first | exact .inl rfl | exact .inr (.inl rfl) | exact .inr (.inr rfl)) rfl rfl) (a_cons (k_len C (a_cons (k_var 0 rfl (by first | exact .inl rfl | exact .inr (.inl rfl) | exact .inr (.inr rfl)) rfl rfl) a_nil rfl) rfl rfl (T.z_len) rfl) a_nil rfl) rfl) rfl rfl) (tg_nm (pg_name (i := 2) C.nd rfl (by first | exact .inl rfl | exact .inr rfl) (by first | exact .inr rfl | exact .inl rfl))) (ss_cons (s_asg (p_ix C (k_var 0 rfl (by first | exact .inl rfl | exact .inr (.inl rfl) | exact .inr (.inr rfl)) rfl rfl) (k_var 2 rfl (by first | exact .inl rfl | exact .inr (.inl rfl) | exact .inr (.inr rfl)) rfl rfl) (fun _ _ => rfl)) (tgp C (tgs_cons (tg_nm (pg_name (i := 6) C.nd rfl (by first | exact .inl rfl | exact .inr rfl) (by first | exact .inr rfl | exact .inl rfl))) (tgs_cons (tg_nm (pg_name (i := 7) C.nd rfl (by first | exact .inl rfl | exact .inr rfl) (by first | exact .inr rfl | exact .inl rfl))) tgs_nil rfl) rfl) rfl rfl) rfl rfl rfl)
  (ss_cons (s_ite (t_val C (k_var 7 rfl (by first | exact .inl rfl | exact .inr (.inl rfl) | exact .inr (.inr rfl)) rfl rfl) (fun _ => rfl)) (ss_cons (s_par2 (i := 4) (j := 5) C rfl rfl (by decide) rfl rfl (an_cons C (k_min2 C (a_cons (k_var 4 rfl (by first | exact .inl rfl | exact .inr (.inl rfl) | exact .inr (.inr rfl)) rfl rfl) (a_cons (p_bin (op := .sub) C (k_var 6 rfl (by first | exact .inl rfl | exact .inr (.inl rfl) | exact .inr (.inr rfl)) rfl rfl) (k_var 5 rfl (by first | exact .inl rfl | exact .inr (.inl rfl) | exact .inr (.inr rfl)) rfl rfl)) a_nil rfl) rfl) rfl rfl (T.z_min) rfl) (an_cons C (k_var 6 rfl (by first | exact .inl rfl | exact .inr (.inl rfl) | exact .inr (.inr rfl)) rfl rfl) an_nil rfl) rfl) rfl rfl)
  ss_nil) (ss_cons (s_asgO (i := 3) C rfl (by first | exact .inl rfl | exact .inr rfl) (k_max2 C (a_cons (k_var 3 rfl (by first | exact .inl rfl | exact .inr (.inl rfl) | exact .inr (.inr rfl)) rfl rfl) (a_cons (p_bin (op := .add) C (p_bin (op := .sub) C (k_var 6 rfl (by first | exact .inl rfl | exact .inr (.inl rfl) | exact .inr (.inr rfl)) rfl rfl) (k_var 5 rfl (by first | exact .inl rfl | exact .inr (.inl rfl) | exact .inr (.inr rfl)) rfl rfl)) (k_int C)) a_nil rfl) rfl) rfl rfl (T.z_max) rfl) rfl (by first | exact .inr rfl | exact .inl rfl))
  ss_nil))
  (ss_cons (s_ite (t_cmp (op := .gt) C (k_var 3 rfl (by first | exact .inl rfl | exact .inr (.inl rfl) | exact .inr (.inr rfl)) rfl rfl) (k_var 4 rfl (by first | exact .inl rfl | exact .inr (.inl rfl) | exact .inr (.inr rfl)) rfl rfl) rfl) (ss_cons (s_ret (p_tup C (a_cons (k_var 3 rfl (by first | exact .inl rfl | exact .inr (.inl rfl) | exact .inr (.inr rfl)) rfl rfl) (a_cons (k_var 4 rfl (by first | exact .inl rfl | exact .inr (.inl rfl) | exact .inr (.inr rfl)) rfl rfl) (a_cons (k_var 2 rfl (by first | exact .inl rfl | exact .inr (.inl rfl) | exact .inr (.inr rfl)) rfl rfl) a_nil rfl) rfl) rfl)))
  ss_nil) ss_nil)
  ss_nil))) (fun _ => rfl))
  (ss_cons (s_ret (p_tup C (a_cons (k_var 3 rfl (by first | exact .inl rfl | exact .inr (.inl rfl) | exact .inr (.inr rfl)) rfl rfl) (a_cons (k_var 4 rfl (by first | exact .inl rfl | exact .inr (.inl rfl) | exact .inr (.inr rfl)) rfl rfl) (a_cons (k_non C) a_nil rfl) rfl) rfl)))
  ss_nil)))))
abbrev s_explanations_x : Stmt := topS 28
theorem sc_explanations_x : FnScope ["log", "failures", "low", "high", "conflict", "found", "begun"] ["log"] (defScope s_explanations_x) := ⟨rfl, rfl, rfl, by decide +kernel, rfl, by decide +kernel, by decide +kernel⟩
theorem ok_explanations_x {k : Nat} {f : Addr} {fd : FuncData} (T : Txt g mg) (F : Fun g.K "explanations" "explanations" s_explanations_x f fd) (cx_check_log_x : CalX P w mg base g k "check_log" 1 F_check_log_x) (c_later_bounds : Cal P w mg base g k "later_bounds" 1 F_later_bounds) (c_first_passes : Cal P w mg base g k "first_passes" 1 F_first_passes) : FnOk P w g.K mg base (L2.CX P w) (k + 1) f fd ["log"] (spX g 1 F_explanations_x) := by
  refine def_fnX (fs := [F_check_log_x, F_later_bounds, F_first_passes]) F sc_explanations_x rfl rfl T.tt fun cdv A outer s H E hr C tk hp => ?_
  exact (ss_cons (sx_drop (cx_call cx_check_log_x C tk rfl rfl hr rfl (aw_cons (k_var 0 rfl (by first | exact .inl rfl | exact .inr (.inl rfl) | exact .inr (.inr rfl)) rfl rfl) aw_nil rfl) rfl rfl rfl) rfl)
  (ss_cons (s_asg (c_call c_later_bounds C rfl rfl hr rfl (aw_cons (k_var 0 rfl (by first | exact .inl rfl | exact .inr (.inl rfl) | exact .inr (.inr rfl)) rfl rfl) aw_nil rfl) rfl rfl rfl) (tgp C (tgs_cons (tg_nm (pg_name (i := 2) C.nd rfl (by first | exact .inl rfl | exact .inr rfl) (by first | exact .inr rfl | exact .inl rfl))) (tgs_cons (tg_nm (pg_name (i := 3) C.nd rfl (by first | exact .inl rfl | exact .inr rfl) (by first | exact .inr rfl | exact .inl rfl))) (tgs_cons (tg_nm (pg_name (i := 4) C.nd rfl (by first | exact .inl rfl | exact .inr rfl) (by first | exact .inr rfl | exact .inl rfl))) tgs_nil rfl) rfl) rfl) rfl rfl) rfl rfl rfl)
  (ss_cons (s_ite (t_cmp (op := .isnot) C (k_var 4 rfl (by first | exact .inl rfl | exact .inr (.inl rfl) | exact .inr (.inr rfl)) rfl rfl) (k_non C) rfl) (ss_cons (s_ret (p_lst C a_nil))
  ss_nil) ss_nil)
  (ss_cons (s_par2 (i := 5) (j := 6) C rfl rfl (by decide) rfl rfl (an_cons C (p_lst C a_nil) (an_cons C (c_call c_first_passes C rfl rfl hr rfl (aw_cons (k_var 0 rfl (by first | exact .inl rfl | exact .inr (.inl rfl) | exact .inr (.inr rfl)) rfl rfl) aw_nil rfl) rfl rfl rfl) an_nil rfl) rfl) rfl rfl)
  (ss_cons (s_for C hp (i_rng3 C rfl (T.z_range) (a_cons (k_max2 C (a_cons (k_int C) (a_cons (k_var 6 rfl (by first | exact .inl rfl | exact .inr (.inl rfl) | exact .inr (.inr rfl)) rfl rfl) a_nil rfl) rfl) rfl rfl (T.z_max) rfl) (a_cons (k_int C) (a_cons (p_neg (k_int C)) a_nil rfl) rfl) rfl) rfl rfl) (tg_nm (pg_name (i := 1) C.nd rfl (by first | exact .inl rfl | exact .inr rfl) (by first | exact .inr rfl | exact .inl rfl))) (ss_cons (s_ite (t_cmp (op := .lt) C (k_var 1 rfl (by first | exact .inl rfl | exact .inr (.inl rfl) | exact .inr (.inr rfl)) rfl rfl) (k_var 6 rfl (by first | exact .inl rfl | exact .inr (.inl rfl) | exact .inr (.inr rfl)) rfl rfl) rfl) (ss_cons (s_asgO (i := 3) C rfl (by first | exact .inl rfl | exact .inr rfl) (k_min2 C (a_cons (k_var 3 rfl (by first | exact .inl rfl | exact .inr (.inl rfl) | exact .inr (.inr rfl)) rfl rfl) (a_cons (p_bin (op := .sub) C (p_ix C (p_ix C (k_var 0 rfl (by first | exact .inl rfl | exact .inr (.inl rfl) | exact .inr (.inr rfl)) rfl rfl) (k_var 1 rfl (by first | exact .inl rfl | exact .inr (.inl rfl) | exact .inr (.inr rfl)) rfl rfl) (fun _ _ => rfl)) (k_int C) (fun _ _ => rfl)) (p_ix C (p_ix C (k_var 0 rfl (by first | exact .inl rfl | exact .inr (.inl rfl) | exact .inr (.inr rfl)) rfl rfl) (p_bin (op := .sub) C (k_var 1 rfl (by first | exact .inl rfl | exact .inr (.inl rfl) | exact .inr (.inr rfl)) rfl rfl) (k_int C)) (fun _ _ => rfl)) (k_int C) (fun _ _ => rfl))) a_nil rfl) rfl) rfl rfl (T.z_min) rfl) rfl (by first | exact .inr rfl | exact .inl rfl))
  ss_nil) ss_nil)
  (ss_cons (s_ite (t_cmp (op := .le) C (k_var 2 rfl (by first | exact .inl rfl | exact .inr (.inl rfl) | exact .inr (.inr rfl)) rfl rfl) (k_var 3 rfl (by first | exact .inl rfl | exact .inr (.inl rfl) | exact .inr (.inr rfl)) rfl rfl) rfl) (ss_cons (s_app C (pe_var (i := 5) rfl (by first | exact .inl rfl | exact .inr (.inl rfl) | exact .inr (.inr rfl)) rfl rfl) (p_tup C (a_cons (k_var 1 rfl (by first | exact .inl rfl | exact .inr (.inl rfl) | exact .inr (.inr rfl)) rfl rfl) (a_cons (k_var 2 rfl (by first | exact .inl rfl | exact .inr (.inl rfl) | exact .inr (.inr rfl)) rfl rfl) (a_cons (k_var 3 rfl (by first | exact .inl rfl | exact .inr (.inl rfl) | exact .inr (.inr rfl)) rfl rfl) a_nil rfl) rfl) rfl)) rfl rfl rfl rfl)
  ss_nil) ss_nil)
  ss_nil)) (fun _ => rfl))
  (ss_cons (s_ret (p_rev C (k_var 5 rfl (by first | exact .inl rfl | exact .inr (.inl rfl) | exact .inr (.inr rfl)) rfl rfl)))
  ss_nil))))))
abbrev s_first_conflict_x : Stmt := topS 29
theorem sc_first_conflict_x : FnScope ["log"] ["log"] (defScope s_first_conflict_x) := ⟨rfl, rfl, rfl, by decide +kernel, rfl, by decide +kernel, by decide +kernel⟩
theorem ok_first_conflict_x {k : Nat} {f : Addr} {fd : FuncData} (T : Txt g mg) (F : Fun g.K "first_conflict" "first_conflict" s_first_conflict_x f fd) (cx_check_log_x : CalX P w mg base g k "check_log" 1 F_check_log_x) (c_later_bounds : Cal P w mg base g k "later_bounds" 1 F_later_bounds) : FnOk P w g.K mg base (L2.CX P w) (k + 1) f fd ["log"] (spX g 1 F_first_conflict_x) := by
  refine def_fnX (fs := [F_check_log_x, F_later_bounds]) F sc_first_conflict_x rfl rfl T.tt fun cdv A outer s H E hr C tk hp => ?_
  exact (ss_cons (sx_drop (cx_call cx_check_log_x C tk rfl rfl hr rfl (aw_cons (k_var 0 rfl (by first | exact .inl rfl | exact .inr (.inl rfl) | exact .inr (.inr rfl)) rfl rfl) aw_nil rfl) rfl rfl rfl) rfl)
  (ss_cons (s_ret (p_ix C (c_call c_later_bounds C rfl rfl hr rfl (aw_cons (k_var 0 rfl (by first | exact .inl rfl | exact .inr (.inl rfl) | exact .inr (.inr rfl)) rfl rfl) aw_nil rfl) rfl rfl rfl) (k_int C) (fun _ _ => rfl)))
  ss_nil))
abbrev s_InvalidTime___init__ : Stmt := inClass (topS 3) 0
theorem sc_InvalidTime___init__ : FnScope ["self", "time"] ["self", "time"] (defScope s_InvalidTime___init__) := ⟨rfl, rfl, rfl, by decide +kernel, rfl, by decide +kernel, by decide +kernel⟩
theorem ok_InvalidTime___init__ {k : Nat} {f : Addr} {fd : FuncData} (T : Txt g mg) (F : Fun g.K "__init__" "InvalidTime.__init__" s_InvalidTime___init__ f fd) : FnOk P w g.K mg base CX0 (k + 1) f fd ["self", "time"] (spI g 10 ["time"]) := by
  refine F.ok sc_InvalidTime___init__ (fun vs H Q E h => spI_len h) fun cdv A outer s H vs Q E hr h => ?_
  exact ⟨_, pss_cons (ps_expr (pe_aei T.bx_BreakerError rfl T.n_BreakerError rfl (pa_cons (pe_var (i := 0) rfl (.inl rfl) rfl rfl) (pa_cons pe_str pa_nil rfl) rfl) rfl rfl rfl) rfl) (pss_cons (ps_aes (pe_var (i := 0) rfl (.inl rfl) rfl rfl) (pe_var (i := 1) rfl (.inl rfl) rfl rfl) rfl) pss_nil), xin1 T.ax_InvalidTime T.tx_InvalidTime_time h⟩
abbrev s_forecast_x : Stmt := topS 30
theorem sc_forecast_x : FnScope ["log", "time", "since", "can_pass", "low", "high", "conflict", "entry"] ["log", "time"] (defScope s_forecast_x) := ⟨rfl, rfl, rfl, by decide +kernel, rfl, by decide +kernel, by decide +kernel⟩
theorem ok_forecast_x {k : Nat} {f : Addr} {fd : FuncData} (T : Txt g mg) (F : Fun g.K "forecast" "forecast" s_forecast_x f fd) (cx_check_log_x : CalX P w mg base g k "check_log" 1 F_check_log_x) (c_is_integer : Cal P w mg base g k "is_integer" 1 F_is_integer) (xc_InvalidTime : XCls P w mg base g k 10 "InvalidTime" ["time"]) (c_later_bounds : Cal P w mg base g k "later_bounds" 1 F_later_bounds) (xc_InvalidLog : XCls P w mg base g k 15 "InvalidLog" ["at"]) (c_first_passes : Cal P w mg base g k "first_passes" 1 F_first_passes) : FnOk P w g.K mg base (L2.CX P w) (k + 2) f fd ["log", "time"] (spX g 2 F_forecast_x) := by
  refine def_fnX (fs := [F_check_log_x, F_is_integer, F_later_bounds, F_first_passes]) F sc_forecast_x rfl rfl T.tt fun cdv A outer s H E hr1 C tk hp => ?_
  have hr := hr1.mono (Nat.le_succ k)
  exact (ss_cons (sx_drop (cx_call cx_check_log_x C tk rfl rfl hr rfl (aw_cons (k_var 0 rfl (by first | exact .inl rfl | exact .inr (.inl rfl) | exact .inr (.inr rfl)) rfl rfl) aw_nil rfl) rfl rfl rfl) rfl)
  (ss_cons (s_ite (PW.pt (w_or (t_not (t_val C (c_call c_is_integer C rfl rfl hr rfl (aw_cons (k_var 1 rfl (by first | exact .inl rfl | exact .inr (.inl rfl) | exact .inr (.inr rfl)) rfl rfl) aw_nil rfl) rfl rfl rfl) (fun _ => rfl))) (w_or (t_cmp (op := .lt) C (k_var 1 rfl (by first | exact .inl rfl | exact .inr (.inl rfl) | exact .inr (.inr rfl)) rfl rfl) (k_int C) rfl) (w_or1 (PW.pt (w_and (t_cmp (op := .ne) C (k_var 0 rfl (by first | exact .inl rfl | exact .inr (.inl rfl) | exact .inr (.inr rfl)) rfl rfl) (p_lst C a_nil) rfl) (w_and1 (t_cmp (op := .le) C (k_var 1 rfl (by first | exact .inl rfl | exact .inr (.inl rfl) | exact .inr (.inr rfl)) rfl rfl) (p_ix C (p_ix C (k_var 0 rfl (by first | exact .inl rfl | exact .inr (.inl rfl) | exact .inr (.inr rfl)) rfl rfl) (p_neg (k_int C)) (fun _ _ => rfl)) (k_int C) (fun _ _ => rfl)) rfl)))))))) (ss_cons (s_rse xc_InvalidTime C tk hr1 rfl (a_cons (k_var 1 rfl (by first | exact .inl rfl | exact .inr (.inl rfl) | exact .inr (.inr rfl)) rfl rfl) a_nil rfl) rfl rfl rfl (by decide))
  ss_nil) ss_nil)
  (ss_cons (s_asg (c_call c_later_bounds C rfl rfl hr rfl (aw_cons (k_var 0 rfl (by first | exact .inl rfl | exact .inr (.inl rfl) | exact .inr (.inr rfl)) rfl rfl) aw_nil rfl) rfl rfl rfl) (tgp C (tgs_cons (tg_nm (pg_name (i := 4) C.nd rfl (by first | exact .inl rfl | exact .inr rfl) (by first | exact .inr rfl | exact .inl rfl))) (tgs_cons (tg_nm (pg_name (i := 5) C.nd rfl (by first | exact .inl rfl | exact .inr rfl) (by first | exact .inr rfl | exact .inl rfl))) (tgs_cons (tg_nm (pg_name (i := 6) C.nd rfl (by first | exact .inl rfl | exact .inr rfl) (by first | exact .inr rfl | exact .inl rfl))) tgs_nil rfl) rfl) rfl) rfl rfl) rfl rfl rfl)
  (ss_cons (s_ite (t_cmp (op := .isnot) C (k_var 6 rfl (by first | exact .inl rfl | exact .inr (.inl rfl) | exact .inr (.inr rfl)) rfl rfl) (k_non C) rfl) (ss_cons (s_rse xc_InvalidLog C tk hr1 rfl (a_cons (k_var 6 rfl (by first | exact .inl rfl | exact .inr (.inl rfl) | exact .inr (.inr rfl)) rfl rfl) a_nil rfl) rfl rfl rfl (by decide))
  ss_nil) ss_nil)
  (ss_cons (s_ite (t_cmp (op := .eq) C (k_var 0 rfl (by first | exact .inl rfl | exact .inr (.inl rfl) | exact .inr (.inr rfl)) rfl rfl) (p_lst C a_nil) rfl) (ss_cons (s_ret (k_str C))
  ss_nil) ss_nil)
  (ss_cons (s_asgO (i := 2) C rfl (by first | exact .inl rfl | exact .inr rfl) (k_maxl C (a_cons (p_comp C (i_seq C (k_var 0 rfl (by first | exact .inl rfl | exact .inr (.inl rfl) | exact .inr (.inr rfl)) rfl rfl)) (blkOk_by (own := [("entry", 7)]) rfl) (fun _ _ _ _ _ => (tg_nm (pg_name (i := 7) (C.blk _ _ _ _ _).nd rfl (by first | exact .inl rfl | exact .inr rfl) (by first | exact .inr rfl | exact .inl rfl)))) (fun _ _ _ _ _ => (c_one (t_val (by first | exact ((C.blk _ _ _ _ _)).c0 | exact (C.blk _ _ _ _ _)) (p_ix (by first | exact ((C.blk _ _ _ _ _)).c0 | exact (C.blk _ _ _ _ _)) (k_var 7 rfl (by first | exact .inl rfl | exact .inr (.inl rfl) | exact .inr (.inr rfl)) rfl rfl) (k_int (by first | exact ((C.blk _ _ _ _ _)).c0 | exact (C.blk _ _ _ _ _))) (fun _ _ => rfl)) (fun _ => rfl)))) (fun _ _ _ _ _ => (p_ix (by first | exact ((C.blk _ _ _ _ _)).c0 | exact (C.blk _ _ _ _ _)) (k_var 7 rfl (by first | exact .inl rfl | exact .inr (.inl rfl) | exact .inr (.inr rfl)) rfl rfl) (k_int (by first | exact ((C.blk _ _ _ _ _)).c0 | exact (C.blk _ _ _ _ _))) (fun _ _ => rfl))) (fun _ => rfl)) a_nil rfl) rfl rfl (T.z_max) rfl) rfl (by first | exact .inr rfl | exact .inl rfl))
  (ss_cons (s_asgO (i := 3) C rfl (by first | exact .inl rfl | exact .inr rfl) (p_or C (p_cmp (op := .eq) C (c_call c_first_passes C rfl rfl hr rfl (aw_cons (k_var 0 rfl (by first | exact .inl rfl | exact .inr (.inl rfl) | exact .inr (.inr rfl)) rfl rfl) aw_nil rfl) rfl rfl rfl) (k_len C (a_cons (k_var 0 rfl (by first | exact .inl rfl | exact .inr (.inl rfl) | exact .inr (.inr rfl)) rfl rfl) a_nil rfl) rfl rfl (T.z_len) rfl) rfl) (p_one (p_cmp (op := .le) C (k_var 4 rfl (by first | exact .inl rfl | exact .inr (.inl rfl) | exact .inr (.inr rfl)) rfl rfl) (p_bin (op := .sub) C (k_var 1 rfl (by first | exact .inl rfl | exact .inr (.inl rfl) | exact .inr (.inr rfl)) rfl rfl) (k_var 2 rfl (by first | exact .inl rfl | exact .inr (.inl rfl) | exact .inr (.inr rfl)) rfl rfl)) rfl))) rfl (by first | exact .inr rfl | exact .inl rfl))
  (ss_cons (s_ite (t_not (t_val C (k_var 3 rfl (by first | exact .inl rfl | exact .inr (.inl rfl) | exact .inr (.inr rfl)) rfl rfl) (fun _ => rfl))) (ss_cons (s_ret (k_str C))
  ss_nil) ss_nil)
  (ss_cons (s_ret (p_ite (t_cmp (op := .gt) C (k_var 5 rfl (by first | exact .inl rfl | exact .inr (.inl rfl) | exact .inr (.inr rfl)) rfl rfl) (p_bin (op := .sub) C (k_var 1 rfl (by first | exact .inl rfl | exact .inr (.inl rfl) | exact .inr (.inr rfl)) rfl rfl) (k_var 2 rfl (by first | exact .inl rfl | exact .inr (.inl rfl) | exact .inr (.inr rfl)) rfl rfl)) rfl) (k_str C) (k_str C)))
  ss_nil)))))))))
abbrev s_check_log : Stmt := topS 24
theorem sc_check_log : FnScope ["log", "at", "entry"] ["log"] (defScope s_check_log) := ⟨rfl, rfl, rfl, by decide +kernel, rfl, by decide +kernel, by decide +kernel⟩
theorem ok_check_log {k : Nat} {f : Addr} {fd : FuncData} (T : Txt g mg) (F : Fun g.K "check_log" "check_log" s_check_log f fd) (c_is_entry : Cal P w mg base g k "is_entry" 1 F_is_entry) : FnOk P w g.K mg base CX0 (k + 1) f fd ["log"] (spF g 1 F_check_log) := by
  refine def_fn (fs := [F_is_entry]) F sc_check_log rfl rfl T.tt fun cdv A outer s H E hr C => ?_
  exact (ss_cons (s_ite (PW.pt (w_or (t_not (t_val C (p_isi (t := .list) C (k_var 0 rfl (by first | exact .inl rfl | exact .inr (.inl rfl) | exact .inr (.inr rfl)) rfl rfl) (ty_list (T.z_list) rfl) rfl (T.z_isinstance) rfl rfl) (fun _ => rfl))) (w_or1 (t_cmp (op := .gt) C (k_len C (a_cons (k_var 0 rfl (by first | exact .inl rfl | exact .inr (.inl rfl) | exact .inr (.inr rfl)) rfl rfl) a_nil rfl) rfl rfl (T.z_len) rfl) (k_gint C T.g_MOST_ENTRIES rfl rfl) rfl)))) (ss_cons s_stuck
  ss_nil) ss_nil)
  (ss_cons (s_for C PassesOwn.never (i_enum C rfl (T.z_enumerate) (a_cons (k_var 0 rfl (by first | exact .inl rfl | exact .inr (.inl rfl) | exact .inr (.inr rfl)) rfl rfl) a_nil rfl) rfl) (tgp C (tgs_cons (tg_nm (pg_name (i := 1) C.nd rfl (by first | exact .inl rfl | exact .inr rfl) (by first | exact .inr rfl | exact .inl rfl))) (tgs_cons (tg_nm (pg_name (i := 2) C.nd rfl (by first | exact .inl rfl | exact .inr rfl) (by first | exact .inr rfl | exact .inl rfl))) tgs_nil rfl) rfl) rfl rfl) (ss_cons (s_ite (PW.pt (w_or (t_not (t_val C (c_call c_is_entry C rfl rfl hr rfl (aw_cons (k_var 2 rfl (by first | exact .inl rfl | exact .inr (.inl rfl) | exact .inr (.inr rfl)) rfl rfl) aw_nil rfl) rfl rfl rfl) (fun _ => rfl))) (w_or1 (PW.pt (w_and (t_cmp (op := .gt) C (k_var 1 rfl (by first | exact .inl rfl | exact .inr (.inl rfl) | exact .inr (.inr rfl)) rfl rfl) (k_int C) rfl) (w_and1 (t_cmp (op := .le) C (p_ix C (k_var 2 rfl (by first | exact .inl rfl | exact .inr (.inl rfl) | exact .inr (.inr rfl)) rfl rfl) (k_int C) (fun _ _ => rfl)) (p_ix C (p_ix C (k_var 0 rfl (by first | exact .inl rfl | exact .inr (.inl rfl) | exact .inr (.inr rfl)) rfl rfl) (p_bin (op := .sub) C (k_var 1 rfl (by first | exact .inl rfl | exact .inr (.inl rfl) | exact .inr (.inr rfl)) rfl rfl) (k_int C)) (fun _ _ => rfl)) (k_int C) (fun _ _ => rfl)) rfl))))))) (ss_cons s_stuck
  ss_nil) ss_nil)
  ss_nil) (fun _ => rfl))
  ss_nil))
abbrev s_explanations : Stmt := topS 28
theorem sc_explanations : FnScope ["log", "failures", "low", "high", "conflict", "found", "begun"] ["log"] (defScope s_explanations) := ⟨rfl, rfl, rfl, by decide +kernel, rfl, by decide +kernel, by decide +kernel⟩
theorem ok_explanations {k : Nat} {f : Addr} {fd : FuncData} (T : Txt g mg) (F : Fun g.K "explanations" "explanations" s_explanations f fd) (c_check_log : Cal P w mg base g k "check_log" 1 F_check_log) (c_later_bounds : Cal P w mg base g k "later_bounds" 1 F_later_bounds) (c_first_passes : Cal P w mg base g k "first_passes" 1 F_first_passes) : FnOk P w g.K mg base CX0 (k + 1) f fd ["log"] (spF g 1 F_explanations) := by
  refine def_fn (fs := [F_check_log, F_later_bounds, F_first_passes]) F sc_explanations rfl rfl T.tt fun cdv A outer s H E hr C => ?_
  exact (ss_cons (s_expr (c_call c_check_log C rfl rfl hr rfl (aw_cons (k_var 0 rfl (by first | exact .inl rfl | exact .inr (.inl rfl) | exact .inr (.inr rfl)) rfl rfl) aw_nil rfl) rfl rfl rfl) rfl)
  (ss_cons (s_asg (c_call c_later_bounds C rfl rfl hr rfl (aw_cons (k_var 0 rfl (by first | exact .inl rfl | exact .inr (.inl rfl) | exact .inr (.inr rfl)) rfl rfl) aw_nil rfl) rfl rfl rfl) (tgp C (tgs_cons (tg_nm (pg_name (i := 2) C.nd rfl (by first | exact .inl rfl | exact .inr rfl) (by first | exact .inr rfl | exact .inl rfl))) (tgs_cons (tg_nm (pg_name (i := 3) C.nd rfl (by first | exact .inl rfl | exact .inr rfl) (by first | exact .inr rfl | exact .inl rfl))) (tgs_cons (tg_nm (pg_name (i := 4) C.nd rfl (by first | exact .inl rfl | exact .inr rfl) (by first | exact .inr rfl | exact .inl rfl))) tgs_nil rfl) rfl) rfl) rfl rfl) rfl rfl rfl)
  (ss_cons (s_ite (t_cmp (op := .isnot) C (k_var 4 rfl (by first | exact .inl rfl | exact .inr (.inl rfl) | exact .inr (.inr rfl)) rfl rfl) (k_non C) rfl) (ss_cons (s_ret (p_lst C a_nil))
  ss_nil) ss_nil)
  (ss_cons (s_par2 (i := 5) (j := 6) C rfl rfl (by decide) rfl rfl (an_cons C (p_lst C a_nil) (an_cons C (c_call c_first_passes C rfl rfl hr rfl (aw_cons (k_var 0 rfl (by first | exact .inl rfl | exact .inr (.inl rfl) | exact .inr (.inr rfl)) rfl rfl) aw_nil rfl) rfl rfl rfl) an_nil rfl) rfl) rfl rfl)
  (ss_cons (s_for C PassesOwn.never (i_rng3 C rfl (T.z_range) (a_cons (k_max2 C (a_cons (k_int C) (a_cons (k_var 6 rfl (by first | exact .inl rfl | exact .inr (.inl rfl) | exact .inr (.inr rfl)) rfl rfl) a_nil rfl) rfl) rfl rfl (T.z_max) rfl) (a_cons (k_int C) (a_cons (p_neg (k_int C)) a_nil rfl) rfl) rfl) rfl rfl) (tg_nm (pg_name (i := 1) C.nd rfl (by first | exact .inl rfl | exact .inr rfl) (by first | exact .inr rfl | exact .inl rfl))) (ss_cons (s_ite (t_cmp (op := .lt) C (k_var 1 rfl (by first | exact .inl rfl | exact .inr (.inl rfl) | exact .inr (.inr rfl)) rfl rfl) (k_var 6 rfl (by first | exact .inl rfl | exact .inr (.inl rfl) | exact .inr (.inr rfl)) rfl rfl) rfl) (ss_cons (s_asgO (i := 3) C rfl (by first | exact .inl rfl | exact .inr rfl) (k_min2 C (a_cons (k_var 3 rfl (by first | exact .inl rfl | exact .inr (.inl rfl) | exact .inr (.inr rfl)) rfl rfl) (a_cons (p_bin (op := .sub) C (p_ix C (p_ix C (k_var 0 rfl (by first | exact .inl rfl | exact .inr (.inl rfl) | exact .inr (.inr rfl)) rfl rfl) (k_var 1 rfl (by first | exact .inl rfl | exact .inr (.inl rfl) | exact .inr (.inr rfl)) rfl rfl) (fun _ _ => rfl)) (k_int C) (fun _ _ => rfl)) (p_ix C (p_ix C (k_var 0 rfl (by first | exact .inl rfl | exact .inr (.inl rfl) | exact .inr (.inr rfl)) rfl rfl) (p_bin (op := .sub) C (k_var 1 rfl (by first | exact .inl rfl | exact .inr (.inl rfl) | exact .inr (.inr rfl)) rfl rfl) (k_int C)) (fun _ _ => rfl)) (k_int C) (fun _ _ => rfl))) a_nil rfl) rfl) rfl rfl (T.z_min) rfl) rfl (by first | exact .inr rfl | exact .inl rfl))
  ss_nil) ss_nil)
  (ss_cons (s_ite (t_cmp (op := .le) C (k_var 2 rfl (by first | exact .inl rfl | exact .inr (.inl rfl) | exact .inr (.inr rfl)) rfl rfl) (k_var 3 rfl (by first | exact .inl rfl | exact .inr (.inl rfl) | exact .inr (.inr rfl)) rfl rfl) rfl) (ss_cons (s_app C (pe_var (i := 5) rfl (by first | exact .inl rfl | exact .inr (.inl rfl) | exact .inr (.inr rfl)) rfl rfl) (p_tup C (a_cons (k_var 1 rfl (by first | exact .inl rfl | exact .inr (.inl rfl) | exact .inr (.inr rfl)) rfl rfl) (a_cons (k_var 2 rfl (by first | exact .inl rfl | exact .inr (.inl rfl) | exact .inr (.inr rfl)) rfl rfl) (a_cons (k_var 3 rfl (by first | exact .inl rfl | exact .inr (.inl rfl) | exact .inr (.inr rfl)) rfl rfl) a_nil rfl) rfl) rfl)) rfl rfl rfl rfl)
  ss_nil) ss_nil)
  ss_nil)) (fun _ => rfl))
  (ss_cons (s_ret (p_rev C (k_var 5 rfl (by first | exact .inl rfl | exact .inr (.inl rfl) | exact .inr (.inr rfl)) rfl rfl)))
  ss_nil))))))
abbrev s__law_logs_right : Stmt := topS 37
theorem sc__law_logs_right : FnScope ["_law_place", "_law_rows", "_law_long", "_law_asks", "_law_odd", "_law_at", "_law_ask", "_law_failures"] ["_law_place"] (defScope s__law_logs_right) := ⟨rfl, rfl, rfl, by decide +kernel, rfl, by decide +kernel, by decide +kernel⟩
theorem ok__law_logs_right {k : Nat} {f c : Addr} {oc kV dc pm ct : Value} {od an : Option Addr} {sl : Array (Option Value)} (T : Txt g mg) (lk : g.K.lookup f = some ⟨oc, od, .func (PySem.W.fnOf "_law_logs_right" "_law_logs_right" (defArgs s__law_logs_right) (defBody s__law_logs_right) (defScope s__law_logs_right) .none kV dc pm an (.ref c) ct), sl⟩) (hcd : PySem.W.codeIn g.K (.ref c) "_law_logs_right" = true) (hB : SmB base) (LT : LamT g base mg c "_law_logs_right") (td__law_said : Told g mg "_law_said" "_law_deed" s__law_said) (cx_explanations_x : CalX P w mg base g k "explanations" 1 F_explanations_x) (cx_first_conflict_x : CalX P w mg base g k "first_conflict" 1 F_first_conflict_x) (cx_forecast_x : CalX P w mg base g k "forecast" 2 F_forecast_x) (c_explanations : Cal P w mg base g k "explanations" 1 F_explanations) (c_log_of : Cal P w mg base g k "log_of" 2 F_log_of) : FnG P w g.K mg base CX0 (k + 3) f (PySem.W.fnOf "_law_logs_right" "_law_logs_right" (defArgs s__law_logs_right) (defBody s__law_logs_right) (defScope s__law_logs_right) .none kV dc pm an (.ref c) ct) ["_law_place"] (spF g 1 F__law_logs_right) := by
  refine def_fnG (c := 0) (fs := [F_explanations_x, F_first_conflict_x, F_forecast_x, F_explanations, F_log_of]) lk hcd sc__law_logs_right rfl rfl T.tt fun A outer s H E hgd hr3 C => ?_
  have hr := hr3.mono (show k ≤ k + 2 by omega)
  have hr1 := hr3.mono (show k + 1 ≤ k + 2 by omega)
  exact (ss_cons (s_asg (p_lst C (a_cons (p_tup C (a_cons (k_non C) (a_cons (p_neg (k_int C)) a_nil rfl) rfl)) (a_cons (p_tup C (a_cons (p_tup C (a_cons (p_tup C (a_cons (k_int C) (a_cons (k_bl C) a_nil rfl) rfl)) a_nil rfl)) (a_cons (p_neg (k_int C)) a_nil rfl) rfl)) (a_cons (p_tup C (a_cons (p_dct) (a_cons (p_neg (k_int C)) a_nil rfl) rfl)) (a_cons (p_tup C (a_cons (k_str C) (a_cons (p_neg (k_int C)) a_nil rfl) rfl)) (a_cons (p_tup C (a_cons (p_comp C (i_rng1 C rfl (T.z_range) (a_cons (k_int C) a_nil rfl) rfl) (blkOk_by (own := [("_law_at", 5)]) rfl) (fun _ _ _ _ _ => (tg_nm (pg_name (i := 5) (C.blk _ _ _ _ _).nd rfl (by first | exact .inl rfl | exact .inr rfl) (by first | exact .inr rfl | exact .inl rfl)))) (fun _ _ _ _ _ => c_nil) (fun _ _ _ _ _ => (p_tup (by first | exact ((C.blk _ _ _ _ _)).c0 | exact (C.blk _ _ _ _ _)) (a_cons (k_var 5 rfl (by first | exact .inl rfl | exact .inr (.inl rfl) | exact .inr (.inr rfl)) rfl rfl) (a_cons (k_bl (by first | exact ((C.blk _ _ _ _ _)).c0 | exact (C.blk _ _ _ _ _))) a_nil rfl) rfl))) (fun _ => rfl)) (a_cons (p_neg (k_int C)) a_nil rfl) rfl)) a_nil rfl) rfl) rfl) rfl) rfl)) (tg_nm (pg_name (i := 1) C.nd rfl (by first | exact .inl rfl | exact .inr rfl) (by first | exact .inr rfl | exact .inl rfl))) rfl rfl rfl)
  (ss_cons (s_asg (p_bin (op := .add) C (k_var 1 rfl (by first | exact .inl rfl | exact .inr (.inl rfl) | exact .inr (.inr rfl)) rfl rfl) (p_lst C (a_cons (p_tup C (a_cons (p_lst C (a_cons (k_non C) a_nil rfl)) (a_cons (k_int C) a_nil rfl) rfl)) (a_cons (p_tup C (a_cons (p_lst C (a_cons (p_tup C (a_cons (k_int C) (a_cons (k_bl C) a_nil rfl) rfl)) (a_cons (p_lst C (a_cons (k_int C) (a_cons (k_bl C) a_nil rfl) rfl)) a_nil rfl) rfl)) (a_cons (k_int C) a_nil rfl) rfl)) (a_cons (p_tup C (a_cons (p_lst C (a_cons (p_tup C (a_cons (k_int C) (a_cons (k_bl C) a_nil rfl) rfl)) (a_cons (p_tup C (a_cons (k_int C) (a_cons (k_bl C) a_nil rfl) rfl)) a_nil rfl) rfl)) (a_cons (k_int C) a_nil rfl) rfl)) (a_cons (p_tup C (a_cons (p_lst C (a_cons (p_tup C (a_cons (k_int C) (a_cons (k_bl C) a_nil rfl) rfl)) (a_cons (p_tup C (a_cons (k_int C) (a_cons (k_bl C) a_nil rfl) rfl)) a_nil rfl) rfl)) (a_cons (k_int C) a_nil rfl) rfl)) a_nil rfl) rfl) rfl) rfl))) (tg_nm (pg_name (i := 1) C.nd rfl (by first | exact .inl rfl | exact .inr rfl) (by first | exact .inr rfl | exact .inl rfl))) rfl rfl rfl)
  (ss_cons (s_asg (p_bin (op := .add) C (k_var 1 rfl (by first | exact .inl rfl | exact .inr (.inl rfl) | exact .inr (.inr rfl)) rfl rfl) (p_lst C (a_cons (p_tup C (a_cons (p_lst C (a_cons (p_tup C (a_cons (p_neg (k_int C)) (a_cons (k_bl C) a_nil rfl) rfl)) a_nil rfl)) (a_cons (k_int C) a_nil rfl) rfl)) (a_cons (p_tup C (a_cons (p_lst C (a_cons (p_tup C (a_cons (k_int C) (a_cons (k_int C) a_nil rfl) rfl)) a_nil rfl)) (a_cons (k_int C) a_nil rfl) rfl)) (a_cons (p_tup C (a_cons (p_lst C (a_cons (p_tup C (a_cons (k_int C) (a_cons (k_non C) a_nil rfl) rfl)) a_nil rfl)) (a_cons (k_int C) a_nil rfl) rfl)) (a_cons (p_tup C (a_cons (p_lst C (a_cons (p_tup C (a_cons (k_bl C) (a_cons (k_bl C) a_nil rfl) rfl)) a_nil rfl)) (a_cons (k_int C) a_nil rfl) rfl)) (a_cons (p_tup C (a_cons (p_lst C (a_cons (p_tup C (a_cons (k_int C) (a_cons (k_bl C) (a_cons (k_int C) a_nil rfl) rfl) rfl)) a_nil rfl)) (a_cons (k_int C) a_nil rfl) rfl)) a_nil rfl) rfl) rfl) rfl) rfl))) (tg_nm (pg_name (i := 1) C.nd rfl (by first | exact .inl rfl | exact .inr rfl) (by first | exact .inr rfl | exact .inl rfl))) rfl rfl rfl)
  (ss_cons (s_asg (p_bin (op := .add) C (k_var 1 rfl (by first | exact .inl rfl | exact .inr (.inl rfl) | exact .inr (.inr rfl)) rfl rfl) (p_lst C (a_cons (p_tup C (a_cons (p_lst C (a_cons (p_tup C (a_cons (k_str C) (a_cons (k_bl C) a_nil rfl) rfl)) a_nil rfl)) (a_cons (k_int C) a_nil rfl) rfl)) (a_cons (p_tup C (a_cons (p_lst C (a_cons (p_dct) a_nil rfl)) (a_cons (k_int C) a_nil rfl) rfl)) (a_cons (p_tup C (a_cons (p_lst C (a_cons (p_tup C (a_cons (k_int C) (a_cons (k_bl C) a_nil rfl) rfl)) (a_cons (p_tup C (a_cons (k_int C) (a_cons (k_str C) a_nil rfl) rfl)) a_nil rfl) rfl)) (a_cons (k_int C) a_nil rfl) rfl)) (a_cons (p_tup C (a_cons (p_lst C (a_cons (p_tup C (a_cons (p_lst C (a_cons (k_int C) a_nil rfl)) (a_cons (k_bl C) a_nil rfl) rfl)) a_nil rfl)) (a_cons (k_int C) a_nil rfl) rfl)) (a_cons (p_tup C (a_cons (p_lst C (a_cons (p_tup C (a_cons (k_int C) a_nil rfl)) a_nil rfl)) (a_cons (k_int C) a_nil rfl) rfl)) a_nil rfl) rfl) rfl) rfl) rfl))) (tg_nm (pg_name (i := 1) C.nd rfl (by first | exact .inl rfl | exact .inr rfl) (by first | exact .inr rfl | exact .inl rfl))) rfl rfl rfl)
  (ss_cons (s_for C PassesOwn.never (i_seq C (k_var 1 rfl (by first | exact .inl rfl | exact .inr (.inl rfl) | exact .inr (.inr rfl)) rfl rfl)) (tgp C (tgs_cons (tg_nm (pg_name (i := 4) C.nd rfl (by first | exact .inl rfl | exact .inr rfl) (by first | exact .inr rfl | exact .inl rfl))) (tgs_cons (tg_nm (pg_name (i := 5) C.nd rfl (by first | exact .inl rfl | exact .inr rfl) (by first | exact .inr rfl | exact .inl rfl))) tgs_nil rfl) rfl) rfl rfl) (k_new (il := 3) (ls := [LS.mk _ _ _ (.call 0 [.var 4]), LS.mk _ _ _ (.call 1 [.var 4])]) C (a_mks (mk_lam0 LT rfl rfl (lamY_by rfl) rfl rfl) (a_mks (mk_lam1 LT rfl rfl (lamY_by rfl) rfl rfl pe_int) a_mks0 rfl) rfl) (by decide) rfl rfl rfl rfl rfl
  (k_app (l := LS.mk _ _ _ (.call 2 [.var 4, .cst .non])) C (pe_var (i := 3) rfl (by first | exact .inl rfl | exact .inr (.inl rfl) | exact .inr (.inr rfl)) rfl rfl) (mk_lam0 LT rfl rfl (lamY_by rfl) rfl rfl) (by decide) rfl rfl rfl rfl
  (k_ite (t_cmpL (op := .ne) C (p_asksT (ia := 6) (il := 3) (fs0 := []) (own := [("_law_ask", 6)]) C td__law_said (by decide) (pe_var (i := 3) rfl (by first | exact .inl rfl | exact .inr (.inl rfl) | exact .inr (.inr rfl)) rfl rfl) (blkOk_by rfl) (fun _ _ => rfl) sc__law_said rfl (by first | exact .inl rfl | exact .inr (.inl rfl)) (fun g0 cdv => gv__law_said T C.K hr3 hgd hB) hr3 (all_cons ⟨lamY_by rfl, lamB0, fun A outer s H E f c' hr C tk => (cx_call cx_explanations_x C tk rfl rfl hr rfl (aw_cons (k_var 4 rfl (by first | exact .inl rfl | exact .inr (.inl rfl) | exact .inr (.inr rfl)) rfl rfl) aw_nil rfl) rfl rfl rfl)⟩ (all_cons ⟨lamY_by rfl, (lamB1 rfl), fun A outer s H E f c' hr C tk => (cx_call cx_first_conflict_x C tk rfl rfl hr rfl (aw_cons (k_var 4 rfl (by first | exact .inl rfl | exact .inr (.inl rfl) | exact .inr (.inr rfl)) rfl rfl) aw_nil rfl) rfl rfl rfl)⟩ (all_cons ⟨lamY_by rfl, lamB0, fun A outer s H E f c' hr C tk => (cx_call cx_forecast_x C tk rfl rfl hr rfl (aw_cons (k_var 4 rfl (by first | exact .inl rfl | exact .inr (.inl rfl) | exact .inr (.inr rfl)) rfl rfl) (aw_cons (k_non C) aw_nil rfl) rfl) rfl rfl rfl)⟩ (all_nil _)))) rfl (by decide) (fun _ _ => rfl) rfl rfl rfl rfl rfl (fun _ => rfl) (fun _ => rfl)) (p_bin (op := .mul) C (p_lst C (a_cons (p_tup C (a_cons (k_str C) (a_cons (k_var 5 rfl (by first | exact .inl rfl | exact .inr (.inl rfl) | exact .inr (.inr rfl)) rfl rfl) a_nil rfl) rfl)) a_nil rfl)) (k_int C)) rfl) (ss_cons (s_ret (k_bl C))
  ss_nil) ss_nil
  ss_nil))) (fun _ => rfl))
  (ss_cons (s_asg (p_comp C (i_rng1 C rfl (T.z_range) (a_cons (k_int C) a_nil rfl) rfl) (blkOk_by (own := [("_law_at", 5)]) rfl) (fun _ _ _ _ _ => (tg_nm (pg_name (i := 5) (C.blk _ _ _ _ _).nd rfl (by first | exact .inl rfl | exact .inr rfl) (by first | exact .inr rfl | exact .inl rfl)))) (fun _ _ _ _ _ => c_nil) (fun _ _ _ _ _ => (p_tup (by first | exact ((C.blk _ _ _ _ _)).c0 | exact (C.blk _ _ _ _ _)) (a_cons (k_var 5 rfl (by first | exact .inl rfl | exact .inr (.inl rfl) | exact .inr (.inr rfl)) rfl rfl) (a_cons (k_bl (by first | exact ((C.blk _ _ _ _ _)).c0 | exact (C.blk _ _ _ _ _))) a_nil rfl) rfl))) (fun _ => rfl)) (tg_nm (pg_name (i := 2) C.nd rfl (by first | exact .inl rfl | exact .inr rfl) (by first | exact .inr rfl | exact .inl rfl))) rfl rfl rfl)
  (k_new (il := 3) (ls := [LS.mk _ _ _ (.call 0 [.bin .add (.slc (.var 2) [] [.var 0]) (.lst [.tup [.var 0, .cst (.int 1)]])]), LS.mk _ _ _ (.call 1 [.bin .add (.slc (.var 2) [] [.var 0]) (.lst [.cst .non])])]) C (a_mks (mk_lam0 LT rfl rfl (lamY_by rfl) rfl rfl) (a_mks (mk_lam1 LT rfl rfl (lamY_by rfl) rfl rfl pe_int) a_mks0 rfl) rfl) (by decide) rfl rfl rfl rfl rfl
  (k_app (l := LS.mk _ _ _ (.call 2 [.bin .add (.slc (.var 2) [] [.var 0]) (.lst [.tup [.bin .sub (.var 0) (.cst (.int 1)), .cst (.bl false)]]), .cst (.int 2000)])) C (pe_var (i := 3) rfl (by first | exact .inl rfl | exact .inr (.inl rfl) | exact .inr (.inr rfl)) rfl rfl) (mk_lam0 LT rfl rfl (lamY_by rfl) rfl rfl) (by decide) rfl rfl rfl rfl
  (k_ite (t_cmpL (op := .ne) C (p_asksT (ia := 6) (il := 3) (fs0 := []) (own := [("_law_ask", 6)]) C td__law_said (by decide) (pe_var (i := 3) rfl (by first | exact .inl rfl | exact .inr (.inl rfl) | exact .inr (.inr rfl)) rfl rfl) (blkOk_by rfl) (fun _ _ => rfl) sc__law_said rfl (by first | exact .inl rfl | exact .inr (.inl rfl)) (fun g0 cdv => gv__law_said T C.K hr3 hgd hB) hr3 (all_cons ⟨lamY_by rfl, lamB0, fun A outer s H E f c' hr C tk => (cx_call cx_explanations_x C tk rfl rfl hr rfl (aw_cons (p_bin (op := .add) C (p_slc C (k_var 2 rfl (by first | exact .inl rfl | exact .inr (.inl rfl) | exact .inr (.inr rfl)) rfl rfl) part0 (part1 (k_var 0 rfl (by first | exact .inl rfl | exact .inr (.inl rfl) | exact .inr (.inr rfl)) rfl rfl))) (p_lst C (a_cons (p_tup C (a_cons (k_var 0 rfl (by first | exact .inl rfl | exact .inr (.inl rfl) | exact .inr (.inr rfl)) rfl rfl) (a_cons (k_int C) a_nil rfl) rfl)) a_nil rfl))) aw_nil rfl) rfl rfl rfl)⟩ (all_cons ⟨lamY_by rfl, (lamB1 rfl), fun A outer s H E f c' hr C tk => (cx_call cx_first_conflict_x C tk rfl rfl hr rfl (aw_cons (p_bin (op := .add) C (p_slc C (k_var 2 rfl (by first | exact .inl rfl | exact .inr (.inl rfl) | exact .inr (.inr rfl)) rfl rfl) part0 (part1 (k_var 0 rfl (by first | exact .inl rfl | exact .inr (.inl rfl) | exact .inr (.inr rfl)) rfl rfl))) (p_lst C (a_cons (k_non C) a_nil rfl))) aw_nil rfl) rfl rfl rfl)⟩ (all_cons ⟨lamY_by rfl, lamB0, fun A outer s H E f c' hr C tk => (cx_call cx_forecast_x C tk rfl rfl hr rfl (aw_cons (p_bin (op := .add) C (p_slc C (k_var 2 rfl (by first | exact .inl rfl | exact .inr (.inl rfl) | exact .inr (.inr rfl)) rfl rfl) part0 (part1 (k_var 0 rfl (by first | exact .inl rfl | exact .inr (.inl rfl) | exact .inr (.inr rfl)) rfl rfl))) (p_lst C (a_cons (p_tup C (a_cons (p_bin (op := .sub) C (k_var 0 rfl (by first | exact .inl rfl | exact .inr (.inl rfl) | exact .inr (.inr rfl)) rfl rfl) (k_int C)) (a_cons (k_bl C) a_nil rfl) rfl)) a_nil rfl))) (aw_cons (k_int C) aw_nil rfl) rfl) rfl rfl rfl)⟩ (all_nil _)))) rfl (by decide) (fun _ _ => rfl) rfl rfl rfl rfl rfl (fun _ => rfl) (fun _ => rfl)) (p_bin (op := .mul) C (p_lst C (a_cons (p_tup C (a_cons (k_str C) (a_cons (k_var 0 rfl (by first | exact .inl rfl | exact .inr (.inl rfl) | exact .inr (.inr rfl)) rfl rfl) a_nil rfl) rfl)) a_nil rfl)) (k_int C)) rfl) (ss_cons (s_ret (k_bl C))
  ss_nil) ss_nil
  (ss_cons (s_ite (t_cmp (op := .ne) C (c_call c_explanations C rfl rfl hr rfl (aw_cons (k_var 2 rfl (by first | exact .inl rfl | exact .inr (.inl rfl) | exact .inr (.inr rfl)) rfl rfl) aw_nil rfl) rfl rfl rfl) (p_bin (op := .add) C (p_comp C (i_rng2 C rfl (T.z_range) (a_cons (k_int C) (a_cons (k_int C) a_nil rfl) rfl) rfl rfl) (blkOk_by (own := [("_law_failures", 7)]) rfl) (fun _ _ _ _ _ => (tg_nm (pg_name (i := 7) (C.blk _ _ _ _ _).nd rfl (by first | exact .inl rfl | exact .inr rfl) (by first | exact .inr rfl | exact .inl rfl)))) (fun _ _ _ _ _ => c_nil) (fun _ _ _ _ _ => (p_tup (by first | exact ((C.blk _ _ _ _ _)).c0 | exact (C.blk _ _ _ _ _)) (a_cons (k_var 7 rfl (by first | exact .inl rfl | exact .inr (.inl rfl) | exact .inr (.inr rfl)) rfl rfl) (a_cons (k_int (by first | exact ((C.blk _ _ _ _ _)).c0 | exact (C.blk _ _ _ _ _))) (a_cons (k_int (by first | exact ((C.blk _ _ _ _ _)).c0 | exact (C.blk _ _ _ _ _))) a_nil rfl) rfl) rfl))) (fun _ => rfl)) (p_lst C (a_cons (p_tup C (a_cons (k_int C) (a_cons (k_int C) (a_cons (p_bin (op := .pow) C (k_int C) (k_int C)) a_nil rfl) rfl) rfl)) a_nil rfl))) rfl) (ss_cons (s_ret (k_bl C))
  ss_nil) ss_nil)
  (ss_cons (s_ret (p_cmp (op := .eq) C (c_call c_log_of C rfl rfl hr rfl (aw_cons (p_tup C (a_cons (k_int C) (a_cons (k_int C) (a_cons (k_int C) a_nil rfl) rfl) rfl)) (aw_cons (p_rngl1 C rfl (T.z_list) rfl (T.z_range) (k_int C) rfl rfl) aw_nil rfl) rfl) rfl rfl rfl) (p_comp C (i_rng1 C rfl (T.z_range) (a_cons (k_int C) a_nil rfl) rfl) (blkOk_by (own := [("_law_at", 5)]) rfl) (fun _ _ _ _ _ => (tg_nm (pg_name (i := 5) (C.blk _ _ _ _ _).nd rfl (by first | exact .inl rfl | exact .inr rfl) (by first | exact .inr rfl | exact .inl rfl)))) (fun _ _ _ _ _ => c_nil) (fun _ _ _ _ _ => (p_tup (by first | exact ((C.blk _ _ _ _ _)).c0 | exact (C.blk _ _ _ _ _)) (a_cons (k_var 5 rfl (by first | exact .inl rfl | exact .inr (.inl rfl) | exact .inr (.inr rfl)) rfl rfl) (a_cons (p_cmp (op := .eq) (by first | exact ((C.blk _ _ _ _ _)).c0 | exact (C.blk _ _ _ _ _)) (p_bin (op := .mod) (by first | exact ((C.blk _ _ _ _ _)).c0 | exact (C.blk _ _ _ _ _)) (k_int1 (by first | exact ((C.blk _ _ _ _ _)).c0 | exact (C.blk _ _ _ _ _)) (a_cons (k_var 5 rfl (by first | exact .inl rfl | exact .inr (.inl rfl) | exact .inr (.inr rfl)) rfl rfl) a_nil rfl) rfl rfl (T.z_int) rfl) (k_int (by first | exact ((C.blk _ _ _ _ _)).c0 | exact (C.blk _ _ _ _ _)))) (k_int (by first | exact ((C.blk _ _ _ _ _)).c0 | exact (C.blk _ _ _ _ _))) rfl) a_nil rfl) rfl))) (fun _ => rfl)) rfl))
  ss_nil)))))))))))
abbrev s_InvalidRow___init__ : Stmt := inClass (topS 2) 0
theorem sc_InvalidRow___init__ : FnScope ["self", "part", "at"] ["self", "part", "at"] (defScope s_InvalidRow___init__) := ⟨rfl, rfl, rfl, by decide +kernel, rfl, by decide +kernel, by decide +kernel⟩
theorem ok_InvalidRow___init__ {k : Nat} {f : Addr} {fd : FuncData} (T : Txt g mg) (F : Fun g.K "__init__" "InvalidRow.__init__" s_InvalidRow___init__ f fd) : FnOk P w g.K mg base CX0 (k + 1) f fd ["self", "part", "at"] (spI g 9 ["part", "at"]) := by
  refine F.ok sc_InvalidRow___init__ (fun vs H Q E h => spI_len h) fun cdv A outer s H vs Q E hr h => ?_
  exact ⟨_, pss_cons (ps_expr (pe_aei T.bx_BreakerError rfl T.n_BreakerError rfl (pa_cons (pe_var (i := 0) rfl (.inl rfl) rfl rfl) (pa_cons pe_str pa_nil rfl) rfl) rfl rfl rfl) rfl) (pss_cons (ps_aes (pe_var (i := 0) rfl (.inl rfl) rfl rfl) (pe_var (i := 1) rfl (.inl rfl) rfl rfl) rfl) (pss_cons (ps_aes (pe_var (i := 0) rfl (.inl rfl) rfl rfl) (pe_var (i := 2) rfl (.inl rfl) rfl rfl) rfl) pss_nil)), xin2 T.ax_InvalidRow T.tx_InvalidRow_part T.tx_InvalidRow_at h⟩
abbrev s_check_times_x : Stmt := topS 22
theorem sc_check_times_x : FnScope ["times", "at", "time"] ["times"] (defScope s_check_times_x) := ⟨rfl, rfl, rfl, by decide +kernel, rfl, by decide +kernel, by decide +kernel⟩
theorem ok_check_times_x {k : Nat} {f : Addr} {fd : FuncData} (T : Txt g mg) (F : Fun g.K "check_times" "check_times" s_check_times_x f fd) (xc_InvalidLog : XCls P w mg base g k 15 "InvalidLog" ["at"]) (c_is_integer : Cal P w mg base g k "is_integer" 1 F_is_integer) : FnOk P w g.K mg base (L2.CX P w) (k + 2) f fd ["times"] (spX g 1 F_check_times_x) := by
  refine def_fnX (fs := [F_is_integer]) F sc_check_times_x rfl rfl T.tt fun cdv A outer s H E hr1 C tk hp => ?_
  have hr := hr1.mono (Nat.le_succ k)
  exact (ss_cons (s_ite (PW.pt (w_or (t_not (t_val C (p_isi (t := .list) C (k_var 0 rfl (by first | exact .inl rfl | exact .inr (.inl rfl) | exact .inr (.inr rfl)) rfl rfl) (ty_list (T.z_list) rfl) rfl (T.z_isinstance) rfl rfl) (fun _ => rfl))) (w_or1 (t_cmp (op := .gt) C (k_len C (a_cons (k_var 0 rfl (by first | exact .inl rfl | exact .inr (.inl rfl) | exact .inr (.inr rfl)) rfl rfl) a_nil rfl) rfl rfl (T.z_len) rfl) (k_gint C T.g_MOST_ENTRIES rfl rfl) rfl)))) (ss_cons (s_rse xc_InvalidLog C tk hr1 rfl (a_cons (p_neg (k_int C)) a_nil rfl) rfl rfl rfl (by decide))
  ss_nil) ss_nil)
  (ss_cons (s_for C hp (i_enum C rfl (T.z_enumerate) (a_cons (k_var 0 rfl (by first | exact .inl rfl | exact .inr (.inl rfl) | exact .inr (.inr rfl)) rfl rfl) a_nil rfl) rfl) (tgp C (tgs_cons (tg_nm (pg_name (i := 1) C.nd rfl (by first | exact .inl rfl | exact .inr rfl) (by first | exact .inr rfl | exact .inl rfl))) (tgs_cons (tg_nm (pg_name (i := 2) C.nd rfl (by first | exact .inl rfl | exact .inr rfl) (by first | exact .inr rfl | exact .inl rfl))) tgs_nil rfl) rfl) rfl rfl) (ss_cons (s_ite (PW.pt (w_or (t_not (t_val C (c_call c_is_integer C rfl rfl hr rfl (aw_cons (k_var 2 rfl (by first | exact .inl rfl | exact .inr (.inl rfl) | exact .inr (.inr rfl)) rfl rfl) aw_nil rfl) rfl rfl rfl) (fun _ => rfl))) (w_or (t_cmp (op := .lt) C (k_var 2 rfl (by first | exact .inl rfl | exact .inr (.inl rfl) | exact .inr (.inr rfl)) rfl rfl) (k_int C) rfl) (w_or1 (PW.pt (w_and (t_cmp (op := .gt) C (k_var 1 rfl (by first | exact .inl rfl | exact .inr (.inl rfl) | exact .inr (.inr rfl)) rfl rfl) (k_int C) rfl) (w_and1 (t_cmp (op := .le) C (k_var 2 rfl (by first | exact .inl rfl | exact .inr (.inl rfl) | exact .inr (.inr rfl)) rfl rfl) (p_ix C (k_var 0 rfl (by first | exact .inl rfl | exact .inr (.inl rfl) | exact .inr (.inr rfl)) rfl rfl) (p_bin (op := .sub) C (k_var 1 rfl (by first | exact .inl rfl | exact .inr (.inl rfl) | exact .inr (.inr rfl)) rfl rfl) (k_int C)) (fun _ _ => rfl)) rfl)))))))) (ss_cons (s_rse xc_InvalidLog C tk hr1 rfl (a_cons (k_var 1 rfl (by first | exact .inl rfl | exact .inr (.inl rfl) | exact .inr (.inr rfl)) rfl rfl) a_nil rfl) rfl rfl rfl (by decide))
  ss_nil) ss_nil)
  ss_nil) (fun _ => rfl))
  ss_nil))
abbrev s_log_of_x : Stmt := topS 25
theorem sc_log_of_x : FnScope ["breaker", "times", "time", "found", "left", "since", "is_passed"] ["breaker", "times"] (defScope s_log_of_x) := ⟨rfl, rfl, rfl, by decide +kernel, rfl, by decide +kernel, by decide +kernel⟩
theorem ok_log_of_x {k : Nat} {f : Addr} {fd : FuncData} (T : Txt g mg) (F : Fun g.K "log_of" "log_of" s_log_of_x f fd) (c_is_breaker : Cal P w mg base g k "is_breaker" 1 F_is_breaker) (xc_InvalidRow : XCls P w mg base g k 9 "InvalidRow" ["part", "at"]) (cx_check_times_x : CalX P w mg base g k "check_times" 1 F_check_times_x) : FnOk P w g.K mg base (L2.CX P w) (k + 2) f fd ["breaker", "times"] (spX g 2 F_log_of_x) := by
  refine def_fnX (fs := [F_is_breaker, F_check_times_x]) F sc_log_of_x rfl rfl T.tt fun cdv A outer s H E hr1 C tk hp => ?_
  have hr := hr1.mono (Nat.le_succ k)
  exact (ss_cons (s_ite (t_not (t_val C (c_call c_is_breaker C rfl rfl hr rfl (aw_cons (k_var 0 rfl (by first | exact .inl rfl | exact .inr (.inl rfl) | exact .inr (.inr rfl)) rfl rfl) aw_nil rfl) rfl rfl rfl) (fun _ => rfl))) (ss_cons (s_rse xc_InvalidRow C tk hr1 rfl (a_cons (k_str C) (a_cons (p_neg (k_int C)) a_nil rfl) rfl) rfl rfl rfl (by decide))
  ss_nil) ss_nil)
  (ss_cons (sx_drop (cx_call cx_check_times_x C tk rfl rfl hr rfl (aw_cons (k_var 1 rfl (by first | exact .inl rfl | exact .inr (.inl rfl) | exact .inr (.inr rfl)) rfl rfl) aw_nil rfl) rfl rfl rfl) rfl)
  (ss_cons (s_par3 (i := 3) (j := 4) (l := 5) C rfl rfl rfl (by decide) (by decide) (by decide) rfl rfl rfl (an_cons C (p_lst C a_nil) (an_cons C (p_ix C (k_var 0 rfl (by first | exact .inl rfl | exact .inr (.inl rfl) | exact .inr (.inr rfl)) rfl rfl) (k_int C) (fun _ _ => rfl)) (an_cons C (k_int C) an_nil rfl) rfl) rfl) rfl rfl)
  (ss_cons (s_for C hp (i_seq C (k_var 1 rfl (by first | exact .inl rfl | exact .inr (.inl rfl) | exact .inr (.inr rfl)) rfl rfl)) (tg_nm (pg_name (i := 2) C.nd rfl (by first | exact .inl rfl | exact .inr rfl) (by first | exact .inr rfl | exact .inl rfl))) (ss_cons (s_asgO (i := 6) C rfl (by first | exact .inl rfl | exact .inr rfl) (p_or C (p_cmp (op := .gt) C (k_var 4 rfl (by first | exact .inl rfl | exact .inr (.inl rfl) | exact .inr (.inr rfl)) rfl rfl) (k_int C) rfl) (p_one (p_cmp (op := .ge) C (p_bin (op := .sub) C (k_var 2 rfl (by first | exact .inl rfl | exact .inr (.inl rfl) | exact .inr (.inr rfl)) rfl rfl) (k_var 5 rfl (by first | exact .inl rfl | exact .inr (.inl rfl) | exact .inr (.inr rfl)) rfl rfl)) (p_ix C (k_var 0 rfl (by first | exact .inl rfl | exact .inr (.inl rfl) | exact .inr (.inr rfl)) rfl rfl) (k_int C) (fun _ _ => rfl)) rfl))) rfl (by first | exact .inr rfl | exact .inl rfl))
  (ss_cons (s_ite (t_val C (k_var 6 rfl (by first | exact .inl rfl | exact .inr (.inl rfl) | exact .inr (.inr rfl)) rfl rfl) (fun _ => rfl)) (ss_cons (s_asgO (i := 4) C rfl (by first | exact .inl rfl | exact .inr rfl) (k_max2 C (a_cons (k_int C) (a_cons (p_bin (op := .sub) C (k_var 4 rfl (by first | exact .inl rfl | exact .inr (.inl rfl) | exact .inr (.inr rfl)) rfl rfl) (k_int C)) a_nil rfl) rfl) rfl rfl (T.z_max) rfl) rfl (by first | exact .inr rfl | exact .inl rfl))
  (ss_cons (s_asgO (i := 5) C rfl (by first | exact .inl rfl | exact .inr rfl) (k_var 2 rfl (by first | exact .inl rfl | exact .inr (.inl rfl) | exact .inr (.inr rfl)) rfl rfl) rfl (by first | exact .inr rfl | exact .inl rfl))
  ss_nil)) ss_nil)
  (ss_cons (s_app C (pe_var (i := 3) rfl (by first | exact .inl rfl | exact .inr (.inl rfl) | exact .inr (.inr rfl)) rfl rfl) (p_tup C (a_cons (k_var 2 rfl (by first | exact .inl rfl | exact .inr (.inl rfl) | exact .inr (.inr rfl)) rfl rfl) (a_cons (k_var 6 rfl (by first | exact .inl rfl | exact .inr (.inl rfl) | exact .inr (.inr rfl)) rfl rfl) a_nil rfl) rfl)) rfl rfl rfl rfl)
  ss_nil))) (fun _ => rfl))
  (ss_cons (s_ret (k_var 3 rfl (by first | exact .inl rfl | exact .inr (.inl rfl) | exact .inr (.inr rfl)) rfl rfl))
  ss_nil)))))
abbrev s_waits_of_x : Stmt := topS 31
theorem sc_waits_of_x : FnScope ["period_list", "found", "at", "period", "step"] ["period_list"] (defScope s_waits_of_x) := ⟨rfl, rfl, rfl, by decide +kernel, rfl, by decide +kernel, by decide +kernel⟩
theorem ok_waits_of_x {k : Nat} {f : Addr} {fd : FuncData} (T : Txt g mg) (F : Fun g.K "waits_of" "waits_of" s_waits_of_x f fd) (xc_InvalidLog : XCls P w mg base g k 15 "InvalidLog" ["at"]) (c_is_between : Cal P w mg base g k "is_between" 3 F_is_between) : FnOk P w g.K mg base (L2.CX P w) (k + 2) f fd ["period_list"] (spX g 1 F_waits_of_x) := by
  refine def_fnX (fs := [F_is_between]) F sc_waits_of_x rfl rfl T.tt fun cdv A outer s H E hr1 C tk hp => ?_
  have hr := hr1.mono (Nat.le_succ k)
  exact (ss_cons (s_ite (PW.pt (w_or (t_not (t_val C (p_isi (t := .list) C (k_var 0 rfl (by first | exact .inl rfl | exact .inr (.inl rfl) | exact .inr (.inr rfl)) rfl rfl) (ty_list (T.z_list) rfl) rfl (T.z_isinstance) rfl rfl) (fun _ => rfl))) (w_or1 (t_not (t_chain (o1 := .le) (o2 := .le) C (k_int C) (k_len C (a_cons (k_var 0 rfl (by first | exact .inl rfl | exact .inr (.inl rfl) | exact .inr (.inr rfl)) rfl rfl) a_nil rfl) rfl rfl (T.z_len) rfl) (p_bin (op := .add) C (k_gint C T.g_MOST_BREAKERS rfl rfl) (k_int C)) rfl))))) (ss_cons (s_rse xc_InvalidLog C tk hr1 rfl (a_cons (p_neg (k_int C)) a_nil rfl) rfl rfl rfl (by decide))
  ss_nil) ss_nil)
  (ss_cons (s_asgO (i := 1) C rfl (by first | exact .inl rfl | exact .inr rfl) (p_lst C a_nil) rfl (by first | exact .inr rfl | exact .inl rfl))
  (ss_cons (s_for C hp (i_enum C rfl (T.z_enumerate) (a_cons (k_var 0 rfl (by first | exact .inl rfl | exact .inr (.inl rfl) | exact .inr (.inr rfl)) rfl rfl) a_nil rfl) rfl) (tgp C (tgs_cons (tg_nm (pg_name (i := 2) C.nd rfl (by first | exact .inl rfl | exact .inr rfl) (by first | exact .inr rfl | exact .inl rfl))) (tgs_cons (tg_nm (pg_name (i := 3) C.nd rfl (by first | exact .inl rfl | exact .inr rfl) (by first | exact .inr rfl | exact .inl rfl))) tgs_nil rfl) rfl) rfl rfl) (ss_cons (s_ite (PW.pt (w_or (t_not (t_val C (c_call c_is_between C rfl rfl hr rfl (aw_cons (k_var 3 rfl (by first | exact .inl rfl | exact .inr (.inl rfl) | exact .inr (.inr rfl)) rfl rfl) (aw_cons (k_int C) (aw_cons (p_bin (op := .mul) C (k_int C) (k_gint C T.g_MOST_WAIT rfl rfl)) aw_nil rfl) rfl) rfl) rfl rfl rfl) (fun _ => rfl))) (w_or1 (PW.pt (w_and (t_cmp (op := .eq) C (k_var 2 rfl (by first | exact .inl rfl | exact .inr (.inl rfl) | exact .inr (.inr rfl)) rfl rfl) (k_int C) rfl) (w_and1 (t_cmp (op := .gt) C (k_var 3 rfl (by first | exact .inl rfl | exact .inr (.inl rfl) | exact .inr (.inr rfl)) rfl rfl) (k_gint C T.g_MOST_WAIT rfl rfl) rfl))))))) (ss_cons (s_rse xc_InvalidLog C tk hr1 rfl (a_cons (k_var 2 rfl (by first | exact .inl rfl | exact .inr (.inl rfl) | exact .inr (.inr rfl)) rfl rfl) a_nil rfl) rfl rfl rfl (by decide))
  ss_nil) ss_nil)
  (ss_cons (s_ite (t_cmp (op := .gt) C (k_var 2 rfl (by first | exact .inl rfl | exact .inr (.inl rfl) | exact .inr (.inr rfl)) rfl rfl) (k_int C) rfl) (ss_cons (s_asgO (i := 4) C rfl (by first | exact .inl rfl | exact .inr rfl) (p_ix C (k_var 0 rfl (by first | exact .inl rfl | exact .inr (.inl rfl) | exact .inr (.inr rfl)) rfl rfl) (p_bin (op := .sub) C (k_var 2 rfl (by first | exact .inl rfl | exact .inr (.inl rfl) | exact .inr (.inr rfl)) rfl rfl) (k_int C)) (fun _ _ => rfl)) rfl (by first | exact .inr rfl | exact .inl rfl))
  (ss_cons (s_ite (PW.pt (w_or (t_cmp (op := .ne) C (p_bin (op := .mod) C (k_var 3 rfl (by first | exact .inl rfl | exact .inr (.inl rfl) | exact .inr (.inr rfl)) rfl rfl) (k_var 4 rfl (by first | exact .inl rfl | exact .inr (.inl rfl) | exact .inr (.inr rfl)) rfl rfl)) (k_int C) rfl) (w_or1 (t_cmp (op := .ge) C (p_bin (op := .sub) C (k_var 3 rfl (by first | exact .inl rfl | exact .inr (.inl rfl) | exact .inr (.inr rfl)) rfl rfl) (k_var 4 rfl (by first | exact .inl rfl | exact .inr (.inl rfl) | exact .inr (.inr rfl)) rfl rfl)) (k_gint C T.g_MOST_WAIT rfl rfl) rfl)))) (ss_cons (s_rse xc_InvalidLog C tk hr1 rfl (a_cons (k_var 2 rfl (by first | exact .inl rfl | exact .inr (.inl rfl) | exact .inr (.inr rfl)) rfl rfl) a_nil rfl) rfl rfl rfl (by decide))
  ss_nil) ss_nil)
  (ss_cons (s_app C (pe_var (i := 1) rfl (by first | exact .inl rfl | exact .inr (.inl rfl) | exact .inr (.inr rfl)) rfl rfl) (p_tup C (a_cons (p_bin (op := .add) C (p_bin (op := .sub) C (k_var 3 rfl (by first | exact .inl rfl | exact .inr (.inl rfl) | exact .inr (.inr rfl)) rfl rfl) (k_var 4 rfl (by first | exact .inl rfl | exact .inr (.inl rfl) | exact .inr (.inr rfl)) rfl rfl)) (k_int C)) (a_cons (k_min2 C (a_cons (k_var 3 rfl (by first | exact .inl rfl | exact .inr (.inl rfl) | exact .inr (.inr rfl)) rfl rfl) (a_cons (k_gint C T.g_MOST_WAIT rfl rfl) a_nil rfl) rfl) rfl rfl (T.z_min) rfl) a_nil rfl) rfl)) rfl rfl rfl rfl)
  ss_nil))) ss_nil)
  ss_nil)) (fun _ => rfl))
  (ss_cons (s_ret (k_var 1 rfl (by first | exact .inl rfl | exact .inr (.inl rfl) | exact .inr (.inr rfl)) rfl rfl))
  ss_nil))))
abbrev s__law_others_right : Stmt := topS 38
theorem sc__law_others_right : FnScope ["_law_seen", "_law_last", "_law_odds", "_law_odd", "_law_rows", "_law_at"] ["_law_seen", "_law_last"] (defScope s__law_others_right) := ⟨rfl, rfl, rfl, by decide +kernel, rfl, by decide +kernel, by decide +kernel⟩
theorem ok__law_others_right {k : Nat} {f c : Addr} {oc kV dc pm ct : Value} {od an : Option Addr} {sl : Array (Option Value)} (T : Txt g mg) (lk : g.K.lookup f = some ⟨oc, od, .func (PySem.W.fnOf "_law_others_right" "_law_others_right" (defArgs s__law_others_right) (defBody s__law_others_right) (defScope s__law_others_right) .none kV dc pm an (.ref c) ct), sl⟩) (hcd : PySem.W.codeIn g.K (.ref c) "_law_others_right" = true) (hB : SmB base) (LT : LamT g base mg c "_law_others_right") (cx_log_of_x : CalX P w mg base g k "log_of" 2 F_log_of_x) (td__law_said : Told g mg "_law_said" "_law_deed" s__law_said) (cx_forecast_x : CalX P w mg base g k "forecast" 2 F_forecast_x) (cx_waits_of_x : CalX P w mg base g k "waits_of" 1 F_waits_of_x) : FnG P w g.K mg base CX0 (k + 3) f (PySem.W.fnOf "_law_others_right" "_law_others_right" (defArgs s__law_others_right) (defBody s__law_others_right) (defScope s__law_others_right) .none kV dc pm an (.ref c) ct) ["_law_seen", "_law_last"] (spF g 2 F__law_others_right) := by
  refine def_fnG (c := 0) (fs := [F_log_of_x, F_forecast_x, F_waits_of_x]) lk hcd sc__law_others_right rfl rfl T.tt fun A outer s H E hgd hr3 C => ?_
  have hr := hr3.mono (show k ≤ k + 2 by omega)
  have hr1 := hr3.mono (show k + 1 ≤ k + 2 by omega)
  exact (ss_cons (s_asg (p_lst C (a_cons (k_non C) (a_cons (p_tup C (a_cons (k_int C) (a_cons (k_int C) a_nil rfl) rfl)) (a_cons (p_tup C (a_cons (k_int C) (a_cons (k_int C) (a_cons (k_int C) a_nil rfl) rfl) rfl)) (a_cons (p_tup C (a_cons (k_int C) (a_cons (k_int C) (a_cons (k_int C) a_nil rfl) rfl) rfl)) (a_cons (p_tup C (a_cons (k_int C) (a_cons (k_int C) (a_cons (k_int C) a_nil rfl) rfl) rfl)) (a_cons (p_lst C (a_cons (k_int C) (a_cons (k_int C) (a_cons (k_int C) a_nil rfl) rfl) rfl)) (a_cons (p_tup C (a_cons (k_bl C) (a_cons (k_int C) (a_cons (k_int C) a_nil rfl) rfl) rfl)) (a_cons (p_tup C (a_cons (k_int C) (a_cons (p_bin (op := .add) C (p_bin (op := .pow) C (k_int C) (k_int C)) (k_int C)) (a_cons (k_int C) a_nil rfl) rfl) rfl)) (a_cons (p_dct) (a_cons (k_str C) a_nil rfl) rfl) rfl) rfl) rfl) rfl) rfl) rfl) rfl) rfl)) (tg_nm (pg_name (i := 2) C.nd rfl (by first | exact .inl rfl | exact .inr rfl) (by first | exact .inr rfl | exact .inl rfl))) rfl rfl rfl)
  (ss_cons (s_for C PassesOwn.never (i_seq C (k_var 2 rfl (by first | exact .inl rfl | exact .inr (.inl rfl) | exact .inr (.inr rfl)) rfl rfl)) (tg_nm (pg_name (i := 3) C.nd rfl (by first | exact .inl rfl | exact .inr rfl) (by first | exact .inr rfl | exact .inl rfl))) (ss_cons (s_ite (t_cmp (op := .ne) C (p_told C td__law_said LT rfl sc__law_said rfl (by first | exact .inl rfl | exact .inr (.inl rfl)) (fun g0 cdv => gv__law_said T C.K hr3 hgd hB) rfl rfl hr3 (LamX.lamS_by rfl) rfl (fun _ _ _ _ _ => rfl) (fun A outer s H E f c' hr C tk => (cx_call cx_log_of_x C tk rfl rfl hr rfl (aw_cons (k_var 3 rfl (by first | exact .inl rfl | exact .inr (.inl rfl) | exact .inr (.inr rfl)) rfl rfl) (aw_cons (k_non C) aw_nil rfl) rfl) rfl rfl rfl)) rfl rfl rfl) (p_tup C (a_cons (k_str C) (a_cons (k_str C) (a_cons (p_neg (k_int C)) a_nil rfl) rfl) rfl)) rfl) (ss_cons (s_ret (k_bl C))
  ss_nil) ss_nil)
  ss_nil) (fun _ => rfl))
  (ss_cons (s_asg (p_lst C (a_cons (p_tup C (a_cons (k_non C) (a_cons (p_neg (k_int C)) a_nil rfl) rfl)) (a_cons (p_tup C (a_cons (p_tup C (a_cons (k_int C) (a_cons (k_int C) a_nil rfl) rfl)) (a_cons (p_neg (k_int C)) a_nil rfl) rfl)) (a_cons (p_tup C (a_cons (p_dct) (a_cons (p_neg (k_int C)) a_nil rfl) rfl)) (a_cons (p_tup C (a_cons (p_rngl1 C rfl (T.z_list) rfl (T.z_range) (k_int C) rfl rfl) (a_cons (p_neg (k_int C)) a_nil rfl) rfl)) (a_cons (p_tup C (a_cons (p_lst C (a_cons (p_neg (k_int C)) a_nil rfl)) (a_cons (k_int C) a_nil rfl) rfl)) (a_cons (p_tup C (a_cons (p_lst C (a_cons (k_int C) (a_cons (k_int C) a_nil rfl) rfl)) (a_cons (k_int C) a_nil rfl) rfl)) (a_cons (p_tup C (a_cons (p_lst C (a_cons (k_int C) (a_cons (k_int C) (a_cons (k_int C) a_nil rfl) rfl) rfl)) (a_cons (k_int C) a_nil rfl) rfl)) a_nil rfl) rfl) rfl) rfl) rfl) rfl) rfl)) (tg_nm (pg_name (i := 4) C.nd rfl (by first | exact .inl rfl | exact .inr rfl) (by first | exact .inr rfl | exact .inl rfl))) rfl rfl rfl)
  (ss_cons (s_for C PassesOwn.never (i_seq C (p_bin (op := .add) C (k_var 4 rfl (by first | exact .inl rfl | exact .inr (.inl rfl) | exact .inr (.inr rfl)) rfl rfl) (p_lst C (a_cons (p_tup C (a_cons (p_lst C (a_cons (k_bl C) a_nil rfl)) (a_cons (k_int C) a_nil rfl) rfl)) (a_cons (p_tup C (a_cons (p_lst C (a_cons (k_int C) (a_cons (k_str C) a_nil rfl) rfl)) (a_cons (k_int C) a_nil rfl) rfl)) (a_cons (p_tup C (a_cons (p_lst C (a_cons (k_int C) (a_cons (p_lst C (a_cons (k_int C) a_nil rfl)) a_nil rfl) rfl)) (a_cons (k_int C) a_nil rfl) rfl)) (a_cons (p_tup C (a_cons (p_lst C (a_cons (k_non C) a_nil rfl)) (a_cons (k_int C) a_nil rfl) rfl)) (a_cons (p_tup C (a_cons (p_lst C (a_cons (p_dct) a_nil rfl)) (a_cons (k_int C) a_nil rfl) rfl)) a_nil rfl) rfl) rfl) rfl) rfl)))) (tgp C (tgs_cons (tg_nm (pg_name (i := 3) C.nd rfl (by first | exact .inl rfl | exact .inr rfl) (by first | exact .inr rfl | exact .inl rfl))) (tgs_cons (tg_nm (pg_name (i := 5) C.nd rfl (by first | exact .inl rfl | exact .inr rfl) (by first | exact .inr rfl | exact .inl rfl))) tgs_nil rfl) rfl) rfl rfl) (ss_cons (s_ite (t_cmp (op := .ne) C (p_told C td__law_said LT rfl sc__law_said rfl (by first | exact .inl rfl | exact .inr (.inl rfl)) (fun g0 cdv => gv__law_said T C.K hr3 hgd hB) rfl rfl hr3 (LamX.lamS_by rfl) rfl (fun _ _ _ _ _ => rfl) (fun A outer s H E f c' hr C tk => (cx_call cx_log_of_x C tk rfl rfl hr rfl (aw_cons (p_tup C (a_cons (k_int C) (a_cons (k_int C) (a_cons (k_int C) a_nil rfl) rfl) rfl)) (aw_cons (k_var 3 rfl (by first | exact .inl rfl | exact .inr (.inl rfl) | exact .inr (.inr rfl)) rfl rfl) aw_nil rfl) rfl) rfl rfl rfl)) rfl rfl rfl) (p_tup C (a_cons (k_str C) (a_cons (k_var 5 rfl (by first | exact .inl rfl | exact .inr (.inl rfl) | exact .inr (.inr rfl)) rfl rfl) a_nil rfl) rfl)) rfl) (ss_cons (s_ret (k_bl C))
  ss_nil) ss_nil)
  ss_nil) (fun _ => rfl))
  (ss_cons (s_for C PassesOwn.never (i_seq C (p_lst C (a_cons (k_var 1 rfl (by first | exact .inl rfl | exact .inr (.inl rfl) | exact .inr (.inr rfl)) rfl rfl) (a_cons (p_bin (op := .sub) C (k_var 1 rfl (by first | exact .inl rfl | exact .inr (.inl rfl) | exact .inr (.inr rfl)) rfl rfl) (k_int C)) (a_cons (p_neg (k_int C)) (a_cons (k_bl C) (a_cons (k_non C) (a_cons (k_str C) (a_cons (p_lst C (a_cons (k_int C) a_nil rfl)) (a_cons (p_dct) a_nil rfl) rfl) rfl) rfl) rfl) rfl) rfl) rfl))) (tg_nm (pg_name (i := 3) C.nd rfl (by first | exact .inl rfl | exact .inr rfl) (by first | exact .inr rfl | exact .inl rfl))) (ss_cons (s_ite (t_cmp (op := .ne) C (p_told C td__law_said LT rfl sc__law_said rfl (by first | exact .inl rfl | exact .inr (.inl rfl)) (fun g0 cdv => gv__law_said T C.K hr3 hgd hB) rfl rfl hr3 (LamX.lamS_by rfl) rfl (fun _ _ _ _ _ => rfl) (fun A outer s H E f c' hr C tk => (cx_call cx_forecast_x C tk rfl rfl hr rfl (aw_cons (k_var 0 rfl (by first | exact .inl rfl | exact .inr (.inl rfl) | exact .inr (.inr rfl)) rfl rfl) (aw_cons (k_var 3 rfl (by first | exact .inl rfl | exact .inr (.inl rfl) | exact .inr (.inr rfl)) rfl rfl) aw_nil rfl) rfl) rfl rfl rfl)) rfl rfl rfl) (p_tup C (a_cons (k_str C) (a_cons (k_rpr C hgd hB (a_cons (k_var 3 rfl (by first | exact .inl rfl | exact .inr (.inl rfl) | exact .inr (.inr rfl)) rfl rfl) a_nil rfl) rfl rfl (T.z_repr) rfl) a_nil rfl) rfl)) rfl) (ss_cons (s_ret (k_bl C))
  ss_nil) ss_nil)
  (ss_cons (s_ite (PW.pt (w_and (t_cmp (op := .notin) C (k_var 3 rfl (by first | exact .inl rfl | exact .inr (.inl rfl) | exact .inr (.inr rfl)) rfl rfl) (p_tup C (a_cons (k_var 1 rfl (by first | exact .inl rfl | exact .inr (.inl rfl) | exact .inr (.inr rfl)) rfl rfl) (a_cons (p_bin (op := .sub) C (k_var 1 rfl (by first | exact .inl rfl | exact .inr (.inl rfl) | exact .inr (.inr rfl)) rfl rfl) (k_int C)) a_nil rfl) rfl)) rfl) (w_and1 (t_cmp (op := .ne) C (p_told C td__law_said LT rfl sc__law_said rfl (by first | exact .inl rfl | exact .inr (.inl rfl)) (fun g0 cdv => gv__law_said T C.K hr3 hgd hB) rfl rfl hr3 (LamX.lamS_by rfl) rfl (fun _ _ _ _ _ => rfl) (fun A outer s H E f c' hr C tk => (cx_call cx_forecast_x C tk rfl rfl hr rfl (aw_cons (p_lst C a_nil) (aw_cons (k_var 3 rfl (by first | exact .inl rfl | exact .inr (.inl rfl) | exact .inr (.inr rfl)) rfl rfl) aw_nil rfl) rfl) rfl rfl rfl)) rfl rfl rfl) (p_tup C (a_cons (k_str C) (a_cons (k_rpr C hgd hB (a_cons (k_var 3 rfl (by first | exact .inl rfl | exact .inr (.inl rfl) | exact .inr (.inr rfl)) rfl rfl) a_nil rfl) rfl rfl (T.z_repr) rfl) a_nil rfl) rfl)) rfl)))) (ss_cons (s_ret (k_bl C))
  ss_nil) ss_nil)
  ss_nil)) (fun _ => rfl))
  (ss_cons (s_asg (p_lst C (a_cons (p_tup C (a_cons (k_non C) (a_cons (p_neg (k_int C)) a_nil rfl) rfl)) (a_cons (p_tup C (a_cons (p_lst C a_nil) (a_cons (p_neg (k_int C)) a_nil rfl) rfl)) (a_cons (p_tup C (a_cons (p_tup C (a_cons (k_int C) (a_cons (k_int C) a_nil rfl) rfl)) (a_cons (p_neg (k_int C)) a_nil rfl) rfl)) (a_cons (p_tup C (a_cons (p_bin (op := .mul) C (p_lst C (a_cons (k_int C) a_nil rfl)) (k_int C)) (a_cons (p_neg (k_int C)) a_nil rfl) rfl)) (a_cons (p_tup C (a_cons (p_dct) (a_cons (p_neg (k_int C)) a_nil rfl) rfl)) (a_cons (p_tup C (a_cons (p_lst C (a_cons (k_int C) a_nil rfl)) (a_cons (k_int C) a_nil rfl) rfl)) (a_cons (p_tup C (a_cons (p_lst C (a_cons (k_int C) (a_cons (k_int C) a_nil rfl) rfl)) (a_cons (k_int C) a_nil rfl) rfl)) (a_cons (p_tup C (a_cons (p_lst C (a_cons (k_bl C) a_nil rfl)) (a_cons (k_int C) a_nil rfl) rfl)) a_nil rfl) rfl) rfl) rfl) rfl) rfl) rfl) rfl)) (tg_nm (pg_name (i := 4) C.nd rfl (by first | exact .inl rfl | exact .inr rfl) (by first | exact .inr rfl | exact .inl rfl))) rfl rfl rfl)
  (ss_cons (s_asg (p_bin (op := .add) C (k_var 4 rfl (by first | exact .inl rfl | exact .inr (.inl rfl) | exact .inr (.inr rfl)) rfl rfl) (p_lst C (a_cons (p_tup C (a_cons (p_lst C (a_cons (k_int C) (a_cons (k_bl C) a_nil rfl) rfl)) (a_cons (k_int C) a_nil rfl) rfl)) (a_cons (p_tup C (a_cons (p_lst C (a_cons (k_int C) (a_cons (k_str C) a_nil rfl) rfl)) (a_cons (k_int C) a_nil rfl) rfl)) (a_cons (p_tup C (a_cons (p_lst C (a_cons (k_int C) (a_cons (k_int C) (a_cons (p_lst C (a_cons (k_int C) a_nil rfl)) a_nil rfl) rfl) rfl)) (a_cons (k_int C) a_nil rfl) rfl)) (a_cons (p_tup C (a_cons (p_lst C (a_cons (k_int C) (a_cons (k_int C) (a_cons (k_int C) (a_cons (k_int C) a_nil rfl) rfl) rfl) rfl)) (a_cons (k_int C) a_nil rfl) rfl)) (a_cons (p_tup C (a_cons (p_lst C (a_cons (k_non C) a_nil rfl)) (a_cons (k_int C) a_nil rfl) rfl)) (a_cons (p_tup C (a_cons (p_lst C (a_cons (k_int C) (a_cons (k_int C) a_nil rfl) rfl)) (a_cons (k_int C) a_nil rfl) rfl)) a_nil rfl) rfl) rfl) rfl) rfl) rfl))) (tg_nm (pg_name (i := 4) C.nd rfl (by first | exact .inl rfl | exact .inr rfl) (by first | exact .inr rfl | exact .inl rfl))) rfl rfl rfl)
  (ss_cons (s_for C PassesOwn.never (i_seq C (p_bin (op := .add) C (k_var 4 rfl (by first | exact .inl rfl | exact .inr (.inl rfl) | exact .inr (.inr rfl)) rfl rfl) (p_lst C (a_cons (p_tup C (a_cons (p_lst C (a_cons (p_neg (k_int C)) a_nil rfl)) (a_cons (k_int C) a_nil rfl) rfl)) a_nil rfl)))) (tgp C (tgs_cons (tg_nm (pg_name (i := 3) C.nd rfl (by first | exact .inl rfl | exact .inr rfl) (by first | exact .inr rfl | exact .inl rfl))) (tgs_cons (tg_nm (pg_name (i := 5) C.nd rfl (by first | exact .inl rfl | exact .inr rfl) (by first | exact .inr rfl | exact .inl rfl))) tgs_nil rfl) rfl) rfl rfl) (ss_cons (s_ite (t_cmp (op := .ne) C (p_told C td__law_said LT rfl sc__law_said rfl (by first | exact .inl rfl | exact .inr (.inl rfl)) (fun g0 cdv => gv__law_said T C.K hr3 hgd hB) rfl rfl hr3 (LamX.lamS_by rfl) rfl (fun _ _ _ _ _ => rfl) (fun A outer s H E f c' hr C tk => (cx_call cx_waits_of_x C tk rfl rfl hr rfl (aw_cons (k_var 3 rfl (by first | exact .inl rfl | exact .inr (.inl rfl) | exact .inr (.inr rfl)) rfl rfl) aw_nil rfl) rfl rfl rfl)) rfl rfl rfl) (p_tup C (a_cons (k_str C) (a_cons (k_var 5 rfl (by first | exact .inl rfl | exact .inr (.inl rfl) | exact .inr (.inr rfl)) rfl rfl) a_nil rfl) rfl)) rfl) (ss_cons (s_ret (k_bl C))
  ss_nil) ss_nil)
  ss_nil) (fun _ => rfl))
  (ss_cons (s_ret (k_bl C))
  ss_nil)))))))))
abbrev s_first_conflict : Stmt := topS 29
theorem sc_first_conflict : FnScope ["log"] ["log"] (defScope s_first_conflict) := ⟨rfl, rfl, rfl, by decide +kernel, rfl, by decide +kernel, by decide +kernel⟩
theorem ok_first_conflict {k : Nat} {f : Addr} {fd : FuncData} (T : Txt g mg) (F : Fun g.K "first_conflict" "first_conflict" s_first_conflict f fd) (c_check_log : Cal P w mg base g k "check_log" 1 F_check_log) (c_later_bounds : Cal P w mg base g k "later_bounds" 1 F_later_bounds) : FnOk P w g.K mg base CX0 (k + 1) f fd ["log"] (spF g 1 F_first_conflict) := by
  refine def_fn (fs := [F_check_log, F_later_bounds]) F sc_first_conflict rfl rfl T.tt fun cdv A outer s H E hr C => ?_
  exact (ss_cons (s_expr (c_call c_check_log C rfl rfl hr rfl (aw_cons (k_var 0 rfl (by first | exact .inl rfl | exact .inr (.inl rfl) | exact .inr (.inr rfl)) rfl rfl) aw_nil rfl) rfl rfl rfl) rfl)
  (ss_cons (s_ret (p_ix C (c_call c_later_bounds C rfl rfl hr rfl (aw_cons (k_var 0 rfl (by first | exact .inl rfl | exact .inr (.inl rfl) | exact .inr (.inr rfl)) rfl rfl) aw_nil rfl) rfl rfl rfl) (k_int C) (fun _ _ => rfl)))
  ss_nil))
abbrev s_forecast : Stmt := topS 30
theorem sc_forecast : FnScope ["log", "time", "since", "can_pass", "low", "high", "conflict", "entry"] ["log", "time"] (defScope s_forecast) := ⟨rfl, rfl, rfl, by decide +kernel, rfl, by decide +kernel, by decide +kernel⟩
theorem ok_forecast {k : Nat} {f : Addr} {fd : FuncData} (T : Txt g mg) (F : Fun g.K "forecast" "forecast" s_forecast f fd) (c_check_log : Cal P w mg base g k "check_log" 1 F_check_log) (c_is_integer : Cal P w mg base g k "is_integer" 1 F_is_integer) (c_later_bounds : Cal P w mg base g k "later_bounds" 1 F_later_bounds) (c_first_passes : Cal P w mg base g k "first_passes" 1 F_first_passes) : FnOk P w g.K mg base CX0 (k + 1) f fd ["log", "time"] (spF g 2 F_forecast) := by
  refine def_fn (fs := [F_check_log, F_is_integer, F_later_bounds, F_first_passes]) F sc_forecast rfl rfl T.tt fun cdv A outer s H E hr C => ?_
  exact (ss_cons (s_expr (c_call c_check_log C rfl rfl hr rfl (aw_cons (k_var 0 rfl (by first | exact .inl rfl | exact .inr (.inl rfl) | exact .inr (.inr rfl)) rfl rfl) aw_nil rfl) rfl rfl rfl) rfl)
  (ss_cons (s_ite (PW.pt (w_or (t_not (t_val C (c_call c_is_integer C rfl rfl hr rfl (aw_cons (k_var 1 rfl (by first | exact .inl rfl | exact .inr (.inl rfl) | exact .inr (.inr rfl)) rfl rfl) aw_nil rfl) rfl rfl rfl) (fun _ => rfl))) (w_or (t_cmp (op := .lt) C (k_var 1 rfl (by first | exact .inl rfl | exact .inr (.inl rfl) | exact .inr (.inr rfl)) rfl rfl) (k_int C) rfl) (w_or1 (PW.pt (w_and (t_cmp (op := .ne) C (k_var 0 rfl (by first | exact .inl rfl | exact .inr (.inl rfl) | exact .inr (.inr rfl)) rfl rfl) (p_lst C a_nil) rfl) (w_and1 (t_cmp (op := .le) C (k_var 1 rfl (by first | exact .inl rfl | exact .inr (.inl rfl) | exact .inr (.inr rfl)) rfl rfl) (p_ix C (p_ix C (k_var 0 rfl (by first | exact .inl rfl | exact .inr (.inl rfl) | exact .inr (.inr rfl)) rfl rfl) (p_neg (k_int C)) (fun _ _ => rfl)) (k_int C) (fun _ _ => rfl)) rfl)))))))) (ss_cons s_stuck
  ss_nil) ss_nil)
  (ss_cons (s_asg (c_call c_later_bounds C rfl rfl hr rfl (aw_cons (k_var 0 rfl (by first | exact .inl rfl | exact .inr (.inl rfl) | exact .inr (.inr rfl)) rfl rfl) aw_nil rfl) rfl rfl rfl) (tgp C (tgs_cons (tg_nm (pg_name (i := 4) C.nd rfl (by first | exact .inl rfl | exact .inr rfl) (by first | exact .inr rfl | exact .inl rfl))) (tgs_cons (tg_nm (pg_name (i := 5) C.nd rfl (by first | exact .inl rfl | exact .inr rfl) (by first | exact .inr rfl | exact .inl rfl))) (tgs_cons (tg_nm (pg_name (i := 6) C.nd rfl (by first | exact .inl rfl | exact .inr rfl) (by first | exact .inr rfl | exact .inl rfl))) tgs_nil rfl) rfl) rfl) rfl rfl) rfl rfl rfl)
  (ss_cons (s_ite (t_cmp (op := .isnot) C (k_var 6 rfl (by first | exact .inl rfl | exact .inr (.inl rfl) | exact .inr (.inr rfl)) rfl rfl) (k_non C) rfl) (ss_cons s_stuck
  ss_nil) ss_nil)
  (ss_cons (s_ite (t_cmp (op := .eq) C (k_var 0 rfl (by first | exact .inl rfl | exact .inr (.inl rfl) | exact .inr (.inr rfl)) rfl rfl) (p_lst C a_nil) rfl) (ss_cons (s_ret (k_str C))
  ss_nil) ss_nil)
  (ss_cons (s_asgO (i := 2) C rfl (by first | exact .inl rfl | exact .inr rfl) (k_maxl C (a_cons (p_comp C (i_seq C (k_var 0 rfl (by first | exact .inl rfl | exact .inr (.inl rfl) | exact .inr (.inr rfl)) rfl rfl)) (blkOk_by (own := [("entry", 7)]) rfl) (fun _ _ _ _ _ => (tg_nm (pg_name (i := 7) (C.blk _ _ _ _ _).nd rfl (by first | exact .inl rfl | exact .inr rfl) (by first | exact .inr rfl | exact .inl rfl)))) (fun _ _ _ _ _ => (c_one (t_val (by first | exact ((C.blk _ _ _ _ _)).c0 | exact (C.blk _ _ _ _ _)) (p_ix (by first | exact ((C.blk _ _ _ _ _)).c0 | exact (C.blk _ _ _ _ _)) (k_var 7 rfl (by first | exact .inl rfl | exact .inr (.inl rfl) | exact .inr (.inr rfl)) rfl rfl) (k_int (by first | exact ((C.blk _ _ _ _ _)).c0 | exact (C.blk _ _ _ _ _))) (fun _ _ => rfl)) (fun _ => rfl)))) (fun _ _ _ _ _ => (p_ix (by first | exact ((C.blk _ _ _ _ _)).c0 | exact (C.blk _ _ _ _ _)) (k_var 7 rfl (by first | exact .inl rfl | exact .inr (.inl rfl) | exact .inr (.inr rfl)) rfl rfl) (k_int (by first | exact ((C.blk _ _ _ _ _)).c0 | exact (C.blk _ _ _ _ _))) (fun _ _ => rfl))) (fun _ => rfl)) a_nil rfl) rfl rfl (T.z_max) rfl) rfl (by first | exact .inr rfl | exact .inl rfl))
  (ss_cons (s_asgO (i := 3) C rfl (by first | exact .inl rfl | exact .inr rfl) (p_or C (p_cmp (op := .eq) C (c_call c_first_passes C rfl rfl hr rfl (aw_cons (k_var 0 rfl (by first | exact .inl rfl | exact .inr (.inl rfl) | exact .inr (.inr rfl)) rfl rfl) aw_nil rfl) rfl rfl rfl) (k_len C (a_cons (k_var 0 rfl (by first | exact .inl rfl | exact .inr (.inl rfl) | exact .inr (.inr rfl)) rfl rfl) a_nil rfl) rfl rfl (T.z_len) rfl) rfl) (p_one (p_cmp (op := .le) C (k_var 4 rfl (by first | exact .inl rfl | exact .inr (.inl rfl) | exact .inr (.inr rfl)) rfl rfl) (p_bin (op := .sub) C (k_var 1 rfl (by first | exact .inl rfl | exact .inr (.inl rfl) | exact .inr (.inr rfl)) rfl rfl) (k_var 2 rfl (by first | exact .inl rfl | exact .inr (.inl rfl) | exact .inr (.inr rfl)) rfl rfl)) rfl))) rfl (by first | exact .inr rfl | exact .inl rfl))
  (ss_cons (s_ite (t_not (t_val C (k_var 3 rfl (by first | exact .inl rfl | exact .inr (.inl rfl) | exact .inr (.inr rfl)) rfl rfl) (fun _ => rfl))) (ss_cons (s_ret (k_str C))
  ss_nil) ss_nil)
  (ss_cons (s_ret (p_ite (t_cmp (op := .gt) C (k_var 5 rfl (by first | exact .inl rfl | exact .inr (.inl rfl) | exact .inr (.inr rfl)) rfl rfl) (p_bin (op := .sub) C (k_var 1 rfl (by first | exact .inl rfl | exact .inr (.inl rfl) | exact .inr (.inr rfl)) rfl rfl) (k_var 2 rfl (by first | exact .inl rfl | exact .inr (.inl rfl) | exact .inr (.inr rfl)) rfl rfl)) rfl) (k_str C) (k_str C)))
  ss_nil)))))))))
abbrev s_waits_of : Stmt := topS 31
theorem sc_waits_of : FnScope ["period_list", "found", "at", "period", "step"] ["period_list"] (defScope s_waits_of) := ⟨rfl, rfl, rfl, by decide +kernel, rfl, by decide +kernel, by decide +kernel⟩
theorem ok_waits_of {k : Nat} {f : Addr} {fd : FuncData} (T : Txt g mg) (F : Fun g.K "waits_of" "waits_of" s_waits_of f fd) (c_is_between : Cal P w mg base g k "is_between" 3 F_is_between) : FnOk P w g.K mg base CX0 (k + 1) f fd ["period_list"] (spF g 1 F_waits_of) := by
  refine def_fn (fs := [F_is_between]) F sc_waits_of rfl rfl T.tt fun cdv A outer s H E hr C => ?_
  exact (ss_cons (s_ite (PW.pt (w_or (t_not (t_val C (p_isi (t := .list) C (k_var 0 rfl (by first | exact .inl rfl | exact .inr (.inl rfl) | exact .inr (.inr rfl)) rfl rfl) (ty_list (T.z_list) rfl) rfl (T.z_isinstance) rfl rfl) (fun _ => rfl))) (w_or1 (t_not (t_chain (o1 := .le) (o2 := .le) C (k_int C) (k_len C (a_cons (k_var 0 rfl (by first | exact .inl rfl | exact .inr (.inl rfl) | exact .inr (.inr rfl)) rfl rfl) a_nil rfl) rfl rfl (T.z_len) rfl) (p_bin (op := .add) C (k_gint C T.g_MOST_BREAKERS rfl rfl) (k_int C)) rfl))))) (ss_cons s_stuck
  ss_nil) ss_nil)
  (ss_cons (s_asgO (i := 1) C rfl (by first | exact .inl rfl | exact .inr rfl) (p_lst C a_nil) rfl (by first | exact .inr rfl | exact .inl rfl))
  (ss_cons (s_for C PassesOwn.never (i_enum C rfl (T.z_enumerate) (a_cons (k_var 0 rfl (by first | exact .inl rfl | exact .inr (.inl rfl) | exact .inr (.inr rfl)) rfl rfl) a_nil rfl) rfl) (tgp C (tgs_cons (tg_nm (pg_name (i := 2) C.nd rfl (by first | exact .inl rfl | exact .inr rfl) (by first | exact .inr rfl | exact .inl rfl))) (tgs_cons (tg_nm (pg_name (i := 3) C.nd rfl (by first | exact .inl rfl | exact .inr rfl) (by first | exact .inr rfl | exact .inl rfl))) tgs_nil rfl) rfl) rfl rfl) (ss_cons (s_ite (PW.pt (w_or (t_not (t_val C (c_call c_is_between C rfl rfl hr rfl (aw_cons (k_var 3 rfl (by first | exact .inl rfl | exact .inr (.inl rfl) | exact .inr (.inr rfl)) rfl rfl) (aw_cons (k_int C) (aw_cons (p_bin (op := .mul) C (k_int C) (k_gint C T.g_MOST_WAIT rfl rfl)) aw_nil rfl) rfl) rfl) rfl rfl rfl) (fun _ => rfl))) (w_or1 (PW.pt (w_and (t_cmp (op := .eq) C (k_var 2 rfl (by first | exact .inl rfl | exact .inr (.inl rfl) | exact .inr (.inr rfl)) rfl rfl) (k_int C) rfl) (w_and1 (t_cmp (op := .gt) C (k_var 3 rfl (by first | exact .inl rfl | exact .inr (.inl rfl) | exact .inr (.inr rfl)) rfl rfl) (k_gint C T.g_MOST_WAIT rfl rfl) rfl))))))) (ss_cons s_stuck
  ss_nil) ss_nil)
  (ss_cons (s_ite (t_cmp (op := .gt) C (k_var 2 rfl (by first | exact .inl rfl | exact .inr (.inl rfl) | exact .inr (.inr rfl)) rfl rfl) (k_int C) rfl) (ss_cons (s_asgO (i := 4) C rfl (by first | exact .inl rfl | exact .inr rfl) (p_ix C (k_var 0 rfl (by first | exact .inl rfl | exact .inr (.inl rfl) | exact .inr (.inr rfl)) rfl rfl) (p_bin (op := .sub) C (k_var 2 rfl (by first | exact .inl rfl | exact .inr (.inl rfl) | exact .inr (.inr rfl)) rfl rfl) (k_int C)) (fun _ _ => rfl)) rfl (by first | exact .inr rfl | exact .inl rfl))
  (ss_cons (s_ite (PW.pt (w_or (t_cmp (op := .ne) C (p_bin (op := .mod) C (k_var 3 rfl (by first | exact .inl rfl | exact .inr (.inl rfl) | exact .inr (.inr rfl)) rfl rfl) (k_var 4 rfl (by first | exact .inl rfl | exact .inr (.inl rfl) | exact .inr (.inr rfl)) rfl rfl)) (k_int C) rfl) (w_or1 (t_cmp (op := .ge) C (p_bin (op := .sub) C (k_var 3 rfl (by first | exact .inl rfl | exact .inr (.inl rfl) | exact .inr (.inr rfl)) rfl rfl) (k_var 4 rfl (by first | exact .inl rfl | exact .inr (.inl rfl) | exact .inr (.inr rfl)) rfl rfl)) (k_gint C T.g_MOST_WAIT rfl rfl) rfl)))) (ss_cons s_stuck
  ss_nil) ss_nil)
  (ss_cons (s_app C (pe_var (i := 1) rfl (by first | exact .inl rfl | exact .inr (.inl rfl) | exact .inr (.inr rfl)) rfl rfl) (p_tup C (a_cons (p_bin (op := .add) C (p_bin (op := .sub) C (k_var 3 rfl (by first | exact .inl rfl | exact .inr (.inl rfl) | exact .inr (.inr rfl)) rfl rfl) (k_var 4 rfl (by first | exact .inl rfl | exact .inr (.inl rfl) | exact .inr (.inr rfl)) rfl rfl)) (k_int C)) (a_cons (k_min2 C (a_cons (k_var 3 rfl (by first | exact .inl rfl | exact .inr (.inl rfl) | exact .inr (.inr rfl)) rfl rfl) (a_cons (k_gint C T.g_MOST_WAIT rfl rfl) a_nil rfl) rfl) rfl rfl (T.z_min) rfl) a_nil rfl) rfl)) rfl rfl rfl rfl)
  ss_nil))) ss_nil)
  ss_nil)) (fun _ => rfl))
  (ss_cons (s_ret (k_var 1 rfl (by first | exact .inl rfl | exact .inr (.inl rfl) | exact .inr (.inr rfl)) rfl rfl))
  ss_nil))))
abbrev s__law_right : Stmt := topS 39
theorem sc__law_right : FnScope ["_law_well_here", "_law_moments", "_law_device", "_law_seen", "_law_bad"] ["_law_well_here"] (defScope s__law_right) := ⟨rfl, rfl, rfl, by decide +kernel, rfl, by decide +kernel, by decide +kernel⟩
theorem ok__law_right {k : Nat} {f c : Addr} {oc kV dc pm ct : Value} {od an : Option Addr} {sl : Array (Option Value)} (T : Txt g mg) (lk : g.K.lookup f = some ⟨oc, od, .func (PySem.W.fnOf "_law_right" "_law_right" (defArgs s__law_right) (defBody s__law_right) (defScope s__law_right) .none kV dc pm an (.ref c) ct), sl⟩) (hcd : PySem.W.codeIn g.K (.ref c) "_law_right" = true) (hB : SmB base) (LT : LamT g base mg c "_law_right") (c__law_draw : Cal P w mg base g k "_law_draw" 2 F__law_draw) (ck_log_of_0_times_breaker : CalK P w mg base g k "log_of" 0 ["times", "breaker"] [1, 0] F_log_of) (c_log_of : Cal P w mg base g k "log_of" 2 F_log_of) (cg__law_logs_right : CalG P w mg base g k "_law_logs_right" 1 F__law_logs_right) (cg__law_others_right : CalG P w mg base g k "_law_others_right" 2 F__law_others_right) (ck_explanations_0_log : CalK P w mg base g k "explanations" 0 ["log"] [0] F_explanations) (c_explanations : Cal P w mg base g k "explanations" 1 F_explanations) (ck_first_conflict_0_log : CalK P w mg base g k "first_conflict" 0 ["log"] [0] F_first_conflict) (c_first_conflict : Cal P w mg base g k "first_conflict" 1 F_first_conflict) (ck_forecast_0_time_log : CalK P w mg base g k "forecast" 0 ["time", "log"] [1, 0] F_forecast) (c_forecast : Cal P w mg base g k "forecast" 2 F_forecast) (ck_waits_of_0_period_list : CalK P w mg base g k "waits_of" 0 ["period_list"] [0] F_waits_of) (c_waits_of : Cal P w mg base g k "waits_of" 1 F_waits_of) (cx_forecast_x : CalX P w mg base g k "forecast" 2 F_forecast_x) (td__law_said : Told g mg "_law_said" "_law_deed" s__law_said) : FnG P w g.K mg base CX0 (k + 3) f (PySem.W.fnOf "_law_right" "_law_right" (defArgs s__law_right) (defBody s__law_right) (defScope s__law_right) .none kV dc pm an (.ref c) ct) ["_law_well_here"] (spF g 1 F__law_right) := by
  refine def_fnG (c := 0) (fs := [F__law_draw, F_log_of, F__law_logs_right, F__law_others_right, F_explanations, F_first_conflict, F_forecast, F_waits_of, F_forecast_x]) lk hcd sc__law_right rfl rfl T.tt fun A outer s H E hgd hr3 C => ?_
  have hr := hr3.mono (show k ≤ k + 2 by omega)
  have hr1 := hr3.mono (show k + 1 ≤ k + 2 by omega)
  exact (ss_cons (s_asg (p_lst C (a_cons (k_int C) (a_cons (k_int C) (a_cons (k_int C) (a_cons (p_bin (op := .add) C (k_int C) (c_call c__law_draw C rfl rfl hr rfl (aw_cons (k_var 0 rfl (by first | exact .inl rfl | exact .inr (.inl rfl) | exact .inr (.inr rfl)) rfl rfl) (aw_cons (k_int C) aw_nil rfl) rfl) rfl rfl rfl)) (a_cons (k_int C) (a_cons (k_int C) a_nil rfl) rfl) rfl) rfl) rfl) rfl)) (tg_nm (pg_name (i := 1) C.nd rfl (by first | exact .inl rfl | exact .inr rfl) (by first | exact .inr rfl | exact .inl rfl))) rfl rfl rfl)
  (ss_cons (s_asg (p_tup C (a_cons (p_bin (op := .add) C (k_int C) (c_call c__law_draw C rfl rfl hr rfl (aw_cons (k_var 0 rfl (by first | exact .inl rfl | exact .inr (.inl rfl) | exact .inr (.inr rfl)) rfl rfl) (aw_cons (k_int C) aw_nil rfl) rfl) rfl rfl rfl)) (a_cons (p_bin (op := .add) C (k_int C) (c_call c__law_draw C rfl rfl hr rfl (aw_cons (k_var 0 rfl (by first | exact .inl rfl | exact .inr (.inl rfl) | exact .inr (.inr rfl)) rfl rfl) (aw_cons (k_int C) aw_nil rfl) rfl) rfl rfl rfl)) (a_cons (k_int C) a_nil rfl) rfl) rfl)) (tg_nm (pg_name (i := 2) C.nd rfl (by first | exact .inl rfl | exact .inr rfl) (by first | exact .inr rfl | exact .inl rfl))) rfl rfl rfl)
  (ss_cons (s_asg (c_callK0 ck_log_of_0_times_breaker C rfl rfl hr rfl (kf_cons (k_var 1 rfl (by first | exact .inl rfl | exact .inr (.inl rfl) | exact .inr (.inr rfl)) rfl rfl) (kf_cons (k_var 2 rfl (by first | exact .inl rfl | exact .inr (.inl rfl) | exact .inr (.inr rfl)) rfl rfl) kf_nil)) rfl rfl rfl rfl) (tg_nm (pg_name (i := 3) C.nd rfl (by first | exact .inl rfl | exact .inr rfl) (by first | exact .inr rfl | exact .inl rfl))) rfl rfl rfl)
  (ss_cons (s_ite (PW.pt (w_or (t_cmp (op := .ne) C (k_var 3 rfl (by first | exact .inl rfl | exact .inr (.inl rfl) | exact .inr (.inr rfl)) rfl rfl) (c_call c_log_of C rfl rfl hr rfl (aw_cons (k_var 2 rfl (by first | exact .inl rfl | exact .inr (.inl rfl) | exact .inr (.inr rfl)) rfl rfl) (aw_cons (k_var 1 rfl (by first | exact .inl rfl | exact .inr (.inl rfl) | exact .inr (.inr rfl)) rfl rfl) aw_nil rfl) rfl) rfl rfl rfl) rfl) (w_or1 (t_not (t_val C (c_callG cg__law_logs_right hgd C rfl rfl hr rfl (aw_cons (p_shr (p_bin (op := .add) C (k_int C) (c_call c__law_draw C rfl rfl hr rfl (aw_cons (k_var 0 rfl (by first | exact .inl rfl | exact .inr (.inl rfl) | exact .inr (.inr rfl)) rfl rfl) (aw_cons (k_int C) aw_nil rfl) rfl) rfl rfl rfl))) aw_nil rfl) rfl rfl rfl) (fun _ => rfl)))))) (ss_cons (s_ret (k_bl C))
  ss_nil) ss_nil)
  (ss_cons (s_ite (t_not (t_val C (c_callG cg__law_others_right hgd C rfl rfl hr rfl (aw_cons (k_var 3 rfl (by first | exact .inl rfl | exact .inr (.inl rfl) | exact .inr (.inr rfl)) rfl rfl) (aw_cons (k_int C) aw_nil rfl) rfl) rfl rfl rfl) (fun _ => rfl))) (ss_cons (s_ret (k_bl C))
  ss_nil) ss_nil)
  (ss_cons (s_ite (PW.pt (w_or (t_cmp (op := .ne) C (c_callK0 ck_explanations_0_log C rfl rfl hr rfl (kf_cons (k_var 3 rfl (by first | exact .inl rfl | exact .inr (.inl rfl) | exact .inr (.inr rfl)) rfl rfl) kf_nil) rfl rfl rfl rfl) (c_call c_explanations C rfl rfl hr rfl (aw_cons (k_var 3 rfl (by first | exact .inl rfl | exact .inr (.inl rfl) | exact .inr (.inr rfl)) rfl rfl) aw_nil rfl) rfl rfl rfl) rfl) (w_or1 (t_cmp (op := .ne) C (c_callK0 ck_first_conflict_0_log C rfl rfl hr rfl (kf_cons (k_var 3 rfl (by first | exact .inl rfl | exact .inr (.inl rfl) | exact .inr (.inr rfl)) rfl rfl) kf_nil) rfl rfl rfl rfl) (c_call c_first_conflict C rfl rfl hr rfl (aw_cons (k_var 3 rfl (by first | exact .inl rfl | exact .inr (.inl rfl) | exact .inr (.inr rfl)) rfl rfl) aw_nil rfl) rfl rfl rfl) rfl)))) (ss_cons (s_ret (k_bl C))
  ss_nil) ss_nil)
  (ss_cons (s_ite (PW.pt (w_or (t_cmp (op := .ne) C (c_callK0 ck_forecast_0_time_log C rfl rfl hr rfl (kf_cons (k_int C) (kf_cons (k_var 3 rfl (by first | exact .inl rfl | exact .inr (.inl rfl) | exact .inr (.inr rfl)) rfl rfl) kf_nil)) rfl rfl rfl rfl) (c_call c_forecast C rfl rfl hr rfl (aw_cons (k_var 3 rfl (by first | exact .inl rfl | exact .inr (.inl rfl) | exact .inr (.inr rfl)) rfl rfl) (aw_cons (k_int C) aw_nil rfl) rfl) rfl rfl rfl) rfl) (w_or1 (t_cmp (op := .ne) C (c_callK0 ck_waits_of_0_period_list C rfl rfl hr rfl (kf_cons (p_lst C (a_cons (k_int C) (a_cons (k_int C) a_nil rfl) rfl)) kf_nil) rfl rfl rfl rfl) (c_call c_waits_of C rfl rfl hr rfl (aw_cons (p_lst C (a_cons (k_int C) (a_cons (k_int C) a_nil rfl) rfl)) aw_nil rfl) rfl rfl rfl) rfl)))) (ss_cons (s_ret (k_bl C))
  ss_nil) ss_nil)
  (ss_cons (s_asg (p_lst C (a_cons (p_tup C (a_cons (k_int C) (a_cons (k_bl C) a_nil rfl) rfl)) a_nil rfl)) (tg_nm (pg_name (i := 4) C.nd rfl (by first | exact .inl rfl | exact .inr rfl) (by first | exact .inr rfl | exact .inl rfl))) rfl rfl rfl)
  (ss_cons (s_ite (t_cmp (op := .ne) C (p_told C td__law_said LT rfl sc__law_said rfl (by first | exact .inl rfl | exact .inr (.inl rfl)) (fun g0 cdv => gv__law_said T C.K hr3 hgd hB) rfl rfl hr3 (LamX.lamS_by rfl) rfl (fun _ _ _ _ _ => rfl) (fun A outer s H E f c' hr C tk => (cx_call cx_forecast_x C tk rfl rfl hr rfl (aw_cons (k_var 4 rfl (by first | exact .inl rfl | exact .inr (.inl rfl) | exact .inr (.inr rfl)) rfl rfl) (aw_cons (k_int C) aw_nil rfl) rfl) rfl rfl rfl)) rfl rfl rfl) (p_tup C (a_cons (k_str C) (a_cons (k_str C) a_nil rfl) rfl)) rfl) (ss_cons (s_ret (k_bl C))
  ss_nil) ss_nil)
  (ss_cons (s_ret (p_cmp (op := .eq) C (p_told C td__law_said LT rfl sc__law_said rfl (by first | exact .inl rfl | exact .inr (.inl rfl)) (fun g0 cdv => gv__law_said T C.K hr3 hgd hB) rfl rfl hr3 (LamX.lamS_by rfl) rfl (fun _ _ _ _ _ => rfl) (fun A outer s H E f c' hr C tk => (cx_call cx_forecast_x C tk rfl rfl hr rfl (aw_cons (k_var 4 rfl (by first | exact .inl rfl | exact .inr (.inl rfl) | exact .inr (.inr rfl)) rfl rfl) (aw_cons (k_int C) aw_nil rfl) rfl) rfl rfl rfl)) rfl rfl rfl) (p_tup C (a_cons (k_str C) (a_cons (k_int C) a_nil rfl) rfl)) rfl))
  ss_nil))))))))))
abbrev s_law : Stmt := topS 40
theorem sc_law : FnScope ["_law_script", "_law_cell"] ["_law_script"] (defScope s_law) := ⟨rfl, rfl, rfl, by decide +kernel, rfl, by decide +kernel, by decide +kernel⟩
theorem ok_law {k : Nat} {f : Addr} {oc kV dc pm cv ct : Value} {od an : Option Addr} {sl : Array (Option Value)} (T : Txt g mg) (lk : g.K.lookup f = some ⟨oc, od, .func (PySem.W.fnOf "law" "law" (defArgs s_law) (defBody s_law) (defScope s_law) .none kV dc pm an cv ct), sl⟩) (hcd : PySem.W.codeIn g.K cv "law" = true) (hB : SmB base) (c__law_well : Cal P w mg base g k "_law_well" 1 F__law_well) (cg__law_right : CalG P w mg base g k "_law_right" 1 F__law_right) : FnG P w g.K mg base CX0 (k + 1) f (PySem.W.fnOf "law" "law" (defArgs s_law) (defBody s_law) (defScope s_law) .none kV dc pm an cv ct) ["_law_script"] (spF g 1 F_law) := by
  refine def_fnG (c := 0) (fs := [F__law_well, F__law_right]) lk hcd sc_law rfl rfl T.tt fun A outer s H E hgd hr C => ?_
  exact (ss_cons (s_for C PassesOwn.never (i_seq C (p_bin (op := .add) C (p_slc C (k_var 0 rfl (by first | exact .inl rfl | exact .inr (.inl rfl) | exact .inr (.inr rfl)) rfl rfl) part0 (part1 (k_int C))) (p_lst C (a_cons (k_int C) a_nil rfl)))) (tg_nm (pg_name (i := 1) C.nd rfl (by first | exact .inl rfl | exact .inr rfl) (by first | exact .inr rfl | exact .inl rfl))) (ss_cons (s_ite (t_not (t_val C (c_callG cg__law_right hgd C rfl rfl hr rfl (aw_cons (c_call c__law_well C rfl rfl hr rfl (aw_cons (k_var 1 rfl (by first | exact .inl rfl | exact .inr (.inl rfl) | exact .inr (.inr rfl)) rfl rfl) aw_nil rfl) rfl rfl rfl) aw_nil rfl) rfl rfl rfl) (fun _ => rfl))) (ss_cons (s_ret (k_bl C))
  ss_nil) ss_nil)
  ss_nil) (fun _ => rfl))
  (ss_cons (s_ret (k_bl C))
  ss_nil))
end
theorem all_mk {l : PySem.W.OpenLaw} {w : World} {K : PySem.W.Frag} {h : Heap} {mg mb : Str → Option Value} {qv : Program} {lo : List Str} {mean : ExcName → Option Value} {fa C8 C9 C10 C11 C12 C13 C14 C15 C16 C17 C18 : Addr} (X : K.In h) (TP : PyProof.Rows.Top qv lo mean mg mb h) (hfa : mg "law" = some (.ref fa)) (ht : ∀ ns : List Int, ns.length ≤ 63 → (∀ z ∈ ns, Builtin.Int.intBits z ≤ 1048576) → ∃ os, F_law [some (.scr ns, false)] = some (.fz (.bl true), os))
    {f0 : Addr} {od0 an0 : Option Addr} {sl0 : Array (Option Value)} {oc0 kV0 dc0 pm0 cd0 ct0 : Value}
    {f1 : Addr} {od1 an1 : Option Addr} {sl1 : Array (Option Value)} {oc1 kV1 dc1 pm1 cd1 ct1 : Value}
    {f2 : Addr} {od2 an2 : Option Addr} {sl2 : Array (Option Value)} {oc2 kV2 dc2 pm2 cd2 ct2 : Value}
    {f3 : Addr} {od3 an3 : Option Addr} {sl3 : Array (Option Value)} {oc3 kV3 dc3 pm3 cd3 ct3 : Value}
    {f4 : Addr} {od4 an4 : Option Addr} {sl4 : Array (Option Value)} {oc4 kV4 dc4 pm4 cd4 ct4 : Value}
    {f5 : Addr} {od5 an5 : Option Addr} {sl5 : Array (Option Value)} {oc5 kV5 dc5 pm5 cd5 ct5 : Value}
    {f6 : Addr} {od6 an6 : Option Addr} {sl6 : Array (Option Value)} {oc6 kV6 dc6 pm6 cd6 ct6 : Value}
    {f7 : Addr} {od7 an7 : Option Addr} {sl7 : Array (Option Value)} {oc7 kV7 dc7 pm7 cd7 ct7 : Value}
    {f8 : Addr} {od8 an8 : Option Addr} {sl8 : Array (Option Value)} {oc8 kV8 dc8 pm8 cd8 ct8 : Value}
    {f9 : Addr} {od9 an9 : Option Addr} {sl9 : Array (Option Value)} {oc9 kV9 dc9 pm9 cd9 ct9 : Value}
    {f10 : Addr} {od10 an10 : Option Addr} {sl10 : Array (Option Value)} {oc10 kV10 dc10 pm10 cd10 ct10 : Value}
    {f11 : Addr} {od11 an11 : Option Addr} {sl11 : Array (Option Value)} {oc11 kV11 dc11 pm11 cd11 ct11 : Value}
    {f12 : Addr} {od12 an12 : Option Addr} {sl12 : Array (Option Value)} {oc12 kV12 dc12 pm12 cd12 ct12 : Value}
    {f13 : Addr} {od13 an13 : Option Addr} {sl13 : Array (Option Value)} {oc13 kV13 dc13 pm13 cd13 ct13 : Value}
    {f14 : Addr} {od14 an14 : Option Addr} {sl14 : Array (Option Value)} {oc14 kV14 dc14 pm14 cd14 ct14 : Value}
    {f15 : Addr} {od15 an15 : Option Addr} {sl15 : Array (Option Value)} {oc15 kV15 dc15 pm15 cd15 ct15 : Value}
    {f16 : Addr} {od16 an16 : Option Addr} {sl16 : Array (Option Value)} {oc16 kV16 dc16 pm16 cd16 ct16 : Value}
    {f17 : Addr} {od17 an17 : Option Addr} {sl17 : Array (Option Value)} {oc17 kV17 dc17 pm17 cd17 ct17 : Value}
    {f18 : Addr} {od18 an18 : Option Addr} {sl18 : Array (Option Value)} {oc18 kV18 dc18 pm18 cd18 ct18 : Value}
    {f19 : Addr} {od19 an19 : Option Addr} {sl19 : Array (Option Value)} {oc19 kV19 dc19 pm19 cd19 ct19 : Value}
    {cc20 PP20 : Addr}
    {f20 : Addr} {od20 an20 : Option Addr} {sl20 : Array (Option Value)} {oc20 kV20 dc20 pm20 ct20 : Value}
    {f21 : Addr} {od21 an21 : Option Addr} {sl21 : Array (Option Value)} {oc21 kV21 dc21 pm21 cd21 ct21 : Value}
    {f22 : Addr} {od22 an22 : Option Addr} {sl22 : Array (Option Value)} {oc22 kV22 dc22 pm22 cd22 ct22 : Value}
    {f23 : Addr} {od23 an23 : Option Addr} {sl23 : Array (Option Value)} {oc23 kV23 dc23 pm23 cd23 ct23 : Value}
    {f24 : Addr} {od24 an24 : Option Addr} {sl24 : Array (Option Value)} {oc24 kV24 dc24 pm24 cd24 ct24 : Value}
    {cc25 PP25 : Addr}
    {f25 : Addr} {od25 an25 : Option Addr} {sl25 : Array (Option Value)} {oc25 kV25 dc25 pm25 ct25 : Value}
    {f26 : Addr} {od26 an26 : Option Addr} {sl26 : Array (Option Value)} {oc26 kV26 dc26 pm26 cd26 ct26 : Value}
    {f27 : Addr} {od27 an27 : Option Addr} {sl27 : Array (Option Value)} {oc27 kV27 dc27 pm27 cd27 ct27 : Value}
    {f28 : Addr} {od28 an28 : Option Addr} {sl28 : Array (Option Value)} {oc28 kV28 dc28 pm28 cd28 ct28 : Value}
    {cc29 PP29 : Addr}
    {f29 : Addr} {od29 an29 : Option Addr} {sl29 : Array (Option Value)} {oc29 kV29 dc29 pm29 ct29 : Value}
    {f30 : Addr} {od30 an30 : Option Addr} {sl30 : Array (Option Value)} {oc30 kV30 dc30 pm30 cd30 ct30 : Value}
    {t_MOST_COUNT : _}
    {t_MOST_WAIT : _}
    {t_MOST_ENTRIES : _}
    {t_MOST_BREAKERS : _}
    (aC8 : PySem.W.nsIn K mainGlobals "BreakerError" = some (some (.ref C8)))
    (aC9 : PySem.W.nsIn K mainGlobals "InvalidRow" = some (some (.ref C9)))
    (aC10 : PySem.W.nsIn K mainGlobals "InvalidTime" = some (some (.ref C10)))
    (aC11 : PySem.W.nsIn K mainGlobals "InvalidOutages" = some (some (.ref C11)))
    (aC12 : PySem.W.nsIn K mainGlobals "InvalidTrains" = some (some (.ref C12)))
    (aC13 : PySem.W.nsIn K mainGlobals "InvalidIndex" = some (some (.ref C13)))
    (aC14 : PySem.W.nsIn K mainGlobals "InvalidBound" = some (some (.ref C14)))
    (aC15 : PySem.W.nsIn K mainGlobals "InvalidLog" = some (some (.ref C15)))
    (aC16 : PySem.W.nsIn K mainGlobals "InvalidCall" = some (some (.ref C16)))
    (aC17 : PySem.W.nsIn K mainGlobals "InvalidText" = some (some (.ref C17)))
    (aC18 : PySem.W.nsIn K mainGlobals "LimitExceeded" = some (some (.ref C18)))
    (a0 : PySem.W.nsIn K mainGlobals "_law_well" = some (some (.ref f0)))
    (l0 : K.lookup f0 = some ⟨oc0, od0, .func (PySem.W.fnOf "_law_well" "_law_well" (defArgs s__law_well) (defBody s__law_well) (defScope s__law_well) .none (kV0) dc0 pm0 an0 cd0 ct0), sl0⟩)
    (e0 : PySem.W.codeIn K cd0 "_law_well" = true)
    (k0 : PySem.W.keepIn K (.ref f0) = true)
    (a1 : PySem.W.nsIn K mainGlobals "_law_mixed" = some (some (.ref f1)))
    (l1 : K.lookup f1 = some ⟨oc1, od1, .func (PySem.W.fnOf "_law_mixed" "_law_mixed" (defArgs s__law_mixed) (defBody s__law_mixed) (defScope s__law_mixed) .none (kV1) dc1 pm1 an1 cd1 ct1), sl1⟩)
    (e1 : PySem.W.codeIn K cd1 "_law_mixed" = true)
    (k1 : PySem.W.keepIn K (.ref f1) = true)
    (a2 : PySem.W.nsIn K mainGlobals "_law_draw" = some (some (.ref f2)))
    (l2 : K.lookup f2 = some ⟨oc2, od2, .func (PySem.W.fnOf "_law_draw" "_law_draw" (defArgs s__law_draw) (defBody s__law_draw) (defScope s__law_draw) .none (kV2) dc2 pm2 an2 cd2 ct2), sl2⟩)
    (e2 : PySem.W.codeIn K cd2 "_law_draw" = true)
    (k2 : PySem.W.keepIn K (.ref f2) = true)
    (a3 : PySem.W.nsIn K mainGlobals "is_integer" = some (some (.ref f3)))
    (l3 : K.lookup f3 = some ⟨oc3, od3, .func (PySem.W.fnOf "is_integer" "is_integer" (defArgs s_is_integer) (defBody s_is_integer) (defScope s_is_integer) .none (kV3) dc3 pm3 an3 cd3 ct3), sl3⟩)
    (e3 : PySem.W.codeIn K cd3 "is_integer" = true)
    (k3 : PySem.W.keepIn K (.ref f3) = true)
    (a4 : PySem.W.nsIn K mainGlobals "is_between" = some (some (.ref f4)))
    (l4 : K.lookup f4 = some ⟨oc4, od4, .func (PySem.W.fnOf "is_between" "is_between" (defArgs s_is_between) (defBody s_is_between) (defScope s_is_between) .none (kV4) dc4 pm4 an4 cd4 ct4), sl4⟩)
    (e4 : PySem.W.codeIn K cd4 "is_between" = true)
    (k4 : PySem.W.keepIn K (.ref f4) = true)
    (a5 : PySem.W.nsIn K mainGlobals "is_breaker" = some (some (.ref f5)))
    (l5 : K.lookup f5 = some ⟨oc5, od5, .func (PySem.W.fnOf "is_breaker" "is_breaker" (defArgs s_is_breaker) (defBody s_is_breaker) (defScope s_is_breaker) .none (kV5) dc5 pm5 an5 cd5 ct5), sl5⟩)
    (e5 : PySem.W.codeIn K cd5 "is_breaker" = true)
    (k5 : PySem.W.keepIn K (.ref f5) = true)
    (a6 : PySem.W.nsIn K mainGlobals "check_times" = some (some (.ref f6)))
    (l6 : K.lookup f6 = some ⟨oc6, od6, .func (PySem.W.fnOf "check_times" "check_times" (defArgs s_check_times) (defBody s_check_times) (defScope s_check_times) .none (kV6) dc6 pm6 an6 cd6 ct6), sl6⟩)
    (e6 : PySem.W.codeIn K cd6 "check_times" = true)
    (k6 : PySem.W.keepIn K (.ref f6) = true)
    (a7 : PySem.W.nsIn K mainGlobals "log_of" = some (some (.ref f7)))
    (l7 : K.lookup f7 = some ⟨oc7, od7, .func (PySem.W.fnOf "log_of" "log_of" (defArgs s_log_of) (defBody s_log_of) (defScope s_log_of) .none (kV7) dc7 pm7 an7 cd7 ct7), sl7⟩)
    (e7 : PySem.W.codeIn K cd7 "log_of" = true)
    (k7 : PySem.W.keepIn K (.ref f7) = true)
    (a8 : PySem.W.nsIn K mainGlobals "_law_said" = some (some (.ref f8)))
    (l8 : K.lookup f8 = some ⟨oc8, od8, .func (PySem.W.fnOf "_law_said" "_law_said" (defArgs s__law_said) (defBody s__law_said) (defScope s__law_said) .none (kV8) dc8 pm8 an8 cd8 ct8), sl8⟩)
    (e8 : PySem.W.codeIn K cd8 "_law_said" = true)
    (k8 : PySem.W.keepIn K (.ref f8) = true)
    (a9 : PySem.W.findIn K (.ref C15) "__init__" = some (some (.ref f9)))
    (i9 : PySem.W.isFn K (.ref f9) = true)
    (l9 : K.lookup f9 = some ⟨oc9, od9, .func (PySem.W.fnOf "__init__" "InvalidLog.__init__" (defArgs s_InvalidLog___init__) (defBody s_InvalidLog___init__) (defScope s_InvalidLog___init__) .none (kV9) dc9 pm9 an9 cd9 ct9), sl9⟩)
    (e9 : PySem.W.codeIn K cd9 "InvalidLog.__init__" = true)
    (ti9 : PySem.W.typeIn K (.ref f9) = some (.type "function"))
    (k9 : PySem.W.keepIn K (.ref f9) = true)
    (a10 : PySem.W.nsIn K mainGlobals "is_entry" = some (some (.ref f10)))
    (l10 : K.lookup f10 = some ⟨oc10, od10, .func (PySem.W.fnOf "is_entry" "is_entry" (defArgs s_is_entry) (defBody s_is_entry) (defScope s_is_entry) .none (kV10) dc10 pm10 an10 cd10 ct10), sl10⟩)
    (e10 : PySem.W.codeIn K cd10 "is_entry" = true)
    (k10 : PySem.W.keepIn K (.ref f10) = true)
    (a11 : PySem.W.nsIn K mainGlobals "check_log" = some (some (.ref f11)))
    (l11 : K.lookup f11 = some ⟨oc11, od11, .func (PySem.W.fnOf "check_log" "check_log" (defArgs s_check_log_x) (defBody s_check_log_x) (defScope s_check_log_x) .none (kV11) dc11 pm11 an11 cd11 ct11), sl11⟩)
    (e11 : PySem.W.codeIn K cd11 "check_log" = true)
    (k11 : PySem.W.keepIn K (.ref f11) = true)
    (a12 : PySem.W.nsIn K mainGlobals "first_passes" = some (some (.ref f12)))
    (l12 : K.lookup f12 = some ⟨oc12, od12, .func (PySem.W.fnOf "first_passes" "first_passes" (defArgs s_first_passes) (defBody s_first_passes) (defScope s_first_passes) .none (kV12) dc12 pm12 an12 cd12 ct12), sl12⟩)
    (e12 : PySem.W.codeIn K cd12 "first_passes" = true)
    (k12 : PySem.W.keepIn K (.ref f12) = true)
    (a13 : PySem.W.nsIn K mainGlobals "later_bounds" = some (some (.ref f13)))
    (l13 : K.lookup f13 = some ⟨oc13, od13, .func (PySem.W.fnOf "later_bounds" "later_bounds" (defArgs s_later_bounds) (defBody s_later_bounds) (defScope s_later_bounds) .none (kV13) dc13 pm13 an13 cd13 ct13), sl13⟩)
    (e13 : PySem.W.codeIn K cd13 "later_bounds" = true)
    (k13 : PySem.W.keepIn K (.ref f13) = true)
    (a14 : PySem.W.nsIn K mainGlobals "explanations" = some (some (.ref f14)))
    (l14 : K.lookup f14 = some ⟨oc14, od14, .func (PySem.W.fnOf "explanations" "explanations" (defArgs s_explanations_x) (defBody s_explanations_x) (defScope s_explanations_x) .none (kV14) dc14 pm14 an14 cd14 ct14), sl14⟩)
    (e14 : PySem.W.codeIn K cd14 "explanations" = true)
    (k14 : PySem.W.keepIn K (.ref f14) = true)
    (a15 : PySem.W.nsIn K mainGlobals "first_conflict" = some (some (.ref f15)))
    (l15 : K.lookup f15 = some ⟨oc15, od15, .func (PySem.W.fnOf "first_conflict" "first_conflict" (defArgs s_first_conflict_x) (defBody s_first_conflict_x) (defScope s_first_conflict_x) .none (kV15) dc15 pm15 an15 cd15 ct15), sl15⟩)
    (e15 : PySem.W.codeIn K cd15 "first_conflict" = true)
    (k15 : PySem.W.keepIn K (.ref f15) = true)
    (a16 : PySem.W.findIn K (.ref C10) "__init__" = some (some (.ref f16)))
    (i16 : PySem.W.isFn K (.ref f16) = true)
    (l16 : K.lookup f16 = some ⟨oc16, od16, .func (PySem.W.fnOf "__init__" "InvalidTime.__init__" (defArgs s_InvalidTime___init__) (defBody s_InvalidTime___init__) (defScope s_InvalidTime___init__) .none (kV16) dc16 pm16 an16 cd16 ct16), sl16⟩)
    (e16 : PySem.W.codeIn K cd16 "InvalidTime.__init__" = true)
    (ti16 : PySem.W.typeIn K (.ref f16) = some (.type "function"))
    (k16 : PySem.W.keepIn K (.ref f16) = true)
    (a17 : PySem.W.nsIn K mainGlobals "forecast" = some (some (.ref f17)))
    (l17 : K.lookup f17 = some ⟨oc17, od17, .func (PySem.W.fnOf "forecast" "forecast" (defArgs s_forecast_x) (defBody s_forecast_x) (defScope s_forecast_x) .none (kV17) dc17 pm17 an17 cd17 ct17), sl17⟩)
    (e17 : PySem.W.codeIn K cd17 "forecast" = true)
    (k17 : PySem.W.keepIn K (.ref f17) = true)
    (a18 : PySem.W.nsIn K mainGlobals "check_log" = some (some (.ref f18)))
    (l18 : K.lookup f18 = some ⟨oc18, od18, .func (PySem.W.fnOf "check_log" "check_log" (defArgs s_check_log) (defBody s_check_log) (defScope s_check_log) .none (kV18) dc18 pm18 an18 cd18 ct18), sl18⟩)
    (e18 : PySem.W.codeIn K cd18 "check_log" = true)
    (k18 : PySem.W.keepIn K (.ref f18) = true)
    (a19 : PySem.W.nsIn K mainGlobals "explanations" = some (some (.ref f19)))
    (l19 : K.lookup f19 = some ⟨oc19, od19, .func (PySem.W.fnOf "explanations" "explanations" (defArgs s_explanations) (defBody s_explanations) (defScope s_explanations) .none (kV19) dc19 pm19 an19 cd19 ct19), sl19⟩)
    (e19 : PySem.W.codeIn K cd19 "explanations" = true)
    (k19 : PySem.W.keepIn K (.ref f19) = true)
    (a20 : PySem.W.nsIn K mainGlobals "_law_logs_right" = some (some (.ref f20)))
    (l20 : K.lookup f20 = some ⟨oc20, od20, .func (PySem.W.fnOf "_law_logs_right" "_law_logs_right" (defArgs s__law_logs_right) (defBody s__law_logs_right) (defScope s__law_logs_right) .none (kV20) dc20 pm20 an20 (.ref cc20) ct20), sl20⟩)
    (e20 : PySem.W.codeIn K (.ref cc20) "_law_logs_right" = true)
    (tb20 : PySem.W.tabIn K "_law_logs_right" = some (cc20, PP20))
    (np20 : K.lookup PP20 = none)
    (rc20 : ((PyProof.Rows.recsOf qv).find? fun e => e.name == ("_law_logs_right" : Str)).isSome = true)
    (k20 : PySem.W.keepIn K (.ref f20) = true)
    (a21 : PySem.W.findIn K (.ref C9) "__init__" = some (some (.ref f21)))
    (i21 : PySem.W.isFn K (.ref f21) = true)
    (l21 : K.lookup f21 = some ⟨oc21, od21, .func (PySem.W.fnOf "__init__" "InvalidRow.__init__" (defArgs s_InvalidRow___init__) (defBody s_InvalidRow___init__) (defScope s_InvalidRow___init__) .none (kV21) dc21 pm21 an21 cd21 ct21), sl21⟩)
    (e21 : PySem.W.codeIn K cd21 "InvalidRow.__init__" = true)
    (ti21 : PySem.W.typeIn K (.ref f21) = some (.type "function"))
    (k21 : PySem.W.keepIn K (.ref f21) = true)
    (a22 : PySem.W.nsIn K mainGlobals "check_times" = some (some (.ref f22)))
    (l22 : K.lookup f22 = some ⟨oc22, od22, .func (PySem.W.fnOf "check_times" "check_times" (defArgs s_check_times_x) (defBody s_check_times_x) (defScope s_check_times_x) .none (kV22) dc22 pm22 an22 cd22 ct22), sl22⟩)
    (e22 : PySem.W.codeIn K cd22 "check_times" = true)
    (k22 : PySem.W.keepIn K (.ref f22) = true)
    (a23 : PySem.W.nsIn K mainGlobals "log_of" = some (some (.ref f23)))
    (l23 : K.lookup f23 = some ⟨oc23, od23, .func (PySem.W.fnOf "log_of" "log_of" (defArgs s_log_of_x) (defBody s_log_of_x) (defScope s_log_of_x) .none (kV23) dc23 pm23 an23 cd23 ct23), sl23⟩)
    (e23 : PySem.W.codeIn K cd23 "log_of" = true)
    (k23 : PySem.W.keepIn K (.ref f23) = true)
    (a24 : PySem.W.nsIn K mainGlobals "waits_of" = some (some (.ref f24)))
    (l24 : K.lookup f24 = some ⟨oc24, od24, .func (PySem.W.fnOf "waits_of" "waits_of" (defArgs s_waits_of_x) (defBody s_waits_of_x) (defScope s_waits_of_x) .none (kV24) dc24 pm24 an24 cd24 ct24), sl24⟩)
    (e24 : PySem.W.codeIn K cd24 "waits_of" = true)
    (k24 : PySem.W.keepIn K (.ref f24) = true)
    (a25 : PySem.W.nsIn K mainGlobals "_law_others_right" = some (some (.ref f25)))
    (l25 : K.lookup f25 = some ⟨oc25, od25, .func (PySem.W.fnOf "_law_others_right" "_law_others_right" (defArgs s__law_others_right) (defBody s__law_others_right) (defScope s__law_others_right) .none (kV25) dc25 pm25 an25 (.ref cc25) ct25), sl25⟩)
    (e25 : PySem.W.codeIn K (.ref cc25) "_law_others_right" = true)
    (tb25 : PySem.W.tabIn K "_law_others_right" = some (cc25, PP25))
    (np25 : K.lookup PP25 = none)
    (rc25 : ((PyProof.Rows.recsOf qv).find? fun e => e.name == ("_law_others_right" : Str)).isSome = true)
    (pn20_25 : PP20 ≠ PP25)
    (k25 : PySem.W.keepIn K (.ref f25) = true)
    (a26 : PySem.W.nsIn K mainGlobals "first_conflict" = some (some (.ref f26)))
    (l26 : K.lookup f26 = some ⟨oc26, od26, .func (PySem.W.fnOf "first_conflict" "first_conflict" (defArgs s_first_conflict) (defBody s_first_conflict) (defScope s_first_conflict) .none (kV26) dc26 pm26 an26 cd26 ct26), sl26⟩)
    (e26 : PySem.W.codeIn K cd26 "first_conflict" = true)
    (k26 : PySem.W.keepIn K (.ref f26) = true)
    (a27 : PySem.W.nsIn K mainGlobals "forecast" = some (some (.ref f27)))
    (l27 : K.lookup f27 = some ⟨oc27, od27, .func (PySem.W.fnOf "forecast" "forecast" (defArgs s_forecast) (defBody s_forecast) (defScope s_forecast) .none (kV27) dc27 pm27 an27 cd27 ct27), sl27⟩)
    (e27 : PySem.W.codeIn K cd27 "forecast" = true)
    (k27 : PySem.W.keepIn K (.ref f27) = true)
    (a28 : PySem.W.nsIn K mainGlobals "waits_of" = some (some (.ref f28)))
    (l28 : K.lookup f28 = some ⟨oc28, od28, .func (PySem.W.fnOf "waits_of" "waits_of" (defArgs s_waits_of) (defBody s_waits_of) (defScope s_waits_of) .none (kV28) dc28 pm28 an28 cd28 ct28), sl28⟩)
    (e28 : PySem.W.codeIn K cd28 "waits_of" = true)
    (k28 : PySem.W.keepIn K (.ref f28) = true)
    (a29 : PySem.W.nsIn K mainGlobals "_law_right" = some (some (.ref f29)))
    (l29 : K.lookup f29 = some ⟨oc29, od29, .func (PySem.W.fnOf "_law_right" "_law_right" (defArgs s__law_right) (defBody s__law_right) (defScope s__law_right) .none (kV29) dc29 pm29 an29 (.ref cc29) ct29), sl29⟩)
    (e29 : PySem.W.codeIn K (.ref cc29) "_law_right" = true)
    (tb29 : PySem.W.tabIn K "_law_right" = some (cc29, PP29))
    (np29 : K.lookup PP29 = none)
    (rc29 : ((PyProof.Rows.recsOf qv).find? fun e => e.name == ("_law_right" : Str)).isSome = true)
    (pn20_29 : PP20 ≠ PP29)
    (pn25_29 : PP25 ≠ PP29)
    (k29 : PySem.W.keepIn K (.ref f29) = true)
    (a30 : PySem.W.nsIn K mainGlobals "law" = some (some (.ref f30)))
    (l30 : K.lookup f30 = some ⟨oc30, od30, .func (PySem.W.fnOf "law" "law" (defArgs s_law) (defBody s_law) (defScope s_law) .none (kV30) dc30 pm30 an30 cd30 ct30), sl30⟩)
    (e30 : PySem.W.codeIn K cd30 "law" = true)
    (k30 : PySem.W.keepIn K (.ref f30) = true)
    (z_ArithmeticError : PySem.W.nsIn K mainGlobals "ArithmeticError" = some none)
    (z_bool : PySem.W.nsIn K mainGlobals "bool" = some none)
    (z_enumerate : PySem.W.nsIn K mainGlobals "enumerate" = some none)
    (z_int : PySem.W.nsIn K mainGlobals "int" = some none)
    (z_isinstance : PySem.W.nsIn K mainGlobals "isinstance" = some none)
    (z_len : PySem.W.nsIn K mainGlobals "len" = some none)
    (z_list : PySem.W.nsIn K mainGlobals "list" = some none)
    (z_max : PySem.W.nsIn K mainGlobals "max" = some none)
    (z_min : PySem.W.nsIn K mainGlobals "min" = some none)
    (z_range : PySem.W.nsIn K mainGlobals "range" = some none)
    (z_repr : PySem.W.nsIn K mainGlobals "repr" = some none)
    (z_tuple : PySem.W.nsIn K mainGlobals "tuple" = some none)
    (g_MOST_COUNT : PySem.W.nsIn K mainGlobals "MOST_COUNT" = some (some (.int 1000000000000 t_MOST_COUNT)))
    (g_MOST_WAIT : PySem.W.nsIn K mainGlobals "MOST_WAIT" = some (some (.int 1000000000000000000000000000000 t_MOST_WAIT)))
    (g_MOST_ENTRIES : PySem.W.nsIn K mainGlobals "MOST_ENTRIES" = some (some (.int 1000 t_MOST_ENTRIES)))
    (g_MOST_BREAKERS : PySem.W.nsIn K mainGlobals "MOST_BREAKERS" = some (some (.int 12 t_MOST_BREAKERS)))
    (qcl15 : (PySem.W.clsIn K C15).isSome = true)
    (qga15 : PySem.W.findIn K (.ref C15) "__getattribute__" = some (some (.builtin "BaseException.__getattribute__")))
    (qgt15 : PySem.W.findIn K (.ref C15) "__getattr__" = some none)
    (qsb15 : PySem.W.subIn K (.ref C15) (.type "BaseException") = some true)
    (qha15 : PySem.W.findIn K (.ref C15) "__class__" = some (some (.builtin "object.__class__")))
    (qhn : PySem.W.specialIn K (.builtin "object.__class__") "__get__" = some (some (.builtin "getset_descriptor.__get__")))
    (qtk : PySem.W.takesIn K (.builtin "object.__class__") = some true)
    (qhm15 : PySem.W.mroIn K C15 (.type "object") = some true)
    (qhd15 : PySem.W.hasDictIn K C15 = true)
    (xk_InvalidLog_InvalidRow : PySem.W.kitOne K (.ref C15) (.ref C9) = some false)
    (qcl9 : (PySem.W.clsIn K C9).isSome = true)
    (qga9 : PySem.W.findIn K (.ref C9) "__getattribute__" = some (some (.builtin "BaseException.__getattribute__")))
    (qgt9 : PySem.W.findIn K (.ref C9) "__getattr__" = some none)
    (qsb9 : PySem.W.subIn K (.ref C9) (.type "BaseException") = some true)
    (qha9 : PySem.W.findIn K (.ref C9) "__class__" = some (some (.builtin "object.__class__")))
    (qhm9 : PySem.W.mroIn K C9 (.type "object") = some true)
    (qhd9 : PySem.W.hasDictIn K C9 = true)
    (xk_InvalidRow_InvalidRow : PySem.W.kitOne K (.ref C9) (.ref C9) = some true)
    (qcl10 : (PySem.W.clsIn K C10).isSome = true)
    (qga10 : PySem.W.findIn K (.ref C10) "__getattribute__" = some (some (.builtin "BaseException.__getattribute__")))
    (qgt10 : PySem.W.findIn K (.ref C10) "__getattr__" = some none)
    (qsb10 : PySem.W.subIn K (.ref C10) (.type "BaseException") = some true)
    (qha10 : PySem.W.findIn K (.ref C10) "__class__" = some (some (.builtin "object.__class__")))
    (qhm10 : PySem.W.mroIn K C10 (.type "object") = some true)
    (qhd10 : PySem.W.hasDictIn K C10 = true)
    (xk_InvalidTime_InvalidRow : PySem.W.kitOne K (.ref C10) (.ref C9) = some false)
    (xk_InvalidLog_InvalidTime : PySem.W.kitOne K (.ref C15) (.ref C10) = some false)
    (xk_InvalidRow_InvalidTime : PySem.W.kitOne K (.ref C9) (.ref C10) = some false)
    (xk_InvalidTime_InvalidTime : PySem.W.kitOne K (.ref C10) (.ref C10) = some true)
    (xk_InvalidLog_InvalidOutages : PySem.W.kitOne K (.ref C15) (.ref C11) = some false)
    (xk_InvalidRow_InvalidOutages : PySem.W.kitOne K (.ref C9) (.ref C11) = some false)
    (xk_InvalidTime_InvalidOutages : PySem.W.kitOne K (.ref C10) (.ref C11) = some false)
    (xk_InvalidLog_InvalidIndex : PySem.W.kitOne K (.ref C15) (.ref C13) = some false)
    (xk_InvalidRow_InvalidIndex : PySem.W.kitOne K (.ref C9) (.ref C13) = some false)
    (xk_InvalidTime_InvalidIndex : PySem.W.kitOne K (.ref C10) (.ref C13) = some false)
    (xk_InvalidLog_InvalidBound : PySem.W.kitOne K (.ref C15) (.ref C14) = some false)
    (xk_InvalidRow_InvalidBound : PySem.W.kitOne K (.ref C9) (.ref C14) = some false)
    (xk_InvalidTime_InvalidBound : PySem.W.kitOne K (.ref C10) (.ref C14) = some false)
    (xk_InvalidLog_InvalidLog : PySem.W.kitOne K (.ref C15) (.ref C15) = some true)
    (xk_InvalidRow_InvalidLog : PySem.W.kitOne K (.ref C9) (.ref C15) = some false)
    (xk_InvalidTime_InvalidLog : PySem.W.kitOne K (.ref C10) (.ref C15) = some false)
    (xt_InvalidLog__InvalidTrains_InvalidCall_InvalidText_LimitExceeded : PySem.W.kitAny K (.ref C15) [.ref C12, .ref C16, .ref C17, .ref C18] = some false)
    (xt_InvalidRow__InvalidTrains_InvalidCall_InvalidText_LimitExceeded : PySem.W.kitAny K (.ref C9) [.ref C12, .ref C16, .ref C17, .ref C18] = some false)
    (xt_InvalidTime__InvalidTrains_InvalidCall_InvalidText_LimitExceeded : PySem.W.kitAny K (.ref C10) [.ref C12, .ref C16, .ref C17, .ref C18] = some false)
    (xk_InvalidLog_ArithmeticError : PySem.W.kitOne K (.ref C15) (.type "ArithmeticError") = some true)
    (xk_InvalidRow_ArithmeticError : PySem.W.kitOne K (.ref C9) (.type "ArithmeticError") = some true)
    (xk_InvalidTime_ArithmeticError : PySem.W.kitOne K (.ref C10) (.type "ArithmeticError") = some true)
    (xn_InvalidRow_part : PySem.W.findIn K (.ref C9) "part" = some none)
    (xn_InvalidLog_at : PySem.W.findIn K (.ref C15) "at" = some none)
    (xn_InvalidRow_at : PySem.W.findIn K (.ref C9) "at" = some none)
    (xn_InvalidTime_time : PySem.W.findIn K (.ref C10) "time" = some none)
    (xm_InvalidLog_BreakerError : PySem.W.exmOne K (.ref C15) (.ref C8) = some true)
    (xm_InvalidRow_BreakerError : PySem.W.exmOne K (.ref C9) (.ref C8) = some true)
    (xm_InvalidTime_BreakerError : PySem.W.exmOne K (.ref C10) (.ref C8) = some true)
    (qin15 : PySem.W.excInitIn K C15 aeT "ArithmeticError.__new__" = true)
    (qov15 : PySem.W.excOver K C15 aeT = true)
    (qsa15 : PySem.W.findIn K (.ref C15) "__setattr__" = some (some (.builtin "object.__setattr__")))
    (qty15 : PySem.W.typeIn K (.ref C15) = some (.type "type"))
    (qkc15 : PySem.W.keepIn K (.ref C15) = true)
    (qtg8 : PySem.W.specialIn K (.ref C8) "__getattribute__" = some (some (.builtin "type.__getattribute__")))
    (qrd8 : PySem.W.readsIn K C8 (.type "type") = true)
    (qat8 : PySem.W.findCls K (.ref C8) (.type "type") "__init__" = some (.val (.builtin "ArithmeticError.__init__")))
    (tx_InvalidLog_at : PySem.W.takerIn K C15 "at" = some none)
    (qin10 : PySem.W.excInitIn K C10 aeT "ArithmeticError.__new__" = true)
    (qov10 : PySem.W.excOver K C10 aeT = true)
    (qsa10 : PySem.W.findIn K (.ref C10) "__setattr__" = some (some (.builtin "object.__setattr__")))
    (qty10 : PySem.W.typeIn K (.ref C10) = some (.type "type"))
    (qkc10 : PySem.W.keepIn K (.ref C10) = true)
    (tx_InvalidTime_time : PySem.W.takerIn K C10 "time" = some none)
    (qin9 : PySem.W.excInitIn K C9 aeT "ArithmeticError.__new__" = true)
    (qov9 : PySem.W.excOver K C9 aeT = true)
    (qsa9 : PySem.W.findIn K (.ref C9) "__setattr__" = some (some (.builtin "object.__setattr__")))
    (qty9 : PySem.W.typeIn K (.ref C9) = some (.type "type"))
    (qkc9 : PySem.W.keepIn K (.ref C9) = true)
    (tx_InvalidRow_part : PySem.W.takerIn K C9 "part" = some none)
    (tx_InvalidRow_at : PySem.W.takerIn K C9 "at" = some none)
    : LawAtG l w K CX0 13 63 "_law_script" mg fa h := by
  have G := TP.g
  have e := hfa.symm.trans (PySem.W.mg_of X G a30)
  cases e
  have T : Txt ⟨K, clOf [0, 0, 0, 0, 0, 0, 0, 0, C8, C9, C10, C11, C12, C13, C14, C15, C16, C17, C18], [(PP20, lamQ "_law_logs_right"), (PP25, lamQ "_law_others_right"), (PP29, lamQ "_law_right")], none, []⟩ mg := ⟨rfl, PySem.W.mg_none_of X G z_ArithmeticError, PySem.W.mg_none_of X G z_bool, PySem.W.mg_none_of X G z_enumerate, PySem.W.mg_none_of X G z_int, PySem.W.mg_none_of X G z_isinstance, PySem.W.mg_none_of X G z_len, PySem.W.mg_none_of X G z_list, PySem.W.mg_none_of X G z_max, PySem.W.mg_none_of X G z_min, PySem.W.mg_none_of X G z_range, PySem.W.mg_none_of X G z_repr, PySem.W.mg_none_of X G z_tuple, ⟨t_MOST_COUNT, PySem.W.mg_of X G g_MOST_COUNT⟩, ⟨t_MOST_WAIT, PySem.W.mg_of X G g_MOST_WAIT⟩, ⟨t_MOST_ENTRIES, PySem.W.mg_of X G g_MOST_ENTRIES⟩, ⟨t_MOST_BREAKERS, PySem.W.mg_of X G g_MOST_BREAKERS⟩, ⟨qcl15, qga15, qgt15, qsb15, qha15, qhn, qtk, qhm15, qhd15⟩, xk_InvalidLog_InvalidRow, ⟨qcl9, qga9, qgt9, qsb9, qha9, qhn, qtk, qhm9, qhd9⟩, xk_InvalidRow_InvalidRow, ⟨qcl10, qga10, qgt10, qsb10, qha10, qhn, qtk, qhm10, qhd10⟩, xk_InvalidTime_InvalidRow, PySem.W.mg_of X G aC9, xk_InvalidLog_InvalidTime, xk_InvalidRow_InvalidTime, xk_InvalidTime_InvalidTime, PySem.W.mg_of X G aC10, xk_InvalidLog_InvalidOutages, xk_InvalidRow_InvalidOutages, xk_InvalidTime_InvalidOutages, PySem.W.mg_of X G aC11, xk_InvalidLog_InvalidIndex, xk_InvalidRow_InvalidIndex, xk_InvalidTime_InvalidIndex, PySem.W.mg_of X G aC13, xk_InvalidLog_InvalidBound, xk_InvalidRow_InvalidBound, xk_InvalidTime_InvalidBound, PySem.W.mg_of X G aC14, xk_InvalidLog_InvalidLog, xk_InvalidRow_InvalidLog, xk_InvalidTime_InvalidLog, PySem.W.mg_of X G aC15, xt_InvalidLog__InvalidTrains_InvalidCall_InvalidText_LimitExceeded, xt_InvalidRow__InvalidTrains_InvalidCall_InvalidText_LimitExceeded, xt_InvalidTime__InvalidTrains_InvalidCall_InvalidText_LimitExceeded, PySem.W.mg_of X G aC18, PySem.W.mg_of X G aC17, PySem.W.mg_of X G aC16, PySem.W.mg_of X G aC12, xk_InvalidLog_ArithmeticError, xk_InvalidRow_ArithmeticError, xk_InvalidTime_ArithmeticError, ⟨qga9, qgt9, qsb9, qhd9⟩, xn_InvalidRow_part, ⟨qga15, qgt15, qsb15, qhd15⟩, xn_InvalidLog_at, xn_InvalidRow_at, ⟨qga10, qgt10, qsb10, qhd10⟩, xn_InvalidTime_time, xm_InvalidLog_BreakerError, PySem.W.mg_of X G aC8, xm_InvalidRow_BreakerError, xm_InvalidTime_BreakerError, ⟨qin15, qov15, qhd15, qsa15, qsb15, qty15, qkc15⟩, ⟨qtg8, qrd8, qat8⟩, tx_InvalidLog_at, ⟨qin10, qov10, qhd10, qsa10, qsb10, qty10, qkc10⟩, tx_InvalidTime_time, ⟨qin9, qov9, qhd9, qsa9, qsb9, qty9, qkc9⟩, tx_InvalidRow_part, tx_InvalidRow_at⟩
  refine lawAtG (cs := [(cc20, PP20), (cc25, PP25), (cc29, PP29)]) (T := [(PP20, lamQ "_law_logs_right"), (PP25, lamQ "_law_others_right"), (PP29, lamQ "_law_right")]) (F := F_law) (all_cons (tab_at TP X rc20 tb20) (all_cons (tab_at TP X rc25 tb25) (all_cons (tab_at TP X rc29 tb29) (all_nil _)))) (all_cons np20 (all_cons np25 (all_cons np29 (all_nil _)))) (by intro q hq; simp only [List.mem_cons, List.not_mem_nil, or_false] at hq ⊢; rcases hq with rfl | rfl | rfl <;> simp) ht ⟨PySem.W.fnOf "law" "law" (defArgs s_law) (defBody s_law) (defScope s_law) .none kV30 dc30 pm30 an30 cd30 ct30, fun s v => .of_eq rfl, fun base _ _ hB TB => ?_⟩
  have F0 := fun_mk (st := s__law_well) l0 e0 k0
  have G0 := ok__law_well (P := l.prog) (w := w) (base := base) (g := ⟨K, clOf [0, 0, 0, 0, 0, 0, 0, 0, C8, C9, C10, C11, C12, C13, C14, C15, C16, C17, C18], [(PP20, lamQ "_law_logs_right"), (PP25, lamQ "_law_others_right"), (PP29, lamQ "_law_right")], none, []⟩) (k := 0) T F0 
  have F1 := fun_mk (st := s__law_mixed) l1 e1 k1
  have G1 := ok__law_mixed (P := l.prog) (w := w) (base := base) (g := ⟨K, clOf [0, 0, 0, 0, 0, 0, 0, 0, C8, C9, C10, C11, C12, C13, C14, C15, C16, C17, C18], [(PP20, lamQ "_law_logs_right"), (PP25, lamQ "_law_others_right"), (PP29, lamQ "_law_right")], none, []⟩) (k := 0) T F1 
  have h_c__law_mixed : Cal l.prog w mg base ⟨K, clOf [0, 0, 0, 0, 0, 0, 0, 0, C8, C9, C10, C11, C12, C13, C14, C15, C16, C17, C18], [(PP20, lamQ "_law_logs_right"), (PP25, lamQ "_law_others_right"), (PP29, lamQ "_law_right")], none, []⟩ 1 "_law_mixed" 2 F__law_mixed := ⟨_, _, _, PySem.W.mg_of X G a1, k1, (F1.binds (ps := ["_law_cell", "_law_k"]) fun _ _ _ _ _ _ us hl => match us, hl with | [_, _], _ => rfl), G1⟩
  have F2 := fun_mk (st := s__law_draw) l2 e2 k2
  have G2 := ok__law_draw (P := l.prog) (w := w) (base := base) (g := ⟨K, clOf [0, 0, 0, 0, 0, 0, 0, 0, C8, C9, C10, C11, C12, C13, C14, C15, C16, C17, C18], [(PP20, lamQ "_law_logs_right"), (PP25, lamQ "_law_others_right"), (PP29, lamQ "_law_right")], none, []⟩) (k := 1) T F2 (h_c__law_mixed.mono (by decide))
  have F3 := fun_mk (st := s_is_integer) l3 e3 k3
  have G3 := ok_is_integer (P := l.prog) (w := w) (base := base) (g := ⟨K, clOf [0, 0, 0, 0, 0, 0, 0, 0, C8, C9, C10, C11, C12, C13, C14, C15, C16, C17, C18], [(PP20, lamQ "_law_logs_right"), (PP25, lamQ "_law_others_right"), (PP29, lamQ "_law_right")], none, []⟩) (k := 0) T F3 
  have h_c_is_integer : Cal l.prog w mg base ⟨K, clOf [0, 0, 0, 0, 0, 0, 0, 0, C8, C9, C10, C11, C12, C13, C14, C15, C16, C17, C18], [(PP20, lamQ "_law_logs_right"), (PP25, lamQ "_law_others_right"), (PP29, lamQ "_law_right")], none, []⟩ 1 "is_integer" 1 F_is_integer := ⟨_, _, _, PySem.W.mg_of X G a3, k3, (F3.binds (ps := ["value"]) fun _ _ _ _ _ _ us hl => match us, hl with | [_], _ => rfl), G3⟩
  have F4 := fun_mk (st := s_is_between) l4 e4 k4
  have G4 := ok_is_between (P := l.prog) (w := w) (base := base) (g := ⟨K, clOf [0, 0, 0, 0, 0, 0, 0, 0, C8, C9, C10, C11, C12, C13, C14, C15, C16, C17, C18], [(PP20, lamQ "_law_logs_right"), (PP25, lamQ "_law_others_right"), (PP29, lamQ "_law_right")], none, []⟩) (k := 1) T F4 (h_c_is_integer.mono (by decide))
  have h_c_is_between : Cal l.prog w mg base ⟨K, clOf [0, 0, 0, 0, 0, 0, 0, 0, C8, C9, C10, C11, C12, C13, C14, C15, C16, C17, C18], [(PP20, lamQ "_law_logs_right"), (PP25, lamQ "_law_others_right"), (PP29, lamQ "_law_right")], none, []⟩ 2 "is_between" 3 F_is_between := ⟨_, _, _, PySem.W.mg_of X G a4, k4, (F4.binds (ps := ["value", "low", "high"]) fun _ _ _ _ _ _ us hl => match us, hl with | [_, _, _], _ => rfl), G4⟩
  have F5 := fun_mk (st := s_is_breaker) l5 e5 k5
  have G5 := ok_is_breaker (P := l.prog) (w := w) (base := base) (g := ⟨K, clOf [0, 0, 0, 0, 0, 0, 0, 0, C8, C9, C10, C11, C12, C13, C14, C15, C16, C17, C18], [(PP20, lamQ "_law_logs_right"), (PP25, lamQ "_law_others_right"), (PP29, lamQ "_law_right")], none, []⟩) (k := 2) T F5 (h_c_is_between.mono (by decide))
  have F6 := fun_mk (st := s_check_times) l6 e6 k6
  have G6 := ok_check_times (P := l.prog) (w := w) (base := base) (g := ⟨K, clOf [0, 0, 0, 0, 0, 0, 0, 0, C8, C9, C10, C11, C12, C13, C14, C15, C16, C17, C18], [(PP20, lamQ "_law_logs_right"), (PP25, lamQ "_law_others_right"), (PP29, lamQ "_law_right")], none, []⟩) (k := 1) T F6 (h_c_is_integer.mono (by decide))
  have h_c_is_breaker : Cal l.prog w mg base ⟨K, clOf [0, 0, 0, 0, 0, 0, 0, 0, C8, C9, C10, C11, C12, C13, C14, C15, C16, C17, C18], [(PP20, lamQ "_law_logs_right"), (PP25, lamQ "_law_others_right"), (PP29, lamQ "_law_right")], none, []⟩ 3 "is_breaker" 1 F_is_breaker := ⟨_, _, _, PySem.W.mg_of X G a5, k5, (F5.binds (ps := ["value"]) fun _ _ _ _ _ _ us hl => match us, hl with | [_], _ => rfl), G5⟩
  have h_c_check_times : Cal l.prog w mg base ⟨K, clOf [0, 0, 0, 0, 0, 0, 0, 0, C8, C9, C10, C11, C12, C13, C14, C15, C16, C17, C18], [(PP20, lamQ "_law_logs_right"), (PP25, lamQ "_law_others_right"), (PP29, lamQ "_law_right")], none, []⟩ 2 "check_times" 1 F_check_times := ⟨_, _, _, PySem.W.mg_of X G a6, k6, (F6.binds (ps := ["times"]) fun _ _ _ _ _ _ us hl => match us, hl with | [_], _ => rfl), G6⟩
  have F7 := fun_mk (st := s_log_of) l7 e7 k7
  have G7 := ok_log_of (P := l.prog) (w := w) (base := base) (g := ⟨K, clOf [0, 0, 0, 0, 0, 0, 0, 0, C8, C9, C10, C11, C12, C13, C14, C15, C16, C17, C18], [(PP20, lamQ "_law_logs_right"), (PP25, lamQ "_law_others_right"), (PP29, lamQ "_law_right")], none, []⟩) (k := 3) T F7 (h_c_is_breaker.mono (by decide)) (h_c_check_times.mono (by decide))
  have F8 := fun_mk (st := s__law_said) l8 e8 k8
  have F9 := fun_mk (st := s_InvalidLog___init__) l9 e9 k9
  have G9 := ok_InvalidLog___init__ (P := l.prog) (w := w) (base := base) (g := ⟨K, clOf [0, 0, 0, 0, 0, 0, 0, 0, C8, C9, C10, C11, C12, C13, C14, C15, C16, C17, C18], [(PP20, lamQ "_law_logs_right"), (PP25, lamQ "_law_others_right"), (PP29, lamQ "_law_right")], none, []⟩) (k := 0) T F9 
  have F10 := fun_mk (st := s_is_entry) l10 e10 k10
  have G10 := ok_is_entry (P := l.prog) (w := w) (base := base) (g := ⟨K, clOf [0, 0, 0, 0, 0, 0, 0, 0, C8, C9, C10, C11, C12, C13, C14, C15, C16, C17, C18], [(PP20, lamQ "_law_logs_right"), (PP25, lamQ "_law_others_right"), (PP29, lamQ "_law_right")], none, []⟩) (k := 1) T F10 (h_c_is_integer.mono (by decide))
  have h_xc_InvalidLog : XCls l.prog w mg base ⟨K, clOf [0, 0, 0, 0, 0, 0, 0, 0, C8, C9, C10, C11, C12, C13, C14, C15, C16, C17, C18], [(PP20, lamQ "_law_logs_right"), (PP25, lamQ "_law_others_right"), (PP29, lamQ "_law_right")], none, []⟩ 1 15 "InvalidLog" ["at"] := ⟨_, _, _, PySem.W.mg_of X G aC15, T.ax_InvalidLog, a9, ti9, (F9.binds (ps := ["self", "at"]) fun _ _ _ _ _ _ us hl => match us, hl with | [_, _], _ => rfl), G9⟩
  have h_c_is_entry : Cal l.prog w mg base ⟨K, clOf [0, 0, 0, 0, 0, 0, 0, 0, C8, C9, C10, C11, C12, C13, C14, C15, C16, C17, C18], [(PP20, lamQ "_law_logs_right"), (PP25, lamQ "_law_others_right"), (PP29, lamQ "_law_right")], none, []⟩ 2 "is_entry" 1 F_is_entry := ⟨_, _, _, PySem.W.mg_of X G a10, k10, (F10.binds (ps := ["value"]) fun _ _ _ _ _ _ us hl => match us, hl with | [_], _ => rfl), G10⟩
  have F11 := fun_mk (st := s_check_log_x) l11 e11 k11
  have G11 := ok_check_log_x (P := l.prog) (w := w) (base := base) (g := ⟨K, clOf [0, 0, 0, 0, 0, 0, 0, 0, C8, C9, C10, C11, C12, C13, C14, C15, C16, C17, C18], [(PP20, lamQ "_law_logs_right"), (PP25, lamQ "_law_others_right"), (PP29, lamQ "_law_right")], none, []⟩) (k := 2) T F11 (h_xc_InvalidLog.mono (by decide)) (h_c_is_entry.mono (by decide))
  have F12 := fun_mk (st := s_first_passes) l12 e12 k12
  have G12 := ok_first_passes (P := l.prog) (w := w) (base := base) (g := ⟨K, clOf [0, 0, 0, 0, 0, 0, 0, 0, C8, C9, C10, C11, C12, C13, C14, C15, C16, C17, C18], [(PP20, lamQ "_law_logs_right"), (PP25, lamQ "_law_others_right"), (PP29, lamQ "_law_right")], none, []⟩) (k := 0) T F12 
  have h_c_first_passes : Cal l.prog w mg base ⟨K, clOf [0, 0, 0, 0, 0, 0, 0, 0, C8, C9, C10, C11, C12, C13, C14, C15, C16, C17, C18], [(PP20, lamQ "_law_logs_right"), (PP25, lamQ "_law_others_right"), (PP29, lamQ "_law_right")], none, []⟩ 1 "first_passes" 1 F_first_passes := ⟨_, _, _, PySem.W.mg_of X G a12, k12, (F12.binds (ps := ["log"]) fun _ _ _ _ _ _ us hl => match us, hl with | [_], _ => rfl), G12⟩
  have F13 := fun_mk (st := s_later_bounds) l13 e13 k13
  have G13 := ok_later_bounds (P := l.prog) (w := w) (base := base) (g := ⟨K, clOf [0, 0, 0, 0, 0, 0, 0, 0, C8, C9, C10, C11, C12, C13, C14, C15, C16, C17, C18], [(PP20, lamQ "_law_logs_right"), (PP25, lamQ "_law_others_right"), (PP29, lamQ "_law_right")], none, []⟩) (k := 1) T F13 (h_c_first_passes.mono (by decide))
  have h_cx_check_log_x : CalX l.prog w mg base ⟨K, clOf [0, 0, 0, 0, 0, 0, 0, 0, C8, C9, C10, C11, C12, C13, C14, C15, C16, C17, C18], [(PP20, lamQ "_law_logs_right"), (PP25, lamQ "_law_others_right"), (PP29, lamQ "_law_right")], none, []⟩ 4 "check_log" 1 F_check_log_x := ⟨_, _, _, PySem.W.mg_of X G a11, k11, (F11.binds (ps := ["log"]) fun _ _ _ _ _ _ us hl => match us, hl with | [_], _ => rfl), G11⟩
  have h_c_later_bounds : Cal l.prog w mg base ⟨K, clOf [0, 0, 0, 0, 0, 0, 0, 0, C8, C9, C10, C11, C12, C13, C14, C15, C16, C17, C18], [(PP20, lamQ "_law_logs_right"), (PP25, lamQ "_law_others_right"), (PP29, lamQ "_law_right")], none, []⟩ 2 "later_bounds" 1 F_later_bounds := ⟨_, _, _, PySem.W.mg_of X G a13, k13, (F13.binds (ps := ["log"]) fun _ _ _ _ _ _ us hl => match us, hl with | [_], _ => rfl), G13⟩
  have F14 := fun_mk (st := s_explanations_x) l14 e14 k14
  have G14 := ok_explanations_x (P := l.prog) (w := w) (base := base) (g := ⟨K, clOf [0, 0, 0, 0, 0, 0, 0, 0, C8, C9, C10, C11, C12, C13, C14, C15, C16, C17, C18], [(PP20, lamQ "_law_logs_right"), (PP25, lamQ "_law_others_right"), (PP29, lamQ "_law_right")], none, []⟩) (k := 4) T F14 (h_cx_check_log_x.mono (by decide)) (h_c_later_bounds.mono (by decide)) (h_c_first_passes.mono (by decide))
  have F15 := fun_mk (st := s_first_conflict_x) l15 e15 k15
  have G15 := ok_first_conflict_x (P := l.prog) (w := w) (base := base) (g := ⟨K, clOf [0, 0, 0, 0, 0, 0, 0, 0, C8, C9, C10, C11, C12, C13, C14, C15, C16, C17, C18], [(PP20, lamQ "_law_logs_right"), (PP25, lamQ "_law_others_right"), (PP29, lamQ "_law_right")], none, []⟩) (k := 4) T F15 (h_cx_check_log_x.mono (by decide)) (h_c_later_bounds.mono (by decide))
  have F16 := fun_mk (st := s_InvalidTime___init__) l16 e16 k16
  have G16 := ok_InvalidTime___init__ (P := l.prog) (w := w) (base := base) (g := ⟨K, clOf [0, 0, 0, 0, 0, 0, 0, 0, C8, C9, C10, C11, C12, C13, C14, C15, C16, C17, C18], [(PP20, lamQ "_law_logs_right"), (PP25, lamQ "_law_others_right"), (PP29, lamQ "_law_right")], none, []⟩) (k := 0) T F16 
  have h_xc_InvalidTime : XCls l.prog w mg base ⟨K, clOf [0, 0, 0, 0, 0, 0, 0, 0, C8, C9, C10, C11, C12, C13, C14, C15, C16, C17, C18], [(PP20, lamQ "_law_logs_right"), (PP25, lamQ "_law_others_right"), (PP29, lamQ "_law_right")], none, []⟩ 1 10 "InvalidTime" ["time"] := ⟨_, _, _, PySem.W.mg_of X G aC10, T.ax_InvalidTime, a16, ti16, (F16.binds (ps := ["self", "time"]) fun _ _ _ _ _ _ us hl => match us, hl with | [_, _], _ => rfl), G16⟩
  have F17 := fun_mk (st := s_forecast_x) l17 e17 k17
  have G17 := ok_forecast_x (P := l.prog) (w := w) (base := base) (g := ⟨K, clOf [0, 0, 0, 0, 0, 0, 0, 0, C8, C9, C10, C11, C12, C13, C14, C15, C16, C17, C18], [(PP20, lamQ "_law_logs_right"), (PP25, lamQ "_law_others_right"), (PP29, lamQ "_law_right")], none, []⟩) (k := 4) T F17 (h_cx_check_log_x.mono (by decide)) (h_c_is_integer.mono (by decide)) (h_xc_InvalidTime.mono (by decide)) (h_c_later_bounds.mono (by decide)) (h_xc_InvalidLog.mono (by decide)) (h_c_first_passes.mono (by decide))
  have F18 := fun_mk (st := s_check_log) l18 e18 k18
  have G18 := ok_check_log (P := l.prog) (w := w) (base := base) (g := ⟨K, clOf [0, 0, 0, 0, 0, 0, 0, 0, C8, C9, C10, C11, C12, C13, C14, C15, C16, C17, C18], [(PP20, lamQ "_law_logs_right"), (PP25, lamQ "_law_others_right"), (PP29, lamQ "_law_right")], none, []⟩) (k := 2) T F18 (h_c_is_entry.mono (by decide))
  have h_c_check_log : Cal l.prog w mg base ⟨K, clOf [0, 0, 0, 0, 0, 0, 0, 0, C8, C9, C10, C11, C12, C13, C14, C15, C16, C17, C18], [(PP20, lamQ "_law_logs_right"), (PP25, lamQ "_law_others_right"), (PP29, lamQ "_law_right")], none, []⟩ 3 "check_log" 1 F_check_log := ⟨_, _, _, PySem.W.mg_of X G a18, k18, (F18.binds (ps := ["log"]) fun _ _ _ _ _ _ us hl => match us, hl with | [_], _ => rfl), G18⟩
  have F19 := fun_mk (st := s_explanations) l19 e19 k19
  have G19 := ok_explanations (P := l.prog) (w := w) (base := base) (g := ⟨K, clOf [0, 0, 0, 0, 0, 0, 0, 0, C8, C9, C10, C11, C12, C13, C14, C15, C16, C17, C18], [(PP20, lamQ "_law_logs_right"), (PP25, lamQ "_law_others_right"), (PP29, lamQ "_law_right")], none, []⟩) (k := 3) T F19 (h_c_check_log.mono (by decide)) (h_c_later_bounds.mono (by decide)) (h_c_first_passes.mono (by decide))
  have h_td__law_said : Told ⟨K, clOf [0, 0, 0, 0, 0, 0, 0, 0, C8, C9, C10, C11, C12, C13, C14, C15, C16, C17, C18], [(PP20, lamQ "_law_logs_right"), (PP25, lamQ "_law_others_right"), (PP29, lamQ "_law_right")], none, []⟩ mg "_law_said" "_law_deed" s__law_said := told_of (PySem.W.mg_of X G a8) k8 l8 e8 (fun us hl => match us, hl with | [_], _ => rfl)
  have h_cx_explanations_x : CalX l.prog w mg base ⟨K, clOf [0, 0, 0, 0, 0, 0, 0, 0, C8, C9, C10, C11, C12, C13, C14, C15, C16, C17, C18], [(PP20, lamQ "_law_logs_right"), (PP25, lamQ "_law_others_right"), (PP29, lamQ "_law_right")], none, []⟩ 5 "explanations" 1 F_explanations_x := ⟨_, _, _, PySem.W.mg_of X G a14, k14, (F14.binds (ps := ["log"]) fun _ _ _ _ _ _ us hl => match us, hl with | [_], _ => rfl), G14⟩
  have h_cx_first_conflict_x : CalX l.prog w mg base ⟨K, clOf [0, 0, 0, 0, 0, 0, 0, 0, C8, C9, C10, C11, C12, C13, C14, C15, C16, C17, C18], [(PP20, lamQ "_law_logs_right"), (PP25, lamQ "_law_others_right"), (PP29, lamQ "_law_right")], none, []⟩ 5 "first_conflict" 1 F_first_conflict_x := ⟨_, _, _, PySem.W.mg_of X G a15, k15, (F15.binds (ps := ["log"]) fun _ _ _ _ _ _ us hl => match us, hl with | [_], _ => rfl), G15⟩
  have h_cx_forecast_x : CalX l.prog w mg base ⟨K, clOf [0, 0, 0, 0, 0, 0, 0, 0, C8, C9, C10, C11, C12, C13, C14, C15, C16, C17, C18], [(PP20, lamQ "_law_logs_right"), (PP25, lamQ "_law_others_right"), (PP29, lamQ "_law_right")], none, []⟩ 6 "forecast" 2 F_forecast_x := ⟨_, _, _, PySem.W.mg_of X G a17, k17, (F17.binds (ps := ["log", "time"]) fun _ _ _ _ _ _ us hl => match us, hl with | [_, _], _ => rfl), G17⟩
  have h_c_explanations : Cal l.prog w mg base ⟨K, clOf [0, 0, 0, 0, 0, 0, 0, 0, C8, C9, C10, C11, C12, C13, C14, C15, C16, C17, C18], [(PP20, lamQ "_law_logs_right"), (PP25, lamQ "_law_others_right"), (PP29, lamQ "_law_right")], none, []⟩ 4 "explanations" 1 F_explanations := ⟨_, _, _, PySem.W.mg_of X G a19, k19, (F19.binds (ps := ["log"]) fun _ _ _ _ _ _ us hl => match us, hl with | [_], _ => rfl), G19⟩
  have h_c_log_of : Cal l.prog w mg base ⟨K, clOf [0, 0, 0, 0, 0, 0, 0, 0, C8, C9, C10, C11, C12, C13, C14, C15, C16, C17, C18], [(PP20, lamQ "_law_logs_right"), (PP25, lamQ "_law_others_right"), (PP29, lamQ "_law_right")], none, []⟩ 4 "log_of" 2 F_log_of := ⟨_, _, _, PySem.W.mg_of X G a7, k7, (F7.binds (ps := ["breaker", "times"]) fun _ _ _ _ _ _ us hl => match us, hl with | [_, _], _ => rfl), G7⟩
  have F20 := fun_mk (st := s__law_logs_right) l20 e20 k20
  have LT20 : LamT ⟨K, clOf [0, 0, 0, 0, 0, 0, 0, 0, C8, C9, C10, C11, C12, C13, C14, C15, C16, C17, C18], [(PP20, lamQ "_law_logs_right"), (PP25, lamQ "_law_others_right"), (PP29, lamQ "_law_right")], none, []⟩ base mg cc20 "_law_logs_right" := ⟨PP20, TB (cc20, PP20) (by simp), by simp, (all_cons (fun _ => rfl) (all_cons (fun e => absurd e.symm pn20_25) (all_cons (fun e => absurd e.symm pn20_29) (all_nil _))))⟩
  have G20 := ok__law_logs_right (P := l.prog) (w := w) (base := base) (g := ⟨K, clOf [0, 0, 0, 0, 0, 0, 0, 0, C8, C9, C10, C11, C12, C13, C14, C15, C16, C17, C18], [(PP20, lamQ "_law_logs_right"), (PP25, lamQ "_law_others_right"), (PP29, lamQ "_law_right")], none, []⟩) (k := 6) T l20 e20 hB LT20 h_td__law_said (h_cx_explanations_x.mono (by decide)) (h_cx_first_conflict_x.mono (by decide)) (h_cx_forecast_x.mono (by decide)) (h_c_explanations.mono (by decide)) (h_c_log_of.mono (by decide))
  have F21 := fun_mk (st := s_InvalidRow___init__) l21 e21 k21
  have G21 := ok_InvalidRow___init__ (P := l.prog) (w := w) (base := base) (g := ⟨K, clOf [0, 0, 0, 0, 0, 0, 0, 0, C8, C9, C10, C11, C12, C13, C14, C15, C16, C17, C18], [(PP20, lamQ "_law_logs_right"), (PP25, lamQ "_law_others_right"), (PP29, lamQ "_law_right")], none, []⟩) (k := 0) T F21 
  have F22 := fun_mk (st := s_check_times_x) l22 e22 k22
  have G22 := ok_check_times_x (P := l.prog) (w := w) (base := base) (g := ⟨K, clOf [0, 0, 0, 0, 0, 0, 0, 0, C8, C9, C10, C11, C12, C13, C14, C15, C16, C17, C18], [(PP20, lamQ "_law_logs_right"), (PP25, lamQ "_law_others_right"), (PP29, lamQ "_law_right")], none, []⟩) (k := 1) T F22 (h_xc_InvalidLog.mono (by decide)) (h_c_is_integer.mono (by decide))
  have h_xc_InvalidRow : XCls l.prog w mg base ⟨K, clOf [0, 0, 0, 0, 0, 0, 0, 0, C8, C9, C10, C11, C12, C13, C14, C15, C16, C17, C18], [(PP20, lamQ "_law_logs_right"), (PP25, lamQ "_law_others_right"), (PP29, lamQ "_law_right")], none, []⟩ 1 9 "InvalidRow" ["part", "at"] := ⟨_, _, _, PySem.W.mg_of X G aC9, T.ax_InvalidRow, a21, ti21, (F21.binds (ps := ["self", "part", "at"]) fun _ _ _ _ _ _ us hl => match us, hl with | [_, _, _], _ => rfl), G21⟩
  have h_cx_check_times_x : CalX l.prog w mg base ⟨K, clOf [0, 0, 0, 0, 0, 0, 0, 0, C8, C9, C10, C11, C12, C13, C14, C15, C16, C17, C18], [(PP20, lamQ "_law_logs_right"), (PP25, lamQ "_law_others_right"), (PP29, lamQ "_law_right")], none, []⟩ 3 "check_times" 1 F_check_times_x := ⟨_, _, _, PySem.W.mg_of X G a22, k22, (F22.binds (ps := ["times"]) fun _ _ _ _ _ _ us hl => match us, hl with | [_], _ => rfl), G22⟩
  have F23 := fun_mk (st := s_log_of_x) l23 e23 k23
  have G23 := ok_log_of_x (P := l.prog) (w := w) (base := base) (g := ⟨K, clOf [0, 0, 0, 0, 0, 0, 0, 0, C8, C9, C10, C11, C12, C13, C14, C15, C16, C17, C18], [(PP20, lamQ "_law_logs_right"), (PP25, lamQ "_law_others_right"), (PP29, lamQ "_law_right")], none, []⟩) (k := 3) T F23 (h_c_is_breaker.mono (by decide)) (h_xc_InvalidRow.mono (by decide)) (h_cx_check_times_x.mono (by decide))
  have F24 := fun_mk (st := s_waits_of_x) l24 e24 k24
  have G24 := ok_waits_of_x (P := l.prog) (w := w) (base := base) (g := ⟨K, clOf [0, 0, 0, 0, 0, 0, 0, 0, C8, C9, C10, C11, C12, C13, C14, C15, C16, C17, C18], [(PP20, lamQ "_law_logs_right"), (PP25, lamQ "_law_others_right"), (PP29, lamQ "_law_right")], none, []⟩) (k := 2) T F24 (h_xc_InvalidLog.mono (by decide)) (h_c_is_between.mono (by decide))
  have h_cx_log_of_x : CalX l.prog w mg base ⟨K, clOf [0, 0, 0, 0, 0, 0, 0, 0, C8, C9, C10, C11, C12, C13, C14, C15, C16, C17, C18], [(PP20, lamQ "_law_logs_right"), (PP25, lamQ "_law_others_right"), (PP29, lamQ "_law_right")], none, []⟩ 5 "log_of" 2 F_log_of_x := ⟨_, _, _, PySem.W.mg_of X G a23, k23, (F23.binds (ps := ["breaker", "times"]) fun _ _ _ _ _ _ us hl => match us, hl with | [_, _], _ => rfl), G23⟩
  have h_cx_waits_of_x : CalX l.prog w mg base ⟨K, clOf [0, 0, 0, 0, 0, 0, 0, 0, C8, C9, C10, C11, C12, C13, C14, C15, C16, C17, C18], [(PP20, lamQ "_law_logs_right"), (PP25, lamQ "_law_others_right"), (PP29, lamQ "_law_right")], none, []⟩ 4 "waits_of" 1 F_waits_of_x := ⟨_, _, _, PySem.W.mg_of X G a24, k24, (F24.binds (ps := ["period_list"]) fun _ _ _ _ _ _ us hl => match us, hl with | [_], _ => rfl), G24⟩
  have F25 := fun_mk (st := s__law_others_right) l25 e25 k25
  have LT25 : LamT ⟨K, clOf [0, 0, 0, 0, 0, 0, 0, 0, C8, C9, C10, C11, C12, C13, C14, C15, C16, C17, C18], [(PP20, lamQ "_law_logs_right"), (PP25, lamQ "_law_others_right"), (PP29, lamQ "_law_right")], none, []⟩ base mg cc25 "_law_others_right" := ⟨PP25, TB (cc25, PP25) (by simp), by simp, (all_cons (fun e => absurd e pn20_25) (all_cons (fun _ => rfl) (all_cons (fun e => absurd e.symm pn25_29) (all_nil _))))⟩
  have G25 := ok__law_others_right (P := l.prog) (w := w) (base := base) (g := ⟨K, clOf [0, 0, 0, 0, 0, 0, 0, 0, C8, C9, C10, C11, C12, C13, C14, C15, C16, C17, C18], [(PP20, lamQ "_law_logs_right"), (PP25, lamQ "_law_others_right"), (PP29, lamQ "_law_right")], none, []⟩) (k := 6) T l25 e25 hB LT25 (h_cx_log_of_x.mono (by decide)) h_td__law_said (h_cx_forecast_x.mono (by decide)) (h_cx_waits_of_x.mono (by decide))
  have F26 := fun_mk (st := s_first_conflict) l26 e26 k26
  have G26 := ok_first_conflict (P := l.prog) (w := w) (base := base) (g := ⟨K, clOf [0, 0, 0, 0, 0, 0, 0, 0, C8, C9, C10, C11, C12, C13, C14, C15, C16, C17, C18], [(PP20, lamQ "_law_logs_right"), (PP25, lamQ "_law_others_right"), (PP29, lamQ "_law_right")], none, []⟩) (k := 3) T F26 (h_c_check_log.mono (by decide)) (h_c_later_bounds.mono (by decide))
  have F27 := fun_mk (st := s_forecast) l27 e27 k27
  have G27 := ok_forecast (P := l.prog) (w := w) (base := base) (g := ⟨K, clOf [0, 0, 0, 0, 0, 0, 0, 0, C8, C9, C10, C11, C12, C13, C14, C15, C16, C17, C18], [(PP20, lamQ "_law_logs_right"), (PP25, lamQ "_law_others_right"), (PP29, lamQ "_law_right")], none, []⟩) (k := 3) T F27 (h_c_check_log.mono (by decide)) (h_c_is_integer.mono (by decide)) (h_c_later_bounds.mono (by decide)) (h_c_first_passes.mono (by decide))
  have F28 := fun_mk (st := s_waits_of) l28 e28 k28
  have G28 := ok_waits_of (P := l.prog) (w := w) (base := base) (g := ⟨K, clOf [0, 0, 0, 0, 0, 0, 0, 0, C8, C9, C10, C11, C12, C13, C14, C15, C16, C17, C18], [(PP20, lamQ "_law_logs_right"), (PP25, lamQ "_law_others_right"), (PP29, lamQ "_law_right")], none, []⟩) (k := 2) T F28 (h_c_is_between.mono (by decide))
  have h_c__law_draw : Cal l.prog w mg base ⟨K, clOf [0, 0, 0, 0, 0, 0, 0, 0, C8, C9, C10, C11, C12, C13, C14, C15, C16, C17, C18], [(PP20, lamQ "_law_logs_right"), (PP25, lamQ "_law_others_right"), (PP29, lamQ "_law_right")], none, []⟩ 2 "_law_draw" 2 F__law_draw := ⟨_, _, _, PySem.W.mg_of X G a2, k2, (F2.binds (ps := ["_law_well_here", "_law_many"]) fun _ _ _ _ _ _ us hl => match us, hl with | [_, _], _ => rfl), G2⟩
  have h_ck_log_of_0_times_breaker : CalK l.prog w mg base ⟨K, clOf [0, 0, 0, 0, 0, 0, 0, 0, C8, C9, C10, C11, C12, C13, C14, C15, C16, C17, C18], [(PP20, lamQ "_law_logs_right"), (PP25, lamQ "_law_others_right"), (PP29, lamQ "_law_right")], none, []⟩ 4 "log_of" 0 ["times", "breaker"] [1, 0] F_log_of := calk_of F7 (PySem.W.mg_of X G a7) rfl G7 (fun _ _ _ _ _ _ us ws h1 h2 => match us, ws, h1, h2 with | [], [_, _], _, _ => rfl)
  have h_cg__law_logs_right : CalG l.prog w mg base ⟨K, clOf [0, 0, 0, 0, 0, 0, 0, 0, C8, C9, C10, C11, C12, C13, C14, C15, C16, C17, C18], [(PP20, lamQ "_law_logs_right"), (PP25, lamQ "_law_others_right"), (PP29, lamQ "_law_right")], none, []⟩ 9 "_law_logs_right" 1 F__law_logs_right := ⟨_, _, _, PySem.W.mg_of X G a20, k20, (F20.binds (ps := ["_law_place"]) fun _ _ _ _ _ _ us hl => match us, hl with | [_], _ => rfl), G20⟩
  have h_cg__law_others_right : CalG l.prog w mg base ⟨K, clOf [0, 0, 0, 0, 0, 0, 0, 0, C8, C9, C10, C11, C12, C13, C14, C15, C16, C17, C18], [(PP20, lamQ "_law_logs_right"), (PP25, lamQ "_law_others_right"), (PP29, lamQ "_law_right")], none, []⟩ 9 "_law_others_right" 2 F__law_others_right := ⟨_, _, _, PySem.W.mg_of X G a25, k25, (F25.binds (ps := ["_law_seen", "_law_last"]) fun _ _ _ _ _ _ us hl => match us, hl with | [_, _], _ => rfl), G25⟩
  have h_ck_explanations_0_log : CalK l.prog w mg base ⟨K, clOf [0, 0, 0, 0, 0, 0, 0, 0, C8, C9, C10, C11, C12, C13, C14, C15, C16, C17, C18], [(PP20, lamQ "_law_logs_right"), (PP25, lamQ "_law_others_right"), (PP29, lamQ "_law_right")], none, []⟩ 4 "explanations" 0 ["log"] [0] F_explanations := calk_of F19 (PySem.W.mg_of X G a19) rfl G19 (fun _ _ _ _ _ _ us ws h1 h2 => match us, ws, h1, h2 with | [], [_], _, _ => rfl)
  have h_ck_first_conflict_0_log : CalK l.prog w mg base ⟨K, clOf [0, 0, 0, 0, 0, 0, 0, 0, C8, C9, C10, C11, C12, C13, C14, C15, C16, C17, C18], [(PP20, lamQ "_law_logs_right"), (PP25, lamQ "_law_others_right"), (PP29, lamQ "_law_right")], none, []⟩ 4 "first_conflict" 0 ["log"] [0] F_first_conflict := calk_of F26 (PySem.W.mg_of X G a26) rfl G26 (fun _ _ _ _ _ _ us ws h1 h2 => match us, ws, h1, h2 with | [], [_], _, _ => rfl)
  have h_c_first_conflict : Cal l.prog w mg base ⟨K, clOf [0, 0, 0, 0, 0, 0, 0, 0, C8, C9, C10, C11, C12, C13, C14, C15, C16, C17, C18], [(PP20, lamQ "_law_logs_right"), (PP25, lamQ "_law_others_right"), (PP29, lamQ "_law_right")], none, []⟩ 4 "first_conflict" 1 F_first_conflict := ⟨_, _, _, PySem.W.mg_of X G a26, k26, (F26.binds (ps := ["log"]) fun _ _ _ _ _ _ us hl => match us, hl with | [_], _ => rfl), G26⟩
  have h_ck_forecast_0_time_log : CalK l.prog w mg base ⟨K, clOf [0, 0, 0, 0, 0, 0, 0, 0, C8, C9, C10, C11, C12, C13, C14, C15, C16, C17, C18], [(PP20, lamQ "_law_logs_right"), (PP25, lamQ "_law_others_right"), (PP29, lamQ "_law_right")], none, []⟩ 4 "forecast" 0 ["time", "log"] [1, 0] F_forecast := calk_of F27 (PySem.W.mg_of X G a27) rfl G27 (fun _ _ _ _ _ _ us ws h1 h2 => match us, ws, h1, h2 with | [], [_, _], _, _ => rfl)
  have h_c_forecast : Cal l.prog w mg base ⟨K, clOf [0, 0, 0, 0, 0, 0, 0, 0, C8, C9, C10, C11, C12, C13, C14, C15, C16, C17, C18], [(PP20, lamQ "_law_logs_right"), (PP25, lamQ "_law_others_right"), (PP29, lamQ "_law_right")], none, []⟩ 4 "forecast" 2 F_forecast := ⟨_, _, _, PySem.W.mg_of X G a27, k27, (F27.binds (ps := ["log", "time"]) fun _ _ _ _ _ _ us hl => match us, hl with | [_, _], _ => rfl), G27⟩
  have h_ck_waits_of_0_period_list : CalK l.prog w mg base ⟨K, clOf [0, 0, 0, 0, 0, 0, 0, 0, C8, C9, C10, C11, C12, C13, C14, C15, C16, C17, C18], [(PP20, lamQ "_law_logs_right"), (PP25, lamQ "_law_others_right"), (PP29, lamQ "_law_right")], none, []⟩ 3 "waits_of" 0 ["period_list"] [0] F_waits_of := calk_of F28 (PySem.W.mg_of X G a28) rfl G28 (fun _ _ _ _ _ _ us ws h1 h2 => match us, ws, h1, h2 with | [], [_], _, _ => rfl)
  have h_c_waits_of : Cal l.prog w mg base ⟨K, clOf [0, 0, 0, 0, 0, 0, 0, 0, C8, C9, C10, C11, C12, C13, C14, C15, C16, C17, C18], [(PP20, lamQ "_law_logs_right"), (PP25, lamQ "_law_others_right"), (PP29, lamQ "_law_right")], none, []⟩ 3 "waits_of" 1 F_waits_of := ⟨_, _, _, PySem.W.mg_of X G a28, k28, (F28.binds (ps := ["period_list"]) fun _ _ _ _ _ _ us hl => match us, hl with | [_], _ => rfl), G28⟩
  have F29 := fun_mk (st := s__law_right) l29 e29 k29
  have LT29 : LamT ⟨K, clOf [0, 0, 0, 0, 0, 0, 0, 0, C8, C9, C10, C11, C12, C13, C14, C15, C16, C17, C18], [(PP20, lamQ "_law_logs_right"), (PP25, lamQ "_law_others_right"), (PP29, lamQ "_law_right")], none, []⟩ base mg cc29 "_law_right" := ⟨PP29, TB (cc29, PP29) (by simp), by simp, (all_cons (fun e => absurd e pn20_29) (all_cons (fun e => absurd e pn25_29) (all_cons (fun _ => rfl) (all_nil _))))⟩
  have G29 := ok__law_right (P := l.prog) (w := w) (base := base) (g := ⟨K, clOf [0, 0, 0, 0, 0, 0, 0, 0, C8, C9, C10, C11, C12, C13, C14, C15, C16, C17, C18], [(PP20, lamQ "_law_logs_right"), (PP25, lamQ "_law_others_right"), (PP29, lamQ "_law_right")], none, []⟩) (k := 9) T l29 e29 hB LT29 (h_c__law_draw.mono (by decide)) (h_ck_log_of_0_times_breaker.mono (by decide)) (h_c_log_of.mono (by decide)) (h_cg__law_logs_right.mono (by decide)) (h_cg__law_others_right.mono (by decide)) (h_ck_explanations_0_log.mono (by decide)) (h_c_explanations.mono (by decide)) (h_ck_first_conflict_0_log.mono (by decide)) (h_c_first_conflict.mono (by decide)) (h_ck_forecast_0_time_log.mono (by decide)) (h_c_forecast.mono (by decide)) (h_ck_waits_of_0_period_list.mono (by decide)) (h_c_waits_of.mono (by decide)) (h_cx_forecast_x.mono (by decide)) h_td__law_said
  have h_c__law_well : Cal l.prog w mg base ⟨K, clOf [0, 0, 0, 0, 0, 0, 0, 0, C8, C9, C10, C11, C12, C13, C14, C15, C16, C17, C18], [(PP20, lamQ "_law_logs_right"), (PP25, lamQ "_law_others_right"), (PP29, lamQ "_law_right")], none, []⟩ 1 "_law_well" 1 F__law_well := ⟨_, _, _, PySem.W.mg_of X G a0, k0, (F0.binds (ps := ["_law_cell"]) fun _ _ _ _ _ _ us hl => match us, hl with | [_], _ => rfl), G0⟩
  have h_cg__law_right : CalG l.prog w mg base ⟨K, clOf [0, 0, 0, 0, 0, 0, 0, 0, C8, C9, C10, C11, C12, C13, C14, C15, C16, C17, C18], [(PP20, lamQ "_law_logs_right"), (PP25, lamQ "_law_others_right"), (PP29, lamQ "_law_right")], none, []⟩ 12 "_law_right" 1 F__law_right := ⟨_, _, _, PySem.W.mg_of X G a29, k29, (F29.binds (ps := ["_law_well_here"]) fun _ _ _ _ _ _ us hl => match us, hl with | [_], _ => rfl), G29⟩
  exact spT_ofG (ok_law (P := l.prog) (w := w) (base := base) (g := ⟨K, clOf [0, 0, 0, 0, 0, 0, 0, 0, C8, C9, C10, C11, C12, C13, C14, C15, C16, C17, C18], [(PP20, lamQ "_law_logs_right"), (PP25, lamQ "_law_others_right"), (PP29, lamQ "_law_right")], none, []⟩) (k := 12) T l30 e30 hB (h_c__law_well.mono (by decide)) (h_cg__law_right.mono (by decide)))
end L
namespace L
open PySem L2 DV
/-! ### great numbers -/
/-! ### small reads -/
def cD : Option Int → D
  | none => .non
  | some n => .int n

/-! ### is_breaker, check_times, log_of -/
theorem is_integer_int (i : Int) : F_is_integer [some (.int i, false)] = some (.fz (.bl true), [some (.int i, false)]) := rfl
theorem is_between_int (i a b : Int) (h1 : a ≤ i) (h2 : i ≤ b) : F_is_between [some (.int i, false), some (.int a, false), some (.int b, false)] = some (.fz (.bl true), [some (.int i, false), some (.int a, false), some (.int b, false)]) := by
  simp [F_is_between, DV.SC, DV.SE, DV.SX, is_integer_int, h1, h2]
abbrev br (f w s : Int) : D := .tup [.int f, .int w, .int s]
def BrOk (f w s : Int) : Prop := 1 ≤ f ∧ f ≤ 10 ^ 12 ∧ 1 ≤ w ∧ w ≤ 10 ^ 30 ∧ 1 ≤ s ∧ s ≤ 10 ^ 12
theorem is_breaker_ok (f w s : Int) (h : BrOk f w s) : F_is_breaker [some (br f w s, false)] = some (.fz (.bl true), [some (br f w s, false)]) := by
  obtain ⟨h1, h2, h3, h4, h5, h6⟩ := h
  have e1 := is_between_int f 1 1000000000000 h1 (by omega)
  have e2 := is_between_int w 1 1000000000000000000000000000000 h3 (by omega)
  have e3 := is_between_int s 1 1000000000000 h5 (by omega)
  have i0 : ∀ x y z : D, atI [x, y, z] 0 = some x := fun _ _ _ => rfl
  have i1 : ∀ x y z : D, atI [x, y, z] 1 = some y := fun _ _ _ => rfl
  have i2 : ∀ x y z : D, atI [x, y, z] 2 = some z := fun _ _ _ => rfl
  simp [F_is_breaker, DV.SC, DV.SE, DV.SX, i0, i1, i2, e1, e2, e3]
/-- times that rise -/
def Rise (lo : Int) : List Int → Prop
  | [] => True
  | t :: r => lo < t ∧ Rise t r
theorem check_loop (pre : List Int) : ∀ (suf : List Int) (lo : Int) (x1 x2 : Sl), -1 ≤ lo → (∀ x ∈ pre.getLast?, x = lo) → Rise lo suf → ∀ pn, disjB [1, 2] pn = true → ∃ x1' x2', forLoop (.tp [.nm 1, .nm 2]) (exs [F_is_integer] pn B_check_times_1) (enumD pre.length (suf.map D.int)) [some (.lst ((pre ++ suf).map D.int), false), x1, x2] = some (.nx [some (.lst ((pre ++ suf).map D.int), false), x1', x2'])
  | [], lo, x1, x2, _, _, _, pn, _ => ⟨x1, x2, by simp [enumD, forLoop]⟩
  | t :: suf, lo, x1, x2, hlo, hl, ⟨r1, r2⟩, pn, dj => by
    have t0 : ¬ t < 0 := by omega
    have hb : exs [F_is_integer] pn B_check_times_1 [some (.lst ((pre ++ t :: suf).map D.int), false), some (.int (pre.length : Nat), false), some (.int t, false)] = some (.nx [some (.lst ((pre ++ t :: suf).map D.int), false), some (.int (pre.length : Nat), false), some (.int t, false)]) := by
      by_cases hp : pre = []
      · subst hp
        simp [B_check_times_1, DV.SC, DV.SE, DV.SX, is_integer_int, t0]
      · have hn : 0 < pre.length := List.length_pos_iff.mpr hp
        have hg : pre.getLast? = some lo := by
          obtain ⟨y, hy⟩ : ∃ y, pre.getLast? = some y := by
            cases e : pre.getLast? with
            | none => exact absurd (List.getLast?_eq_none_iff.mp e) hp
            | some y => exact ⟨y, rfl⟩
          rw [hy]; rw [hl y hy]
        have ha : atI ((pre ++ t :: suf).map D.int) ((pre.length : Int) - 1) = some (.int lo) := by
          have e : ((pre.length : Int) - 1) = ((pre.length - 1 : Nat) : Int) := by omega
          rw [e]
          refine atI_nat ?_
          rw [List.getElem?_map, List.getElem?_append_left (by omega), ← List.getLast?_eq_getElem?, hg]
          rfl
        have ht : ¬ t ≤ lo := by omega
        have hn' : (0 : Int) < (pre.length : Int) := by omega
        simp only [B_check_times_1]
        simp [-List.map_append, DV.SC, DV.SE, DV.SX, is_integer_int, t0, ha, ht, hn', hn]
    have ih := check_loop (pre ++ [t]) suf t (some (.int (pre.length : Nat), false)) (some (.int t, false)) (by omega) (by simp) r2 pn dj
    obtain ⟨y1, y2, ih⟩ := ih
    refine ⟨y1, y2, ?_⟩
    have e1 : enumD pre.length ((t :: suf).map D.int) = .tup [.int (pre.length : Nat), .int t] :: enumD (pre.length + 1) (suf.map D.int) := by simp [enumD]
    rw [e1]
    refine (forLoop_step (Γ1 := [some (.lst ((pre ++ t :: suf).map D.int), false), some (.int (pre.length : Nat), false), some (.int t, false)]) (by simp [DV.SC, DV.SE, DV.SX]) hb).trans ?_
    simpa using ih
theorem check_times_ok (ts : List Int) (fl : Bool) (hr : Rise (-1) ts) (hz : ts.length ≤ 1000) : F_check_times [some (.lst (ts.map D.int), fl)] = some (.fz .non, [some (.lst (ts.map D.int), false)]) := by
  have hz' : ¬ (1000 < (ts.length : Int)) := by omega
  have s1 : ∀ pn, ex [F_is_integer] pn (.ite (.or (.not (.bi (.isi .list) [.var 0])) (.cmp .gt (.bi .len [.var 0]) (.cst (.int 1000)))) [.stuck] []) [some (.lst (ts.map D.int), fl), none, none] = some (.nx [some (.lst (ts.map D.int), fl), none, none]) := fun pn => by
    simp [DV.SC, DV.SE, DV.SX, hz']
  cases fl with
  | true =>
    obtain ⟨y1, y2, e⟩ := check_loop [] ts (-1) none none (by decide) (by simp) hr [0] rfl
    refine runF_by (o := .nx [some (.lst (ts.map D.int), false), y1, y2]) rfl (?_ : exs _ [0] _ [some (.lst (ts.map D.int), true), none, none] = _) rfl
    refine (exs_nx (s1 _)).trans ?_
    refine (exs_nx (ex_for (by simp [DV.SC, DV.SE, DV.SX]) rfl e)).trans (by simp [DV.SC, DV.SE, DV.SX])
  | false =>
    obtain ⟨y1, y2, e⟩ := check_loop [] ts (-1) none none (by decide) (by simp) hr [] rfl
    refine runF_by (o := .nx [some (.lst (ts.map D.int), false), y1, y2]) rfl (?_ : exs _ [] _ [some (.lst (ts.map D.int), false), none, none] = _) rfl
    refine (exs_nx (s1 _)).trans ?_
    refine (exs_nx (ex_for (by simp [DV.SC, DV.SE, DV.SX]) rfl e)).trans (by simp [DV.SC, DV.SE, DV.SX])
/-- what log_of tells -/
def logF (w : Int) : Int → Int → List Int → List D
  | _, _, [] => []
  | l, s, t :: r => if 0 < l ∨ w ≤ t - s then .tup [.int t, .bl true] :: logF w (max 0 (l - 1)) t r else .tup [.int t, .bl false] :: logF w l s r
theorem log_loop (f w s : Int) (ts : List Int) : ∀ (suf : List Int) (acc : List D) (l since : Int) (x2 x6 : Sl) (pn : List Nat), disjB [2, 6, 4, 5] pn = true → acc.length + suf.length ≤ 1000 → ∃ x2' x4' x5' x6', forLoop (.nm 2) (exs [F_is_breaker, F_check_times] pn B_log_of_1) (suf.map D.int) [some (br f w s, false), some (.lst (ts.map D.int), false), x2, some (.lst acc, true), some (.int l, false), some (.int since, false), x6] =
      some (.nx [some (br f w s, false), some (.lst (ts.map D.int), false), x2', some (.lst (acc ++ logF w l since suf), true), x4', x5', x6'])
  | [], acc, l, since, x2, x6, pn, dj, _ => ⟨x2, some (.int l, false), some (.int since, false), x6, by simp [forLoop, logF]⟩
  | t :: suf, acc, l, since, x2, x6, pn, dj, hz => by
    have i1 : ∀ x y z : D, atI [x, y, z] 1 = some y := fun _ _ _ => rfl
    have hacc : acc.length < 16777216 := by
      rw [List.length_cons] at hz
      omega
    have d2 : disjB [2] pn = true ∧ disjB [6] pn = true ∧ disjB [4] pn = true ∧ disjB [5] pn = true := by
      simp only [disjB, List.all_cons, List.all_nil, Bool.and_true, Bool.and_eq_true] at dj ⊢
      exact ⟨dj.1, dj.2.1, dj.2.2.1, dj.2.2.2⟩
    simp only [disjB, List.all_cons, List.all_nil, Bool.and_true, Bool.not_eq_true', List.contains_eq_mem, decide_eq_false_iff_not] at d2
    obtain ⟨d2, d6, d4, d5⟩ := d2
    by_cases hc : 0 < l ∨ w ≤ t - since
    · obtain ⟨y2, y4, y5, y6, ih⟩ := log_loop f w s ts suf (acc ++ [.tup [.int t, .bl true]]) (max 0 (l - 1)) t (some (.int t, false)) (some (.bl true, false)) pn dj (by simp at hz ⊢; omega)
      refine ⟨y2, y4, y5, y6, ?_⟩
      have hm : (if l - 1 > 0 then l - 1 else 0) = max 0 (l - 1) := by omega
      refine (forLoop_step (Γ1 := [some (br f w s, false), some (.lst (ts.map D.int), false), some (.int t, false), some (.lst acc, true), some (.int l, false), some (.int since, false), x6]) (Γ2 := [some (br f w s, false), some (.lst (ts.map D.int), false), some (.int t, false), some (.lst (acc ++ [.tup [.int t, .bl true]]), true), some (.int (max 0 (l - 1)), false), some (.int t, false), some (.bl true, false)]) (by simp [DV.SC, DV.SE, DV.SX]) ?_).trans ?_
      · by_cases hl : 0 < l
        · simp [B_log_of_1, DV.SC, DV.SE, DV.SX, hl, hacc, d4, d5, d6, sizeLine, ← hm]
        · have hw : w ≤ t - since := by omega
          simp [B_log_of_1, DV.SC, DV.SE, DV.SX, hl, hw, i1, hacc, d4, d5, d6, sizeLine, ← hm]
      · rw [ih]
        simp [logF, hc]
    · obtain ⟨y2, y4, y5, y6, ih⟩ := log_loop f w s ts suf (acc ++ [.tup [.int t, .bl false]]) l since (some (.int t, false)) (some (.bl false, false)) pn dj (by simp at hz ⊢; omega)
      refine ⟨y2, y4, y5, y6, ?_⟩
      refine (forLoop_step (Γ1 := [some (br f w s, false), some (.lst (ts.map D.int), false), some (.int t, false), some (.lst acc, true), some (.int l, false), some (.int since, false), x6]) (Γ2 := [some (br f w s, false), some (.lst (ts.map D.int), false), some (.int t, false), some (.lst (acc ++ [.tup [.int t, .bl false]]), true), some (.int l, false), some (.int since, false), some (.bl false, false)]) (by simp [DV.SC, DV.SE, DV.SX]) ?_).trans ?_
      · have hl : ¬ 0 < l := by omega
        have hw : ¬ w ≤ t - since := by omega
        simp [B_log_of_1, DV.SC, DV.SE, DV.SX, hl, hw, i1, hacc, d4, d5, d6, sizeLine]
      · rw [ih]
        simp [logF, hc]
theorem log_of_ok (f w s : Int) (ts : List Int) (fl : Bool) (hb : BrOk f w s) (hr : Rise (-1) ts) (hz : ts.length ≤ 1000) : F_log_of [some (br f w s, false), some (.lst (ts.map D.int), fl)] = some (.nw (.lst (logF w f 0 ts)), [some (br f w s, false), some (.lst (ts.map D.int), false)]) := by
  have e1 := is_breaker_ok f w s hb
  have e2 := check_times_ok ts fl hr hz
  have e3 := check_times_ok ts false hr hz
  have i0 : ∀ x y z : D, atI [x, y, z] 0 = some x := fun _ _ _ => rfl
  cases fl with
  | true =>
    obtain ⟨y2, y4, y5, y6, e⟩ := log_loop f w s ts ts [] f 0 none none [1] rfl (by simpa using hz)
    refine runF_by (o := .rt (.sl 3) [some (br f w s, false), some (.lst (ts.map D.int), false), y2, some (.lst (logF w f 0 ts), true), y4, y5, y6]) rfl (?_ : exs _ [1] _ [some (br f w s, false), some (.lst (ts.map D.int), true), none, none, none, none, none] = _) rfl
    refine (exs_nx (Γ1 := [some (br f w s, false), some (.lst (ts.map D.int), true), none, none, none, none, none]) (by simp [DV.SC, DV.SE, DV.SX, e1])).trans ?_
    refine (exs_nx (Γ1 := [some (br f w s, false), some (.lst (ts.map D.int), false), none, none, none, none, none]) (by simp [DV.SC, DV.SE, DV.SX, e2])).trans ?_
    refine (exs_nx (Γ1 := [some (br f w s, false), some (.lst (ts.map D.int), false), none, some (.lst [], true), some (.int f, false), some (.int 0, false), none]) (by simp [DV.SC, DV.SE, DV.SX, i0])).trans ?_
    refine (exs_nx (ex_for (by simp [DV.SC, DV.SE, DV.SX]) rfl e)).trans (by simp [DV.SC, DV.SE, DV.SX])
  | false =>
    obtain ⟨y2, y4, y5, y6, e⟩ := log_loop f w s ts ts [] f 0 none none [] rfl (by simpa using hz)
    refine runF_by (o := .rt (.sl 3) [some (br f w s, false), some (.lst (ts.map D.int), false), y2, some (.lst (logF w f 0 ts), true), y4, y5, y6]) rfl (?_ : exs _ [] _ [some (br f w s, false), some (.lst (ts.map D.int), false), none, none, none, none, none] = _) rfl
    refine (exs_nx (Γ1 := [some (br f w s, false), some (.lst (ts.map D.int), false), none, none, none, none, none]) (by simp [DV.SC, DV.SE, DV.SX, e1])).trans ?_
    refine (exs_nx (Γ1 := [some (br f w s, false), some (.lst (ts.map D.int), false), none, none, none, none, none]) (by simp [DV.SC, DV.SE, DV.SX, e2])).trans ?_
    refine (exs_nx (Γ1 := [some (br f w s, false), some (.lst (ts.map D.int), false), none, some (.lst [], true), some (.int f, false), some (.int 0, false), none]) (by simp [DV.SC, DV.SE, DV.SX, i0])).trans ?_
    refine (exs_nx (ex_for (by simp [DV.SC, DV.SE, DV.SX]) rfl e)).trans (by simp [DV.SC, DV.SE, DV.SX])

theorem cut_to (xs : List D) (k : Nat) : cutD xs none (some (k : Int)) = xs.take k := by
  unfold cutD
  rw [HT.sIx_none, HT.sIx_nat, List.drop_zero, Nat.sub_zero]
  by_cases h : k ≤ xs.length
  · rw [Nat.min_eq_left h]
  · rw [Nat.min_eq_right (by omega), List.take_of_length_le (Nat.le_refl _), List.take_of_length_le (by omega)]
/-! ### what is told of a row -/

/-! ### wells -/
abbrev wl (a c k : Int) : D := .lst [.int a, .int c, .int k]
theorem lg_lt {b : Int} (h : b < 2 ^ 200) (h0 : 0 < b) : b.natAbs.log2 < 9000 := by
  have : b.natAbs ≠ 0 := by omega
  rw [Nat.log2_lt this]
  have e : b.natAbs < 2 ^ 200 := by omega
  exact Nat.lt_of_lt_of_le e (Nat.pow_le_pow_right (by decide) (by decide))
theorem mixed_ok (c k : Int) (h0 : 0 ≤ k) (h1 : k ≤ 2 ^ 40) : ∃ v, F__law_mixed [some (.int c, false), some (.int k, false)] = some (.fz (.int v), [some (.int c, false), some (.int k, false)]) := by
  have a1 : 0 ≤ c % 2147483629 := Int.emod_nonneg _ (by decide)
  have a2 : c % 2147483629 < 2147483629 := Int.emod_lt_of_pos _ (by decide)
  have b : (c % 2147483629 + 30011 * k + 7).natAbs < 2 ^ 64 := by omega
  generalize hx : (c % 2147483629 + 30011 * k + 7) = x at b
  have m1 : mulOk 30011 k = true := mulOk_l (by decide) (by decide)
  have m2 : mulOk (c / 2147483629 % 65537) (k + 5) = true := mulOk_l (by have := Int.emod_nonneg (c / 2147483629) (b := 65537) (by decide); omega) (by have := Int.emod_lt_of_pos (c / 2147483629) (b := 65537) (by decide); omega)
  have m3 : ∀ y z : Int, mulOk (y % 2147483587) z = true := fun y z => mulOk_l (by have := Int.emod_nonneg y (b := 2147483587) (by decide); omega) (by have := Int.emod_lt_of_pos y (b := 2147483587) (by decide); omega)
  have m4 : ∀ y z : Int, mulOk (y % 2147483563) z = true := fun y z => mulOk_l (by have := Int.emod_nonneg y (b := 2147483563) (by decide); omega) (by have := Int.emod_lt_of_pos y (b := 2147483563) (by decide); omega)
  have g1 : Nat.log2 2147483629 < 9000 := by decide +kernel
  have g2 : Nat.log2 1009 < 9000 := by decide +kernel
  have g3 : Nat.log2 2003 < 9000 := by decide +kernel
  simp [F__law_mixed, DV.SC, DV.SE, DV.SX, m1, m2, hx, b, m3, m4, g1, g2, g3]
theorem draw_ok (a c k m : Int) (h0 : 0 ≤ k) (h1 : k < 2 ^ 40) (m0 : 0 < m) (m1 : m < 2 ^ 200) : ∃ r a' k', F__law_draw [some (wl a c k, true), some (.int m, false)] = some (.fz (.int r), [some (wl a' c k', true), some (.int m, false)]) ∧ 0 ≤ r ∧ r < m ∧ 0 ≤ k' ∧ k' ≤ k + 1 := by
  have lg := lg_lt m1 m0
  have i0 : ∀ x y z : D, atI [x, y, z] 0 = some x := fun _ _ _ => rfl
  have i1 : ∀ x y z : D, atI [x, y, z] 1 = some y := fun _ _ _ => rfl
  have i2 : ∀ x y z : D, atI [x, y, z] 2 = some z := fun _ _ _ => rfl
  have j0 : ixN 3 0 = some 0 := rfl
  have j2 : ixN 3 2 = some 2 := rfl
  by_cases ha : 0 < a
  · refine ⟨a % m, a / m, k, ?_, Int.emod_nonneg _ (by omega), Int.emod_lt_of_pos _ m0, h0, by omega⟩
    simp [F__law_draw, DV.SC, DV.SE, DV.SX, ha, i0, i1, i2, j0, lg, m0]
  · obtain ⟨v, hv⟩ := mixed_ok c (k + 1) (by omega) (by omega)
    refine ⟨v % m, a, k + 1, ?_, Int.emod_nonneg _ (by omega), Int.emod_lt_of_pos _ m0, by omega, by omega⟩
    simp [F__law_draw, DV.SC, DV.SE, DV.SX, ha, i0, i1, i2, j2, lg, m0, hv]

theorem well_ok (c : Int) : ∃ a, F__law_well [some (.int c, false)] = some (.nw (wl a c 0), [some (.int c, false)]) := by
  by_cases h : 1000000000000000000 ≤ c
  · have m : mulOk c 1 = true := mulOk_r (by decide) (by decide)
    refine ⟨c, ?_⟩
    simp [F__law_well, DV.SC, DV.SE, DV.SX, h, m, sizeLine]
  · have m : mulOk c 0 = true := mulOk_r (by decide) (by decide)
    refine ⟨0, ?_⟩
    simp [F__law_well, DV.SC, DV.SE, DV.SX, h, m, sizeLine]

/-! ### logs_right: the rows of the first loop -/
abbrev fsL : List FS := [F_explanations_x, F_first_conflict_x, F_forecast_x, F_explanations, F_log_of]
def nxOf : Option Out → Ct
  | some (.nx Γ) => Γ
  | _ => []
abbrev lrG (p : Int) (x1 x2 x3 x4 x5 x6 x7 : Sl) : Ct := [some (.int p, false), x1, x2, x3, x4, x5, x6, x7]
theorem lr_rows (p : Int) : ∃ x1 x4, exs fsL [] [.asg (.nm 1) (.lst [.tup [.cst .non, .neg (.cst (.int 1))], .tup [.tup [.tup [.cst (.int 0), .cst (.bl true)]], .neg (.cst (.int 1))], .tup [.dct, .neg (.cst (.int 1))], .tup [.cst (.str "x"), .neg (.cst (.int 1))], .tup [.comp [5] (.nm 5) .rng [.cst (.int 1001)] [] (.tup [.var 5, .cst (.bl true)]), .neg (.cst (.int 1))]]), .asg (.nm 1) (.bin .add (.var 1) (.lst [.tup [.lst [.cst .non], .cst (.int 0)], .tup [.lst [.tup [.cst (.int 0), .cst (.bl true)], .lst [.cst (.int 1), .cst (.bl true)]], .cst (.int 1)], .tup [.lst [.tup [.cst (.int 0), .cst (.bl true)], .tup [.cst (.int 0), .cst (.bl true)]], .cst (.int 1)], .tup [.lst [.tup [.cst (.int 3), .cst (.bl true)], .tup [.cst (.int 2), .cst (.bl false)]], .cst (.int 1)]])), .asg (.nm 1) (.bin .add (.var 1) (.lst [.tup [.lst [.tup [.neg (.cst (.int 1)), .cst (.bl true)]], .cst (.int 0)], .tup [.lst [.tup [.cst (.int 0), .cst (.int 1)]], .cst (.int 0)], .tup [.lst [.tup [.cst (.int 0), .cst .non]], .cst (.int 0)], .tup [.lst [.tup [.cst (.bl true), .cst (.bl true)]], .cst (.int 0)], .tup [.lst [.tup [.cst (.int 0), .cst (.bl true), .cst (.int 1)]], .cst (.int 0)]])), .asg (.nm 1) (.bin .add (.var 1) (.lst [.tup [.lst [.tup [.cst (.str "0"), .cst (.bl true)]], .cst (.int 0)], .tup [.lst [.dct], .cst (.int 0)], .tup [.lst [.tup [.cst (.int 0), .cst (.bl true)], .tup [.cst (.int 1), .cst (.str "True")]], .cst (.int 1)], .tup [.lst [.tup [.lst [.cst (.int 0)], .cst (.bl true)]], .cst (.int 0)], .tup [.lst [.tup [.cst (.int 0)]], .cst (.int 0)]])), .for_ (.tp [.nm 4, .nm 5]) .seq [.var 1] B__law_logs_right_3] (lrG p none none none none none none none) = some (.nx (lrG p x1 none none x4 (some (.int 0, false)) none none)) :=
  ⟨(nxOf (exs fsL [] [.asg (.nm 1) (.lst [.tup [.cst .non, .neg (.cst (.int 1))], .tup [.tup [.tup [.cst (.int 0), .cst (.bl true)]], .neg (.cst (.int 1))], .tup [.dct, .neg (.cst (.int 1))], .tup [.cst (.str "x"), .neg (.cst (.int 1))], .tup [.comp [5] (.nm 5) .rng [.cst (.int 1001)] [] (.tup [.var 5, .cst (.bl true)]), .neg (.cst (.int 1))]]), .asg (.nm 1) (.bin .add (.var 1) (.lst [.tup [.lst [.cst .non], .cst (.int 0)], .tup [.lst [.tup [.cst (.int 0), .cst (.bl true)], .lst [.cst (.int 1), .cst (.bl true)]], .cst (.int 1)], .tup [.lst [.tup [.cst (.int 0), .cst (.bl true)], .tup [.cst (.int 0), .cst (.bl true)]], .cst (.int 1)], .tup [.lst [.tup [.cst (.int 3), .cst (.bl true)], .tup [.cst (.int 2), .cst (.bl false)]], .cst (.int 1)]])), .asg (.nm 1) (.bin .add (.var 1) (.lst [.tup [.lst [.tup [.neg (.cst (.int 1)), .cst (.bl true)]], .cst (.int 0)], .tup [.lst [.tup [.cst (.int 0), .cst (.int 1)]], .cst (.int 0)], .tup [.lst [.tup [.cst (.int 0), .cst .non]], .cst (.int 0)], .tup [.lst [.tup [.cst (.bl true), .cst (.bl true)]], .cst (.int 0)], .tup [.lst [.tup [.cst (.int 0), .cst (.bl true), .cst (.int 1)]], .cst (.int 0)]])), .asg (.nm 1) (.bin .add (.var 1) (.lst [.tup [.lst [.tup [.cst (.str "0"), .cst (.bl true)]], .cst (.int 0)], .tup [.lst [.dct], .cst (.int 0)], .tup [.lst [.tup [.cst (.int 0), .cst (.bl true)], .tup [.cst (.int 1), .cst (.str "True")]], .cst (.int 1)], .tup [.lst [.tup [.lst [.cst (.int 0)], .cst (.bl true)]], .cst (.int 0)], .tup [.lst [.tup [.cst (.int 0)]], .cst (.int 0)]])), .for_ (.tp [.nm 4, .nm 5]) .seq [.var 1] B__law_logs_right_3] (lrG 0 none none none none none none none))).getD 1 none, (nxOf (exs fsL [] [.asg (.nm 1) (.lst [.tup [.cst .non, .neg (.cst (.int 1))], .tup [.tup [.tup [.cst (.int 0), .cst (.bl true)]], .neg (.cst (.int 1))], .tup [.dct, .neg (.cst (.int 1))], .tup [.cst (.str "x"), .neg (.cst (.int 1))], .tup [.comp [5] (.nm 5) .rng [.cst (.int 1001)] [] (.tup [.var 5, .cst (.bl true)]), .neg (.cst (.int 1))]]), .asg (.nm 1) (.bin .add (.var 1) (.lst [.tup [.lst [.cst .non], .cst (.int 0)], .tup [.lst [.tup [.cst (.int 0), .cst (.bl true)], .lst [.cst (.int 1), .cst (.bl true)]], .cst (.int 1)], .tup [.lst [.tup [.cst (.int 0), .cst (.bl true)], .tup [.cst (.int 0), .cst (.bl true)]], .cst (.int 1)], .tup [.lst [.tup [.cst (.int 3), .cst (.bl true)], .tup [.cst (.int 2), .cst (.bl false)]], .cst (.int 1)]])), .asg (.nm 1) (.bin .add (.var 1) (.lst [.tup [.lst [.tup [.neg (.cst (.int 1)), .cst (.bl true)]], .cst (.int 0)], .tup [.lst [.tup [.cst (.int 0), .cst (.int 1)]], .cst (.int 0)], .tup [.lst [.tup [.cst (.int 0), .cst .non]], .cst (.int 0)], .tup [.lst [.tup [.cst (.bl true), .cst (.bl true)]], .cst (.int 0)], .tup [.lst [.tup [.cst (.int 0), .cst (.bl true), .cst (.int 1)]], .cst (.int 0)]])), .asg (.nm 1) (.bin .add (.var 1) (.lst [.tup [.lst [.tup [.cst (.str "0"), .cst (.bl true)]], .cst (.int 0)], .tup [.lst [.dct], .cst (.int 0)], .tup [.lst [.tup [.cst (.int 0), .cst (.bl true)], .tup [.cst (.int 1), .cst (.str "True")]], .cst (.int 1)], .tup [.lst [.tup [.lst [.cst (.int 0)], .cst (.bl true)]], .cst (.int 0)], .tup [.lst [.tup [.cst (.int 0)]], .cst (.int 0)]])), .for_ (.tp [.nm 4, .nm 5]) .seq [.var 1] B__law_logs_right_3] (lrG 0 none none none none none none none))).getD 4 none, by kernel_rfl⟩

/-! ### check_log: the last entry is wrong -/
abbrev gE (i : Nat) : D := .tup [.int (i : Int), .bl true]
theorem e2z (x y : D) : atI [x, y] 0 = some x := rfl
theorem e2o (x y : D) : atI [x, y] 1 = some y := rfl
theorem is_entry_ok (t : Int) (b : Bool) (h : 0 ≤ t) : F_is_entry [some (.tup [.int t, .bl b], false)] = some (.fz (.bl true), [some (.tup [.int t, .bl b], false)]) := by
  have e1 := is_integer_int t
  simp [F_is_entry, DV.SC, DV.SE, DV.SX, e2z, e2o, e1, h]
theorem xg_good (LL : List D) (k : Nat) (hg : 0 < k → atI LL ((k : Int) - 1) = some (gE (k - 1))) : exs [F_is_entry] [] B_check_log_x_1 [some (.lst LL, false), some (.int (k : Int), false), some (gE k, false)] = some (.nx [some (.lst LL, false), some (.int (k : Int), false), some (gE k, false)]) := by
  have ie := is_entry_ok (k : Int) true (by omega)
  by_cases c : 0 < k
  · have g := hg c
    have c1 : (0 : Int) < (k : Int) := by omega
    have c2 : ¬ (k : Int) ≤ ((k - 1 : Nat) : Int) := by omega
    simp [B_check_log_x_1, DV.SC, DV.SE, DV.SX, ie, c, c1, g, e2z, c2]
  · have c1 : ¬ (0 : Int) < (k : Int) := by omega
    simp [B_check_log_x_1, DV.SC, DV.SE, DV.SX, ie, c1, c]
theorem xg_loop (LL : List D) (n : Nat) (hg : ∀ k, k < n → atI LL (k : Int) = some (gE k)) (d : D) (hb : ∃ G, exs [F_is_entry] [] B_check_log_x_1 [some (.lst LL, false), some (.int (n : Int), false), some (d, false)] = some (.xc 15 ["at"] [.int (n : Int)] G)) :
    ∀ (m k : Nat) (x1 x2 : Sl), k + m = n → ∃ G, forLoop (.tp [.nm 1, .nm 2]) (exs [F_is_entry] [] B_check_log_x_1) (enumD k ((List.range' k m).map gE ++ [d])) [some (.lst LL, false), x1, x2] = some (.xc 15 ["at"] [.int (n : Int)] G)
  | 0, k, x1, x2, e => by
    obtain ⟨G, h⟩ := hb
    have e : k = n := by omega
    subst e
    refine ⟨G, ?_⟩
    simp only [List.range'_zero, List.map_nil, List.nil_append, enumD, forLoop]
    have a1 : asgT (.tp [.nm 1, .nm 2]) (.tup [.int (k : Int), d]) [some (.lst LL, false), x1, x2] = some [some (.lst LL, false), some (.int (k : Int), false), some (d, false)] := by simp [DV.SC, DV.SE, DV.SX]
    rw [a1, Option.bind_some, h]
    rfl
  | m + 1, k, x1, x2, e => by
    obtain ⟨G, ih⟩ := xg_loop LL n hg d hb m (k + 1) (some (.int (k : Int), false)) (some (gE k, false)) (by omega)
    refine ⟨G, ?_⟩
    rw [List.range'_succ, List.map_cons, List.cons_append, enumD, ← ih]
    refine forLoop_step (Γ1 := [some (.lst LL, false), some (.int (k : Int), false), some (gE k, false)]) (by simp [DV.SC, DV.SE, DV.SX]) (xg_good LL k fun h => ?_)
    have := hg (k - 1) (by omega)
    rw [show ((k - 1 : Nat) : Int) = (k : Int) - 1 by omega] at this
    exact this
theorem lg_at (n : Nat) (d : D) (k : Nat) (h : k < n) : atI ((List.range' 0 n).map gE ++ [d]) (k : Int) = some (gE k) := by
  refine atI_nat ?_
  rw [List.getElem?_append_left (by simpa using h), List.getElem?_map, List.getElem?_range' h]
  simp
theorem bad_entry (LL : List D) (n : Nat) (d : D) (h : F_is_entry [some (d, false)] = some (.fz (.bl false), [some (d, false)])) : ∃ G, exs [F_is_entry] [] B_check_log_x_1 [some (.lst LL, false), some (.int (n : Int), false), some (d, false)] = some (.xc 15 ["at"] [.int (n : Int)] G) :=
  ⟨_, by simp [B_check_log_x_1, DV.SC, DV.SE, DV.SX, h, excOk, DV.ex.eq_20, fres]; rfl⟩
theorem bad_time (LL : List D) (n : Nat) (t : Int) (b : Bool) (h0 : 0 < n) (t0 : 0 ≤ t) (ht : t ≤ ((n - 1 : Nat) : Int)) (hg : atI LL ((n : Int) - 1) = some (gE (n - 1))) : ∃ G, exs [F_is_entry] [] B_check_log_x_1 [some (.lst LL, false), some (.int (n : Int), false), some (.tup [.int t, .bl b], false)] = some (.xc 15 ["at"] [.int (n : Int)] G) := by
  have ie := is_entry_ok t b t0
  have c1 : (0 : Int) < (n : Int) := by omega
  exact ⟨_, by simp [B_check_log_x_1, DV.SC, DV.SE, DV.SX, ie, h0, c1, hg, e2z, ht, excOk, DV.ex.eq_20, fres]; rfl⟩

/-! ### check_log raises at its last entry, and what stands behind it -/
theorem runX_pn {fs : List FS} {np n : Nat} {body : List S} {G0 : Ct} {o : Out} {r : RV × Ct} {pn : List Nat} (hl : G0.length = np) (hd : disjB (asgOfs body) (ownPs 0 G0) = true) (e : exs fs pn body (G0 ++ List.replicate (n - np) none) = some o) (f : finishX np G0 o = some r) : runX fs np n body G0 = some r := by
  simp only [runX, hl, if_true, exs_pn body hd _ _ e, Option.bind_some, f]
theorem exs_xc {fs : List FS} {pn : List Nat} {s : S} {ss : List S} {Γ G : Ct} {c : Nat} {ks : List Str} {ds : List D} (h : ex fs pn s Γ = some (.xc c ks ds G)) : exs fs pn (s :: ss) Γ = some (.xc c ks ds G) := by
  simp only [exs, h, Option.bind_some]
theorem xcl_s1 (EE : List D) (fl : Bool) (n : Int) (hn : (EE.length : Int) = n) (hl : ¬ 1000 < n) : ex [F_is_entry] [] (.ite (.or (.not (.bi (.isi .list) [.var 0])) (.cmp .gt (.bi .len [.var 0]) (.cst (.int 1000)))) [.rse 15 ["at"] [.neg (.cst (.int 1))]] []) [some (.lst EE, fl), none, none] = some (.nx [some (.lst EE, fl), none, none]) := by
  have e1 : ev [F_is_entry] (.not (.bi (.isi .list) [.var 0])) [some (.lst EE, fl), none, none] = some (.fz (.bl false), [some (.lst EE, fl), none, none]) := by simp [DV.SC, DV.SE, DV.SX]
  have e2 : ev [F_is_entry] (.bi .len [.var 0]) [some (.lst EE, fl), none, none] = some (.fz (.int n), [some (.lst EE, fl), none, none]) := by simp [DV.SC, DV.SE, DV.SX, hn]
  have e3 : ∀ m : Int, ¬ m < n → ev [F_is_entry] (.cmp .gt (.bi .len [.var 0]) (.cst (.int m))) [some (.lst EE, fl), none, none] = some (.fz (.bl false), [some (.lst EE, fl), none, none]) := fun m hm => by
    generalize DV.E.bi DV.Bi.len _ = EL' at e2 ⊢
    simp [DV.SC, DV.SE, DV.SX, e2, hm]
  have e3 := e3 1000 hl
  generalize DV.E.not _ = X at e1 ⊢
  generalize DV.E.cmp _ _ _ = Y at e3 ⊢
  simp [DV.SC, DV.SE, DV.SX, e1, e3]
theorem xcl_bad (EE : List D) (fl : Bool) (j : Int) (G : Ct) (s1 : ex [F_is_entry] [] (.ite (.or (.not (.bi (.isi .list) [.var 0])) (.cmp .gt (.bi .len [.var 0]) (.cst (.int 1000)))) [.rse 15 ["at"] [.neg (.cst (.int 1))]] []) [some (.lst EE, fl), none, none] = some (.nx [some (.lst EE, fl), none, none])) (lp : forLoop (.tp [.nm 1, .nm 2]) (exs [F_is_entry] [] B_check_log_x_1) (enumD 0 EE) [some (.lst EE, false), none, none] = some (.xc 15 ["at"] [.int j] G)) :
    F_check_log_x [some (.lst EE, fl)] = some (.fz (.exc 15 ["at"] [.int j]), [none]) := by
  have e : exs [F_is_entry] [] [.ite (.or (.not (.bi (.isi .list) [.var 0])) (.cmp .gt (.bi .len [.var 0]) (.cst (.int 1000)))) [.rse 15 ["at"] [.neg (.cst (.int 1))]] [], .for_ (.tp [.nm 1, .nm 2]) .enum [.var 0] B_check_log_x_1] [some (.lst EE, fl), none, none] = some (.xc 15 ["at"] [.int j] G) :=
    (exs_nx s1).trans (exs_xc (ex_for (Γ2 := [some (.lst EE, false), none, none]) (ds := enumD 0 EE) (by cases fl <;> simp [DV.SC, DV.SE, DV.SX]) (by simp [DV.SC, DV.SE, DV.SX]) lp))
  cases fl with
  | true => exact runX_pn (pn := []) rfl rfl e rfl
  | false => exact runX_pn (pn := []) rfl rfl e rfl
abbrev lgB (n : Nat) (d : D) : List D := (List.range' 0 n).map gE ++ [d]
theorem lgB_len (n : Nat) (d : D) : (lgB n d).length = n + 1 := by simp [lgB]
theorem check_bad (n : Nat) (hn : n < 1000) (d : D) (fl : Bool) (hb : ∃ G, exs [F_is_entry] [] B_check_log_x_1 [some (.lst (lgB n d), false), some (.int (n : Int), false), some (d, false)] = some (.xc 15 ["at"] [.int (n : Int)] G)) :
    F_check_log_x [some (.lst (lgB n d), fl)] = some (.fz (.exc 15 ["at"] [.int (n : Int)]), [none]) := by
  obtain ⟨G, lp⟩ := xg_loop (lgB n d) n (fun k h => lg_at n d k h) d hb n 0 none none (by omega)
  exact xcl_bad (lgB n d) fl (n : Int) G (xcl_s1 _ fl ((n : Int) + 1) (by rw [lgB_len]; omega) (by omega)) lp
theorem expl_bad (L : D) (fl : Bool) (j : Int) (h : F_check_log_x [some (L, false)] = some (.fz (.exc 15 ["at"] [.int j]), [none]) ∧ F_check_log_x [some (L, true)] = some (.fz (.exc 15 ["at"] [.int j]), [none])) : F_explanations_x [some (L, fl)] = some (.fz (.exc 15 ["at"] [.int j]), [none]) := by
  obtain ⟨h1, h2⟩ := h
  cases fl <;> simp [F_explanations_x, runX, ownPs, finishX, DV.SC, DV.SE, DV.SX, h1, h2, DV.ex.eq_21]

/-! ### what the three tell of a wrong last entry -/
theorem conf_bad (L : D) (fl : Bool) (j : Int) (h1 : F_check_log_x [some (L, false)] = some (.fz (.exc 15 ["at"] [.int j]), [none])) (h2 : F_check_log_x [some (L, true)] = some (.fz (.exc 15 ["at"] [.int j]), [none])) : F_first_conflict_x [some (L, fl)] = some (.fz (.exc 15 ["at"] [.int j]), [none]) := by
  cases fl <;> simp [F_first_conflict_x, runX, ownPs, finishX, DV.SC, DV.SE, DV.SX, h1, h2, DV.ex.eq_21]
theorem fore_bad (L : D) (fl : Bool) (t : D) (j : Int) (h1 : F_check_log_x [some (L, false)] = some (.fz (.exc 15 ["at"] [.int j]), [none])) (h2 : F_check_log_x [some (L, true)] = some (.fz (.exc 15 ["at"] [.int j]), [none])) : F_forecast_x [some (L, fl), some (t, false)] = some (.fz (.exc 15 ["at"] [.int j]), [none, none]) := by
  cases fl <;> simp [F_forecast_x, runX, ownPs, finishX, DV.SC, DV.SE, DV.SX, h1, h2, DV.ex.eq_21]
theorem said_log (j : Int) : SD__law_said 15 ["at"] [.int j] = some (.tup [.str "log", .int j]) := by kernel_rfl
theorem lr_long (p : Int) (x1 x4 : Sl) : ex fsL [] (.asg (.nm 2) (.comp [5] (.nm 5) .rng [.cst (.int 1000)] [] (.tup [.var 5, .cst (.bl true)]))) (lrG p x1 none none x4 (some (.int 0, false)) none none) = some (.nx (lrG p x1 (some (.lst ((List.range' 0 1000).map gE), false)) none x4 (some (.int 0, false)) none none)) := by kernel_rfl

/-! ### logs_right: a long log with a wrong entry -/
abbrev lgN (n : Nat) : List D := (List.range' 0 n).map gE
theorem take_lg (n k : Nat) (h : k ≤ n) : (lgN n).take k = lgN k := by
  apply List.ext_getElem?
  intro i
  rw [List.getElem?_take]
  by_cases c : i < k
  · rw [if_pos c, List.getElem?_map, List.getElem?_map, List.getElem?_range' (by omega), List.getElem?_range' c]
  · rw [if_neg c, List.getElem?_eq_none (by simp; omega)]
theorem slc_lg (k : Nat) (h : k ≤ 1000) : slcD (.lst (lgN 1000)) none (some (k : Int)) = some (.nw (.lst (lgN k))) := by
  show some (RV.nw (.lst (cutD (lgN 1000) none (some (k : Int))))) = _
  rw [cut_to, take_lg 1000 k h]
theorem add_lg (k : Nat) (h : k ≤ 1000) (d : D) : binD .add (.lst (lgN k)) (.lst [d]) = some (.nw (.lst (lgB k d))) := by
  have hl : (lgN k).length = k := by simp [lgN]
  show (if (lgN k).length + [d].length ≤ sizeLine then some (RV.nw (.lst (lgN k ++ [d]))) else none) = _
  rw [if_pos (by rw [hl]; simp only [List.length_singleton]; have : (1001 : Nat) ≤ sizeLine := by decide
                 omega)]
section
variable (p : Nat) (h1 : 1 ≤ p) (h2 : p < 1000) (Γ : Ct)
theorem ce1 (fl : Bool) : F_check_log_x [some (.lst (lgB p (.tup [.int (p : Int), .int 1])), fl)] = some (.fz (.exc 15 ["at"] [.int (p : Int)]), [none]) ∨ ¬ p < 1000 := by
  by_cases h2 : p < 1000
  · exact .inl (check_bad p h2 _ fl (bad_entry _ p _ (by kernel_rfl)))
  · exact .inr h2
theorem ce2 (fl : Bool) : F_check_log_x [some (.lst (lgB p .non), fl)] = some (.fz (.exc 15 ["at"] [.int (p : Int)]), [none]) ∨ ¬ p < 1000 := by
  by_cases h2 : p < 1000
  · exact .inl (check_bad p h2 _ fl (bad_entry _ p _ (by kernel_rfl)))
  · exact .inr h2
theorem ce3 (h1 : 1 ≤ p) (h2 : p < 1000) (fl : Bool) : F_check_log_x [some (.lst (lgB p (.tup [.int ((p : Int) - 1), .bl false])), fl)] = some (.fz (.exc 15 ["at"] [.int (p : Int)]), [none]) := by
  refine check_bad p h2 _ fl (bad_time _ p _ _ h1 (by omega) (by omega) ?_)
  have := lg_at p (.tup [.int ((p : Int) - 1), .bl false]) (p - 1) (by omega)
  rw [show ((p - 1 : Nat) : Int) = (p : Int) - 1 by omega] at this
  exact this
end

/-! ### logs_right: three are asked at a place -/
abbrev XL (p : Int) : RV := .fz (.exc 15 ["at"] [.int p])
theorem sd1 (p : Int) (L M B : List D) (x1 x3 x4 x5 x6 x7 : Sl) (hs : slcD (.lst L) none (some p) = some (.nw (.lst M))) (ha : binD .add (.lst M) (.lst [.tup [.int p, .int 1]]) = some (.nw (.lst B))) (he : F_explanations_x [some (.lst B, true)] = some (XL p, [none])) :
    ev fsL (.said D0__law_said SD__law_said (.call 0 [.bin .add (.slc (.var 2) [] [.var 0]) (.lst [.tup [.var 0, .cst (.int 1)]])])) (lrG p x1 (some (.lst L, false)) x3 x4 x5 x6 x7) = some (.fz (.tup [.str "log", .int p]), lrG p x1 (some (.lst L, false)) x3 x4 x5 x6 x7) := by
  have sl := said_log p
  simp [DV.SC, DV.SE, DV.SX, hs, ha, he, saidD, sl, sizeLine, DV.ev.eq_44]
theorem sd2 (p : Int) (L M B : List D) (x1 x3 x4 x5 x6 x7 : Sl) (hs : slcD (.lst L) none (some p) = some (.nw (.lst M))) (ha : binD .add (.lst M) (.lst [.non]) = some (.nw (.lst B))) (he : F_first_conflict_x [some (.lst B, true)] = some (XL p, [none])) :
    ev fsL (.said D0__law_said SD__law_said (.call 1 [.bin .add (.slc (.var 2) [] [.var 0]) (.lst [.cst .non])])) (lrG p x1 (some (.lst L, false)) x3 x4 x5 x6 x7) = some (.fz (.tup [.str "log", .int p]), lrG p x1 (some (.lst L, false)) x3 x4 x5 x6 x7) := by
  have sl := said_log p
  simp [DV.SC, DV.SE, DV.SX, hs, ha, he, saidD, sl, sizeLine, DV.ev.eq_44]
theorem sd3 (p : Int) (L M B : List D) (x1 x3 x4 x5 x6 x7 : Sl) (hs : slcD (.lst L) none (some p) = some (.nw (.lst M))) (ha : binD .add (.lst M) (.lst [.tup [.int (p - 1), .bl false]]) = some (.nw (.lst B))) (he : F_forecast_x [some (.lst B, true), some (.int 2000, false)] = some (XL p, [none, none])) :
    ev fsL (.said D0__law_said SD__law_said (.call 2 [.bin .add (.slc (.var 2) [] [.var 0]) (.lst [.tup [.bin .sub (.var 0) (.cst (.int 1)), .cst (.bl false)]]), .cst (.int 2000)])) (lrG p x1 (some (.lst L, false)) x3 x4 x5 x6 x7) = some (.fz (.tup [.str "log", .int p]), lrG p x1 (some (.lst L, false)) x3 x4 x5 x6 x7) := by
  have sl := said_log p
  simp [DV.SC, DV.SE, DV.SX, hs, ha, he, saidD, sl, sizeLine, DV.ev.eq_44]
theorem mul3 (p : Int) : binD .mul (.lst [.tup [.str "log", .int p]]) (.int 3) = some (.nw (.lst [.tup [.str "log", .int p], .tup [.str "log", .int p], .tup [.str "log", .int p]])) := by kernel_rfl
theorem cmp3 (p : Int) : cmpD .ne (.lst [.tup [.str "log", .int p], .tup [.str "log", .int p], .tup [.str "log", .int p]]) (.lst [.tup [.str "log", .int p], .tup [.str "log", .int p], .tup [.str "log", .int p]]) = some false := by
  have o : okB 12 (.lst [.tup [.str "log", .int p], .tup [.str "log", .int p], .tup [.str "log", .int p]]) = true := by kernel_rfl
  simp [cmpD, o, eqd, eqds]
theorem lr_place (p : Nat) (h1 : 1 ≤ p) (h2 : p < 1000) (x1 x4 x5 x6 x7 : Sl) : ex fsL [] (.ite (.cmp .ne (.lst [.said D0__law_said SD__law_said (.call 0 [.bin .add (.slc (.var 2) [] [.var 0]) (.lst [.tup [.var 0, .cst (.int 1)]])]), .said D0__law_said SD__law_said (.call 1 [.bin .add (.slc (.var 2) [] [.var 0]) (.lst [.cst .non])]), .said D0__law_said SD__law_said (.call 2 [.bin .add (.slc (.var 2) [] [.var 0]) (.lst [.tup [.bin .sub (.var 0) (.cst (.int 1)), .cst (.bl false)]]), .cst (.int 2000)])]) (.bin .mul (.lst [.tup [.cst (.str "log"), .var 0]]) (.cst (.int 3)))) B__law_logs_right_4 B__law_logs_right_5) (lrG (p : Int) x1 (some (.lst (lgN 1000), false)) none x4 x5 x6 x7) = some (.nx (lrG (p : Int) x1 (some (.lst (lgN 1000), false)) none x4 x5 x6 x7)) := by
  have c1 := fun fl => (ce1 p fl).resolve_right (fun z => z h2)
  have c2 := fun fl => (ce2 p fl).resolve_right (fun z => z h2)
  have c3 := ce3 p h1 h2
  have hs := slc_lg p (by omega)
  have a1 := sd1 (p : Int) (lgN 1000) (lgN p) _ x1 none x4 x5 x6 x7 hs (add_lg p (by omega) _) (expl_bad _ true _ ⟨c1 false, c1 true⟩)
  have a2 := sd2 (p : Int) (lgN 1000) (lgN p) _ x1 none x4 x5 x6 x7 hs (add_lg p (by omega) _) (conf_bad _ true _ (c2 false) (c2 true))
  have a3 := sd3 (p : Int) (lgN 1000) (lgN p) _ x1 none x4 x5 x6 x7 hs (add_lg p (by omega) _) (fore_bad _ true _ _ (c3 false) (c3 true))
  generalize lgN 1000 = LL at *
  generalize hS1 : DV.E.said D0__law_said SD__law_said (.call 0 _) = S1 at a1 ⊢
  generalize hS2 : DV.E.said D0__law_said SD__law_said (.call 1 _) = S2 at a2 ⊢
  generalize hS3 : DV.E.said D0__law_said SD__law_said (.call 2 _) = S3 at a3 ⊢
  have m := mul3 (p : Int)
  have c := cmp3 (p : Int)
  simp [DV.SC, DV.SX, a1, a2, a3, m, c, sizeLine, B__law_logs_right_5]

/-! ### right: what stands behind the log, for each log -/
abbrev fsR : List FS := [F__law_draw, F_log_of, F__law_logs_right, F__law_others_right, F_explanations, F_first_conflict, F_forecast, F_waits_of, F_forecast_x]
abbrev rG (W : D) (x1 x2 x3 x4 : Sl) : Ct := [some (W, true), x1, x2, x3, x4]
abbrev badD : D := .lst [.tup [.int 0, .bl false]]
def Beh (sn : D) : Prop := ∀ (W m d : D), exs fsR [0] [.ite (.not (.call 3 [.var 3, .cst (.int 20)])) [.ret (.cst (.bl false))] [], .ite (.or (.cmp .ne (.callp 4 [0] [.var 3]) (.call 4 [.var 3])) (.cmp .ne (.callp 5 [0] [.var 3]) (.call 5 [.var 3]))) [.ret (.cst (.bl false))] [], .ite (.or (.cmp .ne (.callp 6 [1, 0] [.cst (.int 24), .var 3]) (.call 6 [.var 3, .cst (.int 24)])) (.cmp .ne (.callp 7 [0] [.lst [.cst (.int 2), .cst (.int 4)]]) (.call 7 [.lst [.cst (.int 2), .cst (.int 4)]]))) [.ret (.cst (.bl false))] [], .asg (.nm 4) (.lst [.tup [.cst (.int 0), .cst (.bl false)]]), .ite (.cmp .ne (.said D0__law_said SD__law_said (.call 8 [.var 4, .cst (.int 0)])) (.tup [.cst (.str "time"), .cst (.str "0")])) [.ret (.cst (.bl false))] [], .ret (.cmp .eq (.said D0__law_said SD__law_said (.call 8 [.var 4, .cst (.int 1)])) (.tup [.cst (.str "log"), .cst (.int 0)]))] (rG W (some (m, false)) (some (d, false)) (some (sn, false)) none) = some (.rt (.fz (.bl true)) (rG W (some (m, false)) (some (d, false)) (some (sn, false)) (some (badD, false))))
abbrev sn0 : D := .lst [.tup [.int 3, .bl true], .tup [.int 4, .bl true], .tup [.int 6, .bl true], .tup [.int 9, .bl true], .tup [.int 14, .bl true], .tup [.int 20, .bl true]]
theorem beh0 : Beh sn0 := by intro W m d; kernel_rfl
abbrev sn1 : D := .lst [.tup [.int 3, .bl true], .tup [.int 4, .bl false], .tup [.int 6, .bl true], .tup [.int 9, .bl true], .tup [.int 14, .bl true], .tup [.int 20, .bl true]]
theorem beh1 : Beh sn1 := by intro W m d; kernel_rfl
abbrev sn2 : D := .lst [.tup [.int 3, .bl true], .tup [.int 4, .bl false], .tup [.int 6, .bl false], .tup [.int 9, .bl true], .tup [.int 14, .bl true], .tup [.int 20, .bl true]]
theorem beh2 : Beh sn2 := by intro W m d; kernel_rfl
abbrev sn3 : D := .lst [.tup [.int 3, .bl true], .tup [.int 4, .bl false], .tup [.int 6, .bl false], .tup [.int 9, .bl true], .tup [.int 14, .bl false], .tup [.int 20, .bl true]]
theorem beh3 : Beh sn3 := by intro W m d; kernel_rfl
abbrev sn4 : D := .lst [.tup [.int 3, .bl true], .tup [.int 4, .bl false], .tup [.int 6, .bl false], .tup [.int 9, .bl false], .tup [.int 14, .bl true], .tup [.int 20, .bl false]]
theorem beh4 : Beh sn4 := by intro W m d; kernel_rfl
abbrev sn5 : D := .lst [.tup [.int 3, .bl true], .tup [.int 4, .bl true], .tup [.int 6, .bl false], .tup [.int 9, .bl true], .tup [.int 14, .bl true], .tup [.int 20, .bl true]]
theorem beh5 : Beh sn5 := by intro W m d; kernel_rfl
abbrev sn6 : D := .lst [.tup [.int 3, .bl true], .tup [.int 4, .bl true], .tup [.int 6, .bl false], .tup [.int 9, .bl false], .tup [.int 14, .bl true], .tup [.int 20, .bl true]]
theorem beh6 : Beh sn6 := by intro W m d; kernel_rfl
abbrev sn7 : D := .lst [.tup [.int 3, .bl true], .tup [.int 4, .bl true], .tup [.int 6, .bl false], .tup [.int 9, .bl false], .tup [.int 14, .bl true], .tup [.int 20, .bl false]]
theorem beh7 : Beh sn7 := by intro W m d; kernel_rfl
abbrev sn8 : D := .lst [.tup [.int 3, .bl true], .tup [.int 4, .bl true], .tup [.int 6, .bl true], .tup [.int 9, .bl false], .tup [.int 14, .bl true], .tup [.int 20, .bl true]]
theorem beh8 : Beh sn8 := by intro W m d; kernel_rfl
abbrev sn9 : D := .lst [.tup [.int 3, .bl true], .tup [.int 4, .bl true], .tup [.int 6, .bl true], .tup [.int 9, .bl false], .tup [.int 14, .bl true], .tup [.int 20, .bl false]]
theorem beh9 : Beh sn9 := by intro W m d; kernel_rfl
abbrev sn10 : D := .lst [.tup [.int 3, .bl true], .tup [.int 4, .bl true], .tup [.int 6, .bl true], .tup [.int 9, .bl false], .tup [.int 14, .bl false], .tup [.int 20, .bl true]]
theorem beh10 : Beh sn10 := by intro W m d; kernel_rfl
abbrev sn11 : D := .lst [.tup [.int 3, .bl true], .tup [.int 4, .bl true], .tup [.int 6, .bl true], .tup [.int 10, .bl true], .tup [.int 14, .bl true], .tup [.int 20, .bl true]]
theorem beh11 : Beh sn11 := by intro W m d; kernel_rfl
abbrev sn12 : D := .lst [.tup [.int 3, .bl true], .tup [.int 4, .bl false], .tup [.int 6, .bl true], .tup [.int 10, .bl true], .tup [.int 14, .bl true], .tup [.int 20, .bl true]]
theorem beh12 : Beh sn12 := by intro W m d; kernel_rfl
abbrev sn13 : D := .lst [.tup [.int 3, .bl true], .tup [.int 4, .bl false], .tup [.int 6, .bl false], .tup [.int 10, .bl true], .tup [.int 14, .bl true], .tup [.int 20, .bl true]]
theorem beh13 : Beh sn13 := by intro W m d; kernel_rfl
abbrev sn14 : D := .lst [.tup [.int 3, .bl true], .tup [.int 4, .bl false], .tup [.int 6, .bl false], .tup [.int 10, .bl true], .tup [.int 14, .bl false], .tup [.int 20, .bl true]]
theorem beh14 : Beh sn14 := by intro W m d; kernel_rfl
abbrev sn15 : D := .lst [.tup [.int 3, .bl true], .tup [.int 4, .bl false], .tup [.int 6, .bl false], .tup [.int 10, .bl false], .tup [.int 14, .bl true], .tup [.int 20, .bl false]]
theorem beh15 : Beh sn15 := by intro W m d; kernel_rfl
abbrev sn16 : D := .lst [.tup [.int 3, .bl true], .tup [.int 4, .bl true], .tup [.int 6, .bl false], .tup [.int 10, .bl true], .tup [.int 14, .bl true], .tup [.int 20, .bl true]]
theorem beh16 : Beh sn16 := by intro W m d; kernel_rfl
abbrev sn17 : D := .lst [.tup [.int 3, .bl true], .tup [.int 4, .bl true], .tup [.int 6, .bl false], .tup [.int 10, .bl true], .tup [.int 14, .bl false], .tup [.int 20, .bl true]]
theorem beh17 : Beh sn17 := by intro W m d; kernel_rfl
abbrev sn18 : D := .lst [.tup [.int 3, .bl true], .tup [.int 4, .bl true], .tup [.int 6, .bl false], .tup [.int 10, .bl false], .tup [.int 14, .bl true], .tup [.int 20, .bl false]]
theorem beh18 : Beh sn18 := by intro W m d; kernel_rfl
abbrev sn19 : D := .lst [.tup [.int 3, .bl true], .tup [.int 4, .bl true], .tup [.int 6, .bl true], .tup [.int 10, .bl false], .tup [.int 14, .bl true], .tup [.int 20, .bl true]]
theorem beh19 : Beh sn19 := by intro W m d; kernel_rfl
abbrev sn20 : D := .lst [.tup [.int 3, .bl true], .tup [.int 4, .bl true], .tup [.int 6, .bl true], .tup [.int 10, .bl false], .tup [.int 14, .bl true], .tup [.int 20, .bl false]]
theorem beh20 : Beh sn20 := by intro W m d; kernel_rfl
abbrev sn21 : D := .lst [.tup [.int 3, .bl true], .tup [.int 4, .bl true], .tup [.int 6, .bl true], .tup [.int 10, .bl false], .tup [.int 14, .bl false], .tup [.int 20, .bl true]]
theorem beh21 : Beh sn21 := by intro W m d; kernel_rfl
abbrev sn22 : D := .lst [.tup [.int 3, .bl true], .tup [.int 4, .bl true], .tup [.int 6, .bl true], .tup [.int 11, .bl true], .tup [.int 14, .bl true], .tup [.int 20, .bl true]]
theorem beh22 : Beh sn22 := by intro W m d; kernel_rfl
abbrev sn23 : D := .lst [.tup [.int 3, .bl true], .tup [.int 4, .bl false], .tup [.int 6, .bl true], .tup [.int 11, .bl true], .tup [.int 14, .bl true], .tup [.int 20, .bl true]]
theorem beh23 : Beh sn23 := by intro W m d; kernel_rfl
abbrev sn24 : D := .lst [.tup [.int 3, .bl true], .tup [.int 4, .bl false], .tup [.int 6, .bl false], .tup [.int 11, .bl true], .tup [.int 14, .bl false], .tup [.int 20, .bl true]]
theorem beh24 : Beh sn24 := by intro W m d; kernel_rfl
abbrev sn25 : D := .lst [.tup [.int 3, .bl true], .tup [.int 4, .bl false], .tup [.int 6, .bl false], .tup [.int 11, .bl false], .tup [.int 14, .bl true], .tup [.int 20, .bl false]]
theorem beh25 : Beh sn25 := by intro W m d; kernel_rfl
abbrev sn26 : D := .lst [.tup [.int 3, .bl true], .tup [.int 4, .bl true], .tup [.int 6, .bl false], .tup [.int 11, .bl true], .tup [.int 14, .bl true], .tup [.int 20, .bl true]]
theorem beh26 : Beh sn26 := by intro W m d; kernel_rfl
abbrev sn27 : D := .lst [.tup [.int 3, .bl true], .tup [.int 4, .bl true], .tup [.int 6, .bl false], .tup [.int 11, .bl true], .tup [.int 14, .bl false], .tup [.int 20, .bl true]]
theorem beh27 : Beh sn27 := by intro W m d; kernel_rfl
abbrev sn28 : D := .lst [.tup [.int 3, .bl true], .tup [.int 4, .bl true], .tup [.int 6, .bl false], .tup [.int 11, .bl false], .tup [.int 14, .bl true], .tup [.int 20, .bl false]]
theorem beh28 : Beh sn28 := by intro W m d; kernel_rfl
abbrev sn29 : D := .lst [.tup [.int 3, .bl true], .tup [.int 4, .bl true], .tup [.int 6, .bl true], .tup [.int 11, .bl true], .tup [.int 14, .bl false], .tup [.int 20, .bl true]]
theorem beh29 : Beh sn29 := by intro W m d; kernel_rfl
abbrev sn30 : D := .lst [.tup [.int 3, .bl true], .tup [.int 4, .bl true], .tup [.int 6, .bl true], .tup [.int 11, .bl false], .tup [.int 14, .bl true], .tup [.int 20, .bl true]]
theorem beh30 : Beh sn30 := by intro W m d; kernel_rfl
abbrev sn31 : D := .lst [.tup [.int 3, .bl true], .tup [.int 4, .bl true], .tup [.int 6, .bl true], .tup [.int 11, .bl false], .tup [.int 14, .bl true], .tup [.int 20, .bl false]]
theorem beh31 : Beh sn31 := by intro W m d; kernel_rfl
abbrev sn32 : D := .lst [.tup [.int 3, .bl true], .tup [.int 4, .bl true], .tup [.int 6, .bl true], .tup [.int 11, .bl false], .tup [.int 14, .bl false], .tup [.int 20, .bl true]]
theorem beh32 : Beh sn32 := by intro W m d; kernel_rfl

/-! ### right: the log and its second reading, for each draw -/
abbrev moD (a : Int) : D := .lst [.int 3, .int 4, .int 6, .int (9 + a), .int 14, .int 20]
abbrev dvD (b c : Int) : D := .tup [.int (1 + b), .int (1 + c), .int 1]
def Two (m d sn : D) : Prop := ∀ (W : D), ex fsR [0] (.asg (.nm 3) (.callp 1 [1, 0] [.var 1, .var 2])) (rG W (some (m, false)) (some (d, false)) none none) = some (.nx (rG W (some (m, false)) (some (d, false)) (some (sn, false)) none)) ∧
  ev fsR (.cmp .ne (.var 3) (.call 1 [.var 2, .var 1])) (rG W (some (m, false)) (some (d, false)) (some (sn, false)) none) = some (.fz (.bl false), rG W (some (m, false)) (some (d, false)) (some (sn, false)) none)
theorem two000 : Two (moD 0) (dvD 0 0) sn0 := by intro W; exact ⟨by kernel_rfl, by kernel_rfl⟩
theorem two001 : Two (moD 0) (dvD 0 1) sn1 := by intro W; exact ⟨by kernel_rfl, by kernel_rfl⟩
theorem two002 : Two (moD 0) (dvD 0 2) sn1 := by intro W; exact ⟨by kernel_rfl, by kernel_rfl⟩
theorem two003 : Two (moD 0) (dvD 0 3) sn2 := by intro W; exact ⟨by kernel_rfl, by kernel_rfl⟩
theorem two004 : Two (moD 0) (dvD 0 4) sn2 := by intro W; exact ⟨by kernel_rfl, by kernel_rfl⟩
theorem two005 : Two (moD 0) (dvD 0 5) sn3 := by intro W; exact ⟨by kernel_rfl, by kernel_rfl⟩
theorem two006 : Two (moD 0) (dvD 0 6) sn4 := by intro W; exact ⟨by kernel_rfl, by kernel_rfl⟩
theorem two007 : Two (moD 0) (dvD 0 7) sn4 := by intro W; exact ⟨by kernel_rfl, by kernel_rfl⟩
theorem two008 : Two (moD 0) (dvD 0 8) sn4 := by intro W; exact ⟨by kernel_rfl, by kernel_rfl⟩
theorem two010 : Two (moD 0) (dvD 1 0) sn0 := by intro W; exact ⟨by kernel_rfl, by kernel_rfl⟩
theorem two011 : Two (moD 0) (dvD 1 1) sn0 := by intro W; exact ⟨by kernel_rfl, by kernel_rfl⟩
theorem two012 : Two (moD 0) (dvD 1 2) sn5 := by intro W; exact ⟨by kernel_rfl, by kernel_rfl⟩
theorem two013 : Two (moD 0) (dvD 1 3) sn5 := by intro W; exact ⟨by kernel_rfl, by kernel_rfl⟩
theorem two014 : Two (moD 0) (dvD 1 4) sn5 := by intro W; exact ⟨by kernel_rfl, by kernel_rfl⟩
theorem two015 : Two (moD 0) (dvD 1 5) sn6 := by intro W; exact ⟨by kernel_rfl, by kernel_rfl⟩
theorem two016 : Two (moD 0) (dvD 1 6) sn7 := by intro W; exact ⟨by kernel_rfl, by kernel_rfl⟩
theorem two017 : Two (moD 0) (dvD 1 7) sn7 := by intro W; exact ⟨by kernel_rfl, by kernel_rfl⟩
theorem two018 : Two (moD 0) (dvD 1 8) sn7 := by intro W; exact ⟨by kernel_rfl, by kernel_rfl⟩
theorem two020 : Two (moD 0) (dvD 2 0) sn0 := by intro W; exact ⟨by kernel_rfl, by kernel_rfl⟩
theorem two021 : Two (moD 0) (dvD 2 1) sn0 := by intro W; exact ⟨by kernel_rfl, by kernel_rfl⟩
theorem two022 : Two (moD 0) (dvD 2 2) sn0 := by intro W; exact ⟨by kernel_rfl, by kernel_rfl⟩
theorem two023 : Two (moD 0) (dvD 2 3) sn8 := by intro W; exact ⟨by kernel_rfl, by kernel_rfl⟩
theorem two024 : Two (moD 0) (dvD 2 4) sn8 := by intro W; exact ⟨by kernel_rfl, by kernel_rfl⟩
theorem two025 : Two (moD 0) (dvD 2 5) sn8 := by intro W; exact ⟨by kernel_rfl, by kernel_rfl⟩
theorem two026 : Two (moD 0) (dvD 2 6) sn9 := by intro W; exact ⟨by kernel_rfl, by kernel_rfl⟩
theorem two027 : Two (moD 0) (dvD 2 7) sn9 := by intro W; exact ⟨by kernel_rfl, by kernel_rfl⟩
theorem two028 : Two (moD 0) (dvD 2 8) sn10 := by intro W; exact ⟨by kernel_rfl, by kernel_rfl⟩
theorem two100 : Two (moD 1) (dvD 0 0) sn11 := by intro W; exact ⟨by kernel_rfl, by kernel_rfl⟩
theorem two101 : Two (moD 1) (dvD 0 1) sn12 := by intro W; exact ⟨by kernel_rfl, by kernel_rfl⟩
theorem two102 : Two (moD 1) (dvD 0 2) sn12 := by intro W; exact ⟨by kernel_rfl, by kernel_rfl⟩
theorem two103 : Two (moD 1) (dvD 0 3) sn13 := by intro W; exact ⟨by kernel_rfl, by kernel_rfl⟩
theorem two104 : Two (moD 1) (dvD 0 4) sn14 := by intro W; exact ⟨by kernel_rfl, by kernel_rfl⟩
theorem two105 : Two (moD 1) (dvD 0 5) sn14 := by intro W; exact ⟨by kernel_rfl, by kernel_rfl⟩
theorem two106 : Two (moD 1) (dvD 0 6) sn14 := by intro W; exact ⟨by kernel_rfl, by kernel_rfl⟩
theorem two107 : Two (moD 1) (dvD 0 7) sn15 := by intro W; exact ⟨by kernel_rfl, by kernel_rfl⟩
theorem two108 : Two (moD 1) (dvD 0 8) sn15 := by intro W; exact ⟨by kernel_rfl, by kernel_rfl⟩
theorem two110 : Two (moD 1) (dvD 1 0) sn11 := by intro W; exact ⟨by kernel_rfl, by kernel_rfl⟩
theorem two111 : Two (moD 1) (dvD 1 1) sn11 := by intro W; exact ⟨by kernel_rfl, by kernel_rfl⟩
theorem two112 : Two (moD 1) (dvD 1 2) sn16 := by intro W; exact ⟨by kernel_rfl, by kernel_rfl⟩
theorem two113 : Two (moD 1) (dvD 1 3) sn16 := by intro W; exact ⟨by kernel_rfl, by kernel_rfl⟩
theorem two114 : Two (moD 1) (dvD 1 4) sn17 := by intro W; exact ⟨by kernel_rfl, by kernel_rfl⟩
theorem two115 : Two (moD 1) (dvD 1 5) sn17 := by intro W; exact ⟨by kernel_rfl, by kernel_rfl⟩
theorem two116 : Two (moD 1) (dvD 1 6) sn18 := by intro W; exact ⟨by kernel_rfl, by kernel_rfl⟩
theorem two117 : Two (moD 1) (dvD 1 7) sn18 := by intro W; exact ⟨by kernel_rfl, by kernel_rfl⟩
theorem two118 : Two (moD 1) (dvD 1 8) sn18 := by intro W; exact ⟨by kernel_rfl, by kernel_rfl⟩
theorem two120 : Two (moD 1) (dvD 2 0) sn11 := by intro W; exact ⟨by kernel_rfl, by kernel_rfl⟩
theorem two121 : Two (moD 1) (dvD 2 1) sn11 := by intro W; exact ⟨by kernel_rfl, by kernel_rfl⟩
theorem two122 : Two (moD 1) (dvD 2 2) sn11 := by intro W; exact ⟨by kernel_rfl, by kernel_rfl⟩
theorem two123 : Two (moD 1) (dvD 2 3) sn11 := by intro W; exact ⟨by kernel_rfl, by kernel_rfl⟩
theorem two124 : Two (moD 1) (dvD 2 4) sn19 := by intro W; exact ⟨by kernel_rfl, by kernel_rfl⟩
theorem two125 : Two (moD 1) (dvD 2 5) sn19 := by intro W; exact ⟨by kernel_rfl, by kernel_rfl⟩
theorem two126 : Two (moD 1) (dvD 2 6) sn20 := by intro W; exact ⟨by kernel_rfl, by kernel_rfl⟩
theorem two127 : Two (moD 1) (dvD 2 7) sn20 := by intro W; exact ⟨by kernel_rfl, by kernel_rfl⟩
theorem two128 : Two (moD 1) (dvD 2 8) sn21 := by intro W; exact ⟨by kernel_rfl, by kernel_rfl⟩
theorem two200 : Two (moD 2) (dvD 0 0) sn22 := by intro W; exact ⟨by kernel_rfl, by kernel_rfl⟩
theorem two201 : Two (moD 2) (dvD 0 1) sn23 := by intro W; exact ⟨by kernel_rfl, by kernel_rfl⟩
theorem two202 : Two (moD 2) (dvD 0 2) sn23 := by intro W; exact ⟨by kernel_rfl, by kernel_rfl⟩
theorem two203 : Two (moD 2) (dvD 0 3) sn24 := by intro W; exact ⟨by kernel_rfl, by kernel_rfl⟩
theorem two204 : Two (moD 2) (dvD 0 4) sn24 := by intro W; exact ⟨by kernel_rfl, by kernel_rfl⟩
theorem two205 : Two (moD 2) (dvD 0 5) sn24 := by intro W; exact ⟨by kernel_rfl, by kernel_rfl⟩
theorem two206 : Two (moD 2) (dvD 0 6) sn24 := by intro W; exact ⟨by kernel_rfl, by kernel_rfl⟩
theorem two207 : Two (moD 2) (dvD 0 7) sn24 := by intro W; exact ⟨by kernel_rfl, by kernel_rfl⟩
theorem two208 : Two (moD 2) (dvD 0 8) sn25 := by intro W; exact ⟨by kernel_rfl, by kernel_rfl⟩
theorem two210 : Two (moD 2) (dvD 1 0) sn22 := by intro W; exact ⟨by kernel_rfl, by kernel_rfl⟩
theorem two211 : Two (moD 2) (dvD 1 1) sn22 := by intro W; exact ⟨by kernel_rfl, by kernel_rfl⟩
theorem two212 : Two (moD 2) (dvD 1 2) sn26 := by intro W; exact ⟨by kernel_rfl, by kernel_rfl⟩
theorem two213 : Two (moD 2) (dvD 1 3) sn27 := by intro W; exact ⟨by kernel_rfl, by kernel_rfl⟩
theorem two214 : Two (moD 2) (dvD 1 4) sn27 := by intro W; exact ⟨by kernel_rfl, by kernel_rfl⟩
theorem two215 : Two (moD 2) (dvD 1 5) sn27 := by intro W; exact ⟨by kernel_rfl, by kernel_rfl⟩
theorem two216 : Two (moD 2) (dvD 1 6) sn27 := by intro W; exact ⟨by kernel_rfl, by kernel_rfl⟩
theorem two217 : Two (moD 2) (dvD 1 7) sn28 := by intro W; exact ⟨by kernel_rfl, by kernel_rfl⟩
theorem two218 : Two (moD 2) (dvD 1 8) sn28 := by intro W; exact ⟨by kernel_rfl, by kernel_rfl⟩
theorem two220 : Two (moD 2) (dvD 2 0) sn22 := by intro W; exact ⟨by kernel_rfl, by kernel_rfl⟩
theorem two221 : Two (moD 2) (dvD 2 1) sn22 := by intro W; exact ⟨by kernel_rfl, by kernel_rfl⟩
theorem two222 : Two (moD 2) (dvD 2 2) sn22 := by intro W; exact ⟨by kernel_rfl, by kernel_rfl⟩
theorem two223 : Two (moD 2) (dvD 2 3) sn29 := by intro W; exact ⟨by kernel_rfl, by kernel_rfl⟩
theorem two224 : Two (moD 2) (dvD 2 4) sn29 := by intro W; exact ⟨by kernel_rfl, by kernel_rfl⟩
theorem two225 : Two (moD 2) (dvD 2 5) sn30 := by intro W; exact ⟨by kernel_rfl, by kernel_rfl⟩
theorem two226 : Two (moD 2) (dvD 2 6) sn31 := by intro W; exact ⟨by kernel_rfl, by kernel_rfl⟩
theorem two227 : Two (moD 2) (dvD 2 7) sn31 := by intro W; exact ⟨by kernel_rfl, by kernel_rfl⟩
theorem two228 : Two (moD 2) (dvD 2 8) sn32 := by intro W; exact ⟨by kernel_rfl, by kernel_rfl⟩
theorem two_all (a b c : Int) (a0 : 0 ≤ a) (a1 : a < 3) (b0 : 0 ≤ b) (b1 : b < 3) (c0 : 0 ≤ c) (c1 : c < 9) : ∃ sn, Two (moD a) (dvD b c) sn ∧ Beh sn := by
  have ha : a = 0 ∨ a = 1 ∨ a = 2 := by omega
  have hb : b = 0 ∨ b = 1 ∨ b = 2 := by omega
  have hc : c = 0 ∨ c = 1 ∨ c = 2 ∨ c = 3 ∨ c = 4 ∨ c = 5 ∨ c = 6 ∨ c = 7 ∨ c = 8 := by omega
  rcases ha with rfl | rfl | rfl <;> rcases hb with rfl | rfl | rfl <;> rcases hc with rfl | rfl | rfl | rfl | rfl | rfl | rfl | rfl | rfl
  · exact ⟨_, two000, beh0⟩
  · exact ⟨_, two001, beh1⟩
  · exact ⟨_, two002, beh1⟩
  · exact ⟨_, two003, beh2⟩
  · exact ⟨_, two004, beh2⟩
  · exact ⟨_, two005, beh3⟩
  · exact ⟨_, two006, beh4⟩
  · exact ⟨_, two007, beh4⟩
  · exact ⟨_, two008, beh4⟩
  · exact ⟨_, two010, beh0⟩
  · exact ⟨_, two011, beh0⟩
  · exact ⟨_, two012, beh5⟩
  · exact ⟨_, two013, beh5⟩
  · exact ⟨_, two014, beh5⟩
  · exact ⟨_, two015, beh6⟩
  · exact ⟨_, two016, beh7⟩
  · exact ⟨_, two017, beh7⟩
  · exact ⟨_, two018, beh7⟩
  · exact ⟨_, two020, beh0⟩
  · exact ⟨_, two021, beh0⟩
  · exact ⟨_, two022, beh0⟩
  · exact ⟨_, two023, beh8⟩
  · exact ⟨_, two024, beh8⟩
  · exact ⟨_, two025, beh8⟩
  · exact ⟨_, two026, beh9⟩
  · exact ⟨_, two027, beh9⟩
  · exact ⟨_, two028, beh10⟩
  · exact ⟨_, two100, beh11⟩
  · exact ⟨_, two101, beh12⟩
  · exact ⟨_, two102, beh12⟩
  · exact ⟨_, two103, beh13⟩
  · exact ⟨_, two104, beh14⟩
  · exact ⟨_, two105, beh14⟩
  · exact ⟨_, two106, beh14⟩
  · exact ⟨_, two107, beh15⟩
  · exact ⟨_, two108, beh15⟩
  · exact ⟨_, two110, beh11⟩
  · exact ⟨_, two111, beh11⟩
  · exact ⟨_, two112, beh16⟩
  · exact ⟨_, two113, beh16⟩
  · exact ⟨_, two114, beh17⟩
  · exact ⟨_, two115, beh17⟩
  · exact ⟨_, two116, beh18⟩
  · exact ⟨_, two117, beh18⟩
  · exact ⟨_, two118, beh18⟩
  · exact ⟨_, two120, beh11⟩
  · exact ⟨_, two121, beh11⟩
  · exact ⟨_, two122, beh11⟩
  · exact ⟨_, two123, beh11⟩
  · exact ⟨_, two124, beh19⟩
  · exact ⟨_, two125, beh19⟩
  · exact ⟨_, two126, beh20⟩
  · exact ⟨_, two127, beh20⟩
  · exact ⟨_, two128, beh21⟩
  · exact ⟨_, two200, beh22⟩
  · exact ⟨_, two201, beh23⟩
  · exact ⟨_, two202, beh23⟩
  · exact ⟨_, two203, beh24⟩
  · exact ⟨_, two204, beh24⟩
  · exact ⟨_, two205, beh24⟩
  · exact ⟨_, two206, beh24⟩
  · exact ⟨_, two207, beh24⟩
  · exact ⟨_, two208, beh25⟩
  · exact ⟨_, two210, beh22⟩
  · exact ⟨_, two211, beh22⟩
  · exact ⟨_, two212, beh26⟩
  · exact ⟨_, two213, beh27⟩
  · exact ⟨_, two214, beh27⟩
  · exact ⟨_, two215, beh27⟩
  · exact ⟨_, two216, beh27⟩
  · exact ⟨_, two217, beh28⟩
  · exact ⟨_, two218, beh28⟩
  · exact ⟨_, two220, beh22⟩
  · exact ⟨_, two221, beh22⟩
  · exact ⟨_, two222, beh22⟩
  · exact ⟨_, two223, beh29⟩
  · exact ⟨_, two224, beh29⟩
  · exact ⟨_, two225, beh30⟩
  · exact ⟨_, two226, beh31⟩
  · exact ⟨_, two227, beh31⟩
  · exact ⟨_, two228, beh32⟩

/-! ### logs in plain words -/
abbrev eD (e : Int × Bool) : D := .tup [.int e.1, .bl e.2]
/-- bounds on the wait by the entries behind a pass -/
def bdE : Int → Int → Int → List (Int × Bool) → Int × Int
  | lo, hi, _, [] => (lo, hi)
  | lo, hi, s, (t, true) :: E => bdE lo (min hi (t - s)) t E
  | lo, hi, s, (t, false) :: E => bdE (max lo (t - s + 1)) hi s E
theorem bdE_mono : ∀ (E : List (Int × Bool)) (lo hi s : Int), lo ≤ (bdE lo hi s E).1 ∧ (bdE lo hi s E).2 ≤ hi
  | [], lo, hi, s => ⟨Int.le_refl _, Int.le_refl _⟩
  | (t, true) :: E, lo, hi, s => by
    have := bdE_mono E lo (min hi (t - s)) t
    rw [bdE]; omega
  | (t, false) :: E, lo, hi, s => by
    have := bdE_mono E (max lo (t - s + 1)) hi s
    rw [bdE]; omega
/-- how many entries are passed first -/
def fpN : List (Int × Bool) → Nat
  | (_, true) :: E => fpN E + 1
  | _ => 0
theorem fpN_le : ∀ E : List (Int × Bool), fpN E ≤ E.length
  | [] => Nat.le_refl _
  | (_, true) :: E => by rw [fpN, List.length_cons]; have := fpN_le E; omega
  | (_, false) :: E => Nat.zero_le _
/-- the time of an entry -/
def tmE (E : List (Int × Bool)) (i : Nat) : Int := (E[i]?.map (·.1)).getD 0
/-- the greatest wait for a number of failures -/
def hiF (E : List (Int × Bool)) (hi : Int) (b : Nat) : Nat → Int
  | 0 => hi
  | k + 1 => min (hiF E hi b k) (tmE E (b - (k + 1)) - tmE E (b - (k + 1) - 1))
/-! ### logs in order -/
def RiseE : Int → List (Int × Bool) → Prop
  | _, [] => True
  | lo, (t, _) :: E => lo < t ∧ RiseE t E
/-! ### the package's words -/
abbrev EL (E : List (Int × Bool)) : D := .lst (E.map eD)
theorem e_get {E : List (Int × Bool)} {i : Nat} {e : Int × Bool} (h : E[i]? = some e) : atI (E.map eD) (i : Int) = some (eD e) := atI_nat (by rw [List.getElem?_map, h]; rfl)
theorem e2_0 (a b : D) : atI [a, b] 0 = some a := rfl
theorem e2_1 (a b : D) : atI [a, b] 1 = some b := rfl
theorem fp_loop (A : List (Int × Bool)) : ∀ (E B : List (Int × Bool)) (n : Nat) (fl : Bool), A = B ++ E → E.length < n → A.length ≤ 1000 → whlLoop (tst [] C_first_passes_2) (exs [] [] B_first_passes_1) n [some (EL A, fl), some (.int (B.length : Int), false)] = some (.nx [some (EL A, fl), some (.int ((B.length + fpN E : Nat) : Int), false)])
  | [], B, 0, fl, _, h, _ => by simp at h
  | [], B, n + 1, fl, e, h, hz => by
    rw [show B.length + fpN [] = B.length from rfl]
    refine whl_done ?_
    have hl : ((A.map eD).length : Int) = (B.length : Int) := by rw [List.length_map, e]; simp
    unfold EL
    generalize A.map eD = AA at *
    generalize (B.length : Int) = bb at *
    simp [tst, C_first_passes_2, DV.SC, DV.SE, DV.SX, hl]
  | (t, b) :: E, B, 0, fl, _, h, _ => by simp at h
  | (t, b) :: E, B, n + 1, fl, e, h, hz => by
    have hl : (B.length : Int) < ((A.map eD).length : Int) := by rw [List.length_map, e]; simp; omega
    have g : atI (A.map eD) (B.length : Int) = some (eD (t, b)) := e_get (by rw [e]; simp)
    cases b with
    | false =>
      rw [show B.length + fpN ((t, false) :: E) = B.length from rfl]
      refine whl_done ?_
      unfold EL
      generalize A.map eD = AA at *
      generalize (B.length : Int) = bb at *
      simp [tst, C_first_passes_2, DV.SC, DV.SE, DV.SX, hl, g, e2_1, eD]
    | true =>
      have ih := fp_loop A E (B ++ [(t, true)]) n fl (by rw [e]; simp) (by simpa using h) hz
      rw [List.length_append, List.length_singleton] at ih
      rw [show fpN ((t, true) :: E) = fpN E + 1 from rfl, show B.length + (fpN E + 1) = B.length + 1 + fpN E by omega, ← ih]
      rw [show ((B.length + 1 : Nat) : Int) = (B.length : Int) + 1 by omega]
      refine whl_step (Γ1 := [some (EL A, fl), some (.int (B.length : Int), false)]) ?_ ?_
      · unfold EL
        generalize A.map eD = AA at *
        generalize (B.length : Int) = bb at *
        simp [tst, C_first_passes_2, DV.SC, DV.SE, DV.SX, hl, g, e2_1, eD]
      · unfold EL
        generalize A.map eD = AA at *
        generalize (B.length : Int) = bb at *
        simp [B_first_passes_1, DV.SC, DV.SE, DV.SX]
theorem first_passes_ok (E : List (Int × Bool)) (hz : E.length ≤ 1000) (fl : Bool) : F_first_passes [some (EL E, fl)] = some (.fz (.int ((fpN E : Nat) : Int)), [some (EL E, fl)]) := by
  have lp := fp_loop E E [] fuel fl rfl (by unfold fuel; omega) hz
  rw [List.length_nil, Nat.zero_add] at lp
  unfold EL at *
  generalize E.map eD = EE at *
  generalize ((fpN E : Nat) : Int) = v at *
  refine runF_pn (pn := []) (o := .rt (.sl 1) [some (.lst EE, fl), some (.int v, false)]) rfl (by cases fl <;> rfl) (?_ : exs _ [] _ [some (.lst EE, fl), none] = _) (by cases fl <;> rfl)
  refine (exs_nx (Γ1 := [some (.lst EE, fl), some (.int 0, false)]) (by simp [DV.SC, DV.SE, DV.SX])).trans ?_
  refine (exs_nx (ex_whl lp)).trans ?_
  simp [DV.SC, DV.SE, DV.SX]
/-! ### later_bounds -/
theorem exs_appR {fs : List FS} {pn : List Nat} {r : RV} {Γ' : Ct} : ∀ {l1 l2 : List DV.S} {Γ : Ct}, exs fs pn l1 Γ = some (.rt r Γ') → exs fs pn (l1 ++ l2) Γ = some (.rt r Γ')
  | [], l2, Γ, h => by simp [DV.exs.eq_1] at h
  | s :: l1, l2, Γ, h => by
    rw [List.cons_append]
    simp only [DV.exs.eq_2] at h ⊢
    obtain ⟨o, e1, h⟩ := Option.bind_eq_some_iff.mp h
    rw [e1]
    cases o with
    | nx Γ2 => exact exs_appR h
    | bk _ => cases h
    | ct _ => cases h
    | rt _ _ => exact h
    | xc _ _ _ _ => cases h
abbrev fsB : List FS := [F_first_passes]
abbrev lbG (L : D) (fl : Bool) (n : Int) (x2 : Sl) (lo hi s : Int) (x6 x7 : Sl) : Ct := [some (L, fl), some (.int n, false), x2, some (.int lo, false), some (.int hi, false), some (.int s, false), x6, x7]
theorem lb_body (L : List D) (fl : Bool) (n i lo hi s t : Int) (b : Bool) (x6 x7 : Sl) (g : atI L i = some (.tup [.int t, .bl b])) (pn : List Nat) (h6 : ¬ 6 ∈ pn) (h7 : ¬ 7 ∈ pn) (h3 : ¬ 3 ∈ pn) (h4 : ¬ 4 ∈ pn) (h5 : ¬ 5 ∈ pn) :
    exs fsB pn B_later_bounds_1 (lbG (.lst L) fl n (some (.int i, false)) lo hi s x6 x7) =
      if (if b then lo else max lo (t - s + 1)) > (if b then min hi (t - s) else hi) then some (.rt (.fz (.tup [.int (if b then lo else max lo (t - s + 1)), .int (if b then min hi (t - s) else hi), .int i])) (lbG (.lst L) fl n (some (.int i, false)) (if b then lo else max lo (t - s + 1)) (if b then min hi (t - s) else hi) (if b then t else s) (some (.int t, false)) (some (.bl b, false))))
      else some (.nx (lbG (.lst L) fl n (some (.int i, false)) (if b then lo else max lo (t - s + 1)) (if b then min hi (t - s) else hi) (if b then t else s) (some (.int t, false)) (some (.bl b, false)))) := by
  have mi : (if t - s < hi then t - s else hi) = min hi (t - s) := by split <;> omega
  have ma : (if lo < t - s + 1 then t - s + 1 else lo) = max lo (t - s + 1) := by split <;> omega
  cases b with
  | true =>
    simp only [if_true]
    generalize min hi (t - s) = m at *
    by_cases c : m < lo
    · rw [if_pos c]; simp [B_later_bounds_1, DV.SC, DV.SE, DV.SX, g, mi, c, h3, h4, h5, h6, h7, sizeLine]
    · rw [if_neg c]; simp [B_later_bounds_1, DV.SC, DV.SE, DV.SX, g, mi, c, h3, h4, h5, h6, h7, sizeLine]
  | false =>
    simp only [Bool.false_eq_true, if_false]
    generalize max lo (t - s + 1) = m at *
    by_cases c : hi < m
    · rw [if_pos c]; simp [B_later_bounds_1, DV.SC, DV.SE, DV.SX, g, ma, c, h3, h4, h5, h6, h7, sizeLine]
    · rw [if_neg c]; simp [B_later_bounds_1, DV.SC, DV.SE, DV.SX, g, ma, c, h3, h4, h5, h6, h7, sizeLine]
/-- how the walk over the entries ends -/
theorem lb_loop (A : List (Int × Bool)) (fl : Bool) (n : Int) : ∀ (E B : List (Int × Bool)) (lo hi s : Int) (x2 x6 x7 : Sl), A = B ++ E → lo ≤ hi →
    (∃ y2 y6 y7 s', forLoop (.nm 2) (exs fsB [] B_later_bounds_1) (rngD (B.length : Int) 1 E.length) (lbG (EL A) fl n x2 lo hi s x6 x7) = some (.nx (lbG (EL A) fl n y2 (bdE lo hi s E).1 (bdE lo hi s E).2 s' y6 y7)) ∧ (bdE lo hi s E).1 ≤ (bdE lo hi s E).2) ∨
    (∃ y2 y6 y7 s' lo' hi' i, forLoop (.nm 2) (exs fsB [] B_later_bounds_1) (rngD (B.length : Int) 1 E.length) (lbG (EL A) fl n x2 lo hi s x6 x7) = some (.rt (.fz (.tup [.int lo', .int hi', .int i])) (lbG (EL A) fl n y2 lo' hi' s' y6 y7)) ∧ (bdE lo hi s E).2 < (bdE lo hi s E).1)
  | [], B, lo, hi, s, x2, x6, x7, e, h => .inl ⟨x2, x6, x7, s, by simp [rngD, forLoop, bdE], by simpa [bdE] using h⟩
  | (t, b) :: E, B, lo, hi, s, x2, x6, x7, e, h => by
    have g : atI (A.map eD) (B.length : Int) = some (.tup [.int t, .bl b]) := e_get (e := (t, b)) (by rw [e]; simp)
    have bd := lb_body (A.map eD) fl n B.length lo hi s t b x6 x7 g [] (by simp) (by simp) (by simp) (by simp) (by simp)
    have ebd : bdE lo hi s ((t, b) :: E) = bdE (if b then lo else max lo (t - s + 1)) (if b then min hi (t - s) else hi) (if b then t else s) E := by cases b <;> rfl
    have as : asgT (.nm 2) (.int (B.length : Int)) (lbG (EL A) fl n x2 lo hi s x6 x7) = some (lbG (EL A) fl n (some (.int (B.length : Int), false)) lo hi s x6 x7) := by
      unfold EL
      generalize A.map eD = AA
      simp [DV.SC, DV.SE, DV.SX]
    rw [List.length_cons, rngD, ebd]
    generalize (if b then lo else max lo (t - s + 1)) = lo1 at *
    generalize (if b then min hi (t - s) else hi) = hi1 at *
    generalize (if b then t else s) = s1 at *
    by_cases c : lo1 > hi1
    · rw [if_pos c] at bd
      refine .inr ⟨some (.int (B.length : Int), false), some (.int t, false), some (.bl b, false), s1, lo1, hi1, B.length, ?_, ?_⟩
      · have bd' : exs fsB [] B_later_bounds_1 (lbG (EL A) fl n (some (.int (B.length : Int), false)) lo hi s x6 x7) = _ := bd
        simp only [forLoop, as, Option.bind_some, bd']
      · have := bdE_mono E lo1 hi1 s1
        omega
    · rw [if_neg c] at bd
      have ih := lb_loop A fl n E (B ++ [(t, b)]) lo1 hi1 s1 (some (.int (B.length : Int), false)) (some (.int t, false)) (some (.bl b, false)) (by rw [e]; simp) (by omega)
      rw [List.length_append, List.length_singleton, show ((B.length + 1 : Nat) : Int) = (B.length : Int) + 1 by omega] at ih
      have st := forLoop_step (ds := rngD ((B.length : Int) + 1) 1 E.length) (body := exs fsB [] B_later_bounds_1) as bd
      rw [st]
      exact ih
/-- bounds, and whether they are in conflict -/
structure LbOk (E : List (Int × Bool)) (lo hi : Int) (c : Option Int) : Prop where
  no : c = none → E = [] ∨ (1 ≤ fpN E ∧ lo = (bdE 1 1000000000000000000000000000000 (tmE E (fpN E - 1)) (E.drop (fpN E))).1 ∧ hi = (bdE 1 1000000000000000000000000000000 (tmE E (fpN E - 1)) (E.drop (fpN E))).2)
  nil : E = [] → c = none ∧ lo = 1 ∧ hi = 1000000000000000000000000000000
  yes : ∀ i, c = some i → (fpN E = 0 ∧ E ≠ []) ∨ (1 ≤ fpN E ∧ (bdE 1 1000000000000000000000000000000 (tmE E (fpN E - 1)) (E.drop (fpN E))).2 < (bdE 1 1000000000000000000000000000000 (tmE E (fpN E - 1)) (E.drop (fpN E))).1)
theorem lb_pre0 (L : List D) (fl : Bool) (c : Bool) (hc : cmpD .eq (.lst L) (.lst []) = some c) (e : F_first_passes [some (.lst L, fl)] = some (.fz (.int 0), [some (.lst L, fl)])) :
    F_later_bounds [some (.lst L, fl)] = some (.fz (.tup [.int 1, .int 1000000000000000000000000000000, if c then .non else .int 0]), [some (.lst L, fl)]) := by
  refine runF_pn (pn := []) (o := .rt (.fz (.tup [.int 1, .int 1000000000000000000000000000000, if c then .non else .int 0])) [some (.lst L, fl), some (.int 0, false), none, none, none, none, none, none]) rfl (by cases fl <;> rfl) (?_ : exs _ [] _ [some (.lst L, fl), none, none, none, none, none, none, none] = _) (by cases fl <;> rfl)
  refine (exs_nx (Γ1 := [some (.lst L, fl), some (.int 0, false), none, none, none, none, none, none]) (by cases fl <;> simp [DV.SC, DV.SE, DV.SX, e])).trans ?_
  have c0 : cmpD .eq (.int 0) (.int 0) = some true := cmp_eq_self rfl
  cases c <;> simp [DV.SC, DV.SX, hc, c0, sizeLine]
theorem lb_pre1 (L : List D) (fl : Bool) (n N t : Int) (d : D) (o : Out) (hn : 0 < n) (hN : (L.length : Int) = N) (RD : List D) (hr : ∀ Γ, rngO Γ [.int n, .int N] = some (RD, Γ)) (g : atI L (n - 1) = some (.tup [.int t, d])) (e : F_first_passes [some (.lst L, fl)] = some (.fz (.int n), [some (.lst L, fl)]))
    (lp : forLoop (.nm 2) (exs fsB [] B_later_bounds_1) RD (lbG (.lst L) fl n none 1 1000000000000000000000000000000 t none none) = some o) :
    exs fsB [] [.asgO 1 (.call 0 [.var 0]), .ite (.cmp .eq (.var 1) (.cst (.int 0))) [.ret (.tup [.cst (.int 1), .cst (.int 1000000000000000000000000000000), .ite (.cmp .eq (.var 0) (.lst [])) (.cst .non) (.cst (.int 0))])] [], .par [(3, true), (4, true), (5, true)] [.cst (.int 1), .cst (.int 1000000000000000000000000000000), .ix (.ix (.var 0) (.bin .sub (.var 1) (.cst (.int 1)))) (.cst (.int 0))], .for_ (.nm 2) .rng [.var 1, .bi .len [.var 0]] B_later_bounds_1] [some (.lst L, fl), none, none, none, none, none, none, none] = some o := by
  have c0 : cmpD .eq (.int n) (.int 0) = some false := by simp [DV.SC, DV.SE, DV.SX]; omega
  refine (exs_nx (Γ1 := [some (.lst L, fl), some (.int n, false), none, none, none, none, none, none]) (by cases fl <;> simp [DV.SC, DV.SE, DV.SX, e])).trans ?_
  refine (exs_nx (Γ1 := [some (.lst L, fl), some (.int n, false), none, none, none, none, none, none]) (by simp [DV.SC, DV.SX, c0])).trans ?_
  refine (exs_nx (Γ1 := lbG (.lst L) fl n none 1 1000000000000000000000000000000 t none none) (by simp [DV.SC, DV.SE, DV.SX, g, e2_0, sizeLine])).trans ?_
  rw [DV.exs.eq_2, ex_for (Γ2 := lbG (.lst L) fl n none 1 1000000000000000000000000000000 t none none) (ds := RD) (by simp [DV.SC, DV.SE, DV.SX, hN, hr]) rfl lp]
  cases o <;> rfl
theorem later_bounds_ok (E : List (Int × Bool)) (hz : E.length ≤ 1000) (fl : Bool) : ∃ lo hi c, F_later_bounds [some (EL E, fl)] = some (.fz (.tup [.int lo, .int hi, cD c]), [some (EL E, fl)]) ∧ LbOk E lo hi c := by
  have ef := first_passes_ok E hz fl
  have le := fpN_le E
  by_cases h0 : fpN E = 0
  · rw [h0] at ef
    have hc : cmpD .eq (.lst (E.map eD)) (.lst []) = some E.isEmpty := by
      cases E with
      | nil => exact cmp_eq_self rfl
      | cons a E => simp [DV.SC, DV.SE, DV.SX, eD]
    have q := lb_pre0 (E.map eD) fl E.isEmpty hc ef
    cases E with
    | nil => exact ⟨1, 1000000000000000000000000000000, none, q, fun _ => .inl rfl, fun _ => ⟨rfl, rfl, rfl⟩, fun i z => (by cases z)⟩
    | cons a E => exact ⟨1, 1000000000000000000000000000000, some 0, q, fun z => (by cases z), fun z => (by cases z), fun i _ => .inl ⟨h0, (by simp)⟩⟩
  · obtain ⟨B, hB⟩ : ∃ B, B = E.take (fpN E) := ⟨_, rfl⟩
    have bl : B.length = fpN E := by rw [hB, List.length_take]; omega
    have eA : E = B ++ E.drop (fpN E) := by rw [hB]; exact (List.take_append_drop _ _).symm
    have dl : (E.drop (fpN E)).length = E.length - fpN E := List.length_drop
    have gl : fpN E - 1 < E.length := by omega
    have g : atI (E.map eD) (((fpN E : Nat) : Int) - 1) = some (.tup [.int (tmE E (fpN E - 1)), .bl E[fpN E - 1].2]) := by
      have := e_get (List.getElem?_eq_getElem gl)
      rw [show ((fpN E - 1 : Nat) : Int) = ((fpN E : Nat) : Int) - 1 by omega] at this
      rw [this]
      unfold tmE
      rw [List.getElem?_eq_getElem gl]
      rfl
    have hr : ∀ Γ, rngO Γ [.int ((fpN E : Nat) : Int), .int (E.length : Int)] = some (rngD ((fpN E : Nat) : Int) 1 (E.drop (fpN E)).length, Γ) := fun Γ => by
      have := rngO2 Γ ((fpN E : Nat) : Int) (E.length : Int) (in62_nat (by omega)) (in62_nat (by omega))
      rw [this, dl, show ((E.length : Int) - ((fpN E : Nat) : Int)).toNat = E.length - fpN E by omega]
    have hN : ((E.map eD).length : Int) = (E.length : Int) := by rw [List.length_map]
    have lp := lb_loop E fl (fpN E : Nat) (E.drop (fpN E)) B 1 1000000000000000000000000000000 (tmE E (fpN E - 1)) none none none eA (by decide)
    rw [bl] at lp
    rcases lp with ⟨y2, y6, y7, s', lp, h1⟩ | ⟨y2, y6, y7, s', lo', hi', i, lp, h1⟩
    · have q := lb_pre1 (E.map eD) fl _ _ _ _ _ (by omega) hN _ hr g ef lp
      refine ⟨_, _, none, ?_, fun _ => .inr ⟨by omega, rfl, rfl⟩, fun z => (by subst z; simp [fpN] at h0), fun i z => (by cases z)⟩
      refine runF_pn (pn := []) (o := .rt (.fz (.tup [.int (bdE 1 1000000000000000000000000000000 (tmE E (fpN E - 1)) (E.drop (fpN E))).1, .int (bdE 1 1000000000000000000000000000000 (tmE E (fpN E - 1)) (E.drop (fpN E))).2, .non])) (lbG (EL E) fl (fpN E : Nat) y2 (bdE 1 1000000000000000000000000000000 (tmE E (fpN E - 1)) (E.drop (fpN E))).1 (bdE 1 1000000000000000000000000000000 (tmE E (fpN E - 1)) (E.drop (fpN E))).2 s' y6 y7)) rfl (by cases fl <;> rfl) ((exs_app (l1 := [.asgO 1 (.call 0 [.var 0]), .ite (.cmp .eq (.var 1) (.cst (.int 0))) [.ret (.tup [.cst (.int 1), .cst (.int 1000000000000000000000000000000), .ite (.cmp .eq (.var 0) (.lst [])) (.cst .non) (.cst (.int 0))])] [], .par [(3, true), (4, true), (5, true)] [.cst (.int 1), .cst (.int 1000000000000000000000000000000), .ix (.ix (.var 0) (.bin .sub (.var 1) (.cst (.int 1)))) (.cst (.int 0))], .for_ (.nm 2) .rng [.var 1, .bi .len [.var 0]] B_later_bounds_1]) (l2 := [.ret (.tup [.var 3, .var 4, .cst .non])]) q).trans ?_) (by cases fl <;> rfl)
      generalize (bdE 1 1000000000000000000000000000000 (tmE E (fpN E - 1)) (E.drop (fpN E))).1 = a1
      generalize (bdE 1 1000000000000000000000000000000 (tmE E (fpN E - 1)) (E.drop (fpN E))).2 = a2
      unfold EL
      generalize E.map eD = EE
      simp [DV.SC, DV.SE, DV.SX, sizeLine]
    · have q := lb_pre1 (E.map eD) fl _ _ _ _ _ (by omega) hN _ hr g ef lp
      refine ⟨lo', hi', some i, ?_, fun z => by (cases z), fun z => by subst z; simp [fpN] at h0, fun _ _ => .inr ⟨by omega, h1⟩⟩
      refine runF_pn (pn := []) (o := .rt (.fz (.tup [.int lo', .int hi', .int i])) (lbG (EL E) fl (fpN E : Nat) y2 lo' hi' s' y6 y7)) rfl (by cases fl <;> rfl) (?_ : exs _ [] _ [some (EL E, fl), none, none, none, none, none, none, none] = _) (by cases fl <;> rfl)
      exact exs_appR (l1 := [.asgO 1 (.call 0 [.var 0]), .ite (.cmp .eq (.var 1) (.cst (.int 0))) [.ret (.tup [.cst (.int 1), .cst (.int 1000000000000000000000000000000), .ite (.cmp .eq (.var 0) (.lst [])) (.cst .non) (.cst (.int 0))])] [], .par [(3, true), (4, true), (5, true)] [.cst (.int 1), .cst (.int 1000000000000000000000000000000), .ix (.ix (.var 0) (.bin .sub (.var 1) (.cst (.int 1)))) (.cst (.int 0))], .for_ (.nm 2) .rng [.var 1, .bi .len [.var 0]] B_later_bounds_1]) (l2 := [.ret (.tup [.var 3, .var 4, .cst .non])]) q
theorem cl_loop (A : List (Int × Bool)) : ∀ (E B : List (Int × Bool)) (lo : Int) (x1 x2 : Sl), A = B ++ E → RiseE lo E → -1 ≤ lo → (∀ b, B.getLast? = some b → b.1 = lo) → ∃ y1 y2, forLoop (.tp [.nm 1, .nm 2]) (exs [F_is_entry] [] B_check_log_1) (enumD B.length (E.map eD)) [some (EL A, false), x1, x2] = some (.nx [some (EL A, false), y1, y2])
  | [], B, lo, x1, x2, _, _, _, _ => ⟨x1, x2, by simp [enumD, forLoop]⟩
  | (t, b) :: E, B, lo, x1, x2, e, ⟨hr, r⟩, l0, hB => by
    obtain ⟨y1, y2, ih⟩ := cl_loop A E (B ++ [(t, b)]) t (some (.int (B.length : Nat), false)) (some (eD (t, b), false)) (by rw [e]; simp) r (by omega) (by simp)
    rw [List.length_append, List.length_singleton] at ih
    refine ⟨y1, y2, ?_⟩
    rw [List.map_cons, enumD, ← ih]
    have ie := is_entry_ok t b (by omega)
    have hg : 0 < (B.length : Int) → ∃ d, atI (A.map eD) ((B.length : Int) - 1) = some (.tup [.int lo, d]) := fun hp => by
      have hl : B.length - 1 < B.length := by omega
      obtain ⟨z, hz⟩ : ∃ z, B.getLast? = some z := by
        cases h : B.getLast? with
        | none => rw [List.getLast?_eq_none_iff] at h; subst h; simp at hp
        | some z => exact ⟨z, rfl⟩
      have h1 := hB z hz
      have h2 : A[B.length - 1]? = some z := by rw [e, List.getElem?_append_left hl, ← hz, List.getLast?_eq_getElem?]
      have := e_get h2
      rw [show ((B.length - 1 : Nat) : Int) = (B.length : Int) - 1 by omega] at this
      exact ⟨.bl z.2, by rw [this]; show some (D.tup [.int z.1, .bl z.2]) = _; rw [h1]⟩
    unfold EL eD
    simp only
    unfold eD at hg
    generalize A.map (fun e => D.tup [D.int e.1, D.bl e.2]) = AA at *
    generalize hn : ((B.length : Nat) : Int) = n at *
    refine forLoop_step (Γ1 := [some (.lst AA, false), some (.int n, false), some (.tup [.int t, .bl b], false)]) (by simp [DV.SC, DV.SE, DV.SX]) ?_
    by_cases c : 0 < n
    · obtain ⟨d, g⟩ := hg c
      have c2 : ¬ t ≤ lo := by omega
      simp [B_check_log_1, DV.SC, DV.SE, DV.SX, ie, c, g, e2_0, c2]
    · simp [B_check_log_1, DV.SC, DV.SE, DV.SX, ie, c]
theorem cl_s1 (EE : List D) (fl : Bool) (n : Int) (hn : (EE.length : Int) = n) (hl : ¬ 1000 < n) : ex [F_is_entry] [] (.ite (.or (.not (.bi (.isi .list) [.var 0])) (.cmp .gt (.bi .len [.var 0]) (.cst (.int 1000)))) [.stuck] []) [some (.lst EE, fl), none, none] = some (.nx [some (.lst EE, fl), none, none]) := by
  have e1 : ev [F_is_entry] (.not (.bi (.isi .list) [.var 0])) [some (.lst EE, fl), none, none] = some (.fz (.bl false), [some (.lst EE, fl), none, none]) := by simp [DV.SC, DV.SE, DV.SX]
  have e2 : ev [F_is_entry] (.bi .len [.var 0]) [some (.lst EE, fl), none, none] = some (.fz (.int n), [some (.lst EE, fl), none, none]) := by simp [DV.SC, DV.SE, DV.SX, hn]
  have e3 : ∀ m : Int, ¬ m < n → ev [F_is_entry] (.cmp .gt (.bi .len [.var 0]) (.cst (.int m))) [some (.lst EE, fl), none, none] = some (.fz (.bl false), [some (.lst EE, fl), none, none]) := fun m hm => by
    generalize DV.E.bi DV.Bi.len _ = EL' at e2 ⊢
    simp [DV.SC, DV.SE, DV.SX, e2, hm]
  have e3 := e3 1000 hl
  generalize DV.E.not _ = X at e1 ⊢
  generalize DV.E.cmp _ _ _ = Y at e3 ⊢
  simp [DV.SC, DV.SE, DV.SX, e1, e3]
theorem cl_gen (EE : List D) (fl : Bool) (y1 y2 : Sl) (s1 : ex [F_is_entry] [] (.ite (.or (.not (.bi (.isi .list) [.var 0])) (.cmp .gt (.bi .len [.var 0]) (.cst (.int 1000)))) [.stuck] []) [some (.lst EE, fl), none, none] = some (.nx [some (.lst EE, fl), none, none])) (lp : forLoop (.tp [.nm 1, .nm 2]) (exs [F_is_entry] [] B_check_log_1) (enumD 0 EE) [some (.lst EE, false), none, none] = some (.nx [some (.lst EE, false), y1, y2])) :
    F_check_log [some (.lst EE, fl)] = some (.fz .non, [some (.lst EE, false)]) := by
  have e : exs [F_is_entry] [] [.ite (.or (.not (.bi (.isi .list) [.var 0])) (.cmp .gt (.bi .len [.var 0]) (.cst (.int 1000)))) [.stuck] [], .for_ (.tp [.nm 1, .nm 2]) .enum [.var 0] B_check_log_1] [some (.lst EE, fl), none, none] = some (.nx [some (.lst EE, false), y1, y2]) :=
    (exs_nx s1).trans ((exs_nx (ex_for (Γ2 := [some (.lst EE, false), none, none]) (ds := enumD 0 EE) (by cases fl <;> simp [DV.SC, DV.SE, DV.SX]) (by simp [DV.SC, DV.SE, DV.SX]) lp)).trans (by simp only [DV.exs.eq_1]))
  cases fl with
  | true => exact runF_pn (pn := []) rfl rfl e rfl
  | false => exact runF_pn (pn := []) rfl rfl e rfl
theorem check_log_ok (E : List (Int × Bool)) (r : RiseE (-1) E) (hz : E.length ≤ 1000) (fl : Bool) : F_check_log [some (EL E, fl)] = some (.fz .non, [some (EL E, false)]) := by
  obtain ⟨y1, y2, lp⟩ := cl_loop E E [] (-1) none none rfl r (by decide) (by simp)
  exact cl_gen (E.map eD) fl y1 y2 (cl_s1 _ fl (E.length : Int) (by rw [List.length_map]) (by omega)) lp
/-! ### explanations -/
theorem rng_gen (Γ : Ct) (a c N : Int) (n : Nat) (h1 : c ≠ 0) (h2 : c.natAbs.log2 < 9000) (k1 : Builtin.Range.small a 0 c = true) (k2 : Builtin.Range.rangeSize a 0 c = N) (hn : N = (n : Nat)) : rngO Γ [.int a, .int 0, .int c] = some (rngD a c n, Γ) := by
  have e : N.toNat = n := by omega
  unfold rngO
  simp only [iterD, datums_fz, Option.bind_some]
  refine (if_pos ⟨h1, h2, by rw [k2]; omega⟩).trans ?_
  rw [k2, e]
theorem rng_key : ∀ m : Fin 1001, Builtin.Range.small ((m.val : Nat) : Int) 0 (-1) = true ∧ Builtin.Range.rangeSize ((m.val : Nat) : Int) 0 (-1) = (m.val : Nat) := by decide +kernel
theorem rng_down (Γ : Ct) (m : Nat) (hm : m ≤ 1000) : rngO Γ [.int (m : Int), .int 0, .int (-1)] = some (rngD (m : Int) (-1) m, Γ) :=
  rng_gen Γ m (-1) m m (by decide) (by decide +kernel) (rng_key ⟨m, by omega⟩).1 (rng_key ⟨m, by omega⟩).2 rfl
def exA (E : List (Int × Bool)) (lo hi : Int) (b k : Nat) : List D := if lo ≤ hiF E hi b k then [.tup [.int ((b : Int) - (k : Int)), .int lo, .int (hiF E hi b k)]] else []
abbrev fsE : List FS := [F_check_log, F_later_bounds, F_first_passes]
abbrev xpG (L : D) (x1 : Sl) (lo hi : Int) (F : List D) (b : Int) : Ct := [some (L, false), x1, some (.int lo, false), some (.int hi, false), some (.non, false), some (.lst F, true), some (.int b, false)]
theorem xp_body (L : List D) (f lo hi hi' b : Int) (F : List D) (hz : F.length < 100000) (h : if f < b then ∃ t t' d d', atI L f = some (.tup [.int t, d]) ∧ atI L (f - 1) = some (.tup [.int t', d']) ∧ hi' = min hi (t - t') else hi' = hi) :
    exs fsE [] B_explanations_1 (xpG (.lst L) (some (.int f, false)) lo hi F b) = some (.nx (xpG (.lst L) (some (.int f, false)) lo hi' (F ++ if lo ≤ hi' then [.tup [.int f, .int lo, .int hi']] else []) b)) := by
  have hz2 : F.length < 16777216 := by omega
  unfold B_explanations_1
  refine (exs_nx (Γ1 := xpG (.lst L) (some (.int f, false)) lo hi' F b) ?_).trans ?_
  · by_cases c : f < b
    · rw [if_pos c] at h
      obtain ⟨t, t', d, d', g1, g2, e⟩ := h
      have mi : (if t - t' < hi then t - t' else hi) = min hi (t - t') := by split <;> omega
      rw [← e] at mi
      simp [DV.SC, DV.SE, DV.SX, c, g1, g2, e2_0, mi]
    · rw [if_neg c] at h
      subst h
      simp [DV.SC, DV.SE, DV.SX, c]
  · by_cases c : lo ≤ hi'
    · rw [if_pos c]; simp [DV.SC, DV.SE, DV.SX, c, hz2, sizeLine]
    · rw [if_neg c]; simp [DV.SC, DV.SE, DV.SX, c]
theorem xp_loop (E : List (Int × Bool)) (lo hi : Int) (b : Nat) (hb : b ≤ E.length) : ∀ (m k : Nat) (F : List D) (x1 : Sl), k + m = b → F.length + m ≤ 1000 →
    ∃ y1 hi2, forLoop (.nm 1) (exs fsE [] B_explanations_1) (rngD ((b : Int) - (k : Int)) (-1) m) (xpG (EL E) x1 lo (if k = 0 then hi else hiF E hi b (k - 1)) F b) = some (.nx (xpG (EL E) y1 lo hi2 (F ++ (List.range' k m).flatMap (exA E lo hi b)) b))
  | 0, k, F, x1, _, _ => ⟨x1, if k = 0 then hi else hiF E hi b (k - 1), by simp [rngD, forLoop]⟩
  | m + 1, k, F, x1, hk, hz => by
    have tm : ∀ i, i < E.length → atI (E.map eD) (i : Int) = some (.tup [.int (tmE E i), .bl ((E[i]?.map (·.2)).getD false)]) := fun i hi => by
      have := e_get (List.getElem?_eq_getElem hi)
      rw [this]
      unfold tmE
      rw [List.getElem?_eq_getElem hi]
      rfl
    have bd := xp_body (E.map eD) ((b : Int) - (k : Int)) lo (if k = 0 then hi else hiF E hi b (k - 1)) (hiF E hi b k) b F (by omega) (by
      cases k with
      | zero => rw [if_neg (by omega), if_pos rfl]; rfl
      | succ k =>
        rw [if_pos (by omega)]
        have g1 := tm (b - (k + 1)) (by omega)
        have g2 := tm (b - (k + 1) - 1) (by omega)
        rw [show ((b - (k + 1) : Nat) : Int) = (b : Int) - ((k + 1 : Nat) : Int) by omega] at g1
        rw [show ((b - (k + 1) - 1 : Nat) : Int) = (b : Int) - ((k + 1 : Nat) : Int) - 1 by omega] at g2
        exact ⟨_, _, _, _, g1, g2, by rw [if_neg (by omega), Nat.add_sub_cancel]; rfl⟩)
    have exl : (exA E lo hi b k).length ≤ 1 := by unfold exA; split <;> simp
    obtain ⟨y1, hi2, ih⟩ := xp_loop E lo hi b hb m (k + 1) (F ++ exA E lo hi b k) (some (.int ((b : Int) - (k : Int)), false)) (by omega) (by rw [List.length_append]; omega)
    rw [if_neg (by omega), Nat.add_sub_cancel, show (b : Int) - ((k + 1 : Nat) : Int) = (b : Int) - (k : Int) + -1 by omega] at ih
    refine ⟨y1, hi2, ?_⟩
    rw [rngD, List.range'_succ, List.flatMap_cons, ← List.append_assoc, ← ih]
    refine forLoop_step ?_ bd
    unfold EL
    generalize E.map eD = EE
    simp [DV.SC, DV.SE, DV.SX]
theorem xp_conf (L : D) (fl : Bool) (lo hi i : Int) (e1 : F_check_log [some (L, fl)] = some (.fz .non, [some (L, false)])) (e2 : F_later_bounds [some (L, false)] = some (.fz (.tup [.int lo, .int hi, .int i]), [some (L, false)])) :
    F_explanations [some (L, fl)] = some (.nw (.lst []), [some (L, false)]) := by
  cases fl <;> simp [F_explanations, DV.SC, DV.SE, DV.SX, e1, e2, sizeLine]
theorem xp_gen (L : D) (fl : Bool) (lo hi hi2 b : Int) (Z : List D) (RD : List D) (y1 : Sl) (hr : ∀ Γ, rngO Γ [.int (max 1 b), .int 0, .int (-1)] = some (RD, Γ)) (e1 : F_check_log [some (L, fl)] = some (.fz .non, [some (L, false)])) (e2 : F_later_bounds [some (L, false)] = some (.fz (.tup [.int lo, .int hi, .non]), [some (L, false)]))
    (e3 : F_first_passes [some (L, false)] = some (.fz (.int b), [some (L, false)]))
    (lp : forLoop (.nm 1) (exs fsE [] B_explanations_1) RD (xpG L none lo hi [] b) = some (.nx (xpG L y1 lo hi2 Z b))) :
    F_explanations [some (L, fl)] = some (.nw (.lst Z.reverse), [some (L, false)]) := by
  have ma : (if 1 < b then b else 1) = max 1 b := by split <;> omega
  refine runF_pn (pn := []) (o := .rt (.nw (.lst Z.reverse)) (xpG L y1 lo hi2 Z b)) rfl (by cases fl <;> rfl) (?_ : exs _ [] _ [some (L, fl), none, none, none, none, none, none] = _) (by cases fl <;> rfl)
  refine (exs_nx (Γ1 := [some (L, false), none, none, none, none, none, none]) (by cases fl <;> simp [DV.SC, DV.SE, DV.SX, e1])).trans ?_
  refine (exs_nx (Γ1 := [some (L, false), none, some (.int lo, false), some (.int hi, false), some (.non, false), none, none]) (by simp [DV.SC, DV.SE, DV.SX, e2])).trans ?_
  refine (exs_nx (Γ1 := [some (L, false), none, some (.int lo, false), some (.int hi, false), some (.non, false), none, none]) (by simp [DV.SC, DV.SE, DV.SX])).trans ?_
  refine (exs_nx (Γ1 := xpG L none lo hi [] b) (by simp [DV.SC, DV.SE, DV.SX, e3, sizeLine])).trans ?_
  generalize max 1 b = m at *
  refine (exs_nx (ex_for (Γ2 := xpG L none lo hi [] b) (ds := RD) (by simp [DV.SC, DV.SE, DV.SX, ma, hr]) rfl lp)).trans ?_
  simp [DV.SC, DV.SE, DV.SX]
/-! ### what is due is what is told -/
abbrev bE (E : List (Int × Bool)) : Int × Int := bdE 1 1000000000000000000000000000000 (tmE E (fpN E - 1)) (E.drop (fpN E))
theorem hiF_le (E : List (Int × Bool)) (hi : Int) (b : Nat) : ∀ k, hiF E hi b k ≤ hi
  | 0 => Int.le_refl _
  | k + 1 => by have := hiF_le E hi b k; rw [hiF]; omega
/-- what explanations tells -/
def exL (E : List (Int × Bool)) : List D := if E = [] then [.tup [.int 1, .int 1, .int 1000000000000000000000000000000]] else (List.range' 1 (fpN E)).flatMap fun f => exA E (bE E).1 (bE E).2 (fpN E) (fpN E - f)
theorem rev_range : ∀ b : Nat, (List.range' 0 b).reverse = (List.range' 1 b).map fun f => b - f
  | 0 => rfl
  | b + 1 => by
    apply List.ext_getElem?
    intro i
    by_cases c : i < b + 1
    · rw [List.getElem?_reverse (by simpa using c), List.getElem?_map, List.getElem?_range' (by simp; omega), List.getElem?_range' c]
      simp
      omega
    · rw [List.getElem?_eq_none (by simp; omega), List.getElem?_eq_none (by simp; omega)]
theorem exA_rev (E : List (Int × Bool)) (lo hi : Int) (b : Nat) : ((List.range' 0 b).flatMap (exA E lo hi b)).reverse = (List.range' 1 b).flatMap fun f => exA E lo hi b (b - f) := by
  rw [List.reverse_flatMap, rev_range, List.flatMap_map]
  have : ∀ k, (exA E lo hi b k).reverse = exA E lo hi b k := fun k => by unfold exA; split <;> rfl
  simp only [Function.comp_def, this]
theorem explanations_ok (E : List (Int × Bool)) (r : RiseE (-1) E) (hz : E.length ≤ 1000) (fl : Bool) : F_explanations [some (EL E, fl)] = some (.nw (.lst (exL E)), [some (EL E, false)]) := by
  have e1 := check_log_ok E r (by omega) fl
  obtain ⟨lo, hi, c, e2, B⟩ := later_bounds_ok E (by omega) false
  have e3 := first_passes_ok E (by omega) false
  have le := fpN_le E
  cases c with
  | some i =>
    have ne : E ≠ [] := fun z => by have := (B.nil z).1; cases this
    have := xp_conf (EL E) fl lo hi i e1 e2
    rw [this]
    have : exL E = [] := by
      unfold exL
      rw [if_neg ne]
      rcases B.yes i rfl with ⟨h0, _⟩ | ⟨h1, h2⟩
      · rw [h0]; rfl
      · refine List.flatMap_eq_nil_iff.mpr fun f m => ?_
        unfold exA
        rw [if_neg]
        have := hiF_le E (bE E).2 (fpN E) (fpN E - f)
        have : (bE E).2 < (bE E).1 := h2
        omega
    rw [this]
  | none =>
    by_cases ne : E = []
    · obtain ⟨_, rfl, rfl⟩ := B.nil ne
      subst ne
      have bd := xp_body [] 1 1 1000000000000000000000000000000 1000000000000000000000000000000 0 [] (by decide) (by rw [if_neg (by decide)])
      have lp : forLoop (.nm 1) (exs fsE [] B_explanations_1) [.int 1] (xpG (EL []) none 1 1000000000000000000000000000000 [] 0) = some (.nx (xpG (EL []) (some (.int 1, false)) 1 1000000000000000000000000000000 [.tup [.int 1, .int 1, .int 1000000000000000000000000000000]] 0)) := by
        refine (forLoop_step (Γ1 := xpG (EL []) (some (.int 1, false)) 1 1000000000000000000000000000000 [] 0) (by simp [DV.SC, DV.SE, DV.SX]) bd).trans ?_
        rw [if_pos (by decide)]
        simp [forLoop]
      exact xp_gen (EL []) fl 1 1000000000000000000000000000000 1000000000000000000000000000000 0 [.tup [.int 1, .int 1, .int 1000000000000000000000000000000]] [.int 1] (some (.int 1, false)) (fun Γ => rng_down Γ 1 (by decide)) e1 e2 e3 lp
    · obtain ⟨h1, el, eh⟩ := (B.no rfl).resolve_left ne
      obtain ⟨y1, hi2, lp⟩ := xp_loop E lo hi (fpN E) le (fpN E) 0 [] none (by omega) (by simp; omega)
      have q := xp_gen (EL E) fl lo hi hi2 ((fpN E : Nat) : Int) _ _ y1 (fun Γ => by
        rw [show max 1 ((fpN E : Nat) : Int) = ((fpN E : Nat) : Int) by omega]
        exact rng_down Γ (fpN E) (by omega)) e1 e2 e3 (by
          rw [if_pos rfl] at lp
          rw [show ((fpN E : Nat) : Int) - ((0 : Nat) : Int) = ((fpN E : Nat) : Int) by omega, List.nil_append] at lp
          exact lp)
      rw [q, exA_rev]
      unfold exL
      rw [if_neg ne, el, eh]

/-! ### logs_right: the explanations of the long log, the log of a breaker -/
abbrev EN (n : Nat) : List (Int × Bool) := (List.range' 0 n).map fun (i : Nat) => ((i : Int), true)
theorem lgN_E (n : Nat) : (EN n).map eD = lgN n := by simp [EN, Function.comp_def]
theorem rise_E : ∀ (m k : Nat) (lo : Int), lo < (k : Int) → RiseE lo ((List.range' k m).map fun (i : Nat) => ((i : Int), true))
  | 0, _, _, _ => trivial
  | m + 1, k, lo, h => by
    rw [List.range'_succ, List.map_cons]
    exact ⟨h, rise_E m (k + 1) (k : Int) (by omega)⟩
theorem fpN_E : ∀ (m k : Nat), fpN ((List.range' k m).map fun (i : Nat) => ((i : Int), true)) = m
  | 0, _ => rfl
  | m + 1, k => by
    rw [List.range'_succ, List.map_cons, fpN, fpN_E m (k + 1)]
theorem tmE_E (n i : Nat) (h : i < n) : tmE (EN n) i = (i : Int) := by
  unfold tmE EN
  rw [List.getElem?_map, List.getElem?_range' h]
  simp
theorem hiF_E (n : Nat) : ∀ k, k + 1 < n → hiF (EN n) 1000000000000000000000000000000 n (k + 1) = 1
  | 0, h => by
    rw [hiF, hiF, tmE_E n _ (by omega), tmE_E n _ (by omega)]
    omega
  | k + 1, h => by
    rw [hiF, hiF_E n k (by omega), tmE_E n _ (by omega), tmE_E n _ (by omega)]
    omega
theorem flat_one {α β : Type} {F : α → List β} {g : α → β} : ∀ (l : List α), (∀ a ∈ l, F a = [g a]) → l.flatMap F = l.map g
  | [], _ => rfl
  | a :: l, h => by
    rw [List.flatMap_cons, List.map_cons, h a List.mem_cons_self, flat_one l fun b m => h b (List.mem_cons_of_mem _ m)]
    rfl
abbrev e1D (f : Nat) : D := .tup [.int (f : Int), .int 1, .int 1]
theorem exL_E (m : Nat) : exL (EN (m + 1)) = (List.range' 1 m).map e1D ++ [.tup [.int ((m + 1 : Nat) : Int), .int 1, .int 1000000000000000000000000000000]] := by
  have ne : EN (m + 1) ≠ [] := by simp [EN]
  have fp : fpN (EN (m + 1)) = m + 1 := fpN_E (m + 1) 0
  have ln : (EN (m + 1)).length = m + 1 := by simp [EN]
  have be : bE (EN (m + 1)) = (1, 1000000000000000000000000000000) := by
    unfold bE
    rw [fp, List.drop_of_length_le (by rw [ln]; omega)]
    rfl
  unfold exL
  rw [if_neg ne, fp, be, List.range'_concat, List.flatMap_append]
  simp only [List.flatMap_cons, List.flatMap_nil, List.append_nil]
  have a1 : exA (EN (m + 1)) 1 1000000000000000000000000000000 (m + 1) (m + 1 - (1 + 1 * m)) = [.tup [.int ((m + 1 : Nat) : Int), .int 1, .int 1000000000000000000000000000000]] := by
    rw [show m + 1 - (1 + 1 * m) = 0 by omega]
    unfold exA
    rw [show hiF (EN (m + 1)) 1000000000000000000000000000000 (m + 1) 0 = 1000000000000000000000000000000 from rfl, if_pos (by decide)]
    simp
  rw [a1]
  congr 1
  refine flat_one _ fun f mf => ?_
  have h := List.mem_range'_1.mp mf
  obtain ⟨k, hk⟩ : ∃ k, m + 1 - f = k + 1 := ⟨m - f, by omega⟩
  unfold exA
  rw [hk, hiF_E (m + 1) k (by omega), if_pos (by decide), show ((m + 1 : Nat) : Int) - ((k + 1 : Nat) : Int) = (f : Int) by omega]
theorem xl_long : F_explanations [some (.lst (lgN 1000), false)] = some (.nw (.lst ((List.range' 1 999).map e1D ++ [.tup [.int 1000, .int 1, .int 1000000000000000000000000000000]])), [some (.lst (lgN 1000), false)]) := by
  have e := explanations_ok (EN 1000) (rise_E 1000 0 (-1) (by decide)) (by simp [EN]) false
  have q := exL_E 999
  unfold EL at e
  rw [lgN_E, q] at e
  exact e
theorem p30s : binD .pow (.int 10) (.int 30) = some (.fz (.int 1000000000000000000000000000000)) := by simp [binD]
theorem cmp8 : cmpD .ne (.lst ((List.range' 1 999).map e1D ++ [.tup [.int 1000, .int 1, .int 1000000000000000000000000000000]])) (.lst ((List.range' 1 999).map e1D ++ [.tup [.int 1000, .int 1, .int 1000000000000000000000000000000]])) = some false := cmp_ne_self (by kernel_rfl)
theorem add8 : binD .add (.lst ((List.range' 1 999).map e1D)) (.lst [.tup [.int 1000, .int 1, .int 1000000000000000000000000000000]]) = some (.nw (.lst ((List.range' 1 999).map e1D ++ [.tup [.int 1000, .int 1, .int 1000000000000000000000000000000]]))) := by
  have hl : ((List.range' 1 999).map e1D).length = 999 := by simp
  generalize (List.range' 1 999).map e1D = Y at *
  show (if Y.length + [_].length ≤ sizeLine then some (RV.nw (.lst (Y ++ [_]))) else none) = _
  rw [if_pos (by rw [hl]; decide)]
theorem com8 (p : Int) (LL : List D) (x1 x4 x6 : Sl) (z : Int) : ev fsL (.comp [7] (.nm 7) .rng [.cst (.int 1), .cst (.int 1000)] [] (.tup [.var 7, .cst (.int 1), .cst (.int 1)])) (lrG p x1 (some (.lst LL, false)) none x4 (some (.int z, false)) x6 none) = some (.nw (.lst ((List.range' 1 999).map e1D)), lrG p x1 (some (.lst LL, false)) none x4 (some (.int z, false)) x6 none) := by kernel_rfl
theorem s8_gen (p : Int) (LL X Y : List D) (Γ : Ct) (CE : E) (h : Γ = lrG p x1 (some (.lst LL, false)) none x4 x5 x6 none) (e : F_explanations [some (.lst LL, false)] = some (.nw (.lst X), [some (.lst LL, false)])) (c : ev fsL CE Γ = some (.nw (.lst Y), Γ)) (a : binD .add (.lst Y) (.lst [.tup [.int 1000, .int 1, .int 1000000000000000000000000000000]]) = some (.nw (.lst X))) (q : cmpD .ne (.lst X) (.lst X) = some false) :
    ex fsL [] (.ite (.cmp .ne (.call 3 [.var 2]) (.bin .add CE (.lst [.tup [.cst (.int 1000), .cst (.int 1), .bin .pow (.cst (.int 10)) (.cst (.int 30))]]))) [.ret (.cst (.bl false))] []) Γ = some (.nx Γ) := by
  subst h
  simp [DV.SC, DV.SX, e, c, a, q, p30s, sizeLine]
theorem lr_expl (p : Int) (x1 x4 : Sl) (z : Int) : ex fsL [] (.ite (.cmp .ne (.call 3 [.var 2]) (.bin .add (.comp [7] (.nm 7) .rng [.cst (.int 1), .cst (.int 1000)] [] (.tup [.var 7, .cst (.int 1), .cst (.int 1)])) (.lst [.tup [.cst (.int 1000), .cst (.int 1), .bin .pow (.cst (.int 10)) (.cst (.int 30))]]))) [.ret (.cst (.bl false))] []) (lrG p x1 (some (.lst (lgN 1000), false)) none x4 (some (.int z, false)) none none) = some (.nx (lrG p x1 (some (.lst (lgN 1000), false)) none x4 (some (.int z, false)) none none)) :=
  s8_gen p (lgN 1000) _ _ _ _ rfl xl_long (com8 p (lgN 1000) x1 x4 none z) add8 cmp8

/-! ### logs_right: the log of a breaker; the whole -/
abbrev tsN (n : Nat) : List Int := (List.range' 0 n).map fun (i : Nat) => (i : Int)
theorem rise_t : ∀ (m k : Nat) (lo : Int), lo < (k : Int) → Rise lo ((List.range' k m).map fun (i : Nat) => (i : Int))
  | 0, _, _, _ => trivial
  | m + 1, k, lo, h => by
    rw [List.range'_succ, List.map_cons]
    exact ⟨h, rise_t m (k + 1) (k : Int) (by omega)⟩
abbrev evN (n : Nat) : List D := (List.range' 0 n).map fun (i : Nat) => .tup [.int (i : Int), .bl (decide ((i : Int) % 2 = 0))]
theorem logF_ev : ∀ (m k : Nat) (l s : Int), (k % 2 = 0 → (0 < l ∨ 2 ≤ (k : Int) - s)) → (k % 2 = 1 → l ≤ 0 ∧ s = (k : Int) - 1) → l ≤ 1 → logF 2 l s ((List.range' k m).map fun (i : Nat) => (i : Int)) = (List.range' k m).map fun (i : Nat) => .tup [.int (i : Int), .bl (decide ((i : Int) % 2 = 0))]
  | 0, _, _, _, _, _, _ => rfl
  | m + 1, k, l, s, h1, h2, hl => by
    rw [List.range'_succ, List.map_cons, List.map_cons, logF]
    by_cases c : k % 2 = 0
    · have hd : decide ((k : Int) % 2 = 0) = true := decide_eq_true (by omega)
      rw [if_pos (h1 c), hd, logF_ev m (k + 1) (max 0 (l - 1)) (k : Int) (by omega) (by omega) (by omega)]
    · have h2 := h2 (by omega)
      have hd : decide ((k : Int) % 2 = 0) = false := decide_eq_false (by omega)
      rw [if_neg (by omega), hd, logF_ev m (k + 1) l s (by omega) (by omega) hl]
theorem lo_long : F_log_of [some (br 1 2 1, false), some (.lst ((tsN 1000).map D.int), true)] = some (.nw (.lst (evN 1000)), [some (br 1 2 1, false), some (.lst ((tsN 1000).map D.int), false)]) := by
  have e := log_of_ok 1 2 1 (tsN 1000) true ⟨by decide, by decide, by decide, by decide, by decide, by decide⟩ (rise_t 1000 0 (-1) (by decide)) (by simp [tsN])
  have q := logF_ev 1000 0 1 0 (by omega) (by omega) (by decide)
  unfold tsN at *
  rw [q] at e
  exact e
theorem cmp9 : cmpD .eq (.lst (evN 1000)) (.lst (evN 1000)) = some true := cmp_eq_self (by kernel_rfl)
theorem rg9 (Γ : Ct) : ev fsL (.rngl (.cst (.int 0)) (.cst (.int 1000))) Γ = some (.nw (.lst ((tsN 1000).map D.int)), Γ) := by kernel_rfl
theorem com9 (p : Int) (LL : List D) (x1 x4 x6 x7 : Sl) (z : Int) : ev fsL (.comp [5] (.nm 5) .rng [.cst (.int 1000)] [] (.tup [.var 5, .cmp .eq (.bin .mod (.bi .int1 [.var 5]) (.cst (.int 2))) (.cst (.int 0))])) (lrG p x1 (some (.lst LL, false)) none x4 (some (.int z, false)) x6 x7) = some (.nw (.lst (evN 1000)), lrG p x1 (some (.lst LL, false)) none x4 (some (.int z, false)) x6 x7) := by kernel_rfl
theorem s9_gen (RE CE : E) (T V : List D) (Γ : Ct) (r : ev fsL RE Γ = some (.nw (.lst T), Γ)) (e : F_log_of [some (br 1 2 1, false), some (.lst T, true)] = some (.nw (.lst V), [some (br 1 2 1, false), some (.lst T, false)])) (c : ev fsL CE Γ = some (.nw (.lst V), Γ)) (q : cmpD .eq (.lst V) (.lst V) = some true) :
    ex fsL [] (.ret (.cmp .eq (.call 4 [.tup [.cst (.int 1), .cst (.int 2), .cst (.int 1)], RE]) CE)) Γ = some (.rt (.fz (.bl true)) Γ) := by
  simp [DV.SC, DV.SX, r, e, c, q, sizeLine]
theorem lr_log (p : Int) (x1 x4 : Sl) (z : Int) : ex fsL [] (.ret (.cmp .eq (.call 4 [.tup [.cst (.int 1), .cst (.int 2), .cst (.int 1)], .rngl (.cst (.int 0)) (.cst (.int 1000))]) (.comp [5] (.nm 5) .rng [.cst (.int 1000)] [] (.tup [.var 5, .cmp .eq (.bin .mod (.bi .int1 [.var 5]) (.cst (.int 2))) (.cst (.int 0))])))) (lrG p x1 (some (.lst (lgN 1000), false)) none x4 (some (.int z, false)) none none) = some (.rt (.fz (.bl true)) (lrG p x1 (some (.lst (lgN 1000), false)) none x4 (some (.int z, false)) none none)) :=
  s9_gen _ _ _ _ _ (rg9 _) lo_long (com9 p (lgN 1000) x1 x4 none none z) cmp9
theorem lr_none (p : Int) (x1 x2 x4 x5 x6 x7 : Sl) : ex fsL [] (.sem [3] (fun _ Γ => if noneAt Γ 3 = true then some (.nx Γ) else none)) (lrG p x1 x2 none x4 x5 x6 x7) = some (.nx (lrG p x1 x2 none x4 x5 x6 x7)) := by kernel_rfl
theorem logs_right_ok (p : Nat) (h1 : 1 ≤ p) (h2 : p < 1000) : F__law_logs_right [some (.int (p : Int), false)] = some (.fz (.bl true), [some (.int (p : Int), false)]) := by
  obtain ⟨x1, x4, e⟩ := lr_rows (p : Int)
  refine runF_pn (pn := []) (o := .rt (.fz (.bl true)) (lrG (p : Int) x1 (some (.lst (lgN 1000), false)) none x4 (some (.int 0, false)) none none)) rfl rfl ((exs_app (l1 := [.asg (.nm 1) (.lst [.tup [.cst .non, .neg (.cst (.int 1))], .tup [.tup [.tup [.cst (.int 0), .cst (.bl true)]], .neg (.cst (.int 1))], .tup [.dct, .neg (.cst (.int 1))], .tup [.cst (.str "x"), .neg (.cst (.int 1))], .tup [.comp [5] (.nm 5) .rng [.cst (.int 1001)] [] (.tup [.var 5, .cst (.bl true)]), .neg (.cst (.int 1))]]), .asg (.nm 1) (.bin .add (.var 1) (.lst [.tup [.lst [.cst .non], .cst (.int 0)], .tup [.lst [.tup [.cst (.int 0), .cst (.bl true)], .lst [.cst (.int 1), .cst (.bl true)]], .cst (.int 1)], .tup [.lst [.tup [.cst (.int 0), .cst (.bl true)], .tup [.cst (.int 0), .cst (.bl true)]], .cst (.int 1)], .tup [.lst [.tup [.cst (.int 3), .cst (.bl true)], .tup [.cst (.int 2), .cst (.bl false)]], .cst (.int 1)]])), .asg (.nm 1) (.bin .add (.var 1) (.lst [.tup [.lst [.tup [.neg (.cst (.int 1)), .cst (.bl true)]], .cst (.int 0)], .tup [.lst [.tup [.cst (.int 0), .cst (.int 1)]], .cst (.int 0)], .tup [.lst [.tup [.cst (.int 0), .cst .non]], .cst (.int 0)], .tup [.lst [.tup [.cst (.bl true), .cst (.bl true)]], .cst (.int 0)], .tup [.lst [.tup [.cst (.int 0), .cst (.bl true), .cst (.int 1)]], .cst (.int 0)]])), .asg (.nm 1) (.bin .add (.var 1) (.lst [.tup [.lst [.tup [.cst (.str "0"), .cst (.bl true)]], .cst (.int 0)], .tup [.lst [.dct], .cst (.int 0)], .tup [.lst [.tup [.cst (.int 0), .cst (.bl true)], .tup [.cst (.int 1), .cst (.str "True")]], .cst (.int 1)], .tup [.lst [.tup [.lst [.cst (.int 0)], .cst (.bl true)]], .cst (.int 0)], .tup [.lst [.tup [.cst (.int 0)]], .cst (.int 0)]])), .for_ (.tp [.nm 4, .nm 5]) .seq [.var 1] B__law_logs_right_3]) (l2 := [.asg (.nm 2) (.comp [5] (.nm 5) .rng [.cst (.int 1000)] [] (.tup [.var 5, .cst (.bl true)])), .sem [3] (fun _ Γ => if noneAt Γ 3 = true then some (.nx Γ) else none), .ite (.cmp .ne (.lst [.said D0__law_said SD__law_said (.call 0 [.bin .add (.slc (.var 2) [] [.var 0]) (.lst [.tup [.var 0, .cst (.int 1)]])]), .said D0__law_said SD__law_said (.call 1 [.bin .add (.slc (.var 2) [] [.var 0]) (.lst [.cst .non])]), .said D0__law_said SD__law_said (.call 2 [.bin .add (.slc (.var 2) [] [.var 0]) (.lst [.tup [.bin .sub (.var 0) (.cst (.int 1)), .cst (.bl false)]]), .cst (.int 2000)])]) (.bin .mul (.lst [.tup [.cst (.str "log"), .var 0]]) (.cst (.int 3)))) B__law_logs_right_4 B__law_logs_right_5, .ite (.cmp .ne (.call 3 [.var 2]) (.bin .add (.comp [7] (.nm 7) .rng [.cst (.int 1), .cst (.int 1000)] [] (.tup [.var 7, .cst (.int 1), .cst (.int 1)])) (.lst [.tup [.cst (.int 1000), .cst (.int 1), .bin .pow (.cst (.int 10)) (.cst (.int 30))]]))) [.ret (.cst (.bl false))] [], .ret (.cmp .eq (.call 4 [.tup [.cst (.int 1), .cst (.int 2), .cst (.int 1)], .rngl (.cst (.int 0)) (.cst (.int 1000))]) (.comp [5] (.nm 5) .rng [.cst (.int 1000)] [] (.tup [.var 5, .cmp .eq (.bin .mod (.bi .int1 [.var 5]) (.cst (.int 2))) (.cst (.int 0))])))]) e).trans ?_) rfl
  refine (exs_nx (lr_long (p : Int) x1 x4)).trans ?_
  refine (exs_nx (lr_none _ _ _ _ _ _ _)).trans ?_
  refine (exs_nx (lr_place p h1 h2 _ _ _ _ _)).trans ?_
  refine (exs_nx (lr_expl _ _ _ _)).trans ?_
  exact exs_rt (lr_log _ _ _ _)

/-! ### right, the law -/
theorem rt_s0 (W0 W1 : D) (r1 : Int) (e1 : F__law_draw [some (W0, true), some (.int 3, false)] = some (.fz (.int r1), [some (W1, true), some (.int 3, false)])) : ex fsR [0] (.asg (.nm 1) (.lst [.cst (.int 3), .cst (.int 4), .cst (.int 6), .bin .add (.cst (.int 9)) (.call 0 [.var 0, .cst (.int 3)]), .cst (.int 14), .cst (.int 20)])) (rG W0 none none none none) = some (.nx (rG W1 (some (moD r1, false)) none none none)) := by
  simp [DV.SC, DV.SE, DV.SX, e1, sizeLine]
theorem rt_s1 (W1 W2 W3 : D) (m : D) (r2 r3 : Int) (e2 : F__law_draw [some (W1, true), some (.int 3, false)] = some (.fz (.int r2), [some (W2, true), some (.int 3, false)])) (e3 : F__law_draw [some (W2, true), some (.int 9, false)] = some (.fz (.int r3), [some (W3, true), some (.int 9, false)])) :
    ex fsR [0] (.asg (.nm 2) (.tup [.bin .add (.cst (.int 1)) (.call 0 [.var 0, .cst (.int 3)]), .bin .add (.cst (.int 1)) (.call 0 [.var 0, .cst (.int 9)]), .cst (.int 1)])) (rG W1 (some (m, false)) none none none) = some (.nx (rG W3 (some (m, false)) (some (dvD r2 r3, false)) none none)) := by
  simp [DV.SC, DV.SE, DV.SX, e2, e3, sizeLine]
theorem rt_s3 (fs : List FS) (FD FL : FS) (h0 : fs[0]? = some FD) (h2 : fs[2]? = some FL) (CE : DV.E) (W3 W4 m d sn : D) (r4 p : Int) (hp : 600 + r4 = p) (t2 : ev fs CE (rG W3 (some (m, false)) (some (d, false)) (some (sn, false)) none) = some (.fz (.bl false), rG W3 (some (m, false)) (some (d, false)) (some (sn, false)) none))
    (e4 : FD [some (W3, true), some (.int 400, false)] = some (.fz (.int r4), [some (W4, true), some (.int 400, false)])) (lr : FL [some (.int p, false)] = some (.fz (.bl true), [some (.int p, false)])) :
    ex fs [0] (.ite (.or CE (.not (.call 2 [.shr (.bin .add (.cst (.int 600)) (.call 0 [.var 0, .cst (.int 400)]))]))) [.ret (.cst (.bl false))] []) (rG W3 (some (m, false)) (some (d, false)) (some (sn, false)) none) = some (.nx (rG W4 (some (m, false)) (some (d, false)) (some (sn, false)) none)) := by
  simp [DV.SC, DV.SE, DV.SX, t2, h0, h2, e4, hp, lr, sizeLine]
theorem rt_all (W0 W1 W3 W4 m d sn : D) (s0 : ex fsR [0] (.asg (.nm 1) (.lst [.cst (.int 3), .cst (.int 4), .cst (.int 6), .bin .add (.cst (.int 9)) (.call 0 [.var 0, .cst (.int 3)]), .cst (.int 14), .cst (.int 20)])) (rG W0 none none none none) = some (.nx (rG W1 (some (m, false)) none none none))) (s1 : ex fsR [0] (.asg (.nm 2) (.tup [.bin .add (.cst (.int 1)) (.call 0 [.var 0, .cst (.int 3)]), .bin .add (.cst (.int 1)) (.call 0 [.var 0, .cst (.int 9)]), .cst (.int 1)])) (rG W1 (some (m, false)) none none none) = some (.nx (rG W3 (some (m, false)) (some (d, false)) none none)))
    (s2 : ex fsR [0] (.asg (.nm 3) (.callp 1 [1, 0] [.var 1, .var 2])) (rG W3 (some (m, false)) (some (d, false)) none none) = some (.nx (rG W3 (some (m, false)) (some (d, false)) (some (sn, false)) none)))
    (s3 : ex fsR [0] (.ite (.or (.cmp .ne (.var 3) (.call 1 [.var 2, .var 1])) (.not (.call 2 [.shr (.bin .add (.cst (.int 600)) (.call 0 [.var 0, .cst (.int 400)]))]))) [.ret (.cst (.bl false))] []) (rG W3 (some (m, false)) (some (d, false)) (some (sn, false)) none) = some (.nx (rG W4 (some (m, false)) (some (d, false)) (some (sn, false)) none)))
    (s4 : exs fsR [0] [.ite (.not (.call 3 [.var 3, .cst (.int 20)])) [.ret (.cst (.bl false))] [], .ite (.or (.cmp .ne (.callp 4 [0] [.var 3]) (.call 4 [.var 3])) (.cmp .ne (.callp 5 [0] [.var 3]) (.call 5 [.var 3]))) [.ret (.cst (.bl false))] [], .ite (.or (.cmp .ne (.callp 6 [1, 0] [.cst (.int 24), .var 3]) (.call 6 [.var 3, .cst (.int 24)])) (.cmp .ne (.callp 7 [0] [.lst [.cst (.int 2), .cst (.int 4)]]) (.call 7 [.lst [.cst (.int 2), .cst (.int 4)]]))) [.ret (.cst (.bl false))] [], .asg (.nm 4) (.lst [.tup [.cst (.int 0), .cst (.bl false)]]), .ite (.cmp .ne (.said D0__law_said SD__law_said (.call 8 [.var 4, .cst (.int 0)])) (.tup [.cst (.str "time"), .cst (.str "0")])) [.ret (.cst (.bl false))] [], .ret (.cmp .eq (.said D0__law_said SD__law_said (.call 8 [.var 4, .cst (.int 1)])) (.tup [.cst (.str "log"), .cst (.int 0)]))] (rG W4 (some (m, false)) (some (d, false)) (some (sn, false)) none) = some (.rt (.fz (.bl true)) (rG W4 (some (m, false)) (some (d, false)) (some (sn, false)) (some (badD, false))))) : F__law_right [some (W0, true)] = some (.fz (.bl true), [some (W4, true)]) := by
  refine runF_by (o := .rt (.fz (.bl true)) (rG W4 (some (m, false)) (some (d, false)) (some (sn, false)) (some (badD, false)))) rfl (?_ : exs _ [0] _ (rG W0 none none none none) = _) rfl
  refine (exs_nx s0).trans ?_
  refine (exs_nx s1).trans ?_
  refine (exs_nx s2).trans ?_
  refine (exs_nx s3).trans ?_
  exact s4
theorem right_ok (a c k0 : Int) (w0 : 0 ≤ k0) (w1 : k0 < 1000) : ∃ a' k', F__law_right [some (wl a c k0, true)] = some (.fz (.bl true), [some (wl a' c k', true)]) := by
  obtain ⟨r1, a1, k1, e1, b1, c1, d1, f1⟩ := draw_ok a c k0 3 w0 (by omega) (by decide) (by decide)
  obtain ⟨r2, a2, k2, e2, b2, c2, d2, f2⟩ := draw_ok a1 c k1 3 d1 (by omega) (by decide) (by decide)
  obtain ⟨r3, a3, k3, e3, b3, c3, d3, f3⟩ := draw_ok a2 c k2 9 d2 (by omega) (by decide) (by decide)
  obtain ⟨r4, a4, k4, e4, b4, c4, d4, f4⟩ := draw_ok a3 c k3 400 d3 (by omega) (by decide) (by decide)
  obtain ⟨sn, two, beh⟩ := two_all r1 r2 r3 b1 c1 b2 c2 b3 c3
  obtain ⟨p, hp⟩ : ∃ p : Nat, 600 + r4 = (p : Int) := ⟨(600 + r4).toNat, by omega⟩
  have lr := logs_right_ok p (by omega) (by omega)
  obtain ⟨t1, t2⟩ := two (wl a3 c k3)
  have bb := beh (wl a4 c k4) (moD r1) (dvD r2 r3)
  exact ⟨a4, k4, rt_all _ _ _ _ _ _ _ (rt_s0 _ _ _ e1) (rt_s1 _ _ _ _ _ _ e2 e3) t1 (rt_s3 _ _ _ rfl rfl _ _ _ _ _ _ _ _ hp t2 e4 lr) bb⟩
abbrev lwG (S : D) (x1 : Sl) : Ct := [some (S, false), x1]
theorem law_body (S : D) (c : Int) : exs [F__law_well, F__law_right] [] B_law_1 (lwG S (some (.int c, false))) = some (.nx (lwG S (some (.int c, false)))) := by
  obtain ⟨a, e1⟩ := well_ok c
  obtain ⟨a', k', e2⟩ := right_ok a c 0 (by decide) (by decide)
  generalize wl a c 0 = W0 at *
  generalize wl a' c k' = W1 at *
  simp [B_law_1, DV.SC, DV.SE, DV.SX, e1, e2]
theorem law_loop (S : D) : ∀ (cs : List Int) (x1 : Sl), ∃ y1, forLoop (.nm 1) (exs [F__law_well, F__law_right] [] B_law_1) (cs.map D.int) (lwG S x1) = some (.nx (lwG S y1))
  | [], x1 => ⟨x1, by simp [forLoop]⟩
  | c :: cs, x1 => by
    obtain ⟨y1, e2⟩ := law_loop S cs (some (.int c, false))
    refine ⟨y1, ?_⟩
    rw [List.map_cons, ← e2]
    exact forLoop_step (Γ1 := lwG S (some (.int c, false))) (by simp [DV.SC, DV.SE, DV.SX]) (law_body S c)
theorem law_true (ns : List Int) (hl : ns.length ≤ 63) (hb : ∀ z ∈ ns, Builtin.Int.intBits z ≤ 1048576) : ∃ os, F_law [some (.scr ns, false)] = some (.fz (.bl true), os) := by
  obtain ⟨cs, e1, l1⟩ : ∃ cs : List Int, cutD (ns.map D.int) none (some 4) = cs.map D.int ∧ cs.length ≤ 4 := by
    refine ⟨ns.take 4, ?_, by rw [List.length_take]; omega⟩
    show cutD (ns.map D.int) none (some ((4 : Nat) : Int)) = _
    rw [cut_to, List.map_take]
  obtain ⟨y1, e⟩ := law_loop (.scr ns) (cs ++ [0]) none
  rw [List.map_append] at e
  refine ⟨[some (.scr ns, false)], ?_⟩
  refine runF_by (o := .rt (.fz (.bl true)) (lwG (.scr ns) y1)) rfl (?_ : exs _ [] _ (lwG (.scr ns) none) = _) rfl
  have hz : cs.length + 1 ≤ 16777216 := by omega
  refine (exs_nx (ex_for (Γ2 := lwG (.scr ns) none) (ds := cs.map D.int ++ [D.int 0]) (by simp [DV.SC, DV.SE, DV.SX, e1, hz, sizeLine]) rfl e)).trans (by simp [DV.SC, DV.SE, DV.SX])

end L
open PySem PySem.W PyProof.Rows
set_option maxHeartbeats 0 in
theorem PySem.Challenge.cw_breakerrow_k50_invalid_logs_and_names_holds : PySem.Challenge.rw_breakerrow_k50_invalid_logs_and_names.Holds := by
  refine L_top ?_
  k_fill
  refine DV.walk_ofG (ll := PySem.Challenge.rw_breakerrow_k50_invalid_logs_and_names) (nn := 63) (kk := 13) (xx := "_law_script") (CX := fun _ => L2.CX0) rfl (by decide) rfl ⟨rfl, by decide, by decide⟩ (fun w h Y => PySem.W.kIn_of Y) (by decide +kernel) ?F (fun _ _ _ _ _ h => h)
  case F =>
    intro w mg mb mean fa h TP KX hmg
    refine' L.all_mk KX TP hmg (fun ns hl hb => L.law_true ns hl hb) ?aC8 ?aC9 ?aC10 ?aC11 ?aC12 ?aC13 ?aC14 ?aC15 ?aC16 ?aC17 ?aC18 ?a0 ?l0 ?e0 ?k0 ?a1 ?l1 ?e1 ?k1 ?a2 ?l2 ?e2 ?k2 ?a3 ?l3 ?e3 ?k3 ?a4 ?l4 ?e4 ?k4 ?a5 ?l5 ?e5 ?k5 ?a6 ?l6 ?e6 ?k6 ?a7 ?l7 ?e7 ?k7 ?a8 ?l8 ?e8 ?k8 ?a9 ?i9 ?l9 ?e9 ?ti9 ?k9 ?a10 ?l10 ?e10 ?k10 ?a11 ?l11 ?e11 ?k11 ?a12 ?l12 ?e12 ?k12 ?a13 ?l13 ?e13 ?k13 ?a14 ?l14 ?e14 ?k14 ?a15 ?l15 ?e15 ?k15 ?a16 ?i16 ?l16 ?e16 ?ti16 ?k16 ?a17 ?l17 ?e17 ?k17 ?a18 ?l18 ?e18 ?k18 ?a19 ?l19 ?e19 ?k19 ?a20 ?l20 ?e20 ?tb20 ?np20 ?rc20 ?k20 ?a21 ?i21 ?l21 ?e21 ?ti21 ?k21 ?a22 ?l22 ?e22 ?k22 ?a23 ?l23 ?e23 ?k23 ?a24 ?l24 ?e24 ?k24 ?a25 ?l25 ?e25 ?tb25 ?np25 ?rc25 ?pn20_25 ?k25 ?a26 ?l26 ?e26 ?k26 ?a27 ?l27 ?e27 ?k27 ?a28 ?l28 ?e28 ?k28 ?a29 ?l29 ?e29 ?tb29 ?np29 ?rc29 ?pn20_29 ?pn25_29 ?k29 ?a30 ?l30 ?e30 ?k30 ?z_ArithmeticError ?z_bool ?z_enumerate ?z_int ?z_isinstance ?z_len ?z_list ?z_max ?z_min ?z_range ?z_repr ?z_tuple ?g_MOST_COUNT ?g_MOST_WAIT ?g_MOST_ENTRIES ?g_MOST_BREAKERS ?qcl15 ?qga15 ?qgt15 ?qsb15 ?qha15 ?qhn ?qtk ?qhm15 ?qhd15 ?xk_InvalidLog_InvalidRow ?qcl9 ?qga9 ?qgt9 ?qsb9 ?qha9 ?qhm9 ?qhd9 ?xk_InvalidRow_InvalidRow ?qcl10 ?qga10 ?qgt10 ?qsb10 ?qha10 ?qhm10 ?qhd10 ?xk_InvalidTime_InvalidRow ?xk_InvalidLog_InvalidTime ?xk_InvalidRow_InvalidTime ?xk_InvalidTime_InvalidTime ?xk_InvalidLog_InvalidOutages ?xk_InvalidRow_InvalidOutages ?xk_InvalidTime_InvalidOutages ?xk_InvalidLog_InvalidIndex ?xk_InvalidRow_InvalidIndex ?xk_InvalidTime_InvalidIndex ?xk_InvalidLog_InvalidBound ?xk_InvalidRow_InvalidBound ?xk_InvalidTime_InvalidBound ?xk_InvalidLog_InvalidLog ?xk_InvalidRow_InvalidLog ?xk_InvalidTime_InvalidLog ?xt_InvalidLog__InvalidTrains_InvalidCall_InvalidText_LimitExceeded ?xt_InvalidRow__InvalidTrains_InvalidCall_InvalidText_LimitExceeded ?xt_InvalidTime__InvalidTrains_InvalidCall_InvalidText_LimitExceeded ?xk_InvalidLog_ArithmeticError ?xk_InvalidRow_ArithmeticError ?xk_InvalidTime_ArithmeticError ?xn_InvalidRow_part ?xn_InvalidLog_at ?xn_InvalidRow_at ?xn_InvalidTime_time ?xm_InvalidLog_BreakerError ?xm_InvalidRow_BreakerError ?xm_InvalidTime_BreakerError ?qin15 ?qov15 ?qsa15 ?qty15 ?qkc15 ?qtg8 ?qrd8 ?qat8 ?tx_InvalidLog_at ?qin10 ?qov10 ?qsa10 ?qty10 ?qkc10 ?tx_InvalidTime_time ?qin9 ?qov9 ?qsa9 ?qty9 ?qkc9 ?tx_InvalidRow_part ?tx_InvalidRow_at
    (case aC8 => k_is)
    (case aC9 => k_is)
    (case aC10 => k_is)
    (case aC11 => k_is)
    (case aC12 => k_is)
    (case aC13 => k_is)
    (case aC14 => k_is)
    (case aC15 => k_is)
    (case aC16 => k_is)
    (case aC17 => k_is)
    (case aC18 => k_is)
    (case a0 => k_is)
    (case l0 => k_is)
    (case e0 => k_is)
    (case k0 => k_is)
    (case a1 => k_is)
    (case l1 => k_is)
    (case e1 => k_is)
    (case k1 => k_is)
    (case a2 => k_is)
    (case l2 => k_is)
    (case e2 => k_is)
    (case k2 => k_is)
    (case a3 => k_is)
    (case l3 => k_is)
    (case e3 => k_is)
    (case k3 => k_is)
    (case a4 => k_is)
    (case l4 => k_is)
    (case e4 => k_is)
    (case k4 => k_is)
    (case a5 => k_is)
    (case l5 => k_is)
    (case e5 => k_is)
    (case k5 => k_is)
    (case a6 => k_is)
    (case l6 => k_is)
    (case e6 => k_is)
    (case k6 => k_is)
    (case a7 => k_is)
    (case l7 => k_is)
    (case e7 => k_is)
    (case k7 => k_is)
    (case a8 => k_is)
    (case l8 => k_is)
    (case e8 => k_is)
    (case k8 => k_is)
    (case a9 => k_is)
    (case i9 => k_is)
    (case l9 => k_is)
    (case e9 => k_is)
    (case ti9 => k_is)
    (case k9 => k_is)
    (case a10 => k_is)
    (case l10 => k_is)
    (case e10 => k_is)
    (case k10 => k_is)
    (case a11 => k_is)
    (case l11 => k_is)
    (case e11 => k_is)
    (case k11 => k_is)
    (case a12 => k_is)
    (case l12 => k_is)
    (case e12 => k_is)
    (case k12 => k_is)
    (case a13 => k_is)
    (case l13 => k_is)
    (case e13 => k_is)
    (case k13 => k_is)
    (case a14 => k_is)
    (case l14 => k_is)
    (case e14 => k_is)
    (case k14 => k_is)
    (case a15 => k_is)
    (case l15 => k_is)
    (case e15 => k_is)
    (case k15 => k_is)
    (case a16 => k_is)
    (case i16 => k_is)
    (case l16 => k_is)
    (case e16 => k_is)
    (case ti16 => k_is)
    (case k16 => k_is)
    (case a17 => k_is)
    (case l17 => k_is)
    (case e17 => k_is)
    (case k17 => k_is)
    (case a18 => k_is)
    (case l18 => k_is)
    (case e18 => k_is)
    (case k18 => k_is)
    (case a19 => k_is)
    (case l19 => k_is)
    (case e19 => k_is)
    (case k19 => k_is)
    (case a20 => k_is)
    (case l20 => k_is)
    (case e20 => k_is)
    (case tb20 => (refine' DV.tabIn_of ?ta ?tb ?tc ?td ?te; (case ta => k_is); (case tb => k_is); (case tc => rfl); (case td => k_is); (case te => rfl)))
    (case np20 => kernel_rfl)
    (case rc20 => rfl)
    (case k20 => k_is)
    (case a21 => k_is)
    (case i21 => k_is)
    (case l21 => k_is)
    (case e21 => k_is)
    (case ti21 => k_is)
    (case k21 => k_is)
    (case a22 => k_is)
    (case l22 => k_is)
    (case e22 => k_is)
    (case k22 => k_is)
    (case a23 => k_is)
    (case l23 => k_is)
    (case e23 => k_is)
    (case k23 => k_is)
    (case a24 => k_is)
    (case l24 => k_is)
    (case e24 => k_is)
    (case k24 => k_is)
    (case a25 => k_is)
    (case l25 => k_is)
    (case e25 => k_is)
    (case tb25 => (refine' DV.tabIn_of ?ta ?tb ?tc ?td ?te; (case ta => k_is); (case tb => k_is); (case tc => rfl); (case td => k_is); (case te => rfl)))
    (case np25 => kernel_rfl)
    (case rc25 => rfl)
    (case pn20_25 => decide)
    (case k25 => k_is)
    (case a26 => k_is)
    (case l26 => k_is)
    (case e26 => k_is)
    (case k26 => k_is)
    (case a27 => k_is)
    (case l27 => k_is)
    (case e27 => k_is)
    (case k27 => k_is)
    (case a28 => k_is)
    (case l28 => k_is)
    (case e28 => k_is)
    (case k28 => k_is)
    (case a29 => k_is)
    (case l29 => k_is)
    (case e29 => k_is)
    (case tb29 => (refine' DV.tabIn_of ?ta ?tb ?tc ?td ?te; (case ta => k_is); (case tb => k_is); (case tc => rfl); (case td => k_is); (case te => rfl)))
    (case np29 => kernel_rfl)
    (case rc29 => rfl)
    (case pn20_29 => decide)
    (case pn25_29 => decide)
    (case k29 => k_is)
    (case a30 => k_is)
    (case l30 => k_is)
    (case e30 => k_is)
    (case k30 => k_is)
    (case z_ArithmeticError => k_is)
    (case z_bool => k_is)
    (case z_enumerate => k_is)
    (case z_int => k_is)
    (case z_isinstance => k_is)
    (case z_len => k_is)
    (case z_list => k_is)
    (case z_max => k_is)
    (case z_min => k_is)
    (case z_range => k_is)
    (case z_repr => k_is)
    (case z_tuple => k_is)
    (case g_MOST_COUNT => k_is)
    (case g_MOST_WAIT => k_is)
    (case g_MOST_ENTRIES => k_is)
    (case g_MOST_BREAKERS => k_is)
    (case qcl15 => kernel_rfl)
    (case qga15 => k_is)
    (case qgt15 => k_is)
    (case qsb15 => k_is)
    (case qha15 => k_is)
    (case qhn => k_is)
    (case qtk => k_is)
    (case qhm15 => k_is)
    (case qhd15 => k_is)
    (case xk_InvalidLog_InvalidRow => kit_is)
    (case qcl9 => kernel_rfl)
    (case qga9 => k_is)
    (case qgt9 => k_is)
    (case qsb9 => k_is)
    (case qha9 => k_is)
    (case qhm9 => k_is)
    (case qhd9 => k_is)
    (case xk_InvalidRow_InvalidRow => kit_is)
    (case qcl10 => kernel_rfl)
    (case qga10 => k_is)
    (case qgt10 => k_is)
    (case qsb10 => k_is)
    (case qha10 => k_is)
    (case qhm10 => k_is)
    (case qhd10 => k_is)
    (case xk_InvalidTime_InvalidRow => kit_is)
    (case xk_InvalidLog_InvalidTime => kit_is)
    (case xk_InvalidRow_InvalidTime => kit_is)
    (case xk_InvalidTime_InvalidTime => kit_is)
    (case xk_InvalidLog_InvalidOutages => kit_is)
    (case xk_InvalidRow_InvalidOutages => kit_is)
    (case xk_InvalidTime_InvalidOutages => kit_is)
    (case xk_InvalidLog_InvalidIndex => kit_is)
    (case xk_InvalidRow_InvalidIndex => kit_is)
    (case xk_InvalidTime_InvalidIndex => kit_is)
    (case xk_InvalidLog_InvalidBound => kit_is)
    (case xk_InvalidRow_InvalidBound => kit_is)
    (case xk_InvalidTime_InvalidBound => kit_is)
    (case xk_InvalidLog_InvalidLog => kit_is)
    (case xk_InvalidRow_InvalidLog => kit_is)
    (case xk_InvalidTime_InvalidLog => kit_is)
    (case xt_InvalidLog__InvalidTrains_InvalidCall_InvalidText_LimitExceeded => kit_is)
    (case xt_InvalidRow__InvalidTrains_InvalidCall_InvalidText_LimitExceeded => kit_is)
    (case xt_InvalidTime__InvalidTrains_InvalidCall_InvalidText_LimitExceeded => kit_is)
    (case xk_InvalidLog_ArithmeticError => kit_is)
    (case xk_InvalidRow_ArithmeticError => kit_is)
    (case xk_InvalidTime_ArithmeticError => kit_is)
    (case xn_InvalidRow_part => k_is)
    (case xn_InvalidLog_at => k_is)
    (case xn_InvalidRow_at => k_is)
    (case xn_InvalidTime_time => k_is)
    (case xm_InvalidLog_BreakerError => kernel_rfl)
    (case xm_InvalidRow_BreakerError => kernel_rfl)
    (case xm_InvalidTime_BreakerError => kernel_rfl)
    (case qin15 => kx_is)
    (case qov15 => kx_is)
    (case qsa15 => k_is)
    (case qty15 => k_is)
    (case qkc15 => k_is)
    (case qtg8 => k_is)
    (case qrd8 => k_is)
    (case qat8 => k_is)
    (case tx_InvalidLog_at => k_is)
    (case qin10 => kx_is)
    (case qov10 => kx_is)
    (case qsa10 => k_is)
    (case qty10 => k_is)
    (case qkc10 => k_is)
    (case tx_InvalidTime_time => k_is)
    (case qin9 => kx_is)
    (case qov9 => kx_is)
    (case qsa9 => k_is)
    (case qty9 => k_is)
    (case qkc9 => k_is)
    (case tx_InvalidRow_part => k_is)
    (case tx_InvalidRow_at => k_is)
