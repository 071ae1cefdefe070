import PyProof.Rows.All
import Wide.All
import OpenK.AllK
import Wide.FinOn
import HandS.ForMost
import HandS.Wide
import HandS.Style
import HandS.Flow
import HandS.Zip
import HandS.EndBits
import HandS.IsInst
import HandS.Lambda
import HandS.EndTab
import KE.LtData
import HandS.TupLe
import PyProof.NeKinds
import PyProof.FactsAll.dict_2
import PyProof.FactsAll.subtypes_4
import KE.KEqDict
import HandS.OwnEq
import PyProof.InstNe
import HandS.MakeKwOnly
import HandS.SortRule
import HandS.Conv
import HandS.SortKw
import HandS.SetFor
import KE.DataMinMax
import PyProof.Rows.CountFlat
import KE.DataFind
import KE.DatumOrd
import HandS.Dict
import KE.KDictPairs
import KE.SortData
import HandS.WordsExc
import HandS.TryMany
import HandS.ExcInit
import KE.KExcInit
import KE.KExcIs
import HandS.ExcField
import KE.KNest
import KE.KNestM
import HandS.SortInts
import HandS.Comp
import PyProof.ReprRoads
import HandS.ExcOwn
import KE.OsRunLaw
import PySem.Challenge.RW_breakerrow_k01_periods_by_sending_reques
set_option exponentiation.threshold 100000
set_option Elab.async false
set_option linter.all false
set_option maxRecDepth 100000
set_option maxHeartbeats 4000000
section
open PySem PySem.W PyProof.Rows
local macro_rules | `(tactic| k_head) => `(tactic| k_headL)
set_option maxHeartbeats 0 in
open_top L_top for PySem.Challenge.rw_breakerrow_k01_periods_by_sending_reques
end
namespace DV
open PySem L2

/-- data: what a Python value says, with its heap read off -/
inductive D where
  | non | bl (b : Bool) | int (i : Int) | str (x : Str) | lst (xs : List D) | tup (xs : List D) | obj (c : Nat) (ks : List Str) (ds : List D) | scr (ns : List Int) | dct | dic (ks : List Int) (ds : List D) | exc (c : Nat) (ks : List Str) (ds : List D) | err (c : Nat) (ks : List Str) (ds : List D) | ref (k : Nat)

/-- what is static of a text behind its top -/
structure Gx where
  K : PySem.W.Frag
  cl : Nat → Addr
  T : List (Addr × Str)
  ea : Option (Nat × Addr × Addr)
  A : List Addr
/-- no table of code objects -/
def nT (o : HO) : Prop := ∀ ps, o ≠ .tbl ps

/-- a dict's keys and values -/
def dkV (ks : List Int) (vs : List V) : List (Key × V) := (ks.zip vs).map fun p => (.inl p.1, p.2)
/-! ### what stands for a datum -/
mutual
def Rep (g : Gx) (Av : Addr → Prop) (H : Hp) : D → V → Prop
  | .non, v => v = .non
  | .bl b, v => v = .bl b
  | .int i, v => v = .int i
  | .str x, v => v = .str x
  | .lst ds, v => ∃ a vs, v = .ref a ∧ ¬ Av a ∧ H a = some (.lst vs) ∧ Reps g Av H ds vs
  | .scr ns, v => ∃ a, v = .ref a ∧ ¬ Av a ∧ SqL g.K H a (ns.map V.int)
  | .tup ds, v => ∃ a vs, v = .ref a ∧ ¬ Av a ∧ SqT g.K H a vs ∧ Reps g Av H ds vs
  | .obj c ks ds, v => ∃ a dx vs, v = .ref a ∧ ¬ Av a ∧ ks.length = vs.length ∧ H a = some (.ins (g.cl c) dx (ks.zip vs)) ∧ Reps g Av H ds vs
  | .dct, v => ∃ a, v = .ref a ∧ ¬ Av a ∧ H a = some (.dK [])
  | .dic ks ds, v => ∃ a vs, v = .ref a ∧ ¬ Av a ∧ ks.length = vs.length ∧ H a = some (.dK (dkV ks vs)) ∧ Reps g Av H ds vs
  | .exc _ ks ds, v => ∃ a vs, v = .ref a ∧ ¬ Av a ∧ ks.length = vs.length ∧ H a = some (.xd (ks.zip vs).reverse) ∧ Reps g Av H ds vs
  | .err c ks ds, v => ∃ e a vs, g.ea = some (c, e, a) ∧ v = .ref e ∧ ¬ Av a ∧ ks.length = vs.length ∧ H a = some (.xd (ks.zip vs).reverse) ∧ Reps g Av H ds vs
  | .ref k, v => ∃ a, g.A[k]? = some a ∧ v = .ref a
def Reps (g : Gx) (Av : Addr → Prop) (H : Hp) : List D → List V → Prop
  | [], vs => vs = []
  | d :: ds, vs => ∃ v r, vs = v :: r ∧ Rep g Av H d v ∧ Reps g Av H ds r
end


section
variable {g : Gx} {Av Av' : Addr → Prop} {H H' : Hp}
theorem sqL_mono {a : Addr} {vs : List V} (h : SqL g.K H a vs) (k : ∀ o, H a = some o → nT o → H' a = some o) : SqL g.K H' a vs := by
  rcases h with (h | ⟨o, h⟩) | h
  · exact .inl (.inl (k _ h nofun))
  · exact .inl (.inr ⟨o, k _ h nofun⟩)
  · exact .inr h
theorem sqT_mono {a : Addr} {vs : List V} (h : SqT g.K H a vs) (k : ∀ o, H a = some o → nT o → H' a = some o) : SqT g.K H' a vs := by
  rcases h with (h | ⟨o, h⟩) | h
  · exact .inl (.inl (k _ h nofun))
  · exact .inl (.inr ⟨o, k _ h nofun⟩)
  · exact .inr h
theorem sqL_at {a : Addr} {vs : List V} (h : SqL g.K H a vs) : (∃ o, H a = some o ∧ nT o) ∨ ∃ o, g.K.lookup a = some o := by
  rcases h with (h | ⟨o, h⟩) | ⟨o, _, _, h, _⟩
  · exact .inl ⟨_, h, nofun⟩
  · exact .inl ⟨_, h, nofun⟩
  · exact .inr ⟨_, h⟩
theorem sqT_at {a : Addr} {vs : List V} (h : SqT g.K H a vs) : (∃ o, H a = some o ∧ nT o) ∨ ∃ o, g.K.lookup a = some o := by
  rcases h with (h | ⟨o, h⟩) | ⟨o, _, _, h, _⟩
  · exact .inl ⟨_, h, nofun⟩
  · exact .inl ⟨_, h, nofun⟩
  · exact .inr ⟨_, h⟩
/-- a visited address: one that may not change, and stands in H or in the written part -/
abbrev Vst (g : Gx) (Av : Addr → Prop) (H : Hp) (a : Addr) : Prop := ¬ Av a ∧ ((∃ o, H a = some o ∧ nT o) ∨ ∃ o, g.K.lookup a = some o)
mutual
theorem rep_mono (k : ∀ a, Vst g Av H a → (∀ o, H a = some o → nT o → H' a = some o) ∧ ¬ Av' a) : ∀ (d : D) (v : V), Rep g Av H d v → Rep g Av' H' d v
  | .non, _, h => by simpa [Rep] using h
  | .bl _, _, h => by simpa [Rep] using h
  | .int _, _, h => by simpa [Rep] using h
  | .str _, _, h => by simpa [Rep] using h
  | .lst ds, v, h => by
    simp only [Rep] at h ⊢
    obtain ⟨a, vs, e, n, s, r⟩ := h
    have q := k a ⟨n, .inl ⟨_, s, nofun⟩⟩
    exact ⟨a, vs, e, q.2, q.1 _ s nofun, reps_mono k ds vs r⟩
  | .scr ns, v, h => by
    simp only [Rep] at h ⊢
    obtain ⟨a, e, n, s⟩ := h
    have q := k a ⟨n, sqL_at s⟩
    exact ⟨a, e, q.2, sqL_mono s q.1⟩
  | .tup ds, v, h => by
    simp only [Rep] at h ⊢
    obtain ⟨a, vs, e, n, s, r⟩ := h
    have q := k a ⟨n, sqT_at s⟩
    exact ⟨a, vs, e, q.2, sqT_mono s q.1, reps_mono k ds vs r⟩
  | .obj c ks ds, v, h => by
    simp only [Rep] at h ⊢
    obtain ⟨a, dx, vs, e, n, l, s, r⟩ := h
    have q := k a ⟨n, .inl ⟨_, s, nofun⟩⟩
    exact ⟨a, dx, vs, e, q.2, l, q.1 _ s nofun, reps_mono k ds vs r⟩
  | .dct, v, h => by
    simp only [Rep] at h ⊢
    obtain ⟨a, e, n, s⟩ := h
    have q := k a ⟨n, .inl ⟨_, s, nofun⟩⟩
    exact ⟨a, e, q.2, q.1 _ s nofun⟩
  | .dic ks ds, v, h => by
    simp only [Rep] at h ⊢
    obtain ⟨a, vs, e, n, l, s, r⟩ := h
    have q := k a ⟨n, .inl ⟨_, s, nofun⟩⟩
    exact ⟨a, vs, e, q.2, l, q.1 _ s nofun, reps_mono k ds vs r⟩
  | .exc c ks ds, v, h => by
    simp only [Rep] at h ⊢
    obtain ⟨a, vs, e, n, l, s, r⟩ := h
    have q := k a ⟨n, .inl ⟨_, s, nofun⟩⟩
    exact ⟨a, vs, e, q.2, l, q.1 _ s nofun, reps_mono k ds vs r⟩
  | .err c ks ds, v, h => by
    simp only [Rep] at h ⊢
    obtain ⟨e0, a, vs, e1, e, n, l, s, r⟩ := h
    have q := k a ⟨n, .inl ⟨_, s, nofun⟩⟩
    exact ⟨e0, a, vs, e1, e, q.2, l, q.1 _ s nofun, reps_mono k ds vs r⟩
  | .ref k, v, h => by
    simp only [Rep] at h ⊢
    exact h
theorem reps_mono (k : ∀ a, Vst g Av H a → (∀ o, H a = some o → nT o → H' a = some o) ∧ ¬ Av' a) : ∀ (ds : List D) (vs : List V), Reps g Av H ds vs → Reps g Av' H' ds vs
  | [], _, h => by simpa [Reps] using h
  | d :: ds, _, h => by
    simp only [Reps] at h ⊢
    obtain ⟨v, r, e, h1, h2⟩ := h
    exact ⟨v, r, e, rep_mono k d v h1, reps_mono k ds r h2⟩
end
theorem Reps.len : ∀ {ds : List D} {vs : List V}, Reps g Av H ds vs → ds.length = vs.length
  | [], _, h => by simp only [Reps] at h; subst h; rfl
  | d :: ds, _, h => by
    simp only [Reps] at h
    obtain ⟨v, r, rfl, _, h2⟩ := h
    rw [List.length_cons, List.length_cons, Reps.len h2]
theorem Reps.get : ∀ {ds : List D} {vs : List V} {i : Nat} {d : D}, Reps g Av H ds vs → ds[i]? = some d → ∃ v, vs[i]? = some v ∧ Rep g Av H d v
  | [], _, i, d, _, e => by simp at e
  | x :: ds, _, 0, d, h, e => by
    simp only [Reps] at h
    obtain ⟨v, r, rfl, h1, _⟩ := h
    simp at e; subst e
    exact ⟨v, rfl, h1⟩
  | x :: ds, _, i + 1, d, h, e => by
    simp only [Reps] at h
    obtain ⟨v, r, rfl, _, h2⟩ := h
    exact Reps.get (i := i) h2 (by simpa using e)
theorem Reps.app : ∀ {ds es : List D} {vs ws : List V}, Reps g Av H ds vs → Reps g Av H es ws → Reps g Av H (ds ++ es) (vs ++ ws)
  | [], _, _, _, h, q => by simp only [Reps] at h; subst h; exact q
  | d :: ds, _, _, _, h, q => by
    simp only [Reps] at h
    obtain ⟨v, r, rfl, h1, h2⟩ := h
    simp only [List.cons_append, Reps]
    exact ⟨v, _, rfl, h1, Reps.app h2 q⟩
theorem Reps.take : ∀ {ds : List D} {vs : List V} (n : Nat), Reps g Av H ds vs → Reps g Av H (ds.take n) (vs.take n)
  | _, _, 0, _ => by simp [Reps]
  | [], _, n + 1, h => by simp only [Reps] at h; subst h; simp [Reps]
  | d :: ds, _, n + 1, h => by
    simp only [Reps] at h
    obtain ⟨v, r, rfl, h1, h2⟩ := h
    simp only [List.take_succ_cons, Reps]
    exact ⟨v, _, rfl, h1, Reps.take n h2⟩
theorem Reps.drop : ∀ {ds : List D} {vs : List V} (n : Nat), Reps g Av H ds vs → Reps g Av H (ds.drop n) (vs.drop n)
  | _, _, 0, h => h
  | [], _, n + 1, h => by simp only [Reps] at h; subst h; simp [Reps]
  | d :: ds, _, n + 1, h => by
    simp only [Reps] at h
    obtain ⟨v, r, rfl, h1, h2⟩ := h
    simpa using Reps.drop n h2
theorem Reps.set {d : D} {v : V} (q : Rep g Av H d v) : ∀ {ds : List D} {vs : List V} (n : Nat), Reps g Av H ds vs → Reps g Av H (ds.set n d) (vs.set n v)
  | [], _, n, h => by simp only [Reps] at h; subst h; simp [Reps]
  | x :: ds, _, 0, h => by
    simp only [Reps] at h
    obtain ⟨w, r, rfl, h1, h2⟩ := h
    simp only [List.set_cons_zero, Reps]
    exact ⟨v, _, rfl, q, h2⟩
  | x :: ds, _, n + 1, h => by
    simp only [Reps] at h
    obtain ⟨w, r, rfl, h1, h2⟩ := h
    simp only [List.set_cons_succ, Reps]
    exact ⟨w, _, rfl, h1, Reps.set q n h2⟩
theorem Reps.one {d : D} {v : V} (q : Rep g Av H d v) : Reps g Av H [d] [v] := by
  simp only [Reps]
  exact ⟨v, [], rfl, q, rfl⟩
theorem Reps.rev : ∀ {ds : List D} {vs : List V}, Reps g Av H ds vs → Reps g Av H ds.reverse vs.reverse
  | [], _, h => by simp only [Reps] at h; subst h; simp [Reps]
  | d :: ds, _, h => by
    simp only [Reps] at h
    obtain ⟨v, r, rfl, h1, h2⟩ := h
    rw [List.reverse_cons, List.reverse_cons]
    exact Reps.app (Reps.rev h2) (Reps.one h1)
theorem Reps.repl {ds : List D} {vs : List V} (h : Reps g Av H ds vs) : ∀ n : Nat, Reps g Av H (List.replicate n ds).flatten (List.replicate n vs).flatten
  | 0 => by simp [Reps]
  | n + 1 => by
    rw [List.replicate_succ, List.replicate_succ, List.flatten_cons, List.flatten_cons]
    exact Reps.app h (Reps.repl h n)
end

/-! ### the frame: slots with data, some of them owned -/
abbrev Sl := Option (D × Bool)
abbrev Ct := List Sl
def Av (Bn : Addr → Prop) (Ow : List Addr) : Addr → Prop := fun a => Bn a ∨ a ∈ Ow
/-- the object at a is the owned datum d -/
def OwnA (g : Gx) (A : Addr → Prop) (H : Hp) (d : D) (a : Addr) : Prop :=
  match d with
  | .lst ds => ∃ vs, H a = some (.lst vs) ∧ Reps g A H ds vs
  | .obj c ks ds => ∃ dx vs, ks.length = vs.length ∧ H a = some (.ins (g.cl c) dx (ks.zip vs)) ∧ Reps g A H ds vs
  | _ => False
/-- a list or an object -/
def LI (H : Hp) (a : Addr) : Prop := (∃ vs, H a = some (.lst vs)) ∨ ∃ C dx fl, H a = some (.ins C dx fl)
theorem LI.ne {H : Hp} {a : Addr} (h : LI H a) : H a ≠ none := by
  rcases h with ⟨vs, e⟩ | ⟨C, dx, fl, e⟩ <;> rw [e] <;> nofun
theorem LI.same {H H' : Hp} {a : Addr} (h : LI H a) (s : Same H H') : LI H' a := by
  rcases h with ⟨vs, e⟩ | ⟨C, dx, fl, e⟩
  · exact .inl ⟨vs, s _ _ e⟩
  · exact .inr ⟨C, dx, fl, s _ _ e⟩
theorem LI.upd {H : Hp} {a b : Addr} {o : HO} (h : LI H a) (k : a = b → LI (upd H b o) b) : LI (L2.upd H b o) a := by
  by_cases e : a = b
  · rw [e]; exact k e
  · rcases h with ⟨vs, q⟩ | ⟨C, dx, fl, q⟩
    · exact .inl ⟨vs, by rw [upd_ne e]; exact q⟩
    · exact .inr ⟨C, dx, fl, by rw [upd_ne e]; exact q⟩
abbrev Tb (T : List (Addr × Str)) (H : Hp) : Prop := LamX.Tabs T H
theorem Tb.upd {T : List (Addr × Str)} {H : Hp} {p : Addr} {o : HO} (t : Tb T H) (h : LI H p) : Tb T (L2.upd H p o) := by
  intro q hq
  obtain ⟨ps, e1, e2, e3⟩ := t q hq
  have n1 : q.1 ≠ p := fun z => by
    rw [z] at e1
    rcases h with ⟨vs, e⟩ | ⟨C, dx, fl, e⟩ <;> (rw [e] at e1; cases e1)
  refine ⟨ps, by rw [upd_ne n1]; exact e1, e2, fun pos cv hc => ?_⟩
  obtain ⟨c, f1, f2⟩ := e3 pos cv hc
  refine ⟨c, f1, ?_⟩
  have n2 : c ≠ p := fun z => by
    rw [z] at f2
    unfold LamX.CodeO at f2
    rcases h with ⟨vs, e⟩ | ⟨C, dx, fl, e⟩ <;> (rw [e] at f2; cases f2)
  rw [upd_ne n2]
  exact f2
structure RS (g : Gx) (Bn : Addr → Prop) (Ow : List Addr) (H : Hp) (σ : St) (Γ : Ct) : Prop where
  len : σ.length = Γ.length
  slot : ∀ (i : Nat) d, Γ[i]? = some (some (d, false)) → ∃ v, σ[i]? = some (some v) ∧ Rep g (Av Bn Ow) H d v
  own : ∀ (i : Nat) d, Γ[i]? = some (some (d, true)) → ∃ a, σ[i]? = some (some (.ref a)) ∧ a ∈ Ow ∧ OwnA g (Av Bn Ow) H d a
  dist : ∀ (i j : Nat) d e a, Γ[i]? = some (some (d, true)) → Γ[j]? = some (some (e, true)) → σ[i]? = some (some (.ref a)) → σ[j]? = some (some (.ref a)) → i = j
  trl : ∀ a, Av Bn Ow a → LI H a
  sep : ∀ a, Bn a → a ∉ Ow
  kf : ∀ a, Av Bn Ow a → g.K.lookup a = none
  tabs : Tb g.T H
theorem RS.trk {g : Gx} {Bn : Addr → Prop} {Ow : List Addr} {H : Hp} {σ : St} {Γ : Ct} (r : RS g Bn Ow H σ Γ) (a : Addr) (h : Av Bn Ow a) : H a ≠ none := (r.trl a h).ne
/-- nothing stands there, or a table -/
def Nw (H : Hp) (a : Addr) : Prop := ∀ o, H a = some o → ¬ nT o
theorem nw_none {H : Hp} {a : Addr} (h : H a = none) : Nw H a := fun o e => by rw [h] at e; cases e
theorem LI.nw {H : Hp} {a : Addr} (h : LI H a) (n : Nw H a) : False := by
  rcases h with ⟨vs, e⟩ | ⟨C, dx, fl, e⟩
  · exact n _ e nofun
  · exact n _ e nofun
theorem RS.trn {g : Gx} {Bn : Addr → Prop} {Ow : List Addr} {H : Hp} {σ : St} {Γ : Ct} (r : RS g Bn Ow H σ Γ) (a : Addr) (h : Av Bn Ow a) (n : Nw H a) : False := (r.trl a h).nw n
/-- a step of the frame -/
structure Stp (Ow : List Addr) (H : Hp) (Ow' : List Addr) (H' : Hp) : Prop where
  keep0 : ∀ a o, H a = some o → nT o → a ∉ Ow → H' a = some o
  grow : ∀ a, a ∈ Ow' → a ∈ Ow ∨ Nw H a
theorem Stp.keep {Ow : List Addr} {H : Hp} {Ow' : List Addr} {H' : Hp} (s : Stp Ow H Ow' H') (a : Addr) (o : HO) (h : H a = some o) (n : a ∉ Ow) (t : nT o := by exact nofun) : H' a = some o := s.keep0 a o h t n
theorem Stp.refl (Ow : List Addr) (H : Hp) : Stp Ow H Ow H := ⟨fun _ _ h _ _ => h, fun _ h => .inl h⟩
theorem Stp.trans {O1 O2 O3 : List Addr} {H1 H2 H3 : Hp} (a : Stp O1 H1 O2 H2) (b : Stp O2 H2 O3 H3) : Stp O1 H1 O3 H3 where
  keep0 := fun x o h t n => b.keep0 x o (a.keep0 x o h t n) t fun z => by
    rcases a.grow x z with q | q
    · exact n q
    · exact q o h t
  grow := fun x h => by
    rcases b.grow x h with q | q
    · exact a.grow x q
    · by_cases m : x ∈ O1
      · exact .inl m
      · exact .inr fun o e t => q o (a.keep0 x o e t m) t
section
variable {g : Gx} {Bn : Addr → Prop} {Ow Ow' : List Addr} {H H' : Hp} {σ : St} {Γ Γ' : Ct}
/-- what may be carried over a step -/
theorem step_vst (s : Stp Ow H Ow' H') (kf : ∀ a, a ∈ Ow' → g.K.lookup a = none) : ∀ a, Vst g (Av Bn Ow) H a → (∀ o, H a = some o → nT o → H' a = some o) ∧ ¬ Av Bn Ow' a := fun a ⟨n, t⟩ => by
  have n1 : ¬ Bn a := fun z => n (.inl z)
  have n2 : a ∉ Ow := fun z => n (.inr z)
  refine ⟨fun o h t => s.keep0 a o h t n2, fun z => ?_⟩
  rcases z with z | z
  · exact n1 z
  · rcases t with ⟨o, t, nt⟩ | ⟨o, t⟩
    · rcases s.grow a z with q | q
      · exact n2 q
      · exact q o t nt
    · rw [kf a z] at t; cases t
theorem Rep.step {d : D} {v : V} (h : Rep g (Av Bn Ow) H d v) (s : Stp Ow H Ow' H') (r : RS g Bn Ow' H' σ Γ) : Rep g (Av Bn Ow') H' d v :=
  rep_mono (step_vst s fun a h => r.kf a (.inr h)) d v h
theorem Reps.step {d : List D} {v : List V} (h : Reps g (Av Bn Ow) H d v) (s : Stp Ow H Ow' H') (r : RS g Bn Ow' H' σ Γ) : Reps g (Av Bn Ow') H' d v :=
  reps_mono (step_vst s fun a h => r.kf a (.inr h)) d v h
/-- the heap has grown, nothing else -/
theorem same_vst {A : Addr → Prop} (s : Same H H') : ∀ a, Vst g A H a → (∀ o, H a = some o → nT o → H' a = some o) ∧ ¬ A a := fun a ⟨n, _⟩ => ⟨fun o h _ => s a o h, n⟩
theorem Rep.same {A : Addr → Prop} {d : D} {v : V} (h : Rep g A H d v) (s : Same H H') : Rep g A H' d v := rep_mono (same_vst s) d v h
theorem Reps.same {A : Addr → Prop} {d : List D} {v : List V} (h : Reps g A H d v) (s : Same H H') : Reps g A H' d v := reps_mono (same_vst s) d v h
theorem OwnA.same {A : Addr → Prop} {d : D} {a : Addr} (h : OwnA g A H d a) (s : Same H H') : OwnA g A H' d a := by
  cases d with
  | lst ds => obtain ⟨vs, e, r⟩ := h; exact ⟨vs, s _ _ e, r.same s⟩
  | obj c ks ds => obtain ⟨dx, vs, l, e, r⟩ := h; exact ⟨dx, vs, l, s _ _ e, r.same s⟩
  | _ => exact h
theorem RS.same (r : RS g Bn Ow H σ Γ) (s : Same H H') : RS g Bn Ow H' σ Γ where
  len := r.len
  slot := fun i d h => let ⟨v, e, q⟩ := r.slot i d h; ⟨v, e, q.same s⟩
  own := fun i d h => let ⟨a, e, m, q⟩ := r.own i d h; ⟨a, e, m, q.same s⟩
  dist := r.dist
  trl := fun a h => (r.trl a h).same s
  sep := r.sep
  kf := r.kf
  tabs := fun p hp => (r.tabs p hp).ext s
theorem Stp.same (s : Same H H') : Stp Ow H Ow H' := ⟨fun a o h _ _ => s a o h, fun _ h => .inl h⟩
/-- less is avoided -/
theorem rep_less {A A' : Addr → Prop} (k : ∀ a, A' a → A a) {d : D} {v : V} (h : Rep g A H d v) : Rep g A' H d v := rep_mono (fun a ⟨n, _⟩ => ⟨fun _ e _ => e, fun z => n (k a z)⟩) d v h
theorem reps_less {A A' : Addr → Prop} (k : ∀ a, A' a → A a) {d : List D} {v : List V} (h : Reps g A H d v) : Reps g A' H d v := reps_mono (fun a ⟨n, _⟩ => ⟨fun _ e _ => e, fun z => n (k a z)⟩) d v h
theorem own_less {A A' : Addr → Prop} (k : ∀ a, A' a → A a) {d : D} {a : Addr} (h : OwnA g A H d a) : OwnA g A' H d a := by
  cases d with
  | lst ds => obtain ⟨vs, e, r⟩ := h; exact ⟨vs, e, reps_less k r⟩
  | obj c ks ds => obtain ⟨dx, vs, l, e, r⟩ := h; exact ⟨dx, vs, l, e, reps_less k r⟩
  | _ => exact h
/-- an owned object becomes a plain one -/
theorem OwnA.rep {A : Addr → Prop} {d : D} {a : Addr} (h : OwnA g A H d a) (n : ¬ A a) : Rep g A H d (.ref a) := by
  cases d with
  | lst ds => obtain ⟨vs, e, r⟩ := h; simp only [Rep]; exact ⟨a, vs, rfl, n, e, r⟩
  | obj c ks ds => obtain ⟨dx, vs, l, e, r⟩ := h; simp only [Rep]; exact ⟨a, dx, vs, rfl, n, l, e, r⟩
  | _ => exact h.elim
end
end DV

namespace DV
open PySem L2

/-! ### data: equality, truth, operations -/
mutual
def eqd : D → D → Bool
  | .non, .non => true
  | .bl a, .bl b => a == b
  | .bl a, .int j => (if a then 1 else 0) == j
  | .int i, .bl b => i == (if b then 1 else 0)
  | .int i, .int j => i == j
  | .str x, .str y => x == y
  | .lst xs, .lst ys => eqds xs ys
  | .tup xs, .tup ys => eqds xs ys
  | _, _ => false
def eqds : List D → List D → Bool
  | [], [] => true
  | x :: xs, y :: ys => eqd x y && eqds xs ys
  | _, _ => false
end
/-- plain data of a depth below n -/
def okB : Nat → D → Bool
  | _, .non => true
  | _, .bl _ => true
  | _, .int _ => true
  | _, .str x => PyData.strOk x
  | n + 1, .lst ds => ds.all (okB n)
  | n + 1, .tup ds => ds.all (okB n)
  | _, _ => false
def flatD : D → Bool
  | .non => true
  | .bl _ => true
  | .int _ => true
  | .str _ => true
  | _ => false
def truthD : D → Option Bool
  | .non => some false
  | .bl b => some b
  | .int i => some (i != 0)
  | .str x => if x.length ≤ sizeLine then some ((x.length : Int) != 0) else none
  | .lst ds => some (!ds.isEmpty)
  | .tup ds => some (!ds.isEmpty)
  | .obj _ _ _ => none
  | .scr ns => some (!ns.isEmpty)
  | .dct => none
  | .dic _ _ => none
  | .exc _ _ _ => none
  | .err _ _ _ => none
  | .ref _ => none

inductive RV where
  | fz (d : D) | nw (d : D) | sl (i : Nat)
inductive BOp where
  | add | sub | mul | fdiv | mod | pow
  deriving DecidableEq
inductive COp where
  | eq | ne | lt | le | gt | ge | is | isnot | inn | notin
  deriving DecidableEq
inductive OOp where
  | eq | ne | inn | notin | ix | add
  deriving DecidableEq
inductive Ty where
  | int | bool | str | list | tuple
  deriving DecidableEq
inductive Bi where
  | len | int1 | max2 | min2 | maxl | minl | suml | list | tuple | alll | anyl | isi (t : Ty) | abs | sortp | minp | min2p | sortt | dictp | sorti | mint | rpr
  deriving DecidableEq
inductive IK where
  | seq | enum | zip | rng
  deriving DecidableEq
inductive Tg where
  | nm (i : Nat) | tp (ts : List Tg)

def tgIx : Tg → List Nat
  | .nm i => [i]
  | .tp ts => tgIxs ts
where tgIxs : List Tg → List Nat
  | [] => []
  | t :: ts => tgIx t ++ tgIxs ts
def mulOk (i j : Int) : Bool := decide (-(2 ^ 64) < i ∧ i < 2 ^ 64) || decide (-(2 ^ 64) < j ∧ j < 2 ^ 64) || decide (i.natAbs.log2 + j.natAbs.log2 < 1000000)
@[irreducible] def in1k (i : Int) : Bool := decide (i.natAbs < 2 ^ 1000)
def binD : BOp → D → D → Option RV
  | .add, .int a, .int b => some (.fz (.int (a + b)))
  | .add, .str a, .str b => if a.length + b.length ≤ sizeLine then some (.fz (.str (a ++ b))) else none
  | .add, .lst a, .lst b => if a.length + b.length ≤ sizeLine then some (.nw (.lst (a ++ b))) else none
  | .add, .tup a, .tup b => if a.length + b.length ≤ sizeLine ∧ a ≠ [] then some (.fz (.tup (a ++ b))) else none
  | .sub, .int a, .int b => some (.fz (.int (a - b)))
  | .mul, .int a, .int b => if mulOk a b then some (.fz (.int (a * b))) else none
  | .mul, .lst a, .int k => if -(2 ^ 63) ≤ k ∧ k < 2 ^ 63 ∧ a.length * k.toNat ≤ sizeLine then some (.nw (.lst (List.replicate k.toNat a).flatten)) else none
  | .fdiv, .int a, .int b => if 0 < b ∧ b.natAbs.log2 < 9000 then some (.fz (.int (a / b))) else none
  | .mod, .int a, .int b => if 0 < b then some (.fz (.int (a % b))) else none
  | .pow, .int a, .int b => if 0 ≤ b ∧ b ≤ 1000000 ∧ a.natAbs < 2 ^ 64 then some (.fz (.int (a ^ b.toNat))) else if 0 ≤ b ∧ b ≤ 1000 ∧ in1k a = true then some (.fz (.int (a ^ b.toNat))) else none
  | _, _, _ => none
def isNonD : D → Bool
  | .non => true
  | _ => false
/-- lists of other lengths -/
def lenNe : D → D → Bool
  | .lst a, .lst b => decide (a.length ≠ b.length)
  | _, _ => false
/-- two texts -/
def strEq : D → D → Option Bool
  | .str x, .str y => some (x == y)
  | _, _ => none
/-- an empty dict and a tuple -/
def dtNe : D → D → Bool
  | .dct, .tup _ => true
  | _, _ => false
/-- (a, b) > (c, d) -/
def pGt (a b c d : Int) : Bool := decide (c < a ∨ (a = c ∧ d < b))
def tupGt : List D → List D → Option Bool
  | [.int a, .int b], [.int c, .int d] => some (pGt a b c d)
  | _, _ => none
def cmpD : COp → D → D → Option Bool
  | .eq, a, b => if okB 12 a && okB 12 b then some (eqd a b) else if lenNe a b then some false else strEq a b
  | .ne, a, b => if okB 12 a && okB 12 b then some (!eqd a b) else if lenNe a b then some true else if dtNe a b then some true else none
  | .lt, .int a, .int b => some (decide (a < b))
  | .le, .int a, .int b => some (decide (a ≤ b))
  | .gt, .int a, .int b => some (decide (b < a))
  | .ge, .int a, .int b => some (decide (b ≤ a))
  | .is, a, .non => some (isNonD a)
  | .isnot, a, .non => some (!isNonD a)
  | .inn, a, .lst b => if flatD a && b.all flatD then some (b.any fun y => eqd y a) else none
  | .inn, a, .tup b => if flatD a && b.all flatD then some (b.any fun y => eqd y a) else none
  | .notin, a, .lst b => if flatD a && b.all flatD then some (!(b.any fun y => eqd y a)) else none
  | .notin, a, .tup b => if flatD a && b.all flatD then some (!(b.any fun y => eqd y a)) else none
  | .gt, .tup xs, .tup ys => tupGt xs ys
  | .is, .bl a, .bl b => some (a == b)
  | .isnot, .bl a, .bl b => some (!(a == b))
  | _, _, _ => none
def ixD : D → D → Option D
  | .lst xs, .int i => atI xs i
  | .tup xs, .int i => atI xs i
  | .scr ns, .int i => (atI ns i).map D.int
  | .str z, .int i => if z.length ≤ sizeLine then (atI z.cps.toList i).map fun c => .str ⟨#[c]⟩ else none
  | _, _ => none
def cutD (xs : List D) (lo hi : Option Int) : List D := (xs.drop (HT.sIx xs.length 0 lo)).take (HT.sIx xs.length xs.length hi - HT.sIx xs.length 0 lo)
def slcD : D → Option Int → Option Int → Option RV
  | .lst xs, lo, hi => some (.nw (.lst (cutD xs lo hi)))
  | .scr ns, lo, hi => some (.nw (.lst (cutD (ns.map D.int) lo hi)))
  | .tup xs, lo, hi => if HT.sIx xs.length 0 lo = 0 ∧ HT.sIx xs.length xs.length hi = xs.length then none else some (.fz (.tup (cutD xs lo hi)))
  | _, _, _ => none
def shallow : D → Bool
  | .obj _ _ _ => false
  | .exc _ _ _ => false
  | .err _ _ _ => false
  | .scr _ => false
  | .ref _ => false
  | _ => true
def isiD : Ty → D → Bool
  | .int, .int _ => true
  | .int, .bl _ => true
  | .bool, .bl _ => true
  | .str, .str _ => true
  | .list, .lst _ => true
  | .tuple, .tup _ => true
  | _, _ => false
/-- the ints of a list of ints -/
def intsD : List D → Option (List Int)
  | [] => some []
  | .int i :: r => (intsD r).map (i :: ·)
  | _ :: _ => none
def blsD : List D → Option (List Bool)
  | [] => some []
  | .bl i :: r => (blsD r).map (i :: ·)
  | _ :: _ => none
def maxI : List Int → Option Int
  | [] => none
  | x :: r => some (r.foldl (fun a b => if a < b then b else a) x)
def minI : List Int → Option Int
  | [] => none
  | x :: r => some (r.foldl (fun a b => if b < a then b else a) x)
/-- pairs of ints -/
def pairsD : List D → Option (List (Int × Int))
  | [] => some []
  | .tup [.int i, .int j] :: r => (pairsD r).map ((i, j) :: ·)
  | _ :: _ => none
def pLe (p q : Int × Int) : Bool := decide (p.1 < q.1 ∨ (p.1 = q.1 ∧ p.2 ≤ q.2))
def pLt (p q : Int × Int) : Bool := decide (p.1 < q.1 ∨ (p.1 = q.1 ∧ p.2 < q.2))
def minP : List (Int × Int) → Option (Int × Int)
  | [] => none
  | p :: ps => some (ps.foldl (fun a y => if pLt y a then y else a) p)
def insP (p : Int × Int) : List (Int × Int) → List (Int × Int)
  | [] => [p]
  | q :: r => if pLe p q then p :: q :: r else q :: insP p r
def sortP : List (Int × Int) → List (Int × Int)
  | [] => []
  | p :: r => insP p (sortP r)
def sortD : D → Option D
  | .lst xs => (pairsD xs).map fun ps => .lst ((sortP ps).map fun p => .tup [.int p.1, .int p.2])
  | _ => none
/-- a dict of pairs, the first ones different ints -/
def dctpD : List D → Option (List Int × List D)
  | [] => some ([], [])
  | .tup [.int k, d] :: r => (dctpD r).bind fun (ks, ds) => if ks.contains k then none else some (k :: ks, d :: ds)
  | _ => none
/-- triples of ints, the first ones ascending -/
def ascT : List D → Bool
  | [] => true
  | [.tup [.int _, .int _, .int _]] => true
  | .tup [.int a, .int _, .int _] :: .tup [.int b, .int c, .int d] :: r => decide (a < b) && ascT (.tup [.int b, .int c, .int d] :: r)
  | _ => false
def insI (x : Int) : List Int → List Int
  | [] => [x]
  | y :: r => if x ≤ y then x :: y :: r else y :: insI x r
def sortI : List Int → List Int
  | [] => []
  | x :: r => insI x (sortI r)
/-- tuples of an int and a list of ints -/
def tlsD : List D → Option (List (Int × List Int))
  | [] => some []
  | .tup [.int p, .lst l] :: r => (intsD l).bind fun ns => (tlsD r).map fun t => (p, ns) :: t
  | _ => none
def pyT (p : Int × List Int) : PyData := .tuple [.int p.1, .list (p.2.map .int)]
def minT : List (Int × List Int) → Option (Int × List Int)
  | [] => none
  | p :: ps => some (ps.foldl (fun a y => if PySem.W.dataLt (pyT y) (pyT a) then y else a) p)
/-! data that repr can show -/
mutual
def pyO : D → Option PyData
  | .non => some .none
  | .bl b => some (.bool b)
  | .int i => some (.int i)
  | .str x => some (.str x)
  | .lst ds => (pyOs ds).map .list
  | .tup ds => (pyOs ds).map .tuple
  | .dct => some (.dict [])
  | _ => none
def pyOs : List D → Option (List PyData)
  | [] => some []
  | d :: ds => (pyO d).bind fun p => (pyOs ds).map fun ps => p :: ps
end
@[irreducible] def shwOk (p : PyData) : Bool := p.showable && (decide (p.shown.length ≤ sizeLine) && decide (p.depth ≤ 40))
/-! data without an error inside -/
mutual
def noE : D → Bool
  | .err _ _ _ => false
  | .lst ds => noEs ds
  | .tup ds => noEs ds
  | .obj _ _ ds => noEs ds
  | .dic _ ds => noEs ds
  | .exc _ _ ds => noEs ds
  | _ => true
def noEs : List D → Bool
  | [] => true
  | d :: ds => noE d && noEs ds
end
def biD : Bi → List D → Option RV
  | .len, [.lst xs] => some (.fz (.int xs.length))
  | .len, [.tup xs] => some (.fz (.int xs.length))
  | .len, [.scr ns] => some (.fz (.int ns.length))
  | .len, [.str x] => if x.length ≤ sizeLine then some (.fz (.int x.length)) else none
  | .int1, [.int i] => some (.fz (.int i))
  | .int1, [.bl b] => some (.fz (.int (if b then 1 else 0)))
  | .max2, [.int a, .int b] => some (.fz (.int (if b > a then b else a)))
  | .min2, [.int a, .int b] => some (.fz (.int (if b < a then b else a)))
  | .maxl, [.lst xs] => (intsD xs).bind fun ns => (maxI ns).map fun m => .fz (.int m)
  | .minl, [.lst xs] => (intsD xs).bind fun ns => (minI ns).map fun m => .fz (.int m)
  | .suml, [.lst xs] => (intsD xs).map fun ns => .fz (.int ns.sum)
  | .list, [.lst xs] => some (.nw (.lst xs))
  | .list, [.tup xs] => some (.nw (.lst xs))
  | .tuple, [.lst xs] => some (.fz (.tup xs))
  | .tuple, [.tup xs] => some (.fz (.tup xs))
  | .alll, [.lst xs] => (blsD xs).map fun bs => .fz (.bl (bs.all id))
  | .anyl, [.lst xs] => (blsD xs).map fun bs => .fz (.bl (bs.any id))
  | .isi t, [d] => if shallow d then some (.fz (.bl (isiD t d))) else none
  | .abs, [.int i] => some (.fz (.int (if i < 0 then -i else i)))
  | .sortp, [d] => (sortD d).map .nw
  | .minp, [.lst xs] => (pairsD xs).bind fun ps => (minP ps).map fun p => .fz (.tup [.int p.1, .int p.2])
  | .min2p, [.tup [.int a, .int b], .tup [.int c, .int d]] => some (.fz (if pLt (c, d) (a, b) then .tup [.int c, .int d] else .tup [.int a, .int b]))
  | .sortt, [.lst xs] => if ascT xs then some (.nw (.lst xs)) else none
  | .dictp, [.lst xs] => (dctpD xs).map fun (ks, ds) => .fz (.dic ks ds)
  | .sorti, [.lst xs] => (intsD xs).map fun ns => .nw (.lst ((sortI ns).map D.int))
  | .mint, [.lst xs] => (tlsD xs).bind fun ps => (minT ps).map fun m => .fz (.tup [.int m.1, .lst (m.2.map D.int)])
  | .rpr, [d] => (pyO d).bind fun p => if shwOk p then some (.fz (.str p.shown)) else none
  | _, _ => none

/-! ### the language -/
inductive E where
  | stuck
  | var (i : Nat)
  | cst (d : D)
  | bin (op : BOp) (a b : E)
  | neg (a : E)
  | cmp (op : COp) (a b : E)
  | chain (o1 o2 : COp) (a b c : E)
  | and (a b : E)
  | or (a b : E)
  | not (a : E)
  | ite (c a b : E)
  | lst (es : List E)
  | tup (es : List E)
  | ix (a b : E)
  | slc (a : E) (lo hi : List E)
  | call (k : Nat) (es : List E)
  | bi (b : Bi) (es : List E)
  | comp (own : List Nat) (tg : Tg) (ik : IK) (its : List E) (cond : List E) (elt : E)
  | fld (cs : List Nat) (a : E) (nm : Str)
  | meth (c : Nat) (nm : Str) (k : Nat) (o : E) (es : List E)
  | mk (c k : Nat) (es : List E)
  | own (o : OOp) (c k : Nat) (a b : E)
  | lenO (c k : Nat) (a : E)
  | isc (cs : List Nat) (c : Nat) (a : E)
  | callp (k : Nat) (p : List Nat) (es : List E)
  | mkp (c k : Nat) (p : List Nat) (es : List E)
  | chain3 (o1 o2 o3 : COp) (a b c d : E)
  | rev (a : E)
  | dct
  | tne (c k : Nat) (a b : E)
  | rngl (a b : E)
  | mxd (m : Bool) (a d : E)
  | cnt (a x : E)
  | pop (i : Nat)
  | idx (a x : E)
  | shr (a : E)
  | inO (c k c2 k2 : Nat) (a b : E)
  | dget (a b : E)
  | din (a b : E)
  | ownx (o : OOp) (c k : Nat) (a b : E)
  | mkx (c k : Nat) (es : List E)
  | xis (all cs : List Nat) (i : Nat)
  | xfld (all : List Nat) (i : Nat) (nm : Str)
  | said (d0 : D) (sd : Nat → List Str → List D → Option D) (e : E)
  | comp2 (own : List Nat) (tg : Tg) (ik : IK) (its : List E) (cond : List E) (own1 : List Nat) (tg1 : Tg) (n : E) (cond1 : List E) (elt : E)
  | sem (F : List (Ct → Option (RV × Ct)) → Ct → Option (RV × Ct))

abbrev FS := Ct → Option (RV × Ct)

def datum (Γ : Ct) : RV → Option D
  | .fz d => some d
  | .nw d => some d
  | .sl i => match Γ[i]? with
    | some (some (d, _)) => some d
    | _ => none
/-- the value becomes a plain one -/
def fre (Γ : Ct) : RV → Option (D × Ct)
  | .fz d => some (d, Γ)
  | .nw d => some (d, Γ)
  | .sl i => match Γ[i]? with
    | some (some (d, true)) => some (d, Γ.set i (some (d, false)))
    | some (some (d, false)) => some (d, Γ)
    | _ => none
def fres : List RV → Ct → Option (List D × Ct)
  | [], Γ => some ([], Γ)
  | x :: xs, Γ => (fre Γ x).bind fun (d, Γ1) => (fres xs Γ1).map fun (ds, Γ2) => (d :: ds, Γ2)
def datums (Γ : Ct) : List RV → Option (List D)
  | [] => some []
  | x :: xs => (datum Γ x).bind fun d => (datums Γ xs).map (d :: ·)
/-- an argument's slot for the callee -/
def argS (Γ : Ct) : RV → Option (D × Bool)
  | .fz d => some (d, false)
  | .nw d => some (d, true)
  | .sl i => match Γ[i]? with
    | some (some p) => some p
    | _ => none
def argSs (Γ : Ct) : List RV → Option (List (D × Bool))
  | [] => some []
  | x :: xs => (argS Γ x).bind fun d => (argSs Γ xs).map (d :: ·)
/-- the slots that are handed over -/
def ownIx (Γ : Ct) : List RV → List Nat
  | [] => []
  | .sl i :: xs => match Γ[i]? with
    | some (some (_, true)) => i :: ownIx Γ xs
    | _ => ownIx Γ xs
  | _ :: xs => ownIx Γ xs
def nodupB : List Nat → Bool
  | [] => true
  | x :: xs => !(xs.contains x) && nodupB xs
/-- what comes back at the slots that were handed over -/
def putOuts (Γ0 : Ct) : List RV → Ct → Ct → Ct
  | .sl i :: xs, o :: os, Γ => match Γ0[i]? with
    | some (some (_, true)) => putOuts Γ0 xs os (Γ.set i o)
    | _ => putOuts Γ0 xs os Γ
  | _ :: xs, _ :: os, Γ => putOuts Γ0 xs os Γ
  | _, _, Γ => Γ

/-- values in the parameters' order -/
def permL {α : Type} (p : List Nat) (xs : List α) : List α := p.filterMap fun i => xs[i]?
def permOk (p : List Nat) (n : Nat) : Bool := nodupB p && p.all fun i => decide (i < n)
/-- a call, by its results -/
def callD (F : FS) (xs : List RV) (Γ : Ct) : Option (RV × Ct) := (argSs Γ xs).bind fun as => if nodupB (ownIx Γ xs) then (F (as.map some)).bind fun (r, os) => match r with
      | .sl _ => none
      | r => some (r, putOuts Γ xs os Γ)
    else none
/-- a new object of class c, by its __init__ -/
def mkD (F : FS) (c : Nat) (xs : List RV) (Γ : Ct) : Option (RV × Ct) := (argSs Γ xs).bind fun as => if nodupB (ownIx Γ xs) then (F (some (.obj c [] [], true) :: as.map some)).bind fun (r, os) => match r, os with
      | .fz .non, some (.obj c' ks ds, true) :: os' => some (.nw (.obj c' ks ds), putOuts Γ xs os' Γ)
      | _, _ => none
    else none
/-- the same, of an __init__ that may raise -/
def mkX (F : FS) (c : Nat) (xs : List RV) (Γ : Ct) : Option (RV × Ct) := (argSs Γ xs).bind fun as => if nodupB (ownIx Γ xs) then (F (some (.obj c [] [], true) :: as.map some)).bind fun (r, os) => match r, os with
    | .fz (.exc c' ks ds), _ :: os' => some (.fz (.exc c' ks ds), putOuts Γ xs os' Γ)
    | .fz .non, some (.obj c' ks ds, true) :: os' => some (.nw (.obj c' ks ds), putOuts Γ xs os' Γ)
    | _, _ => none
    else none
def fldL (nm : Str) : List Str → List D → Option D
  | k :: ks, d :: ds => if nm = k then some d else fldL nm ks ds
  | _, _ => none
def xisD (all cs : List Nat) : Sl → Option Bool
  | some (.err c _ _, false) => if all.contains c then some (cs.contains c) else none
  | _ => none
def xfldD (all : List Nat) (nm : Str) : Sl → Option D
  | some (.err c ks ds, false) => if all.contains c then fldL nm ks.reverse ds.reverse else none
  | _ => none
/-- what a def tells of a call that it makes: d0, or what it makes of an error -/
def saidD (d0 : D) (sd : Nat → List Str → List D → Option D) : RV → Option D
  | .fz (.exc c ks ds) => sd c ks ds
  | _ => some d0
def fldD (cs : List Nat) : D → Str → Option D
  | .obj c ks ds, nm => if cs.contains c then fldL nm ks ds else none
  | _, _ => none
def isObj (c : Nat) : D → Bool
  | .obj c' _ _ => c == c'
  | _ => false
/-- isinstance with an own class, among the classes cs -/
def iscD (cs : List Nat) (c : Nat) : D → Option Bool
  | .obj c' _ _ => if cs.contains c' then some (c == c') else none
  | .scr _ => none
  | .dct => none
  | .dic _ _ => none
  | .exc _ _ _ => none
  | .err _ _ _ => none
  | .ref _ => none
  | _ => some false
def hasF (nm : Str) : D → Bool
  | .obj _ ks _ => ks.contains nm
  | _ => false
/-- plain data: no objects at the top -/
def plainB : D → Bool
  | .obj _ _ _ => false
  | .scr _ => false
  | .dct => false
  | .dic _ _ => false
  | .exc _ _ _ => false
  | .err _ _ _ => false
  | .ref _ => false
  | _ => true
/-- what is asked of the other operand -/
def okO (o : OOp) (c : Nat) (e : D) : Bool := match o with
  | .eq => isObj c e || plainB e
  | .ne => isObj c e || plainB e
  | .add => isObj c e
  | _ => true
/-- what an own operator's answer becomes -/
def postO : OOp → RV → Option RV
  | .eq, .fz (.bl b) => some (.fz (.bl b))
  | .ne, .fz (.bl b) => some (.fz (.bl (!b)))
  | .inn, .fz (.bl b) => some (.fz (.bl b))
  | .notin, .fz (.bl b) => some (.fz (.bl (!b)))
  | .ix, r => some r
  | .add, r => some r
  | _, _ => none
/-- the same operator on plain data -/
def plainO : OOp → D → D → Option RV
  | .eq, d, e => (cmpD .eq d e).map fun b => .fz (.bl b)
  | .ne, d, e => (cmpD .ne d e).map fun b => .fz (.bl b)
  | .inn, d, e => (cmpD .inn d e).map fun b => .fz (.bl b)
  | .notin, d, e => (cmpD .notin d e).map fun b => .fz (.bl b)
  | .ix, d, e => (ixD d e).map .fz
  | .add, d, e => binD .add d e
/-- whose method it is -/
def selfO (o : OOp) (d e : D) : D × D := match o with
  | .inn => (e, d)
  | .notin => (e, d)
  | _ => (d, e)
def asgT : Tg → D → Ct → Option Ct
  | .nm i, d, Γ => if i < Γ.length then some (Γ.set i (some (d, false))) else none
  | .tp ts, .tup ds, Γ => asgTs ts ds Γ
  | _, _, _ => none
where asgTs : List Tg → List D → Ct → Option Ct
  | [], [], Γ => some Γ
  | t :: ts, d :: ds, Γ => (asgT t d Γ).bind fun Γ1 => asgTs ts ds Γ1
  | _, _, _ => none

/-- what is walked -/
def enumD : Nat → List D → List D
  | _, [] => []
  | n, d :: ds => .tup [.int n, d] :: enumD (n + 1) ds
def zipD : List D → List D → List D
  | a :: as, b :: bs => .tup [a, b] :: zipD as bs
  | _, _ => []
def rngD (lo : Int) (c : Int) : Nat → List D
  | 0 => []
  | n + 1 => .int lo :: rngD (lo + c) c n
@[irreducible] def in62 (i : Int) : Bool := decide (i.natAbs.log2 < 62)
def iterD : IK → List RV → Ct → Option (List D × Ct)
  | .seq, [x], Γ => (fre Γ x).bind fun (d, Γ1) => match d with
    | .lst ds => some (ds, Γ1)
    | .tup ds => some (ds, Γ1)
    | _ => none
  | .enum, [x], Γ => (fre Γ x).bind fun (d, Γ1) => match d with
    | .lst ds => some (enumD 0 ds, Γ1)
    | _ => none
  | .zip, [x, y], Γ => (fre Γ x).bind fun (d, Γ1) => (fre Γ1 y).bind fun (e, Γ2) => match d, e with
    | .lst ds, .lst es => some (zipD ds es, Γ2)
    | _, _ => none
  | .rng, xs, Γ => (datums Γ xs).bind fun ds => match ds with
    | [.int b] => if in62 b then some (rngD 0 1 b.toNat, Γ) else none
    | [.int a, .int b] => if in62 a && in62 b then some (rngD a 1 (b - a).toNat, Γ) else none
    | [.int a, .int b, .int c] => if c ≠ 0 ∧ c.natAbs.log2 < 9000 ∧ Builtin.Range.rangeSize a b c = ((Builtin.Range.rangeSize a b c).toNat : Nat) then some (rngD a c (Builtin.Range.rangeSize a b c).toNat, Γ) else none
    | _ => none
  | _, _, _ => none
def wipeG (Γ : Ct) : List Nat → Ct
  | [] => Γ
  | v :: vs => (wipeG Γ vs).set v none
def restG (Γ Γ' : Ct) : List Nat → Ct
  | [] => Γ'
  | v :: vs => (restG Γ Γ' vs).set v (Γ.getD v none)
/-- no owned slot among these -/
def plainIx (Γ : Ct) (vs : List Nat) : Bool := vs.all fun v => match Γ[v]? with
  | some (some (_, true)) => false
  | some _ => true
  | none => false
def testD (Γ : Ct) (x : RV) : Option Bool := (datum Γ x).bind truthD
def compLoop (own : List Nat) (tg : Tg) (ct : Ct → Option (Bool × Ct)) (el : Ct → Option (RV × Ct)) : List D → List D → Ct → Option (List D × Ct)
  | [], acc, Γ => some (acc, Γ)
  | d :: ds, acc, Γ => (asgT tg d Γ).bind fun Γ1 => (ct Γ1).bind fun (b, Γ2) =>
    if b then (el Γ2).bind fun (x, Γ3) => (fre Γ3 x).bind fun (e, Γ4) => if plainIx Γ4 own then compLoop own tg ct el ds (acc ++ [e]) (wipeG Γ4 own) else none
    else if plainIx Γ2 own then compLoop own tg ct el ds acc (wipeG Γ2 own) else none

/-- range(n) -/
def rngI : D → Option (List D)
  | .int k => if in62 k then some (rngD 0 1 k.toNat) else none
  | _ => none
/-- the turns of a comprehension with two fors -/
def compLoop2 (own : List Nat) (tg : Tg) (ct : Ct → Option (Bool × Ct)) (it : Ct → Option (List D × Ct)) (own1 : List Nat) (tg1 : Tg) (ct1 : Ct → Option (Bool × Ct)) (el : Ct → Option (RV × Ct)) : List D → List D → Ct → Option (List D × Ct)
  | [], acc, Γ => some (acc, Γ)
  | d :: ds, acc, Γ => (asgT tg d Γ).bind fun Γ1 => (ct Γ1).bind fun (b, Γ2) =>
    if b then (it Γ2).bind fun (ds1, Γ3) => if plainIx Γ3 own1 && decide (acc.length + ds1.length ≤ sizeLine) then (compLoop own1 tg1 ct1 el ds1 acc (wipeG Γ3 own1)).bind fun (acc2, Γ4) => if plainIx Γ4 own then compLoop2 own tg ct it own1 tg1 ct1 el ds acc2 (wipeG Γ4 own) else none else none
    else if plainIx Γ2 own then compLoop2 own tg ct it own1 tg1 ct1 el ds acc (wipeG Γ2 own) else none

@[irreducible] def lenOk (n : Int) : Bool := decide (0 ≤ n ∧ n < 1000000000)
def slO : List D → Option (Option Int)
  | [] => some none
  | [.int i] => some (some i)
  | _ => none
def rnglD : D → D → Option (List D)
  | .int a, .int b => if in62 a && in62 b && decide ((b - a).toNat ≤ 1000000) then some (rngD a 1 (b - a).toNat) else none
  | _, _ => none
def tupOf : D → Option (List D)
  | .tup xs => some xs
  | _ => none
def trueR : Option (RV × Ct) → Bool
  | some (.fz (.bl true), _) => true
  | _ => false
/-- objects of class c, equal one by one by their own == -/
def tneD (F : FS) (c : Nat) : List D → List D → Bool
  | [], [] => true
  | x :: xs, y :: ys => isObj c x && isObj c y && trueR (F [some (x, false), some (y, false)]) && tneD F c xs ys
  | _, _ => false
def revD : D → Option D
  | .lst xs => some (.lst xs.reverse)
  | _ => none
/-- max(xs, default=d), min(xs, default=d) -/
def mxdD (m : Bool) : D → D → Option D
  | .lst xs, d => (intsD xs).bind fun ns => match (if m then maxI ns else minI ns) with
    | some i => some (.int i)
    | none => if flatD d then some d else none
  | _, _ => none
def cntD : D → D → Option D
  | .lst xs, d => if flatD d && xs.all flatD then some (.int ((xs.filter fun y => eqd y d).length : Int)) else if okB 12 d && xs.all (okB 12) then some (.int ((xs.filter fun y => eqd y d).length : Int)) else none
  | _, _ => none
def isLD : D → Bool
  | .lst _ => true
  | _ => false
def idxD : D → D → Option D
  | .lst xs, d => if flatD d && xs.all flatD then (xs.findIdx? fun y => eqd y d).map fun j => .int (j : Nat) else none
  | _, _ => none
def popD (Γ : Ct) (i : Nat) : Option (D × D) := match Γ[i]? with
  | some (some (.lst xs, true)) => match xs.getLast? with
    | some d => some (d, .lst xs.dropLast)
    | none => none
  | _ => none
def lstOf : D → Option (List D)
  | .lst ds => some ds
  | _ => none
def falseR : Option (RV × Ct) → Bool
  | some (.fz (.bl b), _) => !b
  | _ => false
def nltD : D → Bool
  | .non => true
  | .lst _ => true
  | .tup _ => true
  | _ => false
/-- an item that is not equal to d, by the own == of one of them -/
def nqD (F F2 : FS) (c2 : Nat) (d e : D) : Bool := (nltD e && falseR (F [some (d, false), some (e, false)])) || (isObj c2 e && falseR (F2 [some (e, false), some (d, false)]))
def dgetL : List Int → List D → Int → Option D
  | k :: ks, d :: ds, i => if k = i then some d else dgetL ks ds i
  | _, _, _ => none
def dgetD : D → D → Option D
  | .dic ks ds, .int i => dgetL ks ds i
  | _, _ => none
def dinD : D → D → Option Bool
  | .int i, .dic ks _ => some (ks.contains i)
  | _, _ => none
mutual
def ev (fs : List FS) : E → Ct → Option (RV × Ct)
  | .stuck, _ => none
  | .var i, Γ => match Γ[i]? with
    | some (some _) => some (.sl i, Γ)
    | _ => none
  | .cst d, Γ => some (.fz d, Γ)
  | .bin op a b, Γ => (ev fs a Γ).bind fun (x, Γ1) => (ev fs b Γ1).bind fun (y, Γ2) => (datum Γ2 x).bind fun d => (datum Γ2 y).bind fun e => (binD op d e).map fun r => (r, Γ2)
  | .neg a, Γ => (ev fs a Γ).bind fun (x, Γ1) => (datum Γ1 x).bind fun d => match d with
    | .int i => some (.fz (.int (-i)), Γ1)
    | _ => none
  | .cmp op a b, Γ => (ev fs a Γ).bind fun (x, Γ1) => (ev fs b Γ1).bind fun (y, Γ2) => (datum Γ2 x).bind fun d => (datum Γ2 y).bind fun e => (cmpD op d e).map fun r => (.fz (.bl r), Γ2)
  | .chain o1 o2 a b c, Γ => (ev fs a Γ).bind fun (x, Γ1) => (ev fs b Γ1).bind fun (y, Γ2) => (datum Γ2 x).bind fun d => (datum Γ2 y).bind fun e => (cmpD o1 d e).bind fun r =>
      if r then (ev fs c Γ2).bind fun (z, Γ3) => (datum Γ3 y).bind fun e => (datum Γ3 z).bind fun f => (cmpD o2 e f).map fun r => (.fz (.bl r), Γ3)
      else some (.fz (.bl false), Γ2)
  | .and a b, Γ => (ev fs a Γ).bind fun (x, Γ1) => (testD Γ1 x).bind fun t => if t then ev fs b Γ1 else some (x, Γ1)
  | .or a b, Γ => (ev fs a Γ).bind fun (x, Γ1) => (testD Γ1 x).bind fun t => if t then some (x, Γ1) else ev fs b Γ1
  | .not a, Γ => (ev fs a Γ).bind fun (x, Γ1) => (testD Γ1 x).map fun t => (.fz (.bl (!t)), Γ1)
  | .ite c a b, Γ => (ev fs c Γ).bind fun (x, Γ1) => (testD Γ1 x).bind fun t => if t then ev fs a Γ1 else ev fs b Γ1
  | .lst es, Γ => (evs fs es Γ).bind fun (xs, Γ1) => (fres xs Γ1).bind fun (ds, Γ2) => if ds.length ≤ sizeLine then some (.nw (.lst ds), Γ2) else none
  | .tup es, Γ => (evs fs es Γ).bind fun (xs, Γ1) => (fres xs Γ1).bind fun (ds, Γ2) => if ds.length ≤ sizeLine then some (.fz (.tup ds), Γ2) else none
  | .ix a b, Γ => (ev fs a Γ).bind fun (x, Γ1) => (ev fs b Γ1).bind fun (y, Γ2) => (datum Γ2 x).bind fun d => (datum Γ2 y).bind fun e => (ixD d e).map fun r => (.fz r, Γ2)
  | .slc a lo hi, Γ => (ev fs a Γ).bind fun (x, Γ1) => (evs fs lo Γ1).bind fun (ys, Γ2) => (datums Γ2 ys).bind fun l => (evs fs hi Γ2).bind fun (zs, Γ3) => (datum Γ3 x).bind fun d => (datums Γ3 zs).bind fun h =>
      (slO l).bind fun lo' => (slO h).bind fun hi' => (slcD d lo' hi').map fun r => (r, Γ3)
  | .call k es, Γ => (evs fs es Γ).bind fun (xs, Γ1) => (fs[k]?).bind fun F => (argSs Γ1 xs).bind fun as => if nodupB (ownIx Γ1 xs) then (F (as.map some)).bind fun (r, os) => match r with
      | .sl _ => none
      | r => some (r, putOuts Γ1 xs os Γ1)
    else none
  | .bi b es, Γ => (evs fs es Γ).bind fun (xs, Γ1) => (datums Γ1 xs).bind fun ds => (biD b ds).map fun r => (r, Γ1)
  | .comp own tg ik its cond elt, Γ => (evs fs its Γ).bind fun (xs, Γ1) => (iterD ik xs Γ1).bind fun (ds, Γ2) =>
      if plainIx Γ2 own && decide (ds.length ≤ sizeLine) && (tgIx tg).all (fun i => own.contains i) then
        (compLoop own tg (evc fs cond) (ev fs elt) ds [] (wipeG Γ2 own)).map fun (acc, Γ3) => (.nw (.lst acc), restG Γ2 Γ3 own)
      else none
  | .fld cs a nm, Γ => (ev fs a Γ).bind fun (x, Γ1) => (datum Γ1 x).bind fun d => (fldD cs d nm).map fun r => (.fz r, Γ1)
  | .meth c nm k o es, Γ => (ev fs o Γ).bind fun (x, Γ0) => (fre Γ0 x).bind fun (d, Γ1) => if isObj c d && !(hasF nm d) then (evs fs es Γ1).bind fun (ys, Γ2) => (fs[k]?).bind fun F => callD F (.fz d :: ys) Γ2 else none
  | .mk c k es, Γ => (evs fs es Γ).bind fun (ys, Γ1) => (fs[k]?).bind fun F => mkD F c ys Γ1
  | .own o c k a b, Γ => (ev fs a Γ).bind fun (x, Γ1) => (ev fs b Γ1).bind fun (y, Γ2) => (datum Γ2 x).bind fun d => (datum Γ2 y).bind fun e =>
      if isObj c (selfO o d e).1 then (fre Γ2 x).bind fun (d', Γ3) => (fre Γ3 y).bind fun (e', Γ4) => if isObj c (selfO o d' e').1 && okO o c (selfO o d' e').2 then (fs[k]?).bind fun F => (callD F [.fz (selfO o d' e').1, .fz (selfO o d' e').2] Γ4).bind fun (r, Γ5) => (postO o r).map fun r' => (r', Γ5) else none
      else (plainO o d e).map fun r => (r, Γ2)
  | .lenO c k a, Γ => (ev fs a Γ).bind fun (x, Γ1) => (datum Γ1 x).bind fun d =>
      if isObj c d then (fre Γ1 x).bind fun (_, Γ2) => (fs[k]?).bind fun F => (callD F [.fz d] Γ2).bind fun (r, Γ3) => match r with
        | .fz (.int n) => if lenOk n then some (.fz (.int n), Γ3) else none
        | _ => none
      else (biD .len [d]).map fun r => (r, Γ1)
  | .isc cs c a, Γ => (ev fs a Γ).bind fun (x, Γ1) => (datum Γ1 x).bind fun d => (iscD cs c d).map fun b => (.fz (.bl b), Γ1)
  | .callp k p es, Γ => (evs fs es Γ).bind fun (xs, Γ1) => (fs[k]?).bind fun F => if permOk p xs.length then callD F (permL p xs) Γ1 else none
  | .mkp c k p es, Γ => (evs fs es Γ).bind fun (xs, Γ1) => (fs[k]?).bind fun F => if permOk p xs.length then mkD F c (permL p xs) Γ1 else none
  | .chain3 o1 o2 o3 a b c d, Γ => (ev fs a Γ).bind fun (x, Γ1) => (ev fs b Γ1).bind fun (y, Γ2) => (datum Γ2 x).bind fun dx => (datum Γ2 y).bind fun dy => (cmpD o1 dx dy).bind fun r =>
      if r then (ev fs c Γ2).bind fun (z, Γ3) => (datum Γ3 y).bind fun dy => (datum Γ3 z).bind fun dz => (cmpD o2 dy dz).bind fun r =>
        if r then (ev fs d Γ3).bind fun (u, Γ4) => (datum Γ4 z).bind fun dz => (datum Γ4 u).bind fun du => (cmpD o3 dz du).map fun r => (.fz (.bl r), Γ4)
        else some (.fz (.bl false), Γ3)
      else some (.fz (.bl false), Γ2)
  | .rev a, Γ => (ev fs a Γ).bind fun (x, Γ1) => (datum Γ1 x).bind fun d => (revD d).map fun r => (.nw r, Γ1)
  | .dct, Γ => some (.fz .dct, Γ)
  | .tne c k a b, Γ => (ev fs a Γ).bind fun (x, Γ1) => (ev fs b Γ1).bind fun (y, Γ2) => (datum Γ2 x).bind fun d => (datum Γ2 y).bind fun e => (tupOf d).bind fun ds => (tupOf e).bind fun es => (fs[k]?).bind fun F => if tneD F c ds es then some (.fz (.bl false), Γ2) else none
  | .rngl a b, Γ => (ev fs a Γ).bind fun (x, Γ1) => (ev fs b Γ1).bind fun (y, Γ2) => (datum Γ2 x).bind fun d => (datum Γ2 y).bind fun e => (rnglD d e).map fun ds => (.nw (.lst ds), Γ2)
  | .mxd m a d, Γ => (ev fs a Γ).bind fun (x, Γ1) => (ev fs d Γ1).bind fun (y, Γ2) => (datum Γ2 x).bind fun dx => (datum Γ2 y).bind fun dy => (mxdD m dx dy).map fun r => (.fz r, Γ2)
  | .cnt a b, Γ => (ev fs a Γ).bind fun (x, Γ1) => (datum Γ1 x).bind fun d0 => if isLD d0 then (ev fs b Γ1).bind fun (y, Γ2) => (datum Γ2 x).bind fun dx => (datum Γ2 y).bind fun dy => (cntD dx dy).map fun r => (.fz r, Γ2) else none
  | .pop i, Γ => (popD Γ i).map fun (d, c) => (.fz d, Γ.set i (some (c, true)))
  | .idx a b, Γ => (ev fs a Γ).bind fun (x, Γ1) => (datum Γ1 x).bind fun d0 => if isLD d0 then (ev fs b Γ1).bind fun (y, Γ2) => (datum Γ2 x).bind fun dx => (datum Γ2 y).bind fun dy => (idxD dx dy).map fun r => (.fz r, Γ2) else none
  | .shr a, Γ => (ev fs a Γ).bind fun (x, Γ1) => (fre Γ1 x).map fun (d, Γ2) => (.fz d, Γ2)
  | .inO c k c2 k2 a b, Γ => (ev fs a Γ).bind fun (x, Γ1) => (ev fs b Γ1).bind fun (y, Γ2) => (fre Γ2 x).bind fun (d, Γ3) => (fre Γ3 y).bind fun (e, Γ4) => (lstOf e).bind fun es => (fs[k]?).bind fun F => (fs[k2]?).bind fun F2 => if isObj c d && es.all (nqD F F2 c2 d) then some (.fz (.bl false), Γ4) else none
  | .dget a b, Γ => (ev fs a Γ).bind fun (x, Γ1) => (ev fs b Γ1).bind fun (y, Γ2) => (datum Γ2 x).bind fun d => (datum Γ2 y).bind fun e => (dgetD d e).map fun r => (.fz r, Γ2)
  | .din a b, Γ => (ev fs a Γ).bind fun (x, Γ1) => (ev fs b Γ1).bind fun (y, Γ2) => (datum Γ2 x).bind fun d => (datum Γ2 y).bind fun e => (dinD d e).map fun r => (.fz (.bl r), Γ2)
  | .ownx o c k a b, Γ => (ev fs a Γ).bind fun (x, Γ1) => (ev fs b Γ1).bind fun (y, Γ2) => (fre Γ2 x).bind fun (d, Γ3) => (fre Γ3 y).bind fun (e, Γ4) => if isObj c d && okO o c e then (fs[k]?).bind fun F => callD F [.fz d, .fz e] Γ4 else none
  | .mkx c k es, Γ => (evs fs es Γ).bind fun (ys, Γ1) => (fs[k]?).bind fun F => mkX F c ys Γ1
  | .xis all cs i, Γ => (xisD all cs (Γ.getD i none)).map fun b => (.fz (.bl b), Γ)
  | .xfld all i nm, Γ => (xfldD all nm (Γ.getD i none)).map fun r => (.fz r, Γ)
  | .said d0 sd a, Γ => (ev fs a Γ).bind fun (x, Γ1) => (saidD d0 sd x).map fun d => (.fz d, Γ1)
  | .comp2 own tg ik its cond own1 tg1 n cond1 elt, Γ => (evs fs its Γ).bind fun (xs, Γ1) => (iterD ik xs Γ1).bind fun (ds, Γ2) =>
      if plainIx Γ2 own && (tgIx tg).all (fun i => own.contains i) && (tgIx tg1).all (fun i => own1.contains i) && own1.all (fun i => own.contains i) then
        (compLoop2 own tg (evc fs cond) (fun Γ => (ev fs n Γ).bind fun (x, Γ1) => (datum Γ1 x).bind fun d => (rngI d).map fun ds => (ds, Γ1)) own1 tg1 (evc fs cond1) (ev fs elt) ds [] (wipeG Γ2 own)).map fun (acc, Γ3) => (.nw (.lst acc), restG Γ2 Γ3 own)
      else none
  | .sem F, Γ => F fs Γ
def evs (fs : List FS) : List E → Ct → Option (List RV × Ct)
  | [], Γ => some ([], Γ)
  | e :: es, Γ => (ev fs e Γ).bind fun (x, Γ1) => (evs fs es Γ1).map fun (xs, Γ2) => (x :: xs, Γ2)
def evc (fs : List FS) : List E → Ct → Option (Bool × Ct)
  | [], Γ => some (true, Γ)
  | [e], Γ => (ev fs e Γ).bind fun (x, Γ1) => (testD Γ1 x).map fun t => (t, Γ1)
  | _, _ => none
end

/-! ### statements -/
/-- what is done with the value of a call that may raise -/
inductive XDst where
  | drop | asg (tg : Tg) | asgO (i : Nat) | ret
inductive Out where
  | nx (Γ : Ct) | rt (r : RV) (Γ : Ct) | bk (Γ : Ct) | ct (Γ : Ct) | xc (c : Nat) (ks : List Str) (ds : List D) (Γ : Ct)
inductive S where
  | stuck | pass | brk | cont | retN
  | asg (tg : Tg) (e : E)
  | asgO (i : Nat) (e : E)
  | par (is : List (Nat × Bool)) (es : List E)
  | expr (e : E)
  | app (i : Nat) (e : E)
  | ext (i : Nat) (e : E)
  | seti (i : Nat) (k e : E)
  | ret (e : E)
  | ite (c : E) (a b : List S)
  | whl (c : E) (b : List S)
  | for_ (tg : Tg) (ik : IK) (its : List E) (b : List S)
  | setf (c : Nat) (i : Nat) (nm : Str) (e : E)
  | xapp (a : E) (d : D)
  | grow (c i : Nat) (nm : Str) (e0 : E) (tg : Tg) (e1 e2 : E) (k : Nat) (es : List E)
  | rse (c : Nat) (ks : List Str) (es : List E)
  | xex (e : E) (k : XDst)
  | try_ (e : E) (all : List Nat) (i : Nat) (b : List S)
  | sem (is : List Nat) (F : List FS → Ct → Option Out)

def disjB (xs ys : List Nat) : Bool := xs.all fun x => !(ys.contains x)
def forLoop (tg : Tg) (body : Ct → Option Out) : List D → Ct → Option Out
  | [], Γ => some (.nx Γ)
  | d :: ds, Γ => (asgT tg d Γ).bind fun Γ1 => (body Γ1).bind fun o => match o with
    | .nx Γ2 => forLoop tg body ds Γ2
    | .ct Γ2 => forLoop tg body ds Γ2
    | .bk Γ2 => some (.nx Γ2)
    | .rt r Γ2 => some (.rt r Γ2)
    | .xc c ks ds Γ2 => some (.xc c ks ds Γ2)
def whlLoop (c : Ct → Option (Bool × Ct)) (body : Ct → Option Out) : Nat → Ct → Option Out
  | 0, _ => none
  | n + 1, Γ => (c Γ).bind fun (b, Γ1) => if b then (body Γ1).bind fun o => match o with
    | .nx Γ2 => whlLoop c body n Γ2
    | .ct Γ2 => whlLoop c body n Γ2
    | .bk Γ2 => some (.nx Γ2)
    | .rt r Γ2 => some (.rt r Γ2)
    | .xc c ks ds Γ2 => some (.xc c ks ds Γ2)
   else some (.nx Γ1)
def fuel : Nat := 1000000000
def nrf : RV → Bool
  | .fz (.ref _) => false
  | _ => true
/-- the values of a parallel assignment, one after another: plain ones, but for new ones that are to be owned; then they are stored -/
def evn (fs : List FS) : List (Nat × Bool) → List E → Ct → Option (List RV × Ct)
  | [], [], Γ => some ([], Γ)
  | (i, b) :: is, e :: es, Γ => (ev fs e Γ).bind fun (x, Γ1) => match b, x with
    | true, .nw d => (evn fs is es Γ1).bind fun (ys, Γ2) => if ys.all nrf then some (.nw d :: ys, Γ2) else none
    | _, x => (fre Γ1 x).bind fun (d, Γ2) => (evn fs is es Γ2).map fun (ys, Γ3) => (.fz d :: ys, Γ3)
  | _, _, _ => none
def parS : List (Nat × Bool) → List RV → Ct → Option Ct
  | [], [], Γ => some Γ
  | (i, _) :: is, .nw d :: xs, Γ => if i < Γ.length then parS is xs (Γ.set i (some (d, true))) else none
  | (i, _) :: is, .fz d :: xs, Γ => if i < Γ.length then parS is xs (Γ.set i (some (d, false))) else none
  | _, _, _ => none
def isLst (Γ : Ct) (i : Nat) : Bool := match Γ[i]? with
  | some (some (.lst _, _)) => true
  | _ => false
def appD : D → D → Option D
  | .lst xs, d => if xs.length < sizeLine then some (.lst (xs ++ [d])) else none
  | _, _ => none
def extD : D → D → Option D
  | .lst xs, .lst ys => if xs.length + ys.length ≤ sizeLine then some (.lst (xs ++ ys)) else none
  | _, _ => none
def setD : D → D → D → Option D
  | .lst xs, .int k, d => (ixN xs.length k).map fun j => .lst (xs.set j d)
  | _, _, _ => none
def putL (nm : Str) (d : D) : List Str → List D → List Str × List D
  | k :: ks, x :: xs => if k = nm then (k :: ks, d :: xs) else let r := putL nm d ks xs; (k :: r.1, x :: r.2)
  | _, _ => ([nm], [d])
def putD (c0 : Nat) : D → Str → D → Option D
  | .obj c ks ds, nm, d => if c = c0 ∧ ks.length < 1000 ∧ ks.length = ds.length then some (.obj c (putL nm d ks ds).1 (putL nm d ks ds).2) else none
  | _, _, _ => none
/-- no error in the frame -/
def noG (Γ : Ct) : Bool := Γ.all fun s => match s with
  | some (d, _) => noE d
  | none => true
/-- an exception's fields -/
def excOk (ks : List Str) (ds : List D) : Bool := decide (ks.length = ds.length)
/-- a list in a field grows: its last item goes to a call, whose answer is appended -/
def growLoop (tg : Tg) (F : FS) (el : Ct → Option (List RV × Ct)) : List D → List D → Ct → Option (List D × Ct)
  | [], L, Γ => some (L, Γ)
  | d :: rest, L, Γ => (asgT tg d Γ).bind fun Γ1 => (L.getLast?).bind fun l => (el Γ1).bind fun (ys, Γ2) => (callD F (.fz l :: ys) Γ2).bind fun (r, Γ3) => (fre Γ3 r).bind fun (y, Γ4) => if L.length < sizeLine then growLoop tg F el rest (L ++ [y]) Γ4 else none
mutual
def ex (fs : List FS) (pn : List Nat) : S → Ct → Option Out
  | .stuck, _ => none
  | .pass, Γ => some (.nx Γ)
  | .brk, Γ => some (.bk Γ)
  | .cont, Γ => some (.ct Γ)
  | .retN, Γ => some (.rt (.fz .non) Γ)
  | .asg tg e, Γ => (ev fs e Γ).bind fun (x, Γ1) => (fre Γ1 x).bind fun (d, Γ2) => if disjB (tgIx tg) pn then (asgT tg d Γ2).map .nx else none
  | .asgO i e, Γ => (ev fs e Γ).bind fun (x, Γ1) => match x with
    | .nw d => if i < Γ1.length ∧ disjB [i] pn = true then some (.nx (Γ1.set i (some (d, true)))) else none
    | x => (fre Γ1 x).bind fun (d, Γ2) => if i < Γ2.length ∧ disjB [i] pn = true then some (.nx (Γ2.set i (some (d, false)))) else none
  | .par is es, Γ => if disjB (is.map (·.1)) pn then (evn fs is es Γ).bind fun (ys, Γ2) => (parS is ys Γ2).map .nx else none
  | .expr e, Γ => (ev fs e Γ).map fun (_, Γ1) => .nx Γ1
  | .app i e, Γ => if isLst Γ i then (ev fs e Γ).bind fun (x, Γ1) => (fre Γ1 x).bind fun (d, Γ2) => match Γ2[i]? with
    | some (some (c, true)) => (appD c d).map fun c' => .nx (Γ2.set i (some (c', true)))
    | _ => none
   else none
  | .ext i e, Γ => if isLst Γ i then (ev fs e Γ).bind fun (x, Γ1) => (datum Γ1 x).bind fun d => match Γ1[i]? with
    | some (some (c, true)) => (extD c d).map fun c' => .nx (Γ1.set i (some (c', true)))
    | _ => none
   else none
  | .seti i k e, Γ => (ev fs e Γ).bind fun (x, Γ1) => (fre Γ1 x).bind fun (d, Γ2) => if isLst Γ2 i then (ev fs k Γ2).bind fun (y, Γ3) => (datum Γ3 y).bind fun kd => match Γ3[i]? with
    | some (some (c, true)) => (setD c kd d).map fun c' => .nx (Γ3.set i (some (c', true)))
    | _ => none
   else none
  | .ret e, Γ => (ev fs e Γ).map fun (x, Γ1) => .rt x Γ1
  | .ite c a b, Γ => (ev fs c Γ).bind fun (x, Γ1) => (testD Γ1 x).bind fun t => if t then exs fs pn a Γ1 else exs fs pn b Γ1
  | .whl c b, Γ => whlLoop (fun Γ => (ev fs c Γ).bind fun (x, Γ1) => (testD Γ1 x).map fun t => (t, Γ1)) (exs fs pn b) fuel Γ
  | .for_ tg ik its b, Γ => (evs fs its Γ).bind fun (xs, Γ1) => (iterD ik xs Γ1).bind fun (ds, Γ2) => if disjB (tgIx tg) pn then forLoop tg (exs fs pn b) ds Γ2 else none
  | .setf c0 i nm e, Γ => (ev fs e Γ).bind fun (x, Γ1) => (fre Γ1 x).bind fun (d, Γ2) => match Γ2[i]? with
    | some (some (c, true)) => (putD c0 c nm d).map fun c' => .nx (Γ2.set i (some (c', true)))
    | _ => none
  | .xapp a d, Γ => (ev fs a Γ).bind fun (x, Γ1) => match x with
    | .nw (.lst xs) => if xs.length < sizeLine ∧ flatD d = true then some (.nx Γ1) else none
    | _ => none
  | .grow c i nm e0 tg e1 e2 k es, Γ => (ev fs e0 Γ).bind fun (x, Γ1) => match x, Γ1[i]? with
    | .nw (.lst L0), some (some (.obj c1 ks ds, true)) =>
      if c1 = c ∧ ks.length < 900 ∧ ks.length = ds.length ∧ ks.contains nm = false ∧ disjB (tgIx tg) (i :: pn) = true then
        (evs fs [e1, e2] (Γ1.set i none)).bind fun (xs, Γ2) => (iterD .zip xs Γ2).bind fun (zs, Γ3) => (fs[k]?).bind fun F =>
          (growLoop tg F (evs fs es) zs L0 Γ3).map fun (L, Γ4) => .nx (Γ4.set i (some (.obj c (ks ++ [nm]) (ds ++ [.lst L]), true)))
      else none
    | _, _ => none
  | .rse c ks es, Γ => (evs fs es Γ).bind fun (xs, Γ1) => (fres xs Γ1).bind fun (ds, Γ2) => if excOk ks ds then some (.xc c ks ds Γ2) else none
  | .xex e k, Γ => (ev fs e Γ).bind fun (x, Γ1) => match x with
    | .fz (.exc c ks ds) => some (.xc c ks ds Γ1)
    | x => match k with
      | .drop => some (.nx Γ1)
      | .ret => some (.rt x Γ1)
      | .asg tg => (fre Γ1 x).bind fun (d, Γ2) => if disjB (tgIx tg) pn then (asgT tg d Γ2).map .nx else none
      | .asgO i => match x with
        | .nw d => if i < Γ1.length ∧ disjB [i] pn = true then some (.nx (Γ1.set i (some (d, true)))) else none
        | x => (fre Γ1 x).bind fun (d, Γ2) => if i < Γ2.length ∧ disjB [i] pn = true then some (.nx (Γ2.set i (some (d, false)))) else none
  | .try_ e all i b, Γ => (ev fs e Γ).bind fun (x, Γ1) => match x with
    | .fz (.exc c ks ds) => if all.contains c ∧ disjB [i] pn = true ∧ i < Γ1.length then (exs fs pn b (Γ1.set i (some (.err c ks ds, false)))).bind fun o => match o with
      | .nx Γ2 => if noG (Γ2.set i none) then some (.nx (Γ2.set i none)) else none
      | _ => none
     else none
    | _ => some (.nx Γ1)
  | .sem is F, Γ => if disjB is pn then F fs Γ else none
def exs (fs : List FS) (pn : List Nat) : List S → Ct → Option Out
  | [], Γ => some (.nx Γ)
  | s :: ss, Γ => (ex fs pn s Γ).bind fun o => match o with
    | .nx Γ1 => exs fs pn ss Γ1
    | o => some o
end
/-- the slots of the arguments that are handed over -/
def ownPs : Nat → Ct → List Nat
  | _, [] => []
  | n, some (_, true) :: r => n :: ownPs (n + 1) r
  | n, _ :: r => ownPs (n + 1) r
/-- what comes back at the arguments -/
def outsOf : Ct → Ct → Ct
  | some (_, true) :: r, x :: xs => x :: outsOf r xs
  | y :: r, _ :: xs => y :: outsOf r xs
  | _, _ => []
def finish (np : Nat) (G0 : Ct) : Out → Option (RV × Ct)
  | .nx Γ => some (.fz .non, outsOf G0 Γ)
  | .rt (.fz d) Γ => some (.fz d, outsOf G0 Γ)
  | .rt (.nw d) Γ => some (.nw d, outsOf G0 Γ)
  | .rt (.sl i) Γ => match Γ[i]? with
    | some (some (d, true)) => if i < np then some (.fz d, outsOf G0 (Γ.set i (some (d, false)))) else some (.nw d, outsOf G0 Γ)
    | some (some (d, false)) => some (.fz d, outsOf G0 Γ)
    | _ => none
  | _ => none
/-- a def: np parameters, n slots -/
def runF (fs : List FS) (np n : Nat) (body : List S) : FS := fun G0 =>
  if G0.length = np then (exs fs (ownPs 0 G0) body (G0 ++ List.replicate (n - np) none)).bind (finish np G0) else none
end DV

namespace DV
open PySem L2

/-! ### results -/
def Val (g : Gx) (Bn : Addr → Prop) (Ow : List Addr) (H : Hp) (σ : St) (Γ : Ct) : RV → V → Prop
  | .fz d, v => Rep g (Av Bn Ow) H d v
  | .nw d, v => ∃ a, v = .ref a ∧ a ∈ Ow ∧ OwnA g (Av Bn Ow) H d a ∧ ∀ (i : Nat) e, Γ[i]? = some (some (e, true)) → σ[i]? ≠ some (some (.ref a))
  | .sl i, v => σ[i]? = some (some v)
def RV.dn : RV → RV
  | .nw d => .fz d
  | r => r
theorem datum_dn (Γ : Ct) (r : RV) : datum Γ r.dn = datum Γ r := by cases r <;> rfl
theorem fre_dn (Γ : Ct) (r : RV) : fre Γ r.dn = fre Γ r := by cases r <;> rfl
/-- a value that can be read: its top may be owned -/
def Rdb (g : Gx) (A : Addr → Prop) (H : Hp) (d : D) (v : V) : Prop :=
  match d with
  | .lst ds => ∃ a vs, v = .ref a ∧ H a = some (.lst vs) ∧ Reps g A H ds vs
  | .obj c ks ds => ∃ a dx vs, v = .ref a ∧ ks.length = vs.length ∧ H a = some (.ins (g.cl c) dx (ks.zip vs)) ∧ Reps g A H ds vs
  | d => Rep g A H d v
section
variable {g : Gx} {Bn : Addr → Prop} {Ow Ow' : List Addr} {H H' : Hp} {σ : St} {Γ Γ' : Ct} {A : Addr → Prop}
theorem Rep.rdb {d : D} {v : V} (h : Rep g A H d v) : Rdb g A H d v := by
  cases d with
  | lst ds => simp only [Rep] at h; obtain ⟨a, vs, e, _, s, r⟩ := h; exact ⟨a, vs, e, s, r⟩
  | obj c ks ds => simp only [Rep] at h; obtain ⟨a, dx, vs, e, _, l, s, r⟩ := h; exact ⟨a, dx, vs, e, l, s, r⟩
  | _ => exact h
theorem OwnA.rdb {d : D} {a : Addr} (h : OwnA g A H d a) : Rdb g A H d (.ref a) := by
  cases d with
  | lst ds => obtain ⟨vs, e, r⟩ := h; exact ⟨a, vs, rfl, e, r⟩
  | obj c ks ds => obtain ⟨dx, vs, l, e, r⟩ := h; exact ⟨a, dx, vs, rfl, l, e, r⟩
  | _ => exact h.elim
theorem Rdb.same {d : D} {v : V} (h : Rdb g A H d v) (s : Same H H') : Rdb g A H' d v := by
  cases d with
  | lst ds => obtain ⟨a, vs, e, s1, r⟩ := h; exact ⟨a, vs, e, s _ _ s1, r.same s⟩
  | obj c ks ds => obtain ⟨a, dx, vs, e, l, s1, r⟩ := h; exact ⟨a, dx, vs, e, l, s _ _ s1, r.same s⟩
  | _ => exact Rep.same h s
theorem Val.rdb {r : RV} {v : V} {d : D} (rs : RS g Bn Ow H σ Γ) (h : Val g Bn Ow H σ Γ r v) (e : datum Γ r = some d) : Rdb g (Av Bn Ow) H d v := by
  cases r with
  | fz x => simp only [datum, Option.some.injEq] at e; subst e; exact Rep.rdb h
  | nw x => simp only [datum, Option.some.injEq] at e; subst e; obtain ⟨a, rfl, _, o, _⟩ := h; exact o.rdb
  | sl i =>
    simp only [datum] at e
    have h : σ[i]? = some (some v) := h
    split at e
    · rename_i x b q
      cases e
      cases b with
      | false => obtain ⟨w, e1, r1⟩ := rs.slot i _ q; rw [h] at e1; cases e1; exact r1.rdb
      | true => obtain ⟨a, e1, _, o⟩ := rs.own i _ q; rw [h] at e1; cases e1; exact o.rdb
    · cases e
/-- pending values over a step -/
theorem Val.step {r : RV} {v : V} (h : Val g Bn Ow H σ Γ r.dn v) (s : Stp Ow H Ow' H') (rs : RS g Bn Ow' H' σ Γ') : Val g Bn Ow' H' σ Γ' r.dn v := by
  cases r with
  | fz x => exact Rep.step h s rs
  | nw x => exact Rep.step h s rs
  | sl i => exact h
/-- fewer owned -/
theorem RS.less (rs : RS g Bn Ow H σ Γ) (k : ∀ a, a ∈ Ow' → a ∈ Ow) (ks : ∀ (i : Nat) d a, Γ[i]? = some (some (d, true)) → σ[i]? = some (some (.ref a)) → a ∈ Ow → a ∈ Ow') : RS g Bn Ow' H σ Γ := by
  have kk : ∀ a, Av Bn Ow' a → Av Bn Ow a := fun a h => h.elim .inl fun z => .inr (k a z)
  refine ⟨rs.len, fun i d h => ?_, fun i d h => ?_, rs.dist, fun a h => rs.trl a (kk a h), fun a h z => rs.sep a h (k a z), fun a h => rs.kf a (kk a h), rs.tabs⟩
  · obtain ⟨v, e, r⟩ := rs.slot i d h; exact ⟨v, e, rep_less kk r⟩
  · obtain ⟨a, e, m, r⟩ := rs.own i d h; exact ⟨a, e, ks i d a h e m, own_less kk r⟩
theorem stp_less (k : ∀ a, a ∈ Ow' → a ∈ Ow) : Stp Ow H Ow' H := ⟨fun _ _ h _ _ => h, fun a h => .inl (k a h)⟩
theorem mem_ne {a b : Addr} (h : a ∈ Ow.filter (fun x => decide (x ≠ b))) : a ∈ Ow ∧ a ≠ b := by
  have := List.mem_filter.mp h
  exact ⟨this.1, of_decide_eq_true this.2⟩
theorem ne_mem {a b : Addr} (h : a ∈ Ow) (n : a ≠ b) : a ∈ Ow.filter (fun x => decide (x ≠ b)) := List.mem_filter.mpr ⟨h, decide_eq_true n⟩
/-- a value becomes a plain one -/
theorem fre_ok {r : RV} {v : V} {d : D} (rs : RS g Bn Ow H σ Γ) (h : Val g Bn Ow H σ Γ r v) (e : fre Γ r = some (d, Γ')) : ∃ Ow', Stp Ow H Ow' H ∧ RS g Bn Ow' H σ Γ' ∧ Rep g (Av Bn Ow') H d v := by
  cases r with
  | fz x => simp only [fre, Option.some.injEq, Prod.mk.injEq] at e; obtain ⟨rfl, rfl⟩ := e; exact ⟨Ow, .refl _ _, rs, h⟩
  | nw x =>
    simp only [fre, Option.some.injEq, Prod.mk.injEq] at e; obtain ⟨rfl, rfl⟩ := e
    obtain ⟨a, rfl, m, o, no⟩ := h
    have kk : ∀ b, b ∈ Ow.filter (fun x => decide (x ≠ a)) → b ∈ Ow := fun b z => (mem_ne z).1
    refine ⟨Ow.filter (fun x => decide (x ≠ a)), stp_less kk, rs.less kk (fun i d b q1 q2 q3 => ne_mem q3 fun z => ?_), (own_less (fun b z => z.elim .inl fun z => .inr (kk b z)) o).rep fun z => ?_⟩
    · subst z; exact no i d q1 q2
    · rcases z with z | z
      · exact rs.sep a z m
      · exact (mem_ne z).2 rfl
  | sl i =>
    simp only [fre] at e
    have h : σ[i]? = some (some v) := h
    split at e
    · rename_i x q
      simp only [Option.some.injEq, Prod.mk.injEq] at e; obtain ⟨rfl, rfl⟩ := e
      obtain ⟨a, e1, m, o⟩ := rs.own i _ q
      rw [h] at e1; cases e1
      have kk : ∀ b, b ∈ Ow.filter (fun x => decide (x ≠ a)) → b ∈ Ow := fun b z => (mem_ne z).1
      have ka : ∀ b, Av Bn (Ow.filter (fun x => decide (x ≠ a))) b → Av Bn Ow b := fun b z => z.elim .inl fun z => .inr (kk b z)
      have hil : i < Γ.length := (List.getElem?_eq_some_iff.mp q).1
      have rp : Rep g (Av Bn (Ow.filter (fun x => decide (x ≠ a)))) H x (.ref a) := (own_less ka o).rep fun z => by
        rcases z with z | z
        · exact rs.sep a z m
        · exact (mem_ne z).2 rfl
      refine ⟨Ow.filter (fun x => decide (x ≠ a)), stp_less kk, ⟨by rw [List.length_set]; exact rs.len, fun j d' h' => ?_, fun j d' h' => ?_, fun j k d1 d2 b h1 h2 h3 h4 => ?_, fun b z => rs.trl b (ka b z), fun b z w => rs.sep b z (kk b w), fun b z => rs.kf b (ka b z), rs.tabs⟩, rp⟩
      · by_cases hj : i = j
        · subst hj
          rw [List.getElem?_set_self hil] at h'
          cases h'
          exact ⟨_, h, rp⟩
        · rw [List.getElem?_set_ne hj] at h'
          obtain ⟨w, e2, r2⟩ := rs.slot j d' h'
          exact ⟨w, e2, rep_less ka r2⟩
      · by_cases hj : i = j
        · subst hj
          rw [List.getElem?_set_self hil] at h'
          cases h'
        · rw [List.getElem?_set_ne hj] at h'
          obtain ⟨b, e2, m2, r2⟩ := rs.own j d' h'
          exact ⟨b, e2, ne_mem m2 fun z => hj (by subst z; exact rs.dist i j _ _ _ q h' h e2), own_less ka r2⟩
      · have ne1 : i ≠ j := fun z => by subst z; rw [List.getElem?_set_self hil] at h1; cases h1
        have ne2 : i ≠ k := fun z => by subst z; rw [List.getElem?_set_self hil] at h2; cases h2
        rw [List.getElem?_set_ne ne1] at h1
        rw [List.getElem?_set_ne ne2] at h2
        exact rs.dist j k _ _ _ h1 h2 h3 h4
    · rename_i x q
      simp only [Option.some.injEq, Prod.mk.injEq] at e; obtain ⟨rfl, rfl⟩ := e
      obtain ⟨w, e1, r1⟩ := rs.slot i _ q
      rw [h] at e1; cases e1
      exact ⟨Ow, .refl _ _, rs, r1⟩
    · cases e
theorem dn_ok {r : RV} {v : V} (rs : RS g Bn Ow H σ Γ) (h : Val g Bn Ow H σ Γ r v) : ∃ Ow', Stp Ow H Ow' H ∧ RS g Bn Ow' H σ Γ ∧ Val g Bn Ow' H σ Γ r.dn v := by
  cases r with
  | fz x => exact ⟨Ow, .refl _ _, rs, h⟩
  | sl i => exact ⟨Ow, .refl _ _, rs, h⟩
  | nw x => exact fre_ok rs h rfl
/-- a new object is laid, and owned -/
theorem RS.add {p : Addr} (rs : RS g Bn Ow H σ Γ) (s : Same H H') (np : H p = none) (hp : LI H' p) (hk : g.K.lookup p = none) : RS g Bn (p :: Ow) H' σ Γ := by
  have vs : ∀ a, Vst g (Av Bn Ow) H a → (∀ o, H a = some o → nT o → H' a = some o) ∧ ¬ Av Bn (p :: Ow) a := fun a ⟨n, t⟩ => by
    refine ⟨fun o h _ => s a o h, fun z => ?_⟩
    rcases z with z | z
    · exact n (.inl z)
    · rcases List.mem_cons.mp z with z | z
      · subst z
        rcases t with ⟨o, t, _⟩ | ⟨o, t⟩
        · rw [np] at t; cases t
        · rw [hk] at t; cases t
      · exact n (.inr z)
  refine ⟨rs.len, fun i d h => ?_, fun i d h => ?_, rs.dist, fun a h => ?_, fun a h z => ?_, fun a h => ?_, fun q hq => (rs.tabs q hq).ext s⟩
  · obtain ⟨v, e, r⟩ := rs.slot i d h; exact ⟨v, e, rep_mono vs d v r⟩
  · obtain ⟨a, e, m, r⟩ := rs.own i d h
    refine ⟨a, e, List.mem_cons_of_mem _ m, ?_⟩
    cases d with
    | lst ds => obtain ⟨ws, e1, r1⟩ := r; exact ⟨ws, s _ _ e1, reps_mono vs _ _ r1⟩
    | obj c ks ds => obtain ⟨dx, ws, l, e1, r1⟩ := r; exact ⟨dx, ws, l, s _ _ e1, reps_mono vs _ _ r1⟩
    | _ => exact r
  · rcases h with h | h
    · exact (rs.trl a (.inl h)).same s
    · rcases List.mem_cons.mp h with h | h
      · subst h; exact hp
      · exact (rs.trl a (.inr h)).same s
  · rcases List.mem_cons.mp z with z | z
    · subst z; exact rs.trk a (.inl h) np
    · exact rs.sep a h z
  · rcases h with h | h
    · exact rs.kf a (.inl h)
    · rcases List.mem_cons.mp h with h | h
      · subst h; exact hk
      · exact rs.kf a (.inr h)
theorem stp_add {p : Addr} (s : Same H H') (np : H p = none) : Stp Ow H (p :: Ow) H' where
  keep0 := fun a o h _ _ => s a o h
  grow := fun a h => by
    rcases List.mem_cons.mp h with h | h
    · subst h; exact .inr (nw_none np)
    · exact .inl h
theorem same_new {p : Addr} {o : HO} (h : H p = none) : Same H (upd H p o) := fun b x e => by
  rw [upd_ne (ne_of_none e h)]
  exact e
/-- the result of an operation that lays at most one object -/
def Res (g : Gx) (A : Addr → Prop) (H H' : Hp) : RV → V → Prop
  | .fz d, v => Rep g A H' d v
  | .nw d, v => ∃ p, v = .ref p ∧ H p = none ∧ g.K.lookup p = none ∧ OwnA g (fun a => A a ∨ a = p) H' d p
  | .sl _, _ => False
theorem Res.val {r : RV} {v : V} (rs : RS g Bn Ow H σ Γ) (s : Same H H') (h : Res g (Av Bn Ow) H H' r v) :
    ∃ Ow', Stp Ow H Ow' H' ∧ RS g Bn Ow' H' σ Γ ∧ Val g Bn Ow' H' σ Γ r v := by
  cases r with
  | fz d => exact ⟨Ow, Stp.same s, rs.same s, h⟩
  | sl i => exact h.elim
  | nw d =>
    obtain ⟨p, rfl, np, hk, o⟩ := h
    have hp : LI H' p := by
      cases d with
      | lst ds => obtain ⟨ws, e1, _⟩ := o; exact .inl ⟨_, e1⟩
      | obj c ks ds => obtain ⟨dx, ws, l, e1, _⟩ := o; exact .inr ⟨_, _, _, e1⟩
      | _ => exact o.elim
    refine ⟨p :: Ow, stp_add s np, rs.add s np hp hk, p, rfl, List.mem_cons_self, own_less (fun a z => ?_) o, fun i e h1 h2 => ?_⟩
    · rcases z with z | z
      · exact .inl (.inl z)
      · rcases List.mem_cons.mp z with z | z
        · exact .inr z
        · exact .inl (.inr z)
    · obtain ⟨a, e2, m, _⟩ := rs.own i e h1
      rw [h2] at e2; cases e2
      exact rs.trk p (.inr m) np
end

/-! ### rules, weakened and with what the state says -/
section
variable {X : Cx}
theorem Inv.kf {pins : List (Addr × Obj)} {σ : St} {H : Hp} {s : Shared} (I : Inv X pins σ H s) : ∀ a o, X.K.lookup a = some o → H a = none := fun a o e => (I.bs a o (I.ok.mod.kin a o e)).2
theorem PE.weak {e : Expr} {t t' : TE} (h : PE X e t) (k : ∀ σ H Q, t' σ H Q → t σ H Q) : PE X e t' := ⟨fun pins s σ H Q I q => h.run pins s σ H Q I (k σ H Q q)⟩
theorem PE.kf {e : Expr} {t : TE} (h : PE X e t) : PE X e (fun σ H Q => t σ H fun v H' => (∀ a o, X.K.lookup a = some o → H' a = none) → Q v H') :=
  ⟨fun pins s σ H Q I q => thn (h.run pins s σ H _ I q) fun u s1 ⟨v, H1, I1, r, q1⟩ => ⟨v, H1, I1, r, q1 (Inv.kf I1)⟩⟩
theorem PT.weak {e : Expr} {t t' : TT} (h : PT X e t) (k : ∀ σ H Q, t' σ H Q → t σ H Q) : PT X e t' := ⟨fun pins s σ H Q I q => h.run pins s σ H Q I (k σ H Q q)⟩
theorem PA.weak {e : List Expr} {t t' : TA} (h : PA X e t) (k : ∀ σ H Q, t' σ H Q → t σ H Q) : PA X e t' := ⟨fun p pins s σ H Q I q => h.run p pins s σ H Q I (k σ H Q q)⟩
theorem OpR.weak {f : Value → Value → Sem Value} {r r' : R2} (h : OpR X f r) (k : ∀ x y H Q, r' x y H Q → r x y H Q) : OpR X f r' := fun pins s σ H x y v u Q I rx ry q => h pins s σ H x y v u Q I rx ry (k x y H Q q)
theorem OpR.kf {f : Value → Value → Sem Value} {r : R2} (h : OpR X f r) : OpR X f (fun x y H Q => r x y H fun v H' => (∀ a o, X.K.lookup a = some o → H' a = none) → Q v H') := fun pins s σ H x y v u Q I rx ry q =>
  thn (h pins s σ H x y v u _ I rx ry q) fun u s1 ⟨v, H1, I1, r, q1⟩ => ⟨v, H1, I1, r, q1 (Inv.kf I1)⟩
theorem CallR.weak {f : Value} {r r' : List V → Hp → VK → Prop} (h : CallR X f r) (k : ∀ x H Q, r' x H Q → r x H Q) : CallR X f r' := fun pins s σ H x v Q I rx q => h pins s σ H x v Q I rx (k x H Q q)
theorem CallR.kf {f : Value} {r : List V → Hp → VK → Prop} (h : CallR X f r) : CallR X f (fun x H Q => r x H fun v H' => (∀ a o, X.K.lookup a = some o → H' a = none) → Q v H') := fun pins s σ H x v Q I rx q =>
  thn (h pins s σ H x v _ I rx q) fun u s1 ⟨v, H1, I1, r, q1⟩ => ⟨v, H1, I1, r, q1 (Inv.kf I1)⟩
theorem kf_new {K : PySem.W.Frag} {H : Hp} {p : Addr} {o : HO} (kf : ∀ a o, K.lookup a = some o → H a = none) (h : H p = some o) : K.lookup p = none := by
  cases e : K.lookup p with
  | none => rfl
  | some x => rw [kf p x e] at h; cases h
theorem IxR.weak {r r' : R2} (h : IxR X r) (k : ∀ x y H Q, r' x y H Q → r x y H Q) : IxR X r' := fun a b pins s σ H x y v u Q I rx ry q => h a b pins s σ H x y v u Q I rx ry (k x y H Q q)
end
end DV

namespace DV
open PySem L2
/-! ### equality of data -/
mutual
def toPy : D → PyData
  | .non => .none
  | .bl b => .bool b
  | .int i => .int i
  | .str x => .str x
  | .lst ds => .list (toPys ds)
  | .tup ds => .tuple (toPys ds)
  | .obj _ _ _ => .none
  | .scr _ => .none
  | .dct => .none
  | .dic _ _ => .none
  | .exc _ _ _ => .none
  | .err _ _ _ => .none
  | .ref _ => .none
def toPys : List D → List PyData
  | [] => []
  | d :: ds => toPy d :: toPys ds
end
theorem okB_lst {n : Nat} {ds : List D} (h : okB n (.lst ds) = true) : ∃ m, n = m + 1 ∧ ds.all (okB m) = true := by
  cases n with
  | zero => simp [okB] at h
  | succ m => exact ⟨m, rfl, by simpa only [okB] using h⟩
theorem okB_tup {n : Nat} {ds : List D} (h : okB n (.tup ds) = true) : ∃ m, n = m + 1 ∧ ds.all (okB m) = true := by
  cases n with
  | zero => simp [okB] at h
  | succ m => exact ⟨m, rfl, by simpa only [okB] using h⟩
theorem okB_obj {n : Nat} {c : Nat} {ks : List Str} {ds : List D} : okB n (.obj c ks ds) = false := by cases n <;> rfl
theorem okB_scr {n : Nat} {ns : List Int} : okB n (.scr ns) = false := by cases n <;> rfl
theorem okB_dct {n : Nat} : okB n .dct = false := by cases n <;> rfl
theorem okB_dic {n : Nat} {ks : List Int} {ds : List D} : okB n (.dic ks ds) = false := by cases n <;> rfl
theorem okB_exc {n : Nat} {c : Nat} {ks : List Str} {ds : List D} : okB n (.exc c ks ds) = false := by cases n <;> rfl
theorem okB_err {n : Nat} {c : Nat} {ks : List Str} {ds : List D} : okB n (.err c ks ds) = false := by cases n <;> rfl
theorem okB_ref {n : Nat} {k : Nat} : okB n (.ref k) = false := by cases n <;> rfl
mutual
theorem py_lay : ∀ (d : D) (n : Nat), okB n d = true → PyData.canLay0 (toPy d) = true ∧ PyData.depth (toPy d) ≤ n
  | .non, n, h => ⟨rfl, Nat.zero_le _⟩
  | .bl _, n, h => ⟨rfl, Nat.zero_le _⟩
  | .int _, n, h => ⟨rfl, Nat.zero_le _⟩
  | .str x, n, h => by
    have h' : PyData.strOk x = true := by cases n <;> simpa only [okB] using h
    exact ⟨h', Nat.zero_le _⟩
  | .lst ds, n, h => by
    obtain ⟨m, rfl, h⟩ := okB_lst h
    have q := pys_lay ds m h
    exact ⟨by simpa only [toPy, PyData.canLay0] using q.1, by simp only [toPy, PyData.depth]; omega⟩
  | .tup ds, n, h => by
    obtain ⟨m, rfl, h⟩ := okB_tup h
    have q := pys_lay ds m h
    exact ⟨by simpa only [toPy, PyData.canLay0] using q.1, by simp only [toPy, PyData.depth]; omega⟩
  | .obj _ _ _, n, h => by rw [okB_obj] at h; cases h
  | .scr _, n, h => by rw [okB_scr] at h; cases h
  | .dct, n, h => by rw [okB_dct] at h; cases h
  | .dic _ _, n, h => by rw [okB_dic] at h; cases h
  | .exc _ _ _, n, h => by rw [okB_exc] at h; cases h
  | .err _ _ _, n, h => by rw [okB_err] at h; cases h
  | .ref _, n, h => by rw [okB_ref] at h; cases h
theorem pys_lay : ∀ (ds : List D) (n : Nat), ds.all (okB n) = true → PyData.canLayAll0 (toPys ds) = true ∧ PyData.depthAll (toPys ds) ≤ n
  | [], n, h => ⟨rfl, Nat.zero_le _⟩
  | d :: ds, n, h => by
    rw [List.all_cons, Bool.and_eq_true] at h
    have q1 := py_lay d n h.1
    have q2 := pys_lay ds n h.2
    refine ⟨by simp only [toPys, PyData.canLayAll0, q1.1, q2.1]; rfl, ?_⟩
    simp only [toPys, PyData.depthAll]
    omega
end
theorem py_shaped {d : D} (h : okB 12 d = true) : SeqAt.shaped (toPy d) = true := by
  have q := py_lay d 12 h
  unfold SeqAt.shaped
  rw [q.1, decide_eq_true (show PyData.depth (toPy d) ≤ 64 by omega)]
  rfl
mutual
theorem py_eqv : ∀ (d e : D) (n m : Nat), okB n d = true → okB m e = true → PyData.eqv (toPy d) (toPy e) = eqd d e
  | .lst xs, e, n, m, h, h' => by
    obtain ⟨k, rfl, h⟩ := okB_lst h
    cases e with
    | lst ys =>
      obtain ⟨k', rfl, h'⟩ := okB_lst h'
      simp only [toPy, PyData.eqv, eqd]
      exact pys_eqv xs ys k k' h h'
    | obj => rw [okB_obj] at h'; cases h'
    | scr => rw [okB_scr] at h'; cases h'
    | dct => rw [okB_dct] at h'; cases h'
    | dic _ _ => rw [okB_dic] at h'; cases h'
    | exc _ _ _ => rw [okB_exc] at h'; cases h'
    | err _ _ _ => rw [okB_err] at h'; cases h'
    | ref _ => rw [okB_ref] at h'; cases h'
    | _ => simp only [toPy, PyData.eqv, eqd]
  | .tup xs, e, n, m, h, h' => by
    obtain ⟨k, rfl, h⟩ := okB_tup h
    cases e with
    | tup ys =>
      obtain ⟨k', rfl, h'⟩ := okB_tup h'
      simp only [toPy, PyData.eqv, eqd]
      exact pys_eqv xs ys k k' h h'
    | obj => rw [okB_obj] at h'; cases h'
    | scr => rw [okB_scr] at h'; cases h'
    | dct => rw [okB_dct] at h'; cases h'
    | dic _ _ => rw [okB_dic] at h'; cases h'
    | exc _ _ _ => rw [okB_exc] at h'; cases h'
    | err _ _ _ => rw [okB_err] at h'; cases h'
    | ref _ => rw [okB_ref] at h'; cases h'
    | _ => simp only [toPy, PyData.eqv, eqd]
  | .non, e, n, m, h, h' => by
    cases e with
    | obj => rw [okB_obj] at h'; cases h'
    | scr => rw [okB_scr] at h'; cases h'
    | dct => rw [okB_dct] at h'; cases h'
    | dic _ _ => rw [okB_dic] at h'; cases h'
    | exc _ _ _ => rw [okB_exc] at h'; cases h'
    | err _ _ _ => rw [okB_err] at h'; cases h'
    | ref _ => rw [okB_ref] at h'; cases h'
    | _ => simp only [toPy, PyData.eqv, eqd]
  | .bl _, e, n, m, h, h' => by
    cases e with
    | obj => rw [okB_obj] at h'; cases h'
    | scr => rw [okB_scr] at h'; cases h'
    | dct => rw [okB_dct] at h'; cases h'
    | dic _ _ => rw [okB_dic] at h'; cases h'
    | exc _ _ _ => rw [okB_exc] at h'; cases h'
    | err _ _ _ => rw [okB_err] at h'; cases h'
    | ref _ => rw [okB_ref] at h'; cases h'
    | _ => simp only [toPy, PyData.eqv, eqd]
  | .int _, e, n, m, h, h' => by
    cases e with
    | obj => rw [okB_obj] at h'; cases h'
    | scr => rw [okB_scr] at h'; cases h'
    | dct => rw [okB_dct] at h'; cases h'
    | dic _ _ => rw [okB_dic] at h'; cases h'
    | exc _ _ _ => rw [okB_exc] at h'; cases h'
    | err _ _ _ => rw [okB_err] at h'; cases h'
    | ref _ => rw [okB_ref] at h'; cases h'
    | _ => simp only [toPy, PyData.eqv, eqd]
  | .str _, e, n, m, h, h' => by
    cases e with
    | obj => rw [okB_obj] at h'; cases h'
    | scr => rw [okB_scr] at h'; cases h'
    | dct => rw [okB_dct] at h'; cases h'
    | dic _ _ => rw [okB_dic] at h'; cases h'
    | exc _ _ _ => rw [okB_exc] at h'; cases h'
    | err _ _ _ => rw [okB_err] at h'; cases h'
    | ref _ => rw [okB_ref] at h'; cases h'
    | _ => simp only [toPy, PyData.eqv, eqd]
  | .obj _ _ _, e, n, m, h, h' => by rw [okB_obj] at h; cases h
  | .scr _, e, n, m, h, h' => by rw [okB_scr] at h; cases h
  | .dct, e, n, m, h, h' => by rw [okB_dct] at h; cases h
  | .dic _ _, e, n, m, h, h' => by rw [okB_dic] at h; cases h
  | .exc _ _ _, e, n, m, h, h' => by rw [okB_exc] at h; cases h
  | .err _ _ _, e, n, m, h, h' => by rw [okB_err] at h; cases h
  | .ref _, e, n, m, h, h' => by rw [okB_ref] at h; cases h
theorem pys_eqv : ∀ (xs ys : List D) (n m : Nat), xs.all (okB n) = true → ys.all (okB m) = true → PyData.eqvAll (toPys xs) (toPys ys) = eqds xs ys
  | [], ys, n, m, h, h' => by cases ys <;> simp only [toPys, PyData.eqvAll, eqds]
  | x :: xs, ys, n, m, h, h' => by
    cases ys with
    | nil => simp only [toPys, PyData.eqvAll, eqds]
    | cons y ys =>
      rw [List.all_cons, Bool.and_eq_true] at h h'
      simp only [toPys, PyData.eqvAll, eqds]
      rw [py_eqv x y n m h.1 h'.1, pys_eqv xs ys n m h.2 h'.2]
end
section
variable {g : Gx} {A : Addr → Prop} {H : Hp}
mutual
theorem rep_dp : ∀ (d : D) (n : Nat) (v : V), okB n d = true → Rep g A H d v → Dp g.K H v (toPy d)
  | .non, n, v, _, h => by simp only [Rep] at h; subst h; exact .non
  | .bl b, n, v, _, h => by simp only [Rep] at h; subst h; exact .bl b
  | .int b, n, v, _, h => by simp only [Rep] at h; subst h; exact .int b
  | .str b, n, v, _, h => by simp only [Rep] at h; subst h; exact .str b
  | .lst ds, n, v, k, h => by
    obtain ⟨m, rfl, k⟩ := okB_lst k
    simp only [Rep] at h
    obtain ⟨a, vs, rfl, _, s, r⟩ := h
    exact .lst (.inl (.inl s)) (reps_dp ds m vs k r)
  | .tup ds, n, v, k, h => by
    obtain ⟨m, rfl, k⟩ := okB_tup k
    simp only [Rep] at h
    obtain ⟨a, vs, rfl, _, s, r⟩ := h
    exact .tup s (reps_dp ds m vs k r)
  | .obj _ _ _, n, v, k, _ => by rw [okB_obj] at k; cases k
  | .scr _, n, v, k, _ => by rw [okB_scr] at k; cases k
  | .dct, n, v, k, _ => by rw [okB_dct] at k; cases k
  | .dic _ _, n, v, k, _ => by rw [okB_dic] at k; cases k
  | .exc _ _ _, n, v, k, _ => by rw [okB_exc] at k; cases k
  | .err _ _ _, n, v, k, _ => by rw [okB_err] at k; cases k
  | .ref _, n, v, k, _ => by rw [okB_ref] at k; cases k
theorem reps_dp : ∀ (ds : List D) (n : Nat) (vs : List V), ds.all (okB n) = true → Reps g A H ds vs → DpAll g.K H vs (toPys ds)
  | [], n, vs, _, h => by simp only [Reps] at h; subst h; exact .nil
  | d :: ds, n, vs, k, h => by
    rw [List.all_cons, Bool.and_eq_true] at k
    simp only [Reps] at h
    obtain ⟨v, r, rfl, h1, h2⟩ := h
    exact .cons (rep_dp d n v k.1 h1) (reps_dp ds n r k.2 h2)
end
theorem rdb_dp {d : D} {n : Nat} {v : V} (k : okB n d = true) (h : Rdb g A H d v) : Dp g.K H v (toPy d) := by
  cases d with
  | lst ds =>
    obtain ⟨m, rfl, k⟩ := okB_lst k
    obtain ⟨a, vs, rfl, s, r⟩ := h
    exact .lst (.inl (.inl s)) (reps_dp ds m vs k r)
  | obj => rw [okB_obj] at k; cases k
  | scr => rw [okB_scr] at k; cases k
  | dct => rw [okB_dct] at k; cases k
  | dic _ _ => rw [okB_dic] at k; cases k
  | exc _ _ _ => rw [okB_exc] at k; cases k
  | err _ _ _ => rw [okB_err] at k; cases k
  | ref _ => rw [okB_ref] at k; cases k
  | non => exact rep_dp (A := A) _ n v k h
  | bl => exact rep_dp (A := A) _ n v k h
  | int => exact rep_dp (A := A) _ n v k h
  | str => exact rep_dp (A := A) _ n v k h
  | tup => exact rep_dp (A := A) _ n v k h
theorem rdb_int {i : Int} {v : V} (h : Rdb g A H (.int i) v) : v = .int i := by simpa only [Rdb, Rep] using h
theorem rdb_str {i : Str} {v : V} (h : Rdb g A H (.str i) v) : v = .str i := by simpa only [Rdb, Rep] using h
theorem rdb_bl {i : Bool} {v : V} (h : Rdb g A H (.bl i) v) : v = .bl i := by simpa only [Rdb, Rep] using h
theorem rdb_non {v : V} (h : Rdb g A H .non v) : v = .non := by simpa only [Rdb, Rep] using h
theorem rdb_tup {ds : List D} {v : V} (h : Rdb g A H (.tup ds) v) : ∃ a vs, v = .ref a ∧ ¬ A a ∧ SqT g.K H a vs ∧ Reps g A H ds vs := by simpa only [Rdb, Rep] using h
theorem rdb_dct {v : V} (h : Rdb g A H .dct v) : ∃ a, v = .ref a ∧ ¬ A a ∧ H a = some (.dK []) := by simpa only [Rdb, Rep] using h
theorem rdb_dic {ks : List Int} {ds : List D} {v : V} (h : Rdb g A H (.dic ks ds) v) : ∃ a vs, v = .ref a ∧ ¬ A a ∧ ks.length = vs.length ∧ H a = some (.dK (dkV ks vs)) ∧ Reps g A H ds vs := by simpa only [Rdb, Rep] using h
theorem rdb_scr {ns : List Int} {v : V} (h : Rdb g A H (.scr ns) v) : ∃ a, v = .ref a ∧ ¬ A a ∧ SqL g.K H a (ns.map V.int) := by simpa only [Rdb, Rep] using h
/-- flat data and flat values -/
theorem flat_rep : ∀ {d : D} {v : V}, flatD d = true → Rep g A H d v → flatV v = true ∧ ∀ {e : D} {w : V}, flatD e = true → Rep g A H e w → eqV v w = eqd d e := by
  intro d v hd h
  cases d with
  | non => simp only [Rep] at h; subst h; exact ⟨rfl, fun {e w} he q => by cases e <;> first | (simp only [Rep] at q; subst q; rfl) | (simp [flatD] at he)⟩
  | bl b => simp only [Rep] at h; subst h; exact ⟨rfl, fun {e w} he q => by cases e <;> first | (simp only [Rep] at q; subst q; rfl) | (simp [flatD] at he)⟩
  | int b => simp only [Rep] at h; subst h; exact ⟨rfl, fun {e w} he q => by cases e <;> first | (simp only [Rep] at q; subst q; rfl) | (simp [flatD] at he)⟩
  | str b => simp only [Rep] at h; subst h; exact ⟨rfl, fun {e w} he q => by cases e <;> first | (simp only [Rep] at q; subst q; rfl) | (simp [flatD] at he)⟩
  | _ => simp [flatD] at hd
theorem flat_reps : ∀ {ds : List D} {vs : List V} {e : D} {w : V}, ds.all flatD = true → Reps g A H ds vs → flatD e = true → Rep g A H e w → vs.all flatV = true ∧ inV w vs = ds.any fun y => eqd y e
  | [], _, _, _, _, h, _, _ => by simp only [Reps] at h; subst h; exact ⟨rfl, rfl⟩
  | d :: ds, _, e, w, k, h, ke, he => by
    rw [List.all_cons, Bool.and_eq_true] at k
    simp only [Reps] at h
    obtain ⟨v, r, rfl, h1, h2⟩ := h
    have q1 := flat_rep k.1 h1
    have q2 := flat_reps k.2 h2 ke he
    refine ⟨by rw [List.all_cons, q1.1, q2.1]; rfl, ?_⟩
    have q3 : (r.any fun y => eqV y w) = ds.any fun y => eqd y e := q2.2
    show ((v :: r).any fun y => eqV y w) = _
    rw [List.any_cons, List.any_cons, q1.2 ke he, q3]
theorem rdb_flat {d : D} {v : V} (k : flatD d = true) (h : Rdb g A H d v) : Rep g A H d v := by
  cases d <;> first | exact h | (simp [flatD] at k)
end

/-! ### the operators -/
def CPowB (i j : Int) : Prop := 0 ≤ j ∧ (Builtin.Int.intBits i : Int) * j ≤ 2 ^ 27
theorem op_powB {X : Cx} : OpR X (binaryOp .Pow) (rI CPowB fun i j => .int (i ^ j.toNat)) := opI fun _ _ _ _ _ _ _ hc q => PyProof.Rows.pow_int hc.1 hc.2 q
/-- what an operation on data asks and gives -/
def rBin (g : Gx) (op : BOp) : R2 := fun x y H Q => ∃ A d e r, Rdb g A H d x ∧ Rdb g A H e y ∧ (∀ a, A a → H a ≠ none) ∧ binD op d e = some r ∧ ∀ v H', Same H H' → Res g A H H' r v → Q v H'
def opOf : BOp → Operator
  | .add => .Add | .sub => .Sub | .mul => .Mult | .fdiv => .FloorDiv | .mod => .Mod | .pow => .Pow
section
variable {X : Cx} {g : Gx}
theorem same_rfl (H : Hp) : Same H H := fun _ _ h => h
theorem new_lst {A : Addr → Prop} {H : Hp} {p : Addr} {ds : List D} {vs : List V} (np : H p = none) (hk : g.K.lookup p = none) (r : Reps g A H ds vs) : Res g A H (upd H p (.lst vs)) (.nw (.lst ds)) (.ref p) := by
  refine ⟨p, rfl, np, hk, vs, upd_same, reps_mono (fun a ⟨n, t⟩ => ⟨fun o h _ => same_new np a o h, fun z => ?_⟩) _ _ r⟩
  rcases z with z | z
  · exact n z
  · subst z
    rcases t with ⟨o, t, _⟩ | ⟨o, t⟩
    · rw [np] at t; cases t
    · rw [hk] at t; cases t
theorem new_tup {A : Addr → Prop} {H : Hp} {p : Addr} {ds : List D} {vs : List V} (np : H p = none) (tr : ∀ a, A a → H a ≠ none) (r : Reps g A H ds vs) : Res g A H (upd H p (.tup vs)) (.fz (.tup ds)) (.ref p) := by
  simp only [Res, Rep]
  exact ⟨p, vs, rfl, fun z => tr p z np, .inl (.inl upd_same), r.same (same_new np)⟩
theorem mulOk_of {i j : Int} (h : mulOk i j = true) : IntMulOk i j := by
  unfold mulOk at h
  simp only [Bool.or_eq_true, decide_eq_true_eq] at h
  rcases h with (h | h) | h
  · exact CMul.ok (.inl h)
  · exact CMul.ok (.inr h)
  · exact CMulW.ok h
theorem op_mulA : OpR X (binaryOp .Mult) (rI (fun i j => mulOk i j = true) fun i j => .int (i * j)) := opI fun _ _ _ _ _ _ _ hc q => PyProof.Rows.mul_int q (mulOk_of hc)
theorem op_bin (hK : X.K = g.K) (op : BOp) : OpR X (binaryOp (opOf op)) (rBin g op) := by
  have kfe : ∀ {H : Hp} {p : Addr} {o : HO}, (∀ a o, X.K.lookup a = some o → H a = none) → H p = some o → g.K.lookup p = none := fun h e => by rw [← hK]; exact kf_new h e
  cases op with
  | add =>
    refine OpR.weak (OpR.kf (op_add.or (op_add_str.or (op_cat.or op_catT)))) ?_
    rintro x y H Q ⟨A, d, e, r, hd, he, tr, hb, hQ⟩
    cases d <;> cases e <;> simp only [binD, reduceCtorEq, Option.ite_none_right_eq_some, Option.some.injEq] at hb
    · subst hb
      refine .inl ⟨_, _, rdb_int hd, rdb_int he, fun kf => hQ _ _ (same_rfl H) ?_⟩
      simp only [Res, Rep]
    · obtain ⟨hz, rfl⟩ := hb
      refine .inr (.inl ⟨_, _, rdb_str hd, rdb_str he, hz, fun kf => hQ _ _ (same_rfl H) ?_⟩)
      simp only [Res, Rep]
    · obtain ⟨hz, rfl⟩ := hb
      obtain ⟨a, vs, rfl, e1, r1⟩ := hd
      obtain ⟨b, ws, rfl, e2, r2⟩ := he
      refine .inr (.inr (.inl ⟨a, b, vs, ws, rfl, rfl, e1, e2, by rw [← r1.len, ← r2.len]; exact hz, fun p np kf => hQ _ _ (same_new np) (new_lst np (kfe kf upd_same) (r1.app r2))⟩))
    · obtain ⟨⟨hz, hne⟩, rfl⟩ := hb
      obtain ⟨a, vs, rfl, na, e1, r1⟩ := rdb_tup hd
      obtain ⟨b, ws, rfl, nb, e2, r2⟩ := rdb_tup he
      have l1 := r1.len
      have l2 := r2.len
      refine .inr (.inr (.inr ⟨a, b, vs, ws, rfl, rfl, by rw [hK]; exact e1, by rw [hK]; exact e2, fun z => ?_, by omega, fun z kf => hQ _ _ (same_rfl H) ?_, fun z p np kf => hQ _ _ (same_new np) (new_tup np tr (r1.app r2))⟩))
      · subst z
        exact hne (List.eq_nil_of_length_eq_zero l1)
      · subst z
        have : _ = [] := List.eq_nil_of_length_eq_zero l2
        subst this
        rw [List.append_nil]
        simp only [Res, Rep]
        exact ⟨a, vs, rfl, na, e1, r1⟩
  | sub =>
    refine OpR.weak (OpR.kf op_sub) ?_
    rintro x y H Q ⟨A, d, e, r, hd, he, tr, hb, hQ⟩
    cases d <;> cases e <;> simp only [binD, reduceCtorEq, Option.some.injEq] at hb
    subst hb
    exact ⟨_, _, rdb_int hd, rdb_int he, fun kf => hQ _ _ (same_rfl H) (by simp only [Res, Rep])⟩
  | mul =>
    refine OpR.weak (OpR.kf (op_mulA.or op_rep)) ?_
    rintro x y H Q ⟨A, d, e, r, hd, he, tr, hb, hQ⟩
    cases d <;> cases e <;> simp only [binD, reduceCtorEq, Option.ite_none_right_eq_some, Option.some.injEq] at hb
    · obtain ⟨hz, rfl⟩ := hb
      exact .inl ⟨_, _, rdb_int hd, rdb_int he, hz, fun kf => hQ _ _ (same_rfl H) (by simp only [Res, Rep])⟩
    · obtain ⟨⟨h1, h2, h3⟩, rfl⟩ := hb
      obtain ⟨a, vs, rfl, e1, r1⟩ := hd
      exact .inr ⟨a, _, vs, rfl, rdb_int he, e1, h1, h2, by rw [← r1.len]; exact h3, fun p np kf => hQ _ _ (same_new np) (new_lst np (kfe kf upd_same) (r1.repl _))⟩
  | fdiv =>
    refine OpR.weak (OpR.kf op_fdivW) ?_
    rintro x y H Q ⟨A, d, e, r, hd, he, tr, hb, hQ⟩
    cases d <;> cases e <;> simp only [binD, reduceCtorEq, Option.ite_none_right_eq_some, Option.some.injEq] at hb
    obtain ⟨hz, rfl⟩ := hb
    exact ⟨_, _, rdb_int hd, rdb_int he, hz, fun kf => hQ _ _ (same_rfl H) (by simp only [Res, Rep])⟩
  | mod =>
    refine OpR.weak (OpR.kf op_mod) ?_
    rintro x y H Q ⟨A, d, e, r, hd, he, tr, hb, hQ⟩
    cases d <;> cases e <;> simp only [binD, reduceCtorEq, Option.ite_none_right_eq_some, Option.some.injEq] at hb
    obtain ⟨hz, rfl⟩ := hb
    exact ⟨_, _, rdb_int hd, rdb_int he, hz, fun kf => hQ _ _ (same_rfl H) (by simp only [Res, Rep])⟩
  | pow =>
    refine OpR.weak (OpR.kf op_powB) ?_
    rintro x y H Q ⟨A, d, e, r, hd, he, tr, hb, hQ⟩
    cases d <;> cases e <;> simp only [binD, reduceCtorEq] at hb
    rename_i a b
    by_cases c : 0 ≤ b ∧ b ≤ 1000000 ∧ a.natAbs < 2 ^ 64
    · rw [if_pos c, Option.some.injEq] at hb
      subst hb
      exact ⟨_, _, rdb_int hd, rdb_int he, ⟨c.1, PyProof.Rows.bits_mul_le c.2.2 c.1 c.2.1⟩, fun kf => hQ _ _ (same_rfl H) (by simp only [Res, Rep])⟩
    · rw [if_neg c] at hb
      by_cases c2 : 0 ≤ b ∧ b ≤ 1000 ∧ in1k a = true
      · rw [if_pos c2, Option.some.injEq] at hb
        subst hb
        refine ⟨_, _, rdb_int hd, rdb_int he, ⟨c2.1, ?_⟩, fun kf => hQ _ _ (same_rfl H) (by simp only [Res, Rep])⟩
        have h1 := c2.2.2
        unfold in1k at h1
        have h2 := PyProof.Rows.intBits_le (of_decide_eq_true h1)
        have h3 : (Builtin.Int.intBits a : Int) * b ≤ 1000 * b := Int.mul_le_mul_of_nonneg_right (by omega) c2.1
        omega
      · rw [if_neg c2] at hb
        cases hb
def cmpOf : COp → CmpOp
  | .eq => .Eq | .ne => .NotEq | .lt => .Lt | .le => .LtE | .gt => .Gt | .ge => .GtE | .is => .Is | .isnot => .IsNot | .inn => .In | .notin => .NotIn
def rCmp (g : Gx) (op : COp) : R2 := fun x y H Q => ∃ A d e b, Rdb g A H d x ∧ Rdb g A H e y ∧ cmpD op d e = some b ∧ Q (.bl b) H
theorem rdb_isnon {A : Addr → Prop} {H : Hp} {d : D} {v : V} (h : Rdb g A H d v) : decide (v = .non) = isNonD d := by
  cases d with
  | non => rw [rdb_non h]; rfl
  | bl => rw [rdb_bl h]; rfl
  | int => rw [rdb_int h]; rfl
  | str => rw [rdb_str h]; rfl
  | lst => obtain ⟨a, vs, rfl, _⟩ := h; rfl
  | tup => obtain ⟨a, vs, rfl, _⟩ := rdb_tup h; rfl
  | obj => obtain ⟨a, dx, vs, rfl, _⟩ := h; rfl
  | scr => obtain ⟨a, rfl, _⟩ := rdb_scr h; rfl
  | dct => obtain ⟨a, rfl, _⟩ := rdb_dct h; rfl
  | dic ks ds => obtain ⟨a, vs, rfl, _⟩ := rdb_dic h; rfl
  | exc c ks ds => simp only [Rdb, Rep] at h; obtain ⟨a, vs, rfl, _⟩ := h; rfl
  | err c ks ds => simp only [Rdb, Rep] at h; obtain ⟨e0, a, vs, _, rfl, _⟩ := h; rfl
  | ref k => simp only [Rdb, Rep] at h; obtain ⟨a, _, rfl⟩ := h; rfl
theorem OpR.or {f : Value → Value → Sem Value} {r r' : R2} (h : OpR X f r) (h' : OpR X f r') : OpR X f (fun x y H Q => r x y H Q ∨ r' x y H Q) := fun pins s σ H x y v u Q I rx ry q => q.elim (fun q => h pins s σ H x y v u Q I rx ry q) fun q => h' pins s σ H x y v u Q I rx ry q
def rLenNe (K : PySem.W.Frag) (k : Bool) : R2 := fun x y H Q => ∃ a b xs ys, x = .ref a ∧ y = .ref b ∧ SqL K H a xs ∧ SqL K H b ys ∧ xs.length ≠ ys.length ∧ Q (.bl k) H
theorem op_eqLen (hu : X.A.units < cLine) : OpR X (compareOp .Eq) (rLenNe X.K false) := by
  rintro pins s σ H x y v u Q I rx ry ⟨a, b, xs, ys, rfl, rfl, ha, hb, hne, q⟩
  cases rx
  cases ry
  obtain ⟨its, r, e, z⟩ := I.list ha
  obtain ⟨its2, r2, e2, z2⟩ := I.list hb
  have hsz : (its.toArray.size != its2.toArray.size) = true := by
    rw [List.size_toArray, List.size_toArray, ← r.length, ← r2.length]
    simpa using hne
  exact PySem.SeqAt.eq_list_lengthsAt e.isList e2.isList hsz hu ⟨.bl false, H, I, rfl, q⟩
theorem op_neLen (hu : X.A.units < cLine) : OpR X (compareOp .NotEq) (rLenNe X.K true) := by
  rintro pins s σ H x y v u Q I rx ry ⟨a, b, xs, ys, rfl, rfl, ha, hb, hne, q⟩
  cases rx
  cases ry
  obtain ⟨its, r, e, z⟩ := I.list ha
  obtain ⟨its2, r2, e2, z2⟩ := I.list hb
  have hsz : (its.toArray.size != its2.toArray.size) = true := by
    rw [List.size_toArray, List.size_toArray, ← r.length, ← r2.length]
    simpa using hne
  exact PySem.SeqAt.RcNeAt.lists_lengths e.isList e2.isList hsz hu X.prog X.w X.xe _ ⟨.bl true, H, I, rfl, q⟩
theorem lenNe_ok {A : Addr → Prop} {H : Hp} {d e : D} {x y : V} {k : Bool} {Q : VK} (h : lenNe d e = true) (hd : Rdb g A H d x) (he : Rdb g A H e y) (hQ : Q (.bl k) H) : rLenNe g.K k x y H Q := by
  cases d <;> cases e <;> simp only [lenNe, Bool.false_eq_true, decide_eq_true_eq] at h
  obtain ⟨a, vs, rfl, s1, r1⟩ := hd
  obtain ⟨b, ws, rfl, s2, r2⟩ := he
  exact ⟨a, b, vs, ws, rfl, rfl, .inl (.inl s1), .inl (.inl s2), by rw [← r1.len, ← r2.len]; exact h, hQ⟩
theorem reps_two {A : Addr → Prop} {H : Hp} {i j : Int} {vs : List V} (h : Reps g A H [.int i, .int j] vs) : vs = [i, j].map V.int := by
  simp only [Reps, Rep] at h
  obtain ⟨_, _, rfl, rfl, _, _, rfl, rfl, rfl⟩ := h
  rfl
/-- (i, j) > (k, l) -/
def rGtP (K : PySem.W.Frag) : R2 := fun x y H Q => ∃ a b i j k l, x = .ref a ∧ y = .ref b ∧ SqT K H a ([i, j].map V.int) ∧ SqT K H b ([k, l].map V.int) ∧ Q (.bl (pGt i j k l)) H
theorem op_gtP (hu : X.A.units < cLine) : OpR X (compareOp .Gt) (rGtP X.K) := by
  rintro pins s σ H x y v u Q I rx ry ⟨a, b, i, j, k, l, rfl, rfl, ha, hb, q⟩
  cases rx
  cases ry
  obtain ⟨its, r1, p1, _⟩ := I.tuple ha
  obtain ⟨its2, r2, p2, _⟩ := I.tuple hb
  have i1 := Vals.ints r1
  have i2 := Vals.ints r2
  have e1 : its.toArray.size = 2 := by rw [List.size_toArray]; exact i1.length
  have e2 : its2.toArray.size = 2 := by rw [List.size_toArray]; exact i2.length
  have at1 : ∀ n (h1 : n < its.toArray.size), ∃ t, its.toArray[n] = .int ([i, j].getD n 0) t := fun n h1 => i1.int_at n _ (by rw [List.getElem_toArray]; exact List.getElem?_eq_getElem _)
  have at2 : ∀ n (h1 : n < its2.toArray.size), ∃ t, its2.toArray[n] = .int ([k, l].getD n 0) t := fun n h1 => i2.int_at n _ (by rw [List.getElem_toArray]; exact List.getElem?_eq_getElem _)
  have R := Ob.RcOp.tuples_gt (e := fun n => [i, j].getD n 0 == [k, l].getD n 0) (r := fun n => decide ([k, l].getD n 0 < [i, j].getD n 0)) p1 p2 hu (fun n h1 h2 => by
    obtain ⟨t, et⟩ := at1 n h1
    obtain ⟨t', et'⟩ := at2 n h2
    rw [et, et']
    exact SeqAt.EqAt.int_int _ t _ t') (fun n h1 h2 _ => by
    obtain ⟨t, et⟩ := at1 n h1
    obtain ⟨t', et'⟩ := at2 n h2
    rw [et, et']
    exact Ob.RcOp.gt_int _ _ t t')
  rw [e1, e2] at R
  have lx : Ob.lexAt (fun n => [i, j].getD n 0 == [k, l].getD n 0) (fun n => decide ([k, l].getD n 0 < [i, j].getD n 0)) (decide (2 > 2)) 0 (min 2 2) = pGt i j k l := by
    show Ob.lexAt _ _ _ 0 2 = _
    rw [Ob.lexAt_succ, Ob.lexAt_succ, Ob.lexAt_zero]
    unfold pGt
    by_cases c : i = k
    · subst c
      by_cases d : j = l
      · subst d; simp
      · simp [d]
    · by_cases d : k < i <;> simp [c, d]
  rw [lx] at R
  exact R X.prog X.w X.xe (EP X pins σ Q) ⟨.bl (pGt i j k l), H, I, rfl, q⟩
section
open PySem.SeqAt
variable {X : Cx}
theorem tup_ne_dct (l b : Addr) (its : Array Value) (n : Nat) (d1 d2 : Option Addr) (sa sb : Array (Option Value)) (es : Array DictEntry) (ep : Nat) :
    Meets (Builtin.«tuple.__ne__» ⟨[.ref l, .ref b], []⟩) (fun _ R s => s.heap.get? l = some { cls := .type "tuple", dict := d1, data := .seq its n, slots := sa } ∧ s.heap.get? b = some { cls := .type "dict", dict := d2, data := .dict es ep, slots := sb } ∧ R (.ok (.ret .notImplemented)) s) :=
  .of_wp fun prog w A R s h => by obtain ⟨hp, g, d, tk, os⟩ := s; obtain ⟨hl, hb, h⟩ := h; have f1 := F.sub_dict_tuple; wp_walk using wpAny_loadPart' hl, wpAny_loadPart' hb; exact ⟨_, rfl, h⟩
def rDtNe (K : PySem.W.Frag) : R2 := fun x y H Q => ∃ a b xs, x = .ref a ∧ y = .ref b ∧ H a = some (.dK []) ∧ SqT K H b xs ∧ Q (.bl true) H
theorem op_neDT (hu : X.A.units < cLine) : OpR X (compareOp .NotEq) (rDtNe X.K) := by
  rintro pins s σ H x y v u Q I rx ry ⟨a, b, xs, rfl, rfl, ha, hb, q⟩
  cases rx
  cases ry
  obtain ⟨_, hsm, vs, kv, hd⟩ := dk_of I.hok ha
  have tyd := hd.typeIs (s := s)
  obtain ⟨o, es, ep, e1, e2, e3, e4⟩ := hd
  obtain ⟨its, r, ⟨o2, ho2, hc2, n2, hd2⟩, z⟩ := I.tuple hb
  obtain ⟨c1, d1, t1, s1⟩ := o
  obtain ⟨c2, d2, t2, s2⟩ := o2
  have hc1 := e2.1
  simp only at hc1 hc2 hd2 e3
  subst hc1 hc2 hd2 e3
  have hne : a ≠ b := fun z => by
    rw [z, ho2] at e1
    have w := congrArg Obj.cls (Option.some.inj e1)
    simp at w
  refine (rc_ne_decline_or (k := false) (Ta := "dict") (Tb := "tuple") tyd ⟨_, ho2, rfl⟩ (by decide) F.sub_tuple_dict F.slot_dict_ne F.slot_tuple_ne_refl (fun Q' hq => ?_) (fun Q' hq => ?_) (fun Q' hq => ?_) (.inr hu) ⟨.bl true, H, I, rfl, q⟩)
  · refine wpAny_call_entry F.slot_dict_ne tyd F.entry_dict_ne ?_ (F.args_dict_ne_2 _ _)
    show wpAny _ _ (Builtin.Dict.dictSlotArgs "__ne__" ⟨[.ref a, .ref b], []⟩ >>= _) _ _ s
    refine wpAny_bind ?_
    unfold Builtin.Dict.dictSlotArgs
    refine wpAny_bind (wpAny_notOrdered_dict tyd ?_)
    show wpAny _ _ (pure (Value.ref a, Value.ref b)) _ _ s
    refine wpAny_pure ?_
    refine wpAny_bind (wpAny_isInstance (T := "tuple") ⟨_, ho2, rfl⟩ F.sub_tuple_dict ?_)
    simp only [Bool.not_false, if_true]
    refine wpAny_bind (wpAny_rule (wpAny_bind (wpAny_pure ?_)))
    exact wpAny_pure ⟨_, rfl, hq⟩
  · exact call_meets F.slot_tuple_ne_refl ⟨_, ho2, rfl⟩ F.entry_tuple_ne (F.args_tuple_ne_2 _ _) (tup_ne_dct b a its.toArray n2 d2 d1 s2 s1 es ep) ⟨ho2, e1, hq⟩
  · exact wpAny_isSame_ref_other hne e1 ho2 (by simp) hq
end
theorem dtNe_ok {A : Addr → Prop} {H : Hp} {d e : D} {x y : V} {Q : VK} (h : dtNe d e = true) (hd : Rdb g A H d x) (he : Rdb g A H e y) (hQ : Q (.bl true) H) : rDtNe g.K x y H Q := by
  cases d <;> cases e <;> simp only [dtNe, Bool.false_eq_true] at h
  obtain ⟨a, rfl, _, s1⟩ := rdb_dct hd
  obtain ⟨b, ws, rfl, _, s2, _⟩ := rdb_tup he
  exact ⟨a, b, ws, rfl, rfl, s1, s2, hQ⟩
/-- texts of any signs -/
def rStrEq : R2 := fun x y H Q => ∃ a b, x = .str a ∧ y = .str b ∧ Q (.bl (a == b)) H
theorem op_eqStr : OpR X (compareOp .Eq) rStrEq := by
  rintro pins s σ H x y v u Q I rx ry ⟨a, b, rfl, rfl, q⟩
  obtain ⟨t1, rfl⟩ := rx
  obtain ⟨t2, rfl⟩ := ry
  exact PySem.SeqAt.RcAt.str_str a t1 b t2 X.prog X.w X.xe _ ⟨.bl (a == b), H, I, rfl, q⟩
theorem beq_decide (a b : Bool) : (a == b) = decide (a = b) := by cases a <;> cases b <;> rfl
theorem op_cmp (hK : X.K = g.K) (hu : X.A.units + 64 < cLine) (op : COp) : OpR X (compareOp (cmpOf op)) (rCmp g op) := by
  cases op with
  | eq =>
    refine OpR.weak (OpR.or (OpR.or (op_eqD hu) (op_eqLen (by omega))) op_eqStr) ?_
    rintro x y H Q ⟨A, d, e, b, hd, he, hb, hQ⟩
    simp only [cmpD] at hb
    split at hb
    case isFalse => 
      split at hb
      · rename_i hl
        cases hb
        rw [hK]
        exact .inl (.inr (lenNe_ok hl hd he hQ))
      · refine .inr ?_
        cases d <;> cases e <;> simp only [strEq, reduceCtorEq, Option.some.injEq] at hb
        subst hb
        exact ⟨_, _, rdb_str hd, rdb_str he, hQ⟩
    rename_i hk
    simp only [Bool.and_eq_true] at hk
    obtain ⟨k1, k2⟩ := hk
    simp only [Option.some.injEq] at hb
    subst hb
    refine .inl (.inl ?_)
    rw [hK]
    exact ⟨toPy d, toPy e, rdb_dp k1 hd, rdb_dp k2 he, py_shaped k1, py_shaped k2, by rw [py_eqv d e 12 12 k1 k2]; exact hQ⟩
  | ne =>
    refine OpR.weak (OpR.or (OpR.or (op_neD hu) (op_neLen (by omega))) (op_neDT (by omega))) ?_
    rintro x y H Q ⟨A, d, e, b, hd, he, hb, hQ⟩
    simp only [cmpD] at hb
    split at hb
    case isFalse => 
      split at hb
      · rename_i hl
        cases hb
        rw [hK]
        exact .inl (.inr (lenNe_ok hl hd he hQ))
      · split at hb
        · rename_i hl
          cases hb
          rw [hK]
          exact .inr (dtNe_ok hl hd he hQ)
        · cases hb
    rename_i hk
    simp only [Bool.and_eq_true] at hk
    obtain ⟨k1, k2⟩ := hk
    simp only [Option.some.injEq] at hb
    subst hb
    refine .inl (.inl ?_)
    rw [hK]
    exact ⟨toPy d, toPy e, rdb_dp k1 hd, rdb_dp k2 he, py_shaped k1, py_shaped k2, by rw [py_eqv d e 12 12 k1 k2]; exact hQ⟩
  | lt =>
    refine OpR.weak op_lt ?_
    rintro x y H Q ⟨A, d, e, b, hd, he, hb, hQ⟩
    cases d <;> cases e <;> simp only [cmpD, reduceCtorEq, Option.some.injEq] at hb
    subst hb
    exact ⟨_, _, rdb_int hd, rdb_int he, hQ⟩
  | le =>
    refine OpR.weak op_le ?_
    rintro x y H Q ⟨A, d, e, b, hd, he, hb, hQ⟩
    cases d <;> cases e <;> simp only [cmpD, reduceCtorEq, Option.some.injEq] at hb
    subst hb
    exact ⟨_, _, rdb_int hd, rdb_int he, hQ⟩
  | gt =>
    refine OpR.weak (OpR.or op_gt (op_gtP (by omega))) ?_
    rintro x y H Q ⟨A, d, e, b, hd, he, hb, hQ⟩
    cases d <;> cases e <;> simp only [cmpD, reduceCtorEq, Option.some.injEq] at hb
    · subst hb
      exact .inl ⟨_, _, rdb_int hd, rdb_int he, hQ⟩
    · unfold tupGt at hb
      split at hb
      · rename_i i j k l
        cases hb
        obtain ⟨a, vs, rfl, _, s1, r1⟩ := rdb_tup hd
        obtain ⟨b, ws, rfl, _, s2, r2⟩ := rdb_tup he
        rw [reps_two r1] at s1
        rw [reps_two r2] at s2
        rw [← hK] at s1 s2
        exact .inr ⟨a, b, i, j, k, l, rfl, rfl, s1, s2, hQ⟩
      · cases hb
  | ge =>
    refine OpR.weak op_ge ?_
    rintro x y H Q ⟨A, d, e, b, hd, he, hb, hQ⟩
    cases d <;> cases e <;> simp only [cmpD, reduceCtorEq, Option.some.injEq] at hb
    subst hb
    exact ⟨_, _, rdb_int hd, rdb_int he, hQ⟩
  | is =>
    refine OpR.weak (OpR.or op_isN op_is_bl) ?_
    rintro x y H Q ⟨A, d, e, b, hd, he, hb, hQ⟩
    cases e with
    | non =>
      simp only [cmpD, Option.some.injEq] at hb
      subst hb
      exact .inl ⟨rdb_non he, by rw [rdb_isnon hd]; exact hQ⟩
    | bl k =>
      cases d <;> simp only [cmpD, reduceCtorEq, Option.some.injEq] at hb
      subst hb
      refine .inr ⟨_, _, rdb_bl hd, rdb_bl he, ?_⟩
      rw [beq_decide] at hQ
      exact hQ
    | _ => cases d <;> simp only [cmpD, reduceCtorEq] at hb
  | isnot =>
    refine OpR.weak (OpR.or op_notN op_isnot_bl) ?_
    rintro x y H Q ⟨A, d, e, b, hd, he, hb, hQ⟩
    cases e with
    | non =>
      simp only [cmpD, Option.some.injEq] at hb
      subst hb
      refine .inl ⟨rdb_non he, ?_⟩
      rw [rdb_isnon hd]
      exact hQ
    | bl k =>
      cases d <;> simp only [cmpD, reduceCtorEq, Option.some.injEq] at hb
      subst hb
      refine .inr ⟨_, _, rdb_bl hd, rdb_bl he, ?_⟩
      rw [beq_decide] at hQ
      exact hQ
    | _ => cases d <;> simp only [cmpD, reduceCtorEq] at hb
  | inn =>
    refine OpR.weak op_in_seq ?_
    rintro x y H Q ⟨A, d, e, b, hd, he, hb, hQ⟩
    rw [hK]
    cases e <;> simp only [cmpD, reduceCtorEq, Option.ite_none_right_eq_some, Bool.and_eq_true, Option.some.injEq] at hb
    · obtain ⟨⟨k1, k2⟩, rfl⟩ := hb
      obtain ⟨a, vs, rfl, e1, r1⟩ := he
      have q := flat_reps k2 r1 k1 (rdb_flat k1 hd)
      exact ⟨a, vs, rfl, .inl (.inl (.inl e1)), (flat_rep k1 (rdb_flat k1 hd)).1, q.1, by rw [if_neg Bool.false_ne_true, q.2]; exact hQ⟩
    · obtain ⟨⟨k1, k2⟩, rfl⟩ := hb
      obtain ⟨a, vs, rfl, na, e1, r1⟩ := rdb_tup he
      have q := flat_reps k2 r1 k1 (rdb_flat k1 hd)
      exact ⟨a, vs, rfl, .inr e1, (flat_rep k1 (rdb_flat k1 hd)).1, q.1, by rw [if_neg Bool.false_ne_true, q.2]; exact hQ⟩
  | notin =>
    refine OpR.weak op_notIn_seq ?_
    rintro x y H Q ⟨A, d, e, b, hd, he, hb, hQ⟩
    rw [hK]
    cases e <;> simp only [cmpD, reduceCtorEq, Option.ite_none_right_eq_some, Bool.and_eq_true, Option.some.injEq] at hb
    · obtain ⟨⟨k1, k2⟩, rfl⟩ := hb
      obtain ⟨a, vs, rfl, e1, r1⟩ := he
      have q := flat_reps k2 r1 k1 (rdb_flat k1 hd)
      exact ⟨a, vs, rfl, .inl (.inl (.inl e1)), (flat_rep k1 (rdb_flat k1 hd)).1, q.1, by rw [if_pos rfl, q.2]; exact hQ⟩
    · obtain ⟨⟨k1, k2⟩, rfl⟩ := hb
      obtain ⟨a, vs, rfl, na, e1, r1⟩ := rdb_tup he
      have q := flat_reps k2 r1 k1 (rdb_flat k1 hd)
      exact ⟨a, vs, rfl, .inr e1, (flat_rep k1 (rdb_flat k1 hd)).1, q.1, by rw [if_pos rfl, q.2]; exact hQ⟩
end
end DV

namespace DV
open PySem L2
/-- what a frame must be, the suite of a clause too -/
structure Cok0 (g : Gx) (X : Cx) : Prop where
  K : X.K = g.K
  hu : X.A.units + 64 < cLine
  nd : X.N.Nodup
/-- what is asked of a context -/
structure Cok (g : Gx) (X : Cx) : Prop where
  K : X.K = g.K
  calm : X.calm = true
  hu : X.A.units + 64 < cLine
  nd : X.N.Nodup
  ea : g.ea = none
theorem Cok.c0 {g : Gx} {X : Cx} (C : Cok g X) : Cok0 g X := ⟨C.K, C.hu, C.nd⟩
instance {g : Gx} {X : Cx} : Coe (Cok g X) (Cok0 g X) := ⟨Cok.c0⟩
def tR (g : Gx) (fs : List FS) (ie : E) : TE := fun σ H Q => ∃ Bn Ow Γ r Γ', RS g Bn Ow H σ Γ ∧ ev fs ie Γ = some (r, Γ') ∧ ∀ v H' Ow', Stp Ow H Ow' H' → RS g Bn Ow' H' σ Γ' → Val g Bn Ow' H' σ Γ' r v → Q v H'
def tT (g : Gx) (fs : List FS) (ie : E) : TT := fun σ H Q => ∃ Bn Ow Γ r Γ' t, RS g Bn Ow H σ Γ ∧ ev fs ie Γ = some (r, Γ') ∧ testD Γ' r = some t ∧ ∀ H' Ow', Stp Ow H Ow' H' → RS g Bn Ow' H' σ Γ' → Q t H'
/-- values by results -/
def Vls (g : Gx) (Bn : Addr → Prop) (Ow : List Addr) (H : Hp) (σ : St) (Γ : Ct) : List RV → List V → Prop
  | [], vs => vs = []
  | x :: xs, vs => ∃ v r, vs = v :: r ∧ Val g Bn Ow H σ Γ x.dn v ∧ Vls g Bn Ow H σ Γ xs r
def tAs (g : Gx) (fs : List FS) (es : List E) : TA := fun σ H Q => ∃ Bn Ow Γ xs Γ', RS g Bn Ow H σ Γ ∧ evs fs es Γ = some (xs, Γ') ∧ ∀ vs H' Ow', Stp Ow H Ow' H' → RS g Bn Ow' H' σ Γ' → Vls g Bn Ow' H' σ Γ' xs vs → Q vs H'
section
variable {X : Cx} {g : Gx} {fs : List FS} {Bn : Addr → Prop} {Ow Ow' : List Addr} {H H' : Hp} {σ : St} {Γ Γ' Γ1 Γ2 : Ct} {a b c : Expr} {ia ib ic : E} {pos : Pos}
theorem Vls.step : ∀ {xs : List RV} {vs : List V}, Vls g Bn Ow H σ Γ xs vs → Stp Ow H Ow' H' → RS g Bn Ow' H' σ Γ' → Vls g Bn Ow' H' σ Γ' xs vs
  | [], _, h, _, _ => h
  | x :: xs, _, ⟨v, r, e, h1, h2⟩, s, q => ⟨v, r, e, h1.step s q, Vls.step h2 s q⟩
theorem Vls.len : ∀ {xs : List RV} {vs : List V}, Vls g Bn Ow H σ Γ xs vs → xs.length = vs.length
  | [], _, h => by have h : _ = [] := h; subst h; rfl
  | x :: xs, _, ⟨v, r, e, h1, h2⟩ => by subst e; rw [List.length_cons, List.length_cons, h2.len]
theorem fres_ok : ∀ {xs : List RV} {vs : List V} {ds : List D} {Ow : List Addr} {Γ Γ' : Ct}, RS g Bn Ow H σ Γ → Vls g Bn Ow H σ Γ xs vs → fres xs Γ = some (ds, Γ') → ∃ Ow', Stp Ow H Ow' H ∧ RS g Bn Ow' H σ Γ' ∧ Reps g (Av Bn Ow') H ds vs
  | [], _, ds, Ow, Γ, Γ', rs, h, e => by
    have h : _ = [] := h
    subst h
    simp only [fres, Option.some.injEq, Prod.mk.injEq] at e
    obtain ⟨rfl, rfl⟩ := e
    exact ⟨Ow, .refl _ _, rs, by simp only [Reps]⟩
  | x :: xs, _, ds, Ow, Γ, Γ', rs, ⟨v, r, e0, h1, h2⟩, e => by
    subst e0
    simp only [fres] at e
    obtain ⟨⟨d, Γ1⟩, e1, e⟩ := Option.bind_eq_some_iff.mp e
    obtain ⟨⟨es, Γ2⟩, e2, e⟩ := Option.map_eq_some_iff.mp e
    simp only [Prod.mk.injEq] at e
    obtain ⟨rfl, rfl⟩ := e
    rw [← fre_dn] at e1
    obtain ⟨O1, s1, r1, p1⟩ := fre_ok rs h1 e1
    obtain ⟨O2, s2, r2, p2⟩ := fres_ok r1 (h2.step s1 r1) e2
    refine ⟨O2, s1.trans s2, r2, ?_⟩
    simp only [Reps]
    exact ⟨v, r, rfl, p1.step s2 r2, p2⟩
theorem datums_ok : ∀ {xs : List RV} {vs : List V} {ds : List D}, RS g Bn Ow H σ Γ → Vls g Bn Ow H σ Γ xs vs → datums Γ xs = some ds → Paired (fun d v => Rdb g (Av Bn Ow) H d v) ds vs
  | [], _, ds, rs, h, e => by
    have h : _ = [] := h
    subst h
    simp only [datums, Option.some.injEq] at e
    subst e
    exact .nil
  | x :: xs, _, ds, rs, ⟨v, r, e0, h1, h2⟩, e => by
    subst e0
    simp only [datums] at e
    obtain ⟨d, e1, e⟩ := Option.bind_eq_some_iff.mp e
    obtain ⟨es, e2, rfl⟩ := Option.map_eq_some_iff.mp e
    rw [← datum_dn] at e1
    exact .cons (h1.rdb rs e1) (datums_ok rs h2 e2)

theorem tR_one {x : RV} {Q : VK} (rs : RS g Bn Ow H σ Γ) (e1 : ev fs ia Γ = some (x, Γ1)) (k : ∀ v H1 Ow1, Stp Ow H Ow1 H1 → RS g Bn Ow1 H1 σ Γ1 → Val g Bn Ow1 H1 σ Γ1 x.dn v → Q v H1) : tR g fs ia σ H Q :=
  ⟨Bn, Ow, Γ, x, Γ1, rs, e1, fun v H' Ow' s r val => let ⟨O2, s2, r2, v2⟩ := dn_ok r val; k v H' O2 (s.trans s2) r2 v2⟩
theorem tR_two {x y : RV} {R : V → V → Hp → Prop} (rs : RS g Bn Ow H σ Γ) (e1 : ev fs ia Γ = some (x, Γ1)) (e2 : ev fs ib Γ1 = some (y, Γ2))
    (k : ∀ v w H2 Ow2, Stp Ow H Ow2 H2 → RS g Bn Ow2 H2 σ Γ2 → Val g Bn Ow2 H2 σ Γ2 x.dn v → Val g Bn Ow2 H2 σ Γ2 y.dn w → R v w H2) : tR g fs ia σ H fun v H1 => tR g fs ib σ H1 fun w H2 => R v w H2 :=
  tR_one rs e1 fun v H1 O1 s1 r1 v1 => tR_one r1 e2 fun w H2 O2 s2 r2 w2 => k v w H2 O2 (s1.trans s2) r2 (v1.step s2 r2) w2

/-! ### names, constants -/
theorem p_var {i : Nat} (h : PE X a (tVar i)) : PE X a (tR g fs (.var i)) := by
  refine PE.weak h ?_
  rintro σ H Q ⟨Bn, Ow, Γ, r, Γ', rs, he, hQ⟩
  simp only [ev] at he
  split at he
  · rename_i p q
    simp only [Option.some.injEq, Prod.mk.injEq] at he
    obtain ⟨rfl, rfl⟩ := he
    obtain ⟨d, b⟩ := p
    have : ∃ v, σ[i]? = some (some v) := by
      cases b with
      | false => obtain ⟨v, e, _⟩ := rs.slot i d q; exact ⟨v, e⟩
      | true => obtain ⟨v, e, _⟩ := rs.own i d q; exact ⟨_, e⟩
    obtain ⟨v, e⟩ := this
    exact ⟨v, e, hQ v H Ow (.refl _ _) rs e⟩
  · cases he
/-- a constant; what stands for it may lean on the written part -/
theorem p_cst {d : D} {v : V} (h : PE X a (tC v)) (hK : X.K = g.K) (k : ∀ A H, (∀ a, A a → g.K.lookup a = none) → Rep g A H d v) : PE X a (tR g fs (.cst d)) := by
  refine PE.weak h ?_
  rintro σ H Q ⟨Bn, Ow, Γ, r, Γ', rs, he, hQ⟩
  simp only [ev, Option.some.injEq, Prod.mk.injEq] at he
  obtain ⟨rfl, rfl⟩ := he
  exact hQ v H Ow (.refl _ _) rs (k _ H rs.kf)

/-! ### operators -/
theorem p_bin {op : BOp} (C : Cok0 g X) (ha : PE X a (tR g fs ia)) (hb : PE X b (tR g fs ib)) : PE X (.BinOp a (opOf op) b pos) (tR g fs (.bin op ia ib)) := by
  refine PE.weak (pe_op (op_bin C.K op) ha hb) ?_
  rintro σ H Q ⟨Bn, Ow, Γ, r, Γ', rs, he, hQ⟩
  simp only [ev] at he
  obtain ⟨⟨x, Γ1⟩, e1, he⟩ := Option.bind_eq_some_iff.mp he
  obtain ⟨⟨y, Γ2⟩, e2, he⟩ := Option.bind_eq_some_iff.mp he
  obtain ⟨d, ed, he⟩ := Option.bind_eq_some_iff.mp he
  obtain ⟨e, ee, he⟩ := Option.bind_eq_some_iff.mp he
  obtain ⟨r', hb, he⟩ := Option.map_eq_some_iff.mp he
  simp only [Prod.mk.injEq] at he
  obtain ⟨rfl, rfl⟩ := he
  rw [← datum_dn] at ed ee
  exact tR_two rs e1 e2 fun v w H2 O2 s2 r2 v2 w2 => ⟨Av Bn O2, d, e, _, v2.rdb r2 ed, w2.rdb r2 ee, r2.trk, hb, fun v' H' sm res => let ⟨O3, s3, r3, val⟩ := res.val r2 sm; hQ v' H' O3 (s2.trans s3) r3 val⟩
theorem p_neg (ha : PE X a (tR g fs ia)) : PE X (.UnaryOp .USub a pos) (tR g fs (.neg ia)) := by
  refine PE.weak (pe_un un_neg ha) ?_
  rintro σ H Q ⟨Bn, Ow, Γ, r, Γ', rs, he, hQ⟩
  simp only [ev] at he
  obtain ⟨⟨x, Γ1⟩, e1, he⟩ := Option.bind_eq_some_iff.mp he
  obtain ⟨d, ed, he⟩ := Option.bind_eq_some_iff.mp he
  rw [← datum_dn] at ed
  refine tR_one rs e1 fun v H1 O1 s1 r1 v1 => ?_
  have q := v1.rdb r1 ed
  cases d <;> simp only [reduceCtorEq, Option.some.injEq, Prod.mk.injEq] at he
  obtain ⟨rfl, rfl⟩ := he
  exact ⟨_, rdb_int q, hQ _ H1 O1 s1 r1 (by simp only [Val, Rep])⟩
theorem cmp_core {op : COp} {Q : VK} (rs : RS g Bn Ow H σ Γ) {r : RV} (he : ev fs (.cmp op ia ib) Γ = some (r, Γ')) (hQ : ∀ v H' Ow', Stp Ow H Ow' H' → RS g Bn Ow' H' σ Γ' → Val g Bn Ow' H' σ Γ' r v → Q v H') :
    tOp (rCmp g op) (tR g fs ia) (tR g fs ib) σ H Q := by
  simp only [ev] at he
  obtain ⟨⟨x, Γ1⟩, e1, he⟩ := Option.bind_eq_some_iff.mp he
  obtain ⟨⟨y, Γ2⟩, e2, he⟩ := Option.bind_eq_some_iff.mp he
  obtain ⟨d, ed, he⟩ := Option.bind_eq_some_iff.mp he
  obtain ⟨e, ee, he⟩ := Option.bind_eq_some_iff.mp he
  obtain ⟨r', hb, he⟩ := Option.map_eq_some_iff.mp he
  simp only [Prod.mk.injEq] at he
  obtain ⟨rfl, rfl⟩ := he
  rw [← datum_dn] at ed ee
  exact tR_two rs e1 e2 fun v w H2 O2 s2 r2 v2 w2 => ⟨Av Bn O2, d, e, r', v2.rdb r2 ed, w2.rdb r2 ee, hb, hQ _ H2 O2 s2 r2 (by simp only [Val, Rep])⟩
theorem p_cmp {op : COp} (C : Cok0 g X) (ha : PE X a (tR g fs ia)) (hb : PE X b (tR g fs ib)) (hm : behindInMarks (cmpOf op) b = false) : PE X (.Compare a [cmpOf op] [b] pos) (tR g fs (.cmp op ia ib)) := by
  refine PE.weak (pe_cmpR (op_cmp C.K C.hu op) ha hb hm) ?_
  rintro σ H Q ⟨Bn, Ow, Γ, r, Γ', rs, he, hQ⟩
  exact cmp_core rs he hQ
theorem t_cmp {op : COp} (C : Cok0 g X) (ha : PE X a (tR g fs ia)) (hb : PE X b (tR g fs ib)) (hm : behindInMarks (cmpOf op) b = false) : PT X (.Compare a [cmpOf op] [b] pos) (tT g fs (.cmp op ia ib)) := by
  refine PT.weak (pt_cmpR (op_cmp C.K C.hu op) ha hb hm) ?_
  rintro σ H Q ⟨Bn, Ow, Γ, r, Γ', t, rs, he, ht, hQ⟩
  refine cmp_core rs he fun v H1 O1 s1 r1 v1 => ?_
  simp only [ev] at he
  obtain ⟨⟨x, Γ1⟩, e1, he⟩ := Option.bind_eq_some_iff.mp he
  obtain ⟨⟨y, Γ2⟩, e2, he⟩ := Option.bind_eq_some_iff.mp he
  obtain ⟨d, ed, he⟩ := Option.bind_eq_some_iff.mp he
  obtain ⟨e, ee, he⟩ := Option.bind_eq_some_iff.mp he
  obtain ⟨r', hb, he⟩ := Option.map_eq_some_iff.mp he
  simp only [Prod.mk.injEq] at he
  obtain ⟨rfl, rfl⟩ := he
  simp only [testD, datum, Option.bind_some, truthD, Option.some.injEq] at ht
  subst ht
  simp only [Val, Rep] at v1
  exact ⟨r', v1, hQ H1 O1 s1 r1⟩
theorem chain_core {o1 o2 : COp} {Q : VK} (rs : RS g Bn Ow H σ Γ) {r : RV} (he : ev fs (.chain o1 o2 ia ib ic) Γ = some (r, Γ')) (hQ : ∀ v H' Ow' (k : Bool), Stp Ow H Ow' H' → RS g Bn Ow' H' σ Γ' → v = .bl k → r = .fz (.bl k) → Q v H') :
    tChain (rCmp g o1) (rCmp g o2) (tR g fs ia) (tR g fs ib) (tR g fs ic) σ H Q := by
  simp only [ev] at he
  obtain ⟨⟨x, Γ1⟩, e1, he⟩ := Option.bind_eq_some_iff.mp he
  obtain ⟨⟨y, Γ2⟩, e2, he⟩ := Option.bind_eq_some_iff.mp he
  obtain ⟨d, ed, he⟩ := Option.bind_eq_some_iff.mp he
  obtain ⟨e, ee, he⟩ := Option.bind_eq_some_iff.mp he
  obtain ⟨k, hb, he⟩ := Option.bind_eq_some_iff.mp he
  rw [← datum_dn] at ed ee
  refine tR_two rs e1 e2 fun v w H2 O2 s2 r2 v2 w2 => ⟨Av Bn O2, d, e, k, v2.rdb r2 ed, w2.rdb r2 ee, hb, k, rfl, ?_⟩
  cases k with
  | false =>
    simp only [Bool.false_eq_true, if_false, Option.some.injEq, Prod.mk.injEq] at he ⊢
    obtain ⟨rfl, rfl⟩ := he
    exact hQ _ H2 O2 false s2 r2 rfl rfl
  | true =>
    simp only [if_true] at he ⊢
    obtain ⟨⟨z, Γ3⟩, e3, he⟩ := Option.bind_eq_some_iff.mp he
    obtain ⟨e', ee', he⟩ := Option.bind_eq_some_iff.mp he
    obtain ⟨f, ef, he⟩ := Option.bind_eq_some_iff.mp he
    obtain ⟨k', hb', he⟩ := Option.map_eq_some_iff.mp he
    simp only [Prod.mk.injEq] at he
    obtain ⟨rfl, rfl⟩ := he
    rw [← datum_dn] at ee' ef
    exact tR_one r2 e3 fun u H3 O3 s3 r3 u3 => ⟨Av Bn O3, e', f, k', (w2.step s3 r3).rdb r3 ee', u3.rdb r3 ef, hb', hQ _ H3 O3 k' (s2.trans s3) r3 rfl rfl⟩
theorem p_chain {o1 o2 : COp} (C : Cok0 g X) (ha : PE X a (tR g fs ia)) (hb : PE X b (tR g fs ib)) (hc : PE X c (tR g fs ic)) (hm : lastMarks [cmpOf o1, cmpOf o2] [b, c] = false) : PE X (.Compare a [cmpOf o1, cmpOf o2] [b, c] pos) (tR g fs (.chain o1 o2 ia ib ic)) := by
  refine PE.weak (pe_chain (op_cmp C.K C.hu o1) (op_cmp C.K C.hu o2) ha hb hc hm) ?_
  rintro σ H Q ⟨Bn, Ow, Γ, r, Γ', rs, he, hQ⟩
  exact chain_core rs he fun v H1 O1 k s1 r1 e1 e2 => hQ v H1 O1 s1 r1 (by subst e1 e2; simp only [Val, Rep])

/-! ### truth -/
theorem truth_v {A : Addr → Prop} {d : D} {v : V} {k : Bool} (h : Rdb g A H d v) (e : truthD d = some k) : TruV g.K v H k := by
  cases d with
  | non => rw [rdb_non h]; simp only [truthD, Option.some.injEq] at e; exact e.symm
  | bl b => rw [rdb_bl h]; simp only [truthD, Option.some.injEq] at e; exact e.symm
  | int b => rw [rdb_int h]; simp only [truthD, Option.some.injEq] at e; exact e.symm
  | str b => rw [rdb_str h]; simp only [truthD, Option.ite_none_right_eq_some, Option.some.injEq] at e; exact ⟨e.1, e.2.symm⟩
  | lst ds =>
    obtain ⟨a, vs, rfl, e1, r⟩ := h
    simp only [truthD, Option.some.injEq] at e
    refine .inl ⟨vs, .inl (.inl e1), ?_⟩
    have l := r.len
    rw [← e]
    cases ds <;> cases vs <;> simp at l <;> rfl
  | tup ds =>
    obtain ⟨a, vs, rfl, _, e1, r⟩ := rdb_tup h
    simp only [truthD, Option.some.injEq] at e
    refine .inr (.inl ⟨vs, e1, ?_⟩)
    have l := r.len
    rw [← e]
    cases ds <;> cases vs <;> simp at l <;> rfl
  | obj => simp only [truthD, reduceCtorEq] at e
  | dct => simp only [truthD, reduceCtorEq] at e
  | dic _ _ => simp only [truthD, reduceCtorEq] at e
  | exc _ _ _ => simp only [truthD, reduceCtorEq] at e
  | err _ _ _ => simp only [truthD, reduceCtorEq] at e
  | ref _ => simp only [truthD, reduceCtorEq] at e
  | scr ns =>
    obtain ⟨a, rfl, _, e1⟩ := rdb_scr h
    simp only [truthD, Option.some.injEq] at e
    refine .inl ⟨_, e1, ?_⟩
    rw [← e]
    cases ns <;> rfl
theorem test_v {x : RV} {v : V} {k : Bool} (rs : RS g Bn Ow H σ Γ) (h : Val g Bn Ow H σ Γ x v) (e : testD Γ x = some k) : TruV g.K v H k := by
  unfold testD at e
  obtain ⟨d, e1, e2⟩ := Option.bind_eq_some_iff.mp e
  exact truth_v (h.rdb rs e1) e2
theorem t_val (C : Cok0 g X) (ha : PE X a (tR g fs ia)) (he : ∀ whole, isTrue a X.env whole = (do let v ← whole; standAt a.pos; holding [v] (truthy v))) : PT X a (tT g fs ia) := by
  refine PT.weak (pt_truth ha he) ?_
  rintro σ H Q ⟨Bn, Ow, Γ, r, Γ', t, rs, he, ht, hQ⟩
  exact ⟨Bn, Ow, Γ, r, Γ', rs, he, fun v H1 O1 s1 r1 v1 => ⟨t, by rw [C.K]; exact test_v r1 v1 ht, hQ H1 O1 s1 r1⟩⟩
theorem p_and {rest : List Expr} (C : Cok0 g X) (ha : PE X a (tR g fs ia)) (hb : PE X (.BoolOp .And (b :: rest) pos) (tR g fs ib)) : PE X (.BoolOp .And (a :: b :: rest) pos) (tR g fs (.and ia ib)) := by
  refine PE.weak (pe_andT ha hb) ?_
  rintro σ H Q ⟨Bn, Ow, Γ, r, Γ', rs, he, hQ⟩
  simp only [ev] at he
  obtain ⟨⟨x, Γ1⟩, e1, he⟩ := Option.bind_eq_some_iff.mp he
  obtain ⟨t, et, he⟩ := Option.bind_eq_some_iff.mp he
  refine ⟨Bn, Ow, Γ, x, Γ1, rs, e1, fun v H1 O1 s1 r1 v1 => ⟨t, by rw [C.K]; exact test_v r1 v1 et, ?_⟩⟩
  cases t with
  | false =>
    simp only [Bool.false_eq_true, if_false, Option.some.injEq, Prod.mk.injEq] at he ⊢
    obtain ⟨rfl, rfl⟩ := he
    exact hQ v H1 O1 s1 r1 v1
  | true =>
    simp only [if_true] at he ⊢
    exact ⟨Bn, O1, Γ1, r, Γ', r1, he, fun w H2 O2 s2 r2 w2 => hQ w H2 O2 (s1.trans s2) r2 w2⟩
theorem p_one {op} (ha : PE X a (tR g fs ia)) : PE X (.BoolOp op [a] pos) (tR g fs ia) := pe_one ha
theorem w_and1 (ha : PT X a (tT g fs ia)) : PW X (.BoolOp .And [a] pos) (tT g fs ia) := pw_and1 ha
theorem w_or1 (ha : PT X a (tT g fs ia)) : PW X (.BoolOp .Or [a] pos) (tT g fs ia) := pw_or1 ha
theorem PW.weak {e : Expr} {t t' : TT} (h : PW X e t) (k : ∀ σ H Q, t' σ H Q → t σ H Q) : PW X e t' := ⟨fun w pins s σ H Q I q => h.run w pins s σ H Q I (k σ H Q q)⟩
theorem w_and {rest : List Expr} (ha : PT X a (tT g fs ia)) (hb : PW X (.BoolOp .And (b :: rest) pos) (tT g fs ib)) : PW X (.BoolOp .And (a :: b :: rest) pos) (tT g fs (.and ia ib)) := by
  refine PW.weak (pw_and ha hb) ?_
  rintro σ H Q ⟨Bn, Ow, Γ, r, Γ', t', rs, he, ht, hQ⟩
  simp only [ev] at he
  obtain ⟨⟨x, Γ1⟩, e1, he⟩ := Option.bind_eq_some_iff.mp he
  obtain ⟨t, et, he⟩ := Option.bind_eq_some_iff.mp he
  refine ⟨Bn, Ow, Γ, x, Γ1, t, rs, e1, et, fun H1 O1 s1 r1 => ?_⟩
  cases t with
  | false =>
    simp only [Bool.false_eq_true, if_false, Option.some.injEq, Prod.mk.injEq] at he ⊢
    obtain ⟨rfl, rfl⟩ := he
    rw [et] at ht; cases ht
    exact hQ H1 O1 s1 r1
  | true =>
    simp only [if_true] at he ⊢
    exact ⟨Bn, O1, Γ1, r, Γ', t', r1, he, ht, fun H2 O2 s2 r2 => hQ H2 O2 (s1.trans s2) r2⟩
theorem w_or {rest : List Expr} (ha : PT X a (tT g fs ia)) (hb : PW X (.BoolOp .Or (b :: rest) pos) (tT g fs ib)) : PW X (.BoolOp .Or (a :: b :: rest) pos) (tT g fs (.or ia ib)) := by
  refine PW.weak (pw_or ha hb) ?_
  rintro σ H Q ⟨Bn, Ow, Γ, r, Γ', t', rs, he, ht, hQ⟩
  simp only [ev] at he
  obtain ⟨⟨x, Γ1⟩, e1, he⟩ := Option.bind_eq_some_iff.mp he
  obtain ⟨t, et, he⟩ := Option.bind_eq_some_iff.mp he
  refine ⟨Bn, Ow, Γ, x, Γ1, t, rs, e1, et, fun H1 O1 s1 r1 => ?_⟩
  cases t with
  | true =>
    simp only [if_true, Option.some.injEq, Prod.mk.injEq] at he ⊢
    obtain ⟨rfl, rfl⟩ := he
    rw [et] at ht; cases ht
    exact hQ H1 O1 s1 r1
  | false =>
    simp only [Bool.false_eq_true, if_false] at he ⊢
    exact ⟨Bn, O1, Γ1, r, Γ', t', r1, he, ht, fun H2 O2 s2 r2 => hQ H2 O2 (s1.trans s2) r2⟩
theorem p_not (C : Cok0 g X) (ha : PE X a (tR g fs ia)) : PE X (.UnaryOp .Not a pos) (tR g fs (.not ia)) := by
  refine PE.weak (pe_notT ha) ?_
  rintro σ H Q ⟨Bn, Ow, Γ, r, Γ', rs, he, hQ⟩
  simp only [ev] at he
  obtain ⟨⟨x, Γ1⟩, e1, he⟩ := Option.bind_eq_some_iff.mp he
  obtain ⟨t, et, he⟩ := Option.map_eq_some_iff.mp he
  simp only [Prod.mk.injEq] at he
  obtain ⟨rfl, rfl⟩ := he
  exact ⟨Bn, Ow, Γ, x, Γ1, rs, e1, fun v H1 O1 s1 r1 v1 => ⟨t, by rw [C.K]; exact test_v r1 v1 et, hQ _ H1 O1 s1 r1 (by simp only [Val, Rep])⟩⟩
theorem t_not (ha : PT X a (tT g fs ia)) : PT X (.UnaryOp .Not a pos) (tT g fs (.not ia)) := by
  refine PT.weak (pt_not ha) ?_
  rintro σ H Q ⟨Bn, Ow, Γ, r, Γ', t', rs, he, ht, hQ⟩
  simp only [ev] at he
  obtain ⟨⟨x, Γ1⟩, e1, he⟩ := Option.bind_eq_some_iff.mp he
  obtain ⟨t, et, he⟩ := Option.map_eq_some_iff.mp he
  simp only [Prod.mk.injEq] at he
  obtain ⟨rfl, rfl⟩ := he
  simp only [testD, datum, Option.bind_some, truthD, Option.some.injEq] at ht
  subst ht
  exact ⟨Bn, Ow, Γ, x, Γ1, t, rs, e1, et, fun H1 O1 s1 r1 => hQ H1 O1 s1 r1⟩

/-! ### argument lists, displays, subscripts -/
theorem a_nil : PA X [] (tAs g fs []) := by
  refine PA.weak pa_nil ?_
  rintro σ H Q ⟨Bn, Ow, Γ, xs, Γ', rs, he, hQ⟩
  simp only [evs, Option.some.injEq, Prod.mk.injEq] at he
  obtain ⟨rfl, rfl⟩ := he
  exact hQ [] H Ow (.refl _ _) rs rfl
theorem a_cons {es : List Expr} {ies : List E} (ha : PE X a (tR g fs ia)) (hr : PA X es (tAs g fs ies)) (hs : starEach (a :: es) X.env = (false, eval a X.env) :: starEach es X.env) : PA X (a :: es) (tAs g fs (ia :: ies)) := by
  refine PA.weak (pa_cons ha hr hs) ?_
  rintro σ H Q ⟨Bn, Ow, Γ, xs, Γ', rs, he, hQ⟩
  simp only [evs] at he
  obtain ⟨⟨x, Γ1⟩, e1, he⟩ := Option.bind_eq_some_iff.mp he
  obtain ⟨⟨ys, Γ2⟩, e2, he⟩ := Option.map_eq_some_iff.mp he
  simp only [Prod.mk.injEq] at he
  obtain ⟨rfl, rfl⟩ := he
  exact tR_one rs e1 fun v H1 O1 s1 r1 v1 => ⟨Bn, O1, Γ1, ys, Γ2, r1, e2, fun vs H2 O2 s2 r2 w2 => hQ (v :: vs) H2 O2 (s1.trans s2) r2 ⟨v, vs, rfl, v1.step s2 r2, w2⟩⟩
theorem p_tup {es : List Expr} {ies : List E} {k : Nat} (C : Cok0 g X) (h : PA X es (tAs g fs ies)) : PE X (.Tuple es k pos) (tR g fs (.tup ies)) := by
  refine PE.weak (PE.kf (pe_tup h)) ?_
  rintro σ H Q ⟨Bn, Ow, Γ, r, Γ', rs, he, hQ⟩
  simp only [ev] at he
  obtain ⟨⟨xs, Γ1⟩, e1, he⟩ := Option.bind_eq_some_iff.mp he
  obtain ⟨⟨ds, Γ2⟩, e2, he⟩ := Option.bind_eq_some_iff.mp he
  simp only [Option.ite_none_right_eq_some, Option.some.injEq, Prod.mk.injEq] at he
  obtain ⟨hz, rfl, rfl⟩ := he
  refine ⟨Bn, Ow, Γ, xs, Γ1, rs, e1, fun vs H1 O1 s1 r1 v1 => ?_⟩
  obtain ⟨O2, s2, r2, p2⟩ := fres_ok r1 v1 e2
  refine ⟨by rw [← p2.len]; exact hz, fun p np kf => ?_⟩
  obtain ⟨O3, s3, r3, val⟩ := (new_tup np r2.trk p2).val r2 (same_new np)
  exact hQ _ _ O3 ((s1.trans s2).trans s3) r3 val
theorem p_lst {es : List Expr} {ies : List E} (C : Cok0 g X) (h : PA X es (tAs g fs ies)) : PE X (.List es pos) (tR g fs (.lst ies)) := by
  refine PE.weak (PE.kf (pe_lst h)) ?_
  rintro σ H Q ⟨Bn, Ow, Γ, r, Γ', rs, he, hQ⟩
  simp only [ev] at he
  obtain ⟨⟨xs, Γ1⟩, e1, he⟩ := Option.bind_eq_some_iff.mp he
  obtain ⟨⟨ds, Γ2⟩, e2, he⟩ := Option.bind_eq_some_iff.mp he
  simp only [Option.ite_none_right_eq_some, Option.some.injEq, Prod.mk.injEq] at he
  obtain ⟨hz, rfl, rfl⟩ := he
  refine ⟨Bn, Ow, Γ, xs, Γ1, rs, e1, fun vs H1 O1 s1 r1 v1 => ?_⟩
  obtain ⟨O2, s2, r2, p2⟩ := fres_ok r1 v1 e2
  refine ⟨by rw [← p2.len]; exact hz, fun p np kf => ?_⟩
  have kf' : g.K.lookup p = none := by rw [← C.K]; exact kf_new kf upd_same
  obtain ⟨O3, s3, r3, val⟩ := (new_lst np kf' p2).val r2 (same_new np)
  exact hQ _ _ O3 ((s1.trans s2).trans s3) r3 val
theorem reps_at {A : Addr → Prop} {ds : List D} {vs : List V} {i : Int} {d : D} (h : Reps g A H ds vs) (e : atI ds i = some d) : ∃ v, atI vs i = some v ∧ Rep g A H d v := by
  unfold atI at e ⊢
  rw [← h.len]
  obtain ⟨j, e1, e2⟩ := Option.bind_eq_some_iff.mp e
  obtain ⟨v, e3, r⟩ := h.get e2
  exact ⟨v, by rw [e1]; exact e3, r⟩
theorem atI_map {α β : Type} {f : α → β} {xs : List α} {i : Int} {x : α} (e : atI xs i = some x) : atI (xs.map f) i = some (f x) := by
  unfold atI at e ⊢
  obtain ⟨j, e1, e2⟩ := Option.bind_eq_some_iff.mp e
  rw [List.length_map, e1]
  show (xs.map f)[j]? = _
  rw [List.getElem?_map, e2]
  rfl
theorem ix_core {A : Addr → Prop} {d e r : D} {v w : V} {Q : VK} (hv : Rdb g A H d v) (hw : Rdb g A H e w) (h : ixD d e = some r) (hQ : ∀ u, Rep g A H r u → Q u H) : rIx g.K v w H Q := by
  cases d <;> cases e <;> simp only [ixD, reduceCtorEq] at h
  · split at h
    · obtain ⟨c, e1, rfl⟩ := Option.map_eq_some_iff.mp h
      rename_i hz
      exact .inr (.inr ⟨_, _, c, rdb_str hv, rdb_int hw, hz, e1, hQ _ (by simp only [Rep])⟩)
    · cases h
  · obtain ⟨a, vs, rfl, e1, r1⟩ := hv
    obtain ⟨u, eu, ru⟩ := reps_at r1 h
    exact .inl ⟨a, vs, _, u, rfl, rdb_int hw, .inl (.inl e1), eu, hQ _ ru⟩
  · obtain ⟨a, vs, rfl, _, e1, r1⟩ := rdb_tup hv
    obtain ⟨u, eu, ru⟩ := reps_at r1 h
    exact .inr (.inl ⟨a, vs, _, u, rfl, rdb_int hw, e1, eu, hQ _ ru⟩)
  · obtain ⟨a, rfl, _, e1⟩ := rdb_scr hv
    obtain ⟨i, e2, rfl⟩ := Option.map_eq_some_iff.mp h
    exact .inl ⟨a, _, _, _, rfl, rdb_int hw, e1, atI_map e2, hQ _ (by simp only [Rep])⟩
theorem p_ix (C : Cok0 g X) (ha : PE X a (tR g fs ia)) (hb : PE X b (tR g fs ib)) (hs : PlainIx b) : PE X (.Subscript a b pos) (tR g fs (.ix ia ib)) := by
  refine PE.weak (pe_ix ix_seq ha hb hs) ?_
  rintro σ H Q ⟨Bn, Ow, Γ, r, Γ', rs, he, hQ⟩
  simp only [ev] at he
  obtain ⟨⟨x, Γ1⟩, e1, he⟩ := Option.bind_eq_some_iff.mp he
  obtain ⟨⟨y, Γ2⟩, e2, he⟩ := Option.bind_eq_some_iff.mp he
  obtain ⟨d, ed, he⟩ := Option.bind_eq_some_iff.mp he
  obtain ⟨e, ee, he⟩ := Option.bind_eq_some_iff.mp he
  obtain ⟨r', hb, he⟩ := Option.map_eq_some_iff.mp he
  simp only [Prod.mk.injEq] at he
  obtain ⟨rfl, rfl⟩ := he
  rw [← datum_dn] at ed ee
  refine tR_two rs e1 e2 fun v w H2 O2 s2 r2 v2 w2 => ?_
  rw [C.K]
  exact ix_core (v2.rdb r2 ed) (w2.rdb r2 ee) hb fun u ru => hQ u H2 O2 s2 r2 ru
theorem reps_cut {A : Addr → Prop} {ds : List D} {vs : List V} (lo hi : Option Int) (h : Reps g A H ds vs) : Reps g A H (cutD ds lo hi) (cutV vs lo hi) := by
  unfold cutD cutV
  rw [h.len]
  exact (h.drop _).take _
theorem reps_ints {A : Addr → Prop} : ∀ ns : List Int, Reps g A H (ns.map D.int) (ns.map V.int)
  | [] => by simp only [List.map_nil, Reps]
  | n :: ns => by
    simp only [List.map_cons, Reps]
    exact ⟨_, _, rfl, by simp only [Rep], reps_ints ns⟩
theorem slc_core {A : Addr → Prop} {d : D} {r : RV} {v : V} {lo hi : Option Int} {Q : VK} (hv : Rdb g A H d v) (tr : ∀ a, A a → H a ≠ none) (h : slcD d lo hi = some r) (hQ : ∀ u H', Same H H' → ((∀ a o, g.K.lookup a = some o → H' a = none) → Res g A H H' r u) → Q u H') :
    rSlL g.K v lo hi H Q ∨ rSlT g.K v lo hi H Q := by
  cases d <;> simp only [slcD, reduceCtorEq, Option.some.injEq, Option.ite_none_left_eq_some] at h
  · subst h
    obtain ⟨a, vs, rfl, e1, r1⟩ := hv
    exact .inl ⟨a, vs, rfl, .inl (.inl e1), fun p np => hQ _ _ (same_new np) fun kf => new_lst np (kf_new kf upd_same) (reps_cut lo hi r1)⟩
  · obtain ⟨hz, rfl⟩ := h
    obtain ⟨a, vs, rfl, _, e1, r1⟩ := rdb_tup hv
    refine .inr ⟨a, vs, rfl, e1, by rw [← r1.len]; exact hz, fun p np => hQ _ _ (same_new np) fun kf => new_tup np tr (reps_cut lo hi r1)⟩
  · subst h
    obtain ⟨a, rfl, _, e1⟩ := rdb_scr hv
    exact .inl ⟨a, _, rfl, e1, fun p np => hQ _ _ (same_new np) fun kf => new_lst np (kf_new kf upd_same) (reps_cut lo hi (reps_ints _))⟩
structure Part (g : Gx) (fs : List FS) (X : Cx) (e : Option Expr) (ies : List E) : Prop where
  run : (e = none ∧ ies = []) ∨ ∃ a ia, e = some a ∧ ies = [ia] ∧ PE X a (tR g fs ia)
theorem p_slc {lo hi : Option Expr} {il ih : List E} {p2 : Pos} (C : Cok0 g X) (ha : PE X a (tR g fs ia)) (hl : Part g fs X lo il) (hh : Part g fs X hi ih) : PE X (.Subscript a (.Slice lo hi none p2) pos) (tR g fs (.slc ia il ih)) := by
  -- the reading of a part
  have part : ∀ {e : Option Expr} {ies : List E}, Part g fs X e ies → ∃ t, PO X e t ∧ ∀ {Bn Ow Γ xs Γ' ds o σ H} {Q : Option Int → Hp → Prop}, RS g Bn Ow H σ Γ → evs fs ies Γ = some (xs, Γ') → datums Γ' xs = some ds → slO ds = some o →
      (∀ H' Ow', Stp Ow H Ow' H' → RS g Bn Ow' H' σ Γ' → Q o H') → t σ H Q := by
    intro e ies h
    rcases h.run with ⟨rfl, rfl⟩ | ⟨b, ib, rfl, rfl, hb⟩
    · refine ⟨_, po_none, fun {Bn Ow Γ xs Γ' ds o σ H Q} rs e1 e2 e3 k => ?_⟩
      simp only [evs, Option.some.injEq, Prod.mk.injEq] at e1
      obtain ⟨rfl, rfl⟩ := e1
      simp only [datums, Option.some.injEq] at e2
      subst e2
      simp only [slO, Option.some.injEq] at e3
      subst e3
      exact k H Ow (.refl _ _) rs
    · refine ⟨_, po_some hb, fun {Bn Ow Γ xs Γ' ds o σ H Q} rs e1 e2 e3 k => ?_⟩
      simp only [evs] at e1
      obtain ⟨⟨x, Γ1⟩, e4, e1⟩ := Option.bind_eq_some_iff.mp e1
      simp only [Option.map_some, Option.some.injEq, Prod.mk.injEq] at e1
      obtain ⟨rfl, rfl⟩ := e1
      simp only [datums] at e2
      obtain ⟨d, e5, e2⟩ := Option.bind_eq_some_iff.mp e2
      simp only [Option.map_some, Option.some.injEq] at e2
      subst e2
      rw [← datum_dn] at e5
      refine tR_one rs e4 fun v H1 O1 s1 r1 v1 => ?_
      have q := v1.rdb r1 e5
      cases d <;> simp only [slO, reduceCtorEq, Option.some.injEq] at e3
      subst e3
      exact ⟨_, rdb_int q, k H1 O1 s1 r1⟩
  obtain ⟨tl, pl, kl⟩ := part hl
  obtain ⟨th, ph, kh⟩ := part hh
  refine PE.weak (PE.kf (pe_slice (sl_list.or sl_tup) ha pl ph)) ?_
  rintro σ H Q ⟨Bn, Ow, Γ, r, Γ', rs, he, hQ⟩
  simp only [ev] at he
  obtain ⟨⟨x, Γ1⟩, e1, he⟩ := Option.bind_eq_some_iff.mp he
  obtain ⟨⟨ys, Γ2⟩, e2, he⟩ := Option.bind_eq_some_iff.mp he
  obtain ⟨l, el, he⟩ := Option.bind_eq_some_iff.mp he
  obtain ⟨⟨zs, Γ3⟩, e3, he⟩ := Option.bind_eq_some_iff.mp he
  obtain ⟨d, ed, he⟩ := Option.bind_eq_some_iff.mp he
  obtain ⟨h, eh, he⟩ := Option.bind_eq_some_iff.mp he
  obtain ⟨lo', el', he⟩ := Option.bind_eq_some_iff.mp he
  obtain ⟨hi', eh', he⟩ := Option.bind_eq_some_iff.mp he
  obtain ⟨r', hb, he⟩ := Option.map_eq_some_iff.mp he
  simp only [Prod.mk.injEq] at he
  obtain ⟨rfl, rfl⟩ := he
  rw [← datum_dn] at ed
  refine tR_one rs e1 fun v H1 O1 s1 r1 v1 => kl r1 e2 el el' fun H2 O2 s2 r2 => kh r2 e3 eh eh' fun H3 O3 s3 r3 => ?_
  rw [C.K]
  have v3 := ((v1.step s2 r2).step s3 r3).rdb r3 ed
  refine slc_core v3 r3.trk hb fun u H' sm kr kf => ?_
  obtain ⟨O4, s4, r4, val⟩ := (kr kf).val r3 sm
  exact hQ u H' O4 (((s1.trans s2).trans s3).trans s4) r4 val
end
end DV

namespace DV
open PySem L2
/-! ### built-ins on data -/
def rBi (g : Gx) (b : Bi) : List V → Hp → VK → Prop := fun vs H Q => ∃ A ds r, Paired (fun d v => Rdb g A H d v) ds vs ∧ (∀ a, A a → H a ≠ none) ∧ biD b ds = some r ∧ ∀ v H', Same H H' → Res g A H H' r v → Q v H'
theorem minI_spec : ∀ {ns : List Int} {m : Int}, minI ns = some m → m ∈ ns ∧ ∀ y ∈ ns, m ≤ y := by
  have go : ∀ (r : List Int) (x : Int), (r.foldl (fun a b => if b < a then b else a) x) ∈ x :: r ∧ ∀ y ∈ x :: r, r.foldl (fun a b => if b < a then b else a) x ≤ y := by
    intro r
    induction r with
    | nil => intro x; exact ⟨List.mem_cons_self, fun y hy => by simp at hy; rw [hy]; exact Int.le_refl _⟩
    | cons z r ih =>
      intro x
      rw [List.foldl_cons]
      have q := ih (if z < x then z else x)
      refine ⟨?_, fun y hy => ?_⟩
      · rcases List.mem_cons.mp q.1 with h | h
        · rw [h]; split
          · simp
          · simp
        · simp [h]
      · have q2 := q.2 _ List.mem_cons_self
        have b1 : (if z < x then z else x) ≤ x := by split <;> omega
        have b2 : (if z < x then z else x) ≤ z := by split <;> omega
        rcases List.mem_cons.mp hy with h | h
        · rw [h]; exact Int.le_trans q2 b1
        · rcases List.mem_cons.mp h with h | h
          · rw [h]; exact Int.le_trans q2 b2
          · exact q.2 y (List.mem_cons_of_mem _ h)
  intro ns m h
  cases ns with
  | nil => simp [minI] at h
  | cons x r => simp only [minI, Option.some.injEq] at h; subst h; exact go r x
section
variable {X : Cx} {g : Gx} {A : Addr → Prop} {H : Hp}
theorem ints_of : ∀ {ds : List D} {vs : List V} {ns : List Int}, Reps g A H ds vs → intsD ds = some ns → vs = ns.map V.int
  | [], _, ns, h, e => by simp only [Reps] at h; simp only [intsD, Option.some.injEq] at e; subst h e; rfl
  | d :: ds, _, ns, h, e => by
    simp only [Reps] at h
    obtain ⟨v, r, rfl, h1, h2⟩ := h
    cases d <;> simp only [intsD, reduceCtorEq] at e
    obtain ⟨ms, e1, rfl⟩ := Option.map_eq_some_iff.mp e
    simp only [Rep] at h1
    rw [List.map_cons, h1, ints_of h2 e1]
theorem bi1 {b : Bi} {f : Value} {r : List V → Hp → VK → Prop} (hK : X.K = g.K) (h : CallR X f r)
    (k : ∀ (A : Addr → Prop) (H : Hp) (ds : List D) (vs : List V) (x : RV) (Q : VK), Paired (fun d v => Rdb g A H d v) ds vs → (∀ a, A a → H a ≠ none) → biD b ds = some x → (∀ v H', Same H H' → ((∀ a o, g.K.lookup a = some o → H' a = none) → Res g A H H' x v) → Q v H') → r vs H Q) : CallR X f (rBi g b) := by
  refine CallR.weak (CallR.kf h) ?_
  rintro vs H Q ⟨A, ds, x, hp, tr, hb, hQ⟩
  exact k A H ds vs x _ hp tr hb fun v H' sm kr kf => hQ v H' sm (kr fun a o e => kf a o (by rw [hK]; exact e))
theorem paired1 {x : D} {vs : List V} (h : Paired (fun d v => Rdb g A H d v) [x] vs) : ∃ v, vs = [v] ∧ Rdb g A H x v := by
  cases h with
  | cons a b => cases b; exact ⟨_, rfl, a⟩
theorem b_len (hK : X.K = g.K) : CallR X (.builtin "len") (rBi g .len) := by
  refine bi1 hK call_len ?_
  intro A H ds vs x Q hp tr hb hQ
  rw [hK]
  match ds, hb with
  | [.lst xs], hb =>
    simp only [biD, Option.some.injEq] at hb; subst hb
    obtain ⟨v, rfl, q⟩ := paired1 hp
    obtain ⟨a, ws, rfl, e1, r1⟩ := q
    exact ⟨_, ws.length, rfl, .inl ⟨ws, .inl (.inl e1), rfl⟩, hQ _ H (same_rfl H) fun _ => by simp only [Res, Rep, r1.len]⟩
  | [.tup xs], hb =>
    simp only [biD, Option.some.injEq] at hb; subst hb
    obtain ⟨v, rfl, q⟩ := paired1 hp
    obtain ⟨a, ws, rfl, _, e1, r1⟩ := rdb_tup q
    exact ⟨_, ws.length, rfl, .inr ⟨ws, e1, rfl⟩, hQ _ H (same_rfl H) fun _ => by simp only [Res, Rep, r1.len]⟩
  | [.scr ns], hb =>
    simp only [biD, Option.some.injEq] at hb; subst hb
    obtain ⟨v, rfl, q⟩ := paired1 hp
    obtain ⟨a, rfl, _, e1⟩ := rdb_scr q
    exact ⟨_, _, rfl, .inl ⟨_, e1, rfl⟩, hQ _ H (same_rfl H) fun _ => by simp only [Res, Rep, List.length_map]⟩
  | [.str s], hb =>
    simp only [biD, Option.ite_none_right_eq_some, Option.some.injEq] at hb
    obtain ⟨hz, rfl⟩ := hb
    obtain ⟨v, rfl, q⟩ := paired1 hp
    exact ⟨_, s.length, rfl, by rw [rdb_str q]; exact ⟨hz, rfl⟩, hQ _ H (same_rfl H) fun _ => by simp only [Res, Rep]⟩
theorem b_int (hK : X.K = g.K) : CallR X (.type "int") (rBi g .int1) := by
  refine bi1 hK call_int1 ?_
  intro A H ds vs x Q hp tr hb hQ
  match ds, hb with
  | [.int i], hb =>
    simp only [biD, Option.some.injEq] at hb; subst hb
    obtain ⟨v, rfl, q⟩ := paired1 hp
    exact .inl ⟨i, by rw [rdb_int q], hQ _ H (same_rfl H) fun _ => by simp only [Res, Rep]⟩
  | [.bl i], hb =>
    simp only [biD, Option.some.injEq] at hb; subst hb
    obtain ⟨v, rfl, q⟩ := paired1 hp
    exact .inr ⟨i, by rw [rdb_bl q], hQ _ H (same_rfl H) fun _ => by simp only [Res, Rep]⟩
theorem b_minl (C : Cok g X) : CallR X (.builtin "min") (rBi g .minl) := by
  refine bi1 C.K (cr_min C.calm) ?_
  intro A H ds vs x Q hp tr hb hQ
  match ds, hb with
  | [.lst xs], hb =>
    simp only [biD] at hb
    obtain ⟨ns, e1, hb⟩ := Option.bind_eq_some_iff.mp hb
    obtain ⟨m, e2, rfl⟩ := Option.map_eq_some_iff.mp hb
    obtain ⟨v, rfl, q⟩ := paired1 hp
    obtain ⟨a, ws, rfl, e3, r1⟩ := q
    rw [ints_of r1 e1] at e3
    have sp := minI_spec e2
    refine ⟨a, ns, rfl, .inl (.inl e3), List.length_pos_of_mem sp.1, fun m' h1 h2 => hQ _ H (same_rfl H) fun _ => ?_⟩
    simp only [Res, Rep]
    rw [Int.le_antisymm (h2 m sp.1) (sp.2 m' h1)]
theorem b_list (hK : X.K = g.K) : CallR X (.type "list") (rBi g .list) := by
  refine bi1 hK call_list_of ?_
  intro A H ds vs x Q hp tr hb hQ
  rw [hK]
  match ds, hb with
  | [.lst xs], hb =>
    simp only [biD, Option.some.injEq] at hb; subst hb
    obtain ⟨v, rfl, q⟩ := paired1 hp
    obtain ⟨a, ws, rfl, e1, r1⟩ := q
    exact ⟨a, ws, rfl, .inl (.inl (.inl e1)), fun p np => hQ _ _ (same_new np) fun kf => new_lst np (kf_new kf upd_same) r1⟩
  | [.tup xs], hb =>
    simp only [biD, Option.some.injEq] at hb; subst hb
    obtain ⟨v, rfl, q⟩ := paired1 hp
    obtain ⟨a, ws, rfl, _, e1, r1⟩ := rdb_tup q
    exact ⟨a, ws, rfl, .inr e1, fun p np => hQ _ _ (same_new np) fun kf => new_lst np (kf_new kf upd_same) r1⟩
def tyN : Ty → String
  | .int => "int" | .bool => "bool" | .str => "str" | .list => "list" | .tuple => "tuple"
/-- isinstance(x, T): the reading of the two arguments -/
theorem isi_core {t : Ty} {d : D} {v : V} {Q : VK} (hs : shallow d = true) (h : Rdb g A H d v) (hQ : Q (.bl (isiD t d)) H) : rIsi g.K [v, .ty (tyN t)] H Q := by
  cases d with
  | obj => simp [shallow] at hs
  | exc => simp [shallow] at hs
  | err => simp [shallow] at hs
  | ref => simp [shallow] at hs
  | scr => simp [shallow] at hs
  | dct =>
    obtain ⟨a, rfl, _, e1⟩ := rdb_dct h
    exact ⟨_, _, _, _, isiD t .dct, rfl, .ty _, .base (.dK e1), kit_ty (by cases t <;> (simp only [isiD, tyN]; decide +kernel)), hQ⟩
  | dic ks ds =>
    obtain ⟨a, vs, rfl, _, _, e1, _⟩ := rdb_dic h
    exact ⟨_, _, _, _, isiD t (.dic ks ds), rfl, .ty _, .base (.dK e1), kit_ty (by cases t <;> (simp only [isiD, tyN]; decide +kernel)), hQ⟩
  | non => rw [rdb_non h]; exact ⟨_, _, _, _, isiD t .non, rfl, .ty _, .base .non, kit_ty (by cases t <;> decide +kernel), hQ⟩
  | bl b => rw [rdb_bl h]; exact ⟨_, _, _, _, isiD t (.bl b), rfl, .ty _, .base (.bl b), kit_ty (by cases t <;> (simp only [isiD, tyN]; decide +kernel)), hQ⟩
  | int b => rw [rdb_int h]; exact ⟨_, _, _, _, isiD t (.int b), rfl, .ty _, .base (.int b), kit_ty (by cases t <;> (simp only [isiD, tyN]; decide +kernel)), hQ⟩
  | str b => rw [rdb_str h]; exact ⟨_, _, _, _, isiD t (.str b), rfl, .ty _, .base (.str b), kit_ty (by cases t <;> (simp only [isiD, tyN]; decide +kernel)), hQ⟩
  | lst b =>
    obtain ⟨a, ws, rfl, e1, r1⟩ := h
    exact ⟨_, _, _, _, isiD t (.lst b), rfl, .ty _, .base (.lst e1), kit_ty (by cases t <;> (simp only [isiD, tyN]; decide +kernel)), hQ⟩
  | tup b =>
    obtain ⟨a, ws, rfl, _, e1, r1⟩ := rdb_tup h
    have k : PySem.W.kitOne g.K (.type "tuple") (.type (tyN t)) = some (isiD t (.tup b)) := kit_ty (by cases t <;> (simp only [isiD, tyN]; decide +kernel))
    rcases e1 with (e1 | ⟨o, e1⟩) | ⟨o, its, n, e1, e2, _⟩
    · exact ⟨_, _, _, _, _, rfl, .ty _, .base (.tup e1), k, hQ⟩
    · exact ⟨_, _, _, _, _, rfl, .ty _, .fTuple e1, k, hQ⟩
    · exact ⟨_, _, _, _, _, rfl, .ty _, .kTuple e1 e2, k, hQ⟩
end
section
variable {X : Cx} {g : Gx} {fs : List FS} {e : Expr} {es : List Expr} {ies : List E} {x : Str} {id T : String} {b : Bi} {p pos : Pos}
theorem bi_core {Bn : Addr → Prop} {Ow : List Addr} {H : Hp} {σ : St} {Γ Γ' : Ct} {r : RV} {Q : VK} (rs : RS g Bn Ow H σ Γ) (he : ev fs (.bi b ies) Γ = some (r, Γ')) (hQ : ∀ v H' Ow', Stp Ow H Ow' H' → RS g Bn Ow' H' σ Γ' → Val g Bn Ow' H' σ Γ' r v → Q v H') :
    tCB (rBi g b) (tAs g fs ies) σ H Q := by
  simp only [ev] at he
  obtain ⟨⟨xs, Γ1⟩, e1, he⟩ := Option.bind_eq_some_iff.mp he
  obtain ⟨ds, e2, he⟩ := Option.bind_eq_some_iff.mp he
  obtain ⟨r', e3, he⟩ := Option.map_eq_some_iff.mp he
  simp only [Prod.mk.injEq] at he
  obtain ⟨rfl, rfl⟩ := he
  refine ⟨Bn, Ow, Γ, xs, Γ1, rs, e1, fun vs H1 O1 s1 r1 v1 => ?_⟩
  exact ⟨Av Bn O1, ds, _, datums_ok r1 v1 e2, r1.trk, e3, fun v H' sm res => let ⟨O3, s3, r3, val⟩ := res.val r1 sm; hQ v H' O3 (s1.trans s3) r3 val⟩
theorem p_biB (hc : CallR X (.builtin id) (rBi g b)) (hg : Gl X x) (hm : X.mg x = none) (hv : bootBuiltins x = some (.builtin id)) (ha : PA X (e :: es) (tAs g fs ies)) (hn : x ≠ "__name__") (hdb : (x == ("__debug__" : Str)) = false)
    (he : starEach (e :: es) X.env = (false, eval e X.env) :: starEach es X.env) (hpl : (backTo pos (starEach es X.env)).any (·.1) = false) : PE X (.Call (.Name x p) (e :: es) [] pos) (tR g fs (.bi b ies)) := by
  refine PE.weak (pe_callB hc hg hm hv ha hn hdb he hpl) ?_
  rintro σ H Q ⟨Bn, Ow, Γ, r, Γ', rs, he, hQ⟩
  exact bi_core rs he hQ
theorem p_biT (hc : CallR X (.type T) (rBi g b)) (hg : Gl X x) (hm : X.mg x = none) (hv : bootBuiltins x = some (.type T)) (ha : PA X (e :: es) (tAs g fs ies)) (hn : x ≠ "__name__") (hdb : (x == ("__debug__" : Str)) = false)
    (he : starEach (e :: es) X.env = (false, eval e X.env) :: starEach es X.env) (hpl : (backTo pos (starEach es X.env)).any (·.1) = false) : PE X (.Call (.Name x p) (e :: es) [] pos) (tR g fs (.bi b ies)) := by
  refine PE.weak (pe_callTy hc hg hm hv ha hn hdb he hpl) ?_
  rintro σ H Q ⟨Bn, Ow, Γ, r, Γ', rs, he, hQ⟩
  exact bi_core rs he hQ
theorem p_isi {a : Expr} {ia : E} {t : Ty} {y : Str} {p2 : Pos} (C : Cok0 g X) (ha : PE X a (tR g fs ia)) (hy : PE X (.Name y p2) (tC (.ty (tyN t)))) (hg : Gl X "isinstance") (hm : X.mg "isinstance" = none)
    (he : starEach (a :: [.Name y p2]) X.env = (false, eval a X.env) :: starEach [.Name y p2] X.env) (hpl : (backTo pos (starEach [.Name y p2] X.env)).any (·.1) = false) : PE X (.Call (.Name "isinstance" p) [a, .Name y p2] [] pos) (tR g fs (.bi (.isi t) [ia])) := by
  refine PE.weak (pe_callB call_isi hg hm PyProof.Rows.boot_isinstance (pa_cons ha (pa_cons hy pa_nil rfl) he) (by decide) (by decide) he hpl) ?_
  rintro σ H Q ⟨Bn, Ow, Γ, r, Γ', rs, he, hQ⟩
  simp only [ev, evs] at he
  obtain ⟨⟨xs, Γ1⟩, e1, he⟩ := Option.bind_eq_some_iff.mp he
  obtain ⟨⟨x, Γ2⟩, e2, e1⟩ := Option.bind_eq_some_iff.mp e1
  simp only [Option.map_some, Option.some.injEq, Prod.mk.injEq] at e1
  obtain ⟨rfl, rfl⟩ := e1
  obtain ⟨ds, e3, he⟩ := Option.bind_eq_some_iff.mp he
  obtain ⟨r', e4, he⟩ := Option.map_eq_some_iff.mp he
  simp only [Prod.mk.injEq] at he
  obtain ⟨rfl, rfl⟩ := he
  simp only [datums] at e3
  obtain ⟨d, e5, e3⟩ := Option.bind_eq_some_iff.mp e3
  simp only [Option.map_some, Option.some.injEq] at e3
  subst e3
  simp only [biD, Option.ite_none_right_eq_some, Option.some.injEq] at e4
  obtain ⟨hs, rfl⟩ := e4
  rw [← datum_dn] at e5
  refine tR_one rs e2 fun v H1 O1 s1 r1 v1 => ?_
  show rIsi X.K [v, .ty (tyN t)] H1 Q
  rw [C.K]
  exact isi_core hs (v1.rdb r1 e5) (hQ _ H1 O1 s1 r1 (by simp only [Val, Rep]))
end
end DV

namespace DV
open PySem L2
/-- the promise of a def by what it does to data -/
def spF (g : Gx) (n : Nat) (F : FS) : Sp := fun vs H Q _ => vs.length = n ∧ ∃ Bn Ow Γ r os, RS g Bn Ow H (vs.map some) Γ ∧ F Γ = some (r, os) ∧ (∀ i, r ≠ .sl i) ∧
  ∀ v H' Ow', Stp Ow H Ow' H' → RS g Bn Ow' H' (vs.map some) os → Val g Bn Ow' H' (vs.map some) os r v → Q v H'
/-- the same, what is wished told by the result -/
def spG (g : Gx) (n : Nat) (F : FS) (R : RV → VK) (vs : List V) (H : Hp) : Prop := vs.length = n ∧ ∃ Bn Ow Γ r os, RS g Bn Ow H (vs.map some) Γ ∧ F Γ = some (r, os) ∧ (∀ i, r ≠ .sl i) ∧
  ∀ v H' Ow', Stp Ow H Ow' H' → RS g Bn Ow' H' (vs.map some) os → Val g Bn Ow' H' (vs.map some) os r v → R r v H'
def OwS (Γ : Ct) (j : Nat) : Prop := ∃ d, Γ[j]? = some (some (d, true))
theorem ownIx_mem {Γ : Ct} {j : Nat} : ∀ {xs : List RV}, j ∈ ownIx Γ xs ↔ .sl j ∈ xs ∧ OwS Γ j
  | [] => by simp [ownIx]
  | x :: xs => by
    have ih := @ownIx_mem Γ j xs
    cases x with
    | fz d => simp only [ownIx, List.mem_cons, reduceCtorEq, false_or]; exact ih
    | nw d => simp only [ownIx, List.mem_cons, reduceCtorEq, false_or]; exact ih
    | sl i =>
      simp only [ownIx]
      split
      · rename_i d q
        simp only [List.mem_cons, RV.sl.injEq]
        constructor
        · rintro (h | h)
          · subst h; exact ⟨.inl rfl, d, q⟩
          · exact ⟨.inr (ih.mp h).1, (ih.mp h).2⟩
        · rintro ⟨h | h, o⟩
          · exact .inl h
          · exact .inr (ih.mpr ⟨h, o⟩)
      · rename_i q
        simp only [List.mem_cons, RV.sl.injEq]
        rw [ih]
        constructor
        · rintro ⟨h, o⟩; exact ⟨.inr h, o⟩
        · rintro ⟨h | h, o⟩
          · subst h; obtain ⟨d, o⟩ := o; exact absurd o (q d)
          · exact ⟨h, o⟩
theorem nodupB_cons {x : Nat} {xs : List Nat} (h : nodupB (x :: xs) = true) : x ∉ xs ∧ nodupB xs = true := by
  simp only [nodupB, Bool.and_eq_true, Bool.not_eq_true', List.contains_eq_mem, decide_eq_false_iff_not] at h
  exact h
theorem ownIx_tail {Γ : Ct} {x : RV} {xs : List RV} (h : nodupB (ownIx Γ (x :: xs)) = true) : nodupB (ownIx Γ xs) = true := by
  cases x with
  | fz d => exact h
  | nw d => exact h
  | sl i =>
    simp only [ownIx] at h
    split at h
    · exact (nodupB_cons h).2
    · exact h
theorem ownIx_head {Γ : Ct} {j : Nat} {xs : List RV} (h : nodupB (ownIx Γ (.sl j :: xs)) = true) (o : OwS Γ j) : .sl j ∉ xs := fun z => by
  obtain ⟨d, o⟩ := o
  simp only [ownIx, o] at h
  exact (nodupB_cons h).1 (ownIx_mem.mpr ⟨z, d, o⟩)
theorem own_uniq {Γ : Ct} {j : Nat} (o : OwS Γ j) : ∀ {xs : List RV} {i k : Nat}, nodupB (ownIx Γ xs) = true → xs[i]? = some (.sl j) → xs[k]? = some (.sl j) → i = k
  | [], i, k, _, h, _ => by simp at h
  | x :: xs, 0, 0, _, _, _ => rfl
  | x :: xs, 0, k + 1, n, h1, h2 => by
    simp at h1; subst h1
    exact absurd (List.mem_of_getElem? (by simpa using h2)) (ownIx_head n o)
  | x :: xs, i + 1, 0, n, h1, h2 => by
    simp at h2; subst h2
    exact absurd (List.mem_of_getElem? (by simpa using h1)) (ownIx_head n o)
  | x :: xs, i + 1, k + 1, n, h1, h2 => by
    have := own_uniq o (i := i) (k := k) (ownIx_tail n) (by simpa using h1) (by simpa using h2)
    omega
theorem put_len {Γ0 : Ct} : ∀ {xs : List RV} {os Γ : Ct}, (putOuts Γ0 xs os Γ).length = Γ.length
  | [], os, Γ => by cases os <;> simp [putOuts]
  | x :: xs, [], Γ => by cases x <;> simp [putOuts]
  | x :: xs, o :: os, Γ => by
    cases x with
    | fz d => simp only [putOuts]; exact put_len
    | nw d => simp only [putOuts]; exact put_len
    | sl i =>
      simp only [putOuts]
      split
      · rw [put_len, List.length_set]
      · exact put_len
theorem put_miss {Γ0 : Ct} {j : Nat} : ∀ {xs : List RV} {os Γ : Ct}, (∀ i : Nat, xs[i]? = some (.sl j) → ¬ OwS Γ0 j) → (putOuts Γ0 xs os Γ)[j]? = Γ[j]?
  | [], os, Γ, _ => by cases os <;> simp [putOuts]
  | x :: xs, [], Γ, _ => by cases x <;> simp [putOuts]
  | x :: xs, o :: os, Γ, h => by
    have ih : ∀ Γ, (putOuts Γ0 xs os Γ)[j]? = Γ[j]? := fun Γ => put_miss fun i e => h (i + 1) (by simpa using e)
    cases x with
    | fz d => simp only [putOuts]; exact ih Γ
    | nw d => simp only [putOuts]; exact ih Γ
    | sl i =>
      simp only [putOuts]
      split
      · rename_i d q
        rw [ih, List.getElem?_set_ne]
        intro z
        subst z
        exact h 0 rfl ⟨d, q⟩
      · exact ih Γ
theorem put_hit {Γ0 : Ct} {j : Nat} (ow : OwS Γ0 j) : ∀ {xs : List RV} {os Γ : Ct} {i : Nat} {o : Sl}, nodupB (ownIx Γ0 xs) = true → xs[i]? = some (.sl j) → os[i]? = some o → j < Γ.length → (putOuts Γ0 xs os Γ)[j]? = some o
  | [], os, Γ, i, o, _, h, _, _ => by simp at h
  | x :: xs, [], Γ, i, o, _, _, h, _ => by simp at h
  | x :: xs, p :: os, Γ, 0, o, n, h1, h2, hl => by
    simp at h1 h2; subst h1 h2
    have hh := ownIx_head n ow
    obtain ⟨d, q⟩ := ow
    simp only [putOuts, q]
    rw [put_miss fun i e => absurd (List.mem_of_getElem? e) hh, List.getElem?_set_self hl]
  | x :: xs, p :: os, Γ, i + 1, o, n, h1, h2, hl => by
    have n' := ownIx_tail n
    have h1' : xs[i]? = some (.sl j) := by simpa using h1
    have h2' : os[i]? = some o := by simpa using h2
    cases x with
    | fz d => simp only [putOuts]; exact put_hit ow n' h1' h2' hl
    | nw d => simp only [putOuts]; exact put_hit ow n' h1' h2' hl
    | sl k =>
      simp only [putOuts]
      split
      · exact put_hit ow n' h1' h2' (by rw [List.length_set]; exact hl)
      · exact put_hit ow n' h1' h2' hl
theorem argSs_len {Γ : Ct} : ∀ {xs : List RV} {as : List (D × Bool)}, argSs Γ xs = some as → as.length = xs.length
  | [], as, h => by simp only [argSs, Option.some.injEq] at h; subst h; rfl
  | x :: xs, as, h => by
    simp only [argSs] at h
    obtain ⟨d, _, h⟩ := Option.bind_eq_some_iff.mp h
    obtain ⟨r, e, rfl⟩ := Option.map_eq_some_iff.mp h
    rw [List.length_cons, List.length_cons, argSs_len e]
theorem argSs_get {Γ : Ct} : ∀ {xs : List RV} {as : List (D × Bool)} {i : Nat} {p : D × Bool}, argSs Γ xs = some as → as[i]? = some p → ∃ x, xs[i]? = some x ∧ argS Γ x = some p
  | [], as, i, p, h, e => by simp only [argSs, Option.some.injEq] at h; subst h; simp at e
  | x :: xs, as, i, p, h, e => by
    simp only [argSs] at h
    obtain ⟨d, hd, h⟩ := Option.bind_eq_some_iff.mp h
    obtain ⟨r, e1, rfl⟩ := Option.map_eq_some_iff.mp h
    cases i with
    | zero => simp at e; subst e; exact ⟨x, rfl, hd⟩
    | succ i => obtain ⟨y, h1, h2⟩ := argSs_get (i := i) e1 (by simpa using e); exact ⟨y, by simpa using h1, h2⟩
section
variable {g : Gx} {Bn : Addr → Prop} {Ow Ow' : List Addr} {H H' : Hp} {σ : St} {Γ Γ' : Ct}
/-- values by results, new ones owned -/
def VlW (g : Gx) (Bn : Addr → Prop) (Ow : List Addr) (H : Hp) (σ : St) (Γ : Ct) : List RV → List V → Prop
  | [], vs => vs = []
  | x :: xs, vs => ∃ v r, vs = v :: r ∧ Val g Bn Ow H σ Γ x v ∧ (∀ d, x = .nw d → ∀ (j : Nat) (e : D), xs[j]? = some (.nw e) → r[j]? ≠ some v) ∧ VlW g Bn Ow H σ Γ xs r
def tAw (g : Gx) (fs : List FS) (es : List E) : TA := fun σ H Q => ∃ Bn Ow Γ xs Γ', RS g Bn Ow H σ Γ ∧ evs fs es Γ = some (xs, Γ') ∧ ∀ vs H' Ow', Stp Ow H Ow' H' → RS g Bn Ow' H' σ Γ' → VlW g Bn Ow' H' σ Γ' xs vs → Q vs H'
theorem VlW.len : ∀ {xs : List RV} {vs : List V}, VlW g Bn Ow H σ Γ xs vs → xs.length = vs.length
  | [], _, h => by have h : _ = [] := h; subst h; rfl
  | x :: xs, _, ⟨v, r, e, _, _, h2⟩ => by subst e; rw [List.length_cons, List.length_cons, h2.len]
theorem VlW.get : ∀ {xs : List RV} {vs : List V} {i : Nat} {x : RV}, VlW g Bn Ow H σ Γ xs vs → xs[i]? = some x → ∃ v, vs[i]? = some v ∧ Val g Bn Ow H σ Γ x v
  | [], _, i, x, _, e => by simp at e
  | y :: xs, _, 0, x, ⟨v, r, e0, h1, _⟩, e => by simp at e; subst e e0; exact ⟨v, rfl, h1⟩
  | y :: xs, _, i + 1, x, ⟨v, r, e0, _, _, h2⟩, e => by
    subst e0
    obtain ⟨w, h3, h4⟩ := VlW.get (i := i) h2 (by simpa using e)
    exact ⟨w, by simpa using h3, h4⟩
theorem VlW.uniq : ∀ {xs : List RV} {vs : List V} {i k : Nat} {d e : D} {v : V}, VlW g Bn Ow H σ Γ xs vs → xs[i]? = some (.nw d) → xs[k]? = some (.nw e) → vs[i]? = some v → vs[k]? = some v → i = k
  | [], _, i, k, d, e, v, _, h1, _, _, _ => by simp at h1
  | y :: xs, _, 0, 0, d, e, v, _, _, _, _, _ => rfl
  | y :: xs, _, 0, k + 1, d, e, v, ⟨w, r, e0, _, h, _⟩, h1, h2, h3, h4 => by
    subst e0
    simp at h1 h3; subst h1 h3
    exact absurd (by simpa using h4) (h d rfl k e (by simpa using h2))
  | y :: xs, _, i + 1, 0, d, e, v, ⟨w, r, e0, _, h, _⟩, h1, h2, h3, h4 => by
    subst e0
    simp at h2 h4; subst h2 h4
    exact absurd (by simpa using h3) (h e rfl i d (by simpa using h1))
  | y :: xs, _, i + 1, k + 1, d, e, v, ⟨w, r, e0, _, _, hr⟩, h1, h2, h3, h4 => by
    subst e0
    rw [VlW.uniq (i := i) (k := k) hr (by simpa using h1) (by simpa using h2) (by simpa using h3) (by simpa using h4)]
theorem map_some_get {vs : List V} {i : Nat} {v : V} : (vs.map some)[i]? = some (some v) ↔ vs[i]? = some v := by
  rw [List.getElem?_map]
  cases vs[i]? <;> simp
/-- the addresses that are handed over -/
def handed (vs : List V) (as : List (D × Bool)) : List Addr := (vs.zip as).filterMap fun p => match p with
  | (.ref a, (_, true)) => some a
  | _ => none
theorem handed_mem {vs : List V} {as : List (D × Bool)} {a : Addr} : a ∈ handed vs as ↔ ∃ (i : Nat) (d : D), vs[i]? = some (.ref a) ∧ as[i]? = some (d, true) := by
  unfold handed
  rw [List.mem_filterMap]
  constructor
  · rintro ⟨⟨v, d, b⟩, hm, e⟩
    obtain ⟨i, hi⟩ := List.mem_iff_getElem?.mp hm
    rw [List.getElem?_zip_eq_some] at hi
    cases v with
    | ref x =>
      cases b with
      | true => simp only [Option.some.injEq] at e; subst e; exact ⟨i, d, hi.1, hi.2⟩
      | false => cases e
    | _ => cases e
  · rintro ⟨i, d, h1, h2⟩
    exact ⟨(.ref a, (d, true)), List.mem_iff_getElem?.mpr ⟨i, by rw [List.getElem?_zip_eq_some]; exact ⟨h1, h2⟩⟩, rfl⟩
theorem call_coreG {xs : List RV} {vs : List V} {as : List (D × Bool)} {r : RV} {os : Ct} {F : FS} {R : RV → VK} (rs : RS g Bn Ow H σ Γ) (hv : VlW g Bn Ow H σ Γ xs vs) (ea : argSs Γ xs = some as) (nd : nodupB (ownIx Γ xs) = true) (ef : F (as.map some) = some (r, os)) (nr : ∀ i, r ≠ .sl i)
    {n : Nat} (hn : vs.length = n) (hQ : ∀ v H' Ow', Stp Ow H Ow' H' → RS g Bn Ow' H' σ (putOuts Γ xs os Γ) → Val g Bn Ow' H' σ (putOuts Γ xs os Γ) r v → (∀ (i : Nat) d0 d a, xs[i]? = some (.nw d0) → os[i]? = some (some (d, true)) → vs[i]? = some (.ref a) → Val g Bn Ow' H' σ (putOuts Γ xs os Γ) (.nw d) (.ref a)) → R r v H') : spG g n F R vs H := by
  have l1 := argSs_len ea
  have l2 := hv.len
  -- an owned argument
  have ownArg : ∀ {i : Nat} {d : D}, as[i]? = some (d, true) → ∃ a, vs[i]? = some (.ref a) ∧ a ∈ Ow ∧ OwnA g (Av Bn Ow) H d a ∧ ((∃ j, xs[i]? = some (.sl j) ∧ Γ[j]? = some (some (d, true)) ∧ σ[j]? = some (some (.ref a))) ∨ (xs[i]? = some (.nw d) ∧ ∀ (j : Nat) e, Γ[j]? = some (some (e, true)) → σ[j]? ≠ some (some (.ref a)))) := by
    intro i d h
    obtain ⟨x, h1, h2⟩ := argSs_get ea h
    obtain ⟨v, h3, h4⟩ := hv.get h1
    cases x with
    | fz e => simp [argS] at h2
    | nw e =>
      simp only [argS, Option.some.injEq, Prod.mk.injEq, and_true] at h2
      subst h2
      obtain ⟨a, rfl, m, o, no⟩ := h4
      exact ⟨a, h3, m, o, .inr ⟨h1, no⟩⟩
    | sl j =>
      simp only [argS] at h2
      split at h2
      · rename_i p q
        cases h2
        obtain ⟨a, e1, m, o⟩ := rs.own j d q
        have h4 : σ[j]? = some (some v) := h4
        rw [e1] at h4; cases h4
        exact ⟨a, h3, m, o, .inl ⟨j, h1, q, e1⟩⟩
      · cases h2
  let Io := handed vs as
  have ioOw : ∀ a, a ∈ Io → a ∈ Ow := fun a h => by
    obtain ⟨i, d, h1, h2⟩ := handed_mem.mp h
    obtain ⟨b, h3, m, _⟩ := ownArg h2
    rw [h1] at h3; cases h3
    exact m
  let Bn' : Addr → Prop := fun a => Bn a ∨ (a ∈ Ow ∧ a ∉ Io)
  have av1 : ∀ a, Av Bn' Io a → Av Bn Ow a := fun a h => by
    rcases h with (h | h) | h
    · exact .inl h
    · exact .inr h.1
    · exact .inr (ioOw a h)
  refine ⟨hn, Bn', Io, as.map some, r, os, ⟨?_, fun i d h => ?_, fun i d h => ?_, fun i k d e a h1 h2 h3 h4 => ?_, fun a h => rs.trl a (av1 a h), fun a h z => ?_, fun a h => rs.kf a (av1 a h), rs.tabs⟩, ef, nr, fun v H' O' st rs' val => ?_⟩
  · rw [List.length_map, List.length_map]; omega
  · have h : as[i]? = some (d, false) := by
      rw [List.getElem?_map] at h
      cases e : as[i]? with
      | none => rw [e] at h; cases h
      | some p => rw [e] at h; simp only [Option.map_some, Option.some.injEq] at h; rw [h]
    obtain ⟨x, h1, h2⟩ := argSs_get ea h
    obtain ⟨v, h3, h4⟩ := hv.get h1
    refine ⟨v, map_some_get.mpr h3, rep_less av1 ?_⟩
    cases x with
    | fz e => simp only [argS, Option.some.injEq, Prod.mk.injEq, and_true] at h2; subst h2; exact h4
    | nw e => simp [argS] at h2
    | sl j =>
      simp only [argS] at h2
      split at h2
      · rename_i p q
        cases h2
        obtain ⟨w, e1, rp⟩ := rs.slot j d q
        have h4 : σ[j]? = some (some v) := h4
        rw [e1] at h4; cases h4
        exact rp
      · cases h2
  · have h : as[i]? = some (d, true) := by
      rw [List.getElem?_map] at h
      cases e : as[i]? with
      | none => rw [e] at h; cases h
      | some p => rw [e] at h; simp only [Option.map_some, Option.some.injEq] at h; rw [h]
    obtain ⟨a, h3, m, o, _⟩ := ownArg h
    exact ⟨a, map_some_get.mpr h3, handed_mem.mpr ⟨i, d, h3, h⟩, own_less av1 o⟩
  · have h1 : as[i]? = some (d, true) := by
      rw [List.getElem?_map] at h1
      cases e : as[i]? with
      | none => rw [e] at h1; cases h1
      | some p => rw [e] at h1; simp only [Option.map_some, Option.some.injEq] at h1; rw [h1]
    have h2 : as[k]? = some (e, true) := by
      rw [List.getElem?_map] at h2
      cases z : as[k]? with
      | none => rw [z] at h2; cases h2
      | some p => rw [z] at h2; simp only [Option.map_some, Option.some.injEq] at h2; rw [h2]
    obtain ⟨a1, v1, _, _, c1⟩ := ownArg h1
    obtain ⟨a2, v2, _, _, c2⟩ := ownArg h2
    have w1 := map_some_get.mp h3
    have w2 := map_some_get.mp h4
    rw [w1] at v1; cases v1
    rw [w2] at v2; cases v2
    rcases c1 with ⟨j1, x1, q1, e1⟩ | ⟨x1, n1⟩ <;> rcases c2 with ⟨j2, x2, q2, e2⟩ | ⟨x2, n2⟩
    · have := rs.dist j1 j2 _ _ _ q1 q2 e1 e2
      subst this
      exact own_uniq ⟨_, q1⟩ nd x1 x2
    · exact absurd e1 (n2 j1 _ q1)
    · exact absurd e2 (n1 j2 _ q2)
    · exact hv.uniq x1 x2 w1 w2
  · rcases h with h | h
    · exact rs.sep a h (ioOw a z)
    · exact h.2 z
  -- behind the call
  let O2 := Ow.filter (fun a => decide (a ∉ Io)) ++ O'
  have memO2 : ∀ a, a ∈ O2 ↔ (a ∈ Ow ∧ a ∉ Io) ∨ a ∈ O' := fun a => by
    show a ∈ Ow.filter (fun a => decide (a ∉ Io)) ++ O' ↔ _
    rw [List.mem_append, List.mem_filter]
    simp
  have av2 : ∀ a, Av Bn O2 a → Av Bn' O' a := fun a h => by
    rcases h with h | h
    · exact .inl (.inl h)
    · rcases (memO2 a).mp h with h | h
      · exact .inl (.inr h)
      · exact .inr h
  have stO : Stp Ow H O2 H' := ⟨fun a o h t nm => st.keep0 a o h t fun z => nm (ioOw a z), fun a h => by
    rcases (memO2 a).mp h with h | h
    · exact .inl h.1
    · rcases st.grow a h with h | h
      · exact .inl (ioOw a h)
      · exact .inr h⟩
  have vst := step_vst (g := g) (Bn := Bn) stO fun a h => rs'.kf a (av2 a (.inr h))
  have lo : os.length = vs.length := by rw [← rs'.len, List.length_map]
  -- a slot that is not handed over
  have missA : ∀ {j : Nat} {a : Addr} {d : D}, Γ[j]? = some (some (d, true)) → σ[j]? = some (some (.ref a)) → (∀ i : Nat, xs[i]? ≠ some (.sl j)) → a ∉ Io := fun {j a d} h1 h2 h3 z => by
    obtain ⟨i, e, q1, q2⟩ := handed_mem.mp z
    obtain ⟨a2, v2, _, _, c2⟩ := ownArg q2
    rw [q1] at v2; cases v2
    rcases c2 with ⟨j2, x2, g2, s2⟩ | ⟨x2, n2⟩
    · have := rs.dist j j2 _ _ _ h1 g2 h2 s2
      subst this
      exact h3 i x2
    · exact n2 j _ h1 h2
  have cases_ : ∀ (j : Nat), (∃ (i : Nat) (d : D) (a : Addr) (o : Sl), xs[i]? = some (.sl j) ∧ Γ[j]? = some (some (d, true)) ∧ σ[j]? = some (some (.ref a)) ∧ vs[i]? = some (.ref a) ∧ a ∈ Io ∧ os[i]? = some o ∧ (putOuts Γ xs os Γ)[j]? = some o) ∨
      ((putOuts Γ xs os Γ)[j]? = Γ[j]? ∧ ∀ d, Γ[j]? = some (some (d, true)) → ∀ i : Nat, xs[i]? ≠ some (.sl j)) := fun j => by
    by_cases h : ∃ i : Nat, xs[i]? = some (.sl j) ∧ OwS Γ j
    · obtain ⟨i, h1, h2⟩ := h
      obtain ⟨d, q⟩ := h2
      obtain ⟨a, e1, m, o⟩ := rs.own j d q
      obtain ⟨v, h3, h4⟩ := hv.get h1
      have h4 : σ[j]? = some (some v) := h4
      rw [e1] at h4; cases h4
      have ai : as[i]? = some (d, true) := by
        have hi : i < as.length := by rw [l1]; exact (List.getElem?_eq_some_iff.mp h1).1
        obtain ⟨x, q1, q2⟩ := argSs_get ea (List.getElem?_eq_getElem hi)
        rw [h1] at q1; cases q1
        simp only [argS, q, Option.some.injEq] at q2
        rw [List.getElem?_eq_getElem hi, ← q2]
      have hi : i < os.length := by rw [lo]; exact (List.getElem?_eq_some_iff.mp h3).1
      refine .inl ⟨i, d, a, os[i], h1, q, e1, h3, handed_mem.mpr ⟨i, d, h3, ai⟩, List.getElem?_eq_getElem hi, put_hit ⟨d, q⟩ nd h1 (List.getElem?_eq_getElem hi) (List.getElem?_eq_some_iff.mp q).1⟩
    · exact .inr ⟨put_miss fun i e o => h ⟨i, e, o⟩, fun d q i e => h ⟨i, e, d, q⟩⟩
  have hRS : RS g Bn O2 H' σ (putOuts Γ xs os Γ) := by
    refine ⟨by rw [put_len]; exact rs.len, fun j d h => ?_, fun j d h => ?_, fun j k d e a h1 h2 h3 h4 => ?_, fun a h => rs'.trl a (av2 a h), fun a h z => ?_, fun a h => rs'.kf a (av2 a h), rs'.tabs⟩
    · rcases cases_ j with ⟨i, d0, a, o, x1, q1, s1, v1, m1, o1, p1⟩ | ⟨p1, _⟩
      · rw [p1] at h; cases h
        obtain ⟨w, e1, rp⟩ := rs'.slot i d o1
        rw [map_some_get.mp e1] at v1; cases v1
        exact ⟨_, s1, rep_less av2 rp⟩
      · rw [p1] at h
        obtain ⟨w, e1, rp⟩ := rs.slot j d h
        exact ⟨w, e1, rep_mono vst d w rp⟩
    · rcases cases_ j with ⟨i, d0, a, o, x1, q1, s1, v1, m1, o1, p1⟩ | ⟨p1, p2⟩
      · rw [p1] at h; cases h
        obtain ⟨b, e1, m, ow⟩ := rs'.own i d o1
        rw [map_some_get.mp e1] at v1; cases v1
        exact ⟨_, s1, (memO2 _).mpr (.inr m), own_less av2 ow⟩
      · rw [p1] at h
        obtain ⟨b, e1, m, ow⟩ := rs.own j d h
        have nb := missA h e1 (p2 d h)
        refine ⟨b, e1, (memO2 _).mpr (.inl ⟨m, nb⟩), ?_⟩
        cases d with
        | lst ds => obtain ⟨ws, z1, z2⟩ := ow; exact ⟨ws, st.keep b _ z1 nb, reps_mono vst _ _ z2⟩
        | obj c ks ds => obtain ⟨dx, ws, l, z1, z2⟩ := ow; exact ⟨dx, ws, l, st.keep b _ z1 nb, reps_mono vst _ _ z2⟩
        | _ => exact ow
    · rcases cases_ j with ⟨i1, d1, a1, o1, x1, q1, s1, v1, m1, z1, p1⟩ | ⟨p1, p1'⟩ <;> rcases cases_ k with ⟨i2, d2, a2, o2, x2, q2, s2, v2, m2, z2, p2⟩ | ⟨p2, p2'⟩
      · rw [s1] at h3; cases h3
        rw [s2] at h4; cases h4
        exact rs.dist j k _ _ _ q1 q2 s1 s2
      · rw [s1] at h3; cases h3
        rw [p2] at h2
        exact absurd m1 (missA h2 h4 (p2' _ h2))
      · rw [s2] at h4; cases h4
        rw [p1] at h1
        exact absurd m2 (missA h1 h3 (p1' _ h1))
      · rw [p1] at h1; rw [p2] at h2
        exact rs.dist j k _ _ _ h1 h2 h3 h4
    · rcases (memO2 a).mp z with z | z
      · exact rs.sep a h z.1
      · rcases st.grow a z with z | z
        · exact rs.sep a h (ioOw a z)
        · exact rs.trn a (.inl h) z
  refine hQ v H' O2 stO hRS ?_ fun i d0 d a h1 h2 h3 => ?_
  rotate_left
  · obtain ⟨b, e1, m, ow⟩ := rs'.own i d h2
    rw [map_some_get.mp e1] at h3; cases h3
    have hb := map_some_get.mp e1
    obtain ⟨w, q1, q2⟩ := hv.get h1
    rw [hb] at q1; cases q1
    obtain ⟨a', e2, m2, _, no⟩ := q2
    cases e2
    refine ⟨_, rfl, (memO2 _).mpr (.inr m), own_less av2 ow, fun j e g1 g2 => ?_⟩
    rcases cases_ j with ⟨i', d1, a1, o, x1, y1, s1, v1, m1, o1, p1⟩ | ⟨p1, _⟩
    · exact no j _ y1 g2
    · rw [p1] at g1
      exact no j _ g1 g2
  cases r with
  | sl i => exact absurd rfl (nr i)
  | fz d => exact rep_less av2 val
  | nw d =>
    obtain ⟨a, e0, m, ow, no⟩ := val
    refine ⟨a, e0, (memO2 a).mpr (.inr m), own_less av2 ow, fun j d' h1 h2 => ?_⟩
    rcases cases_ j with ⟨i, d0, a', o, x1, q1, s1, v1, m1, o1, p1⟩ | ⟨p1, p2⟩
    · rw [s1] at h2; cases h2
      rw [p1] at h1; cases h1
      exact no i _ o1 (map_some_get.mpr v1)
    · rw [p1] at h1
      obtain ⟨b, e1, mb, _⟩ := rs.own j _ h1
      rw [h2] at e1; cases e1
      have nb := missA h1 h2 (p2 _ h1)
      rcases st.grow a m with z | z
      · exact nb z
      · exact rs.trn a (.inr mb) z
theorem call_core {xs : List RV} {vs : List V} {as : List (D × Bool)} {r : RV} {os : Ct} {F : FS} {Q : VK} (rs : RS g Bn Ow H σ Γ) (hv : VlW g Bn Ow H σ Γ xs vs) (ea : argSs Γ xs = some as) (nd : nodupB (ownIx Γ xs) = true) (ef : F (as.map some) = some (r, os)) (nr : ∀ i, r ≠ .sl i)
    {n : Nat} (hn : vs.length = n) {E : XK} (hQ : ∀ v H' Ow', Stp Ow H Ow' H' → RS g Bn Ow' H' σ (putOuts Γ xs os Γ) → Val g Bn Ow' H' σ (putOuts Γ xs os Γ) r v → (∀ (i : Nat) d0 d a, xs[i]? = some (.nw d0) → os[i]? = some (some (d, true)) → vs[i]? = some (.ref a) → Val g Bn Ow' H' σ (putOuts Γ xs os Γ) (.nw d) (.ref a)) → Q v H') : spF g n F vs H Q E := call_coreG (R := fun _ => Q) rs hv ea nd ef nr hn hQ
end
section
variable {X : Cx} {g : Gx} {fs : List FS} {e : Expr} {es : List Expr} {ies : List E} {x : Str} {p pos : Pos} {k lv n : Nat} {f : Addr} {fd : FuncData} {ps : List Str} {F : FS}
theorem call_core2 {Bn : Addr → Prop} {Ow : List Addr} {H : Hp} {σ : St} {Γ Γ' : Ct} {r : RV} {Q : VK} {Ex : XK} (hF : fs[k]? = some F) (hn : ies.length = n) (rs : RS g Bn Ow H σ Γ) (he : ev fs (.call k ies) Γ = some (r, Γ')) (hQ : ∀ v H' Ow', Stp Ow H Ow' H' → RS g Bn Ow' H' σ Γ' → Val g Bn Ow' H' σ Γ' r v → Q v H') :
    tCall (spF g n F) [] Ex (tAw g fs ies) σ H Q := by
  simp only [ev] at he
  obtain ⟨⟨xs, Γ1⟩, e1, he⟩ := Option.bind_eq_some_iff.mp he
  obtain ⟨F', e2, he⟩ := Option.bind_eq_some_iff.mp he
  rw [hF] at e2; cases e2
  obtain ⟨as, e3, he⟩ := Option.bind_eq_some_iff.mp he
  simp only [Option.ite_none_right_eq_some] at he
  obtain ⟨nd, he⟩ := he
  obtain ⟨⟨r', os⟩, e4, he⟩ := Option.bind_eq_some_iff.mp he
  have evl : ∀ {es : List E} {Γ Γ' : Ct} {xs : List RV}, evs fs es Γ = some (xs, Γ') → es.length = xs.length := by
    intro es
    induction es with
    | nil => intro Γ Γ' xs h; simp only [evs, Option.some.injEq, Prod.mk.injEq] at h; rw [← h.1]; rfl
    | cons a es ih =>
      intro Γ Γ' xs h
      simp only [evs] at h
      obtain ⟨⟨y, G1⟩, _, h⟩ := Option.bind_eq_some_iff.mp h
      obtain ⟨⟨ys, G2⟩, h2, h⟩ := Option.map_eq_some_iff.mp h
      simp only [Prod.mk.injEq] at h
      rw [← h.1, List.length_cons, List.length_cons, ih h2]
  refine ⟨Bn, Ow, Γ, xs, Γ1, rs, e1, fun vs H1 O1 s1 r1 v1 => ?_⟩
  show spF g n F (vs ++ []) H1 Q Ex
  rw [List.append_nil]
  have hl : vs.length = n := by rw [← v1.len, ← evl e1, hn]
  cases r' with
  | sl i => cases he
  | fz d =>
    simp only [Option.some.injEq, Prod.mk.injEq] at he
    obtain ⟨rfl, rfl⟩ := he
    exact call_core r1 v1 e3 nd e4 (fun i z => nomatch z) hl fun v H' O2 s2 r2 val _ => hQ v H' O2 (s1.trans s2) r2 val
  | nw d =>
    simp only [Option.some.injEq, Prod.mk.injEq] at he
    obtain ⟨rfl, rfl⟩ := he
    exact call_core r1 v1 e3 nd e4 (fun i z => nomatch z) hl fun v H' O2 s2 r2 val _ => hQ v H' O2 (s1.trans s2) r2 val
theorem p_call (hF : fs[k]? = some F) (hn : ies.length = n) (G : FnOk X.prog X.w X.K X.mg X.base CX0 lv f fd ps (spF g n F)) (hr : Room lv X.A) (hg : Gl X x) (hm : X.mg x = some (.ref f)) (hk : PySem.W.keepIn X.K (.ref f) = true) (hb : Binds X.K fd ps [])
    (ha : PA X (e :: es) (tAw g fs ies)) (hdb : (x == ("__debug__" : Str)) = false) (he : starEach (e :: es) X.env = (false, eval e X.env) :: starEach es X.env) (hpl : (backTo pos (starEach es X.env)).any (·.1) = false) :
    PE X (.Call (.Name x p) (e :: es) [] pos) (tR g fs (.call k ies)) := by
  refine PE.weak (pe_call G hr hg hm hk hb .nil pass0 ha hdb he hpl) ?_
  rintro σ H Q ⟨Bn, Ow, Γ, r, Γ', rs, he, hQ⟩
  exact call_core2 hF hn rs he hQ
end
end DV

namespace DV
open PySem L2
/-! ### ranges with a step, also of great ints -/
section
open PySem PySem.Spec PyProof.Rows
end
/-! ### targets -/
def tgT (K : PySem.W.Frag) : Tg → TG
  | .nm i => gName i
  | .tp ts => gTup K ts.length (tgTs K ts)
where tgTs (K : PySem.W.Frag) : List Tg → TGs
  | [] => gNil
  | t :: ts => gCons (tgT K t) (tgTs K ts)
section
variable {g : Gx} {Bn : Addr → Prop} {Ow Ow' : List Addr} {H H' : Hp} {σ : St} {Γ Γ' : Ct}
theorem RS.set {i : Nat} {d : D} {v : V} (rs : RS g Bn Ow H σ Γ) (r : Rep g (Av Bn Ow) H d v) (hi : i < Γ.length) : RS g Bn Ow H (σ.set i (some v)) (Γ.set i (some (d, false))) := by
  have hs : i < σ.length := by rw [rs.len]; exact hi
  refine ⟨by rw [List.length_set, List.length_set]; exact rs.len, fun j e h => ?_, fun j e h => ?_, fun j k e f a h1 h2 h3 h4 => ?_, rs.trl, rs.sep, rs.kf, rs.tabs⟩
  · by_cases hj : i = j
    · subst hj
      rw [List.getElem?_set_self hi] at h; cases h
      exact ⟨v, List.getElem?_set_self hs, r⟩
    · rw [List.getElem?_set_ne hj] at h
      rw [List.getElem?_set_ne hj]
      exact rs.slot j e h
  · by_cases hj : i = j
    · subst hj
      rw [List.getElem?_set_self hi] at h; cases h
    · rw [List.getElem?_set_ne hj] at h
      rw [List.getElem?_set_ne hj]
      exact rs.own j e h
  · have n1 : i ≠ j := fun z => by subst z; rw [List.getElem?_set_self hi] at h1; cases h1
    have n2 : i ≠ k := fun z => by subst z; rw [List.getElem?_set_self hi] at h2; cases h2
    rw [List.getElem?_set_ne n1] at h1 h3
    rw [List.getElem?_set_ne n2] at h2 h4
    exact rs.dist j k _ _ _ h1 h2 h3 h4
theorem RS.setO {i : Nat} {d : D} {v : V} (rs : RS g Bn Ow H σ Γ) (r : Val g Bn Ow H σ Γ (.nw d) v) (hi : i < Γ.length) : RS g Bn Ow H (σ.set i (some v)) (Γ.set i (some (d, true))) := by
  have hs : i < σ.length := by rw [rs.len]; exact hi
  obtain ⟨a, rfl, m, o, no⟩ := r
  refine ⟨by rw [List.length_set, List.length_set]; exact rs.len, fun j e h => ?_, fun j e h => ?_, fun j k e f b h1 h2 h3 h4 => ?_, rs.trl, rs.sep, rs.kf, rs.tabs⟩
  · by_cases hj : i = j
    · subst hj
      rw [List.getElem?_set_self hi] at h; cases h
    · rw [List.getElem?_set_ne hj] at h
      rw [List.getElem?_set_ne hj]
      exact rs.slot j e h
  · by_cases hj : i = j
    · subst hj
      rw [List.getElem?_set_self hi] at h; cases h
      exact ⟨a, List.getElem?_set_self hs, m, o⟩
    · rw [List.getElem?_set_ne hj] at h
      rw [List.getElem?_set_ne hj]
      exact rs.own j e h
  · by_cases n1 : i = j <;> by_cases n2 : i = k
    · omega
    · subst n1
      rw [List.getElem?_set_self hs] at h3; cases h3
      rw [List.getElem?_set_ne n2] at h2 h4
      exact absurd h4 (no k f h2)
    · subst n2
      rw [List.getElem?_set_self hs] at h4; cases h4
      rw [List.getElem?_set_ne n1] at h1 h3
      exact absurd h3 (no j e h1)
    · rw [List.getElem?_set_ne n1] at h1 h3
      rw [List.getElem?_set_ne n2] at h2 h4
      exact rs.dist j k _ _ _ h1 h2 h3 h4
mutual
theorem asgT_ok : ∀ (t : Tg) {d : D} {v : V} {σ : St} {Γ Γ' : Ct} {Q : St → Hp → Prop}, RS g Bn Ow H σ Γ → Rep g (Av Bn Ow) H d v → asgT t d Γ = some Γ' →
    (∀ σ', RS g Bn Ow H σ' Γ' → σ'.length = σ.length → (∀ i, i ∉ tgIx t → σ'[i]? = σ[i]?) → Q σ' H) → tgT g.K t v σ H Q
  | .nm i, d, v, σ, Γ, Γ', Q, rs, r, e, k => by
    simp only [asgT, Option.ite_none_right_eq_some, Option.some.injEq] at e
    obtain ⟨hi, rfl⟩ := e
    refine k _ (rs.set r hi) List.length_set fun j hj => ?_
    rw [List.getElem?_set_ne]
    intro z
    subst z
    simp [tgIx] at hj
  | .tp ts, d, v, σ, Γ, Γ', Q, rs, r, e, k => by
    cases d <;> simp only [asgT, reduceCtorEq] at e
    simp only [Rep] at r
    obtain ⟨a, vs, rfl, _, s, rr⟩ := r
    have hl : ts.length = vs.length := by
      rw [← rr.len]
      have : ∀ (ts : List Tg) (ds : List D) (Γ Γ' : Ct), asgT.asgTs ts ds Γ = some Γ' → ts.length = ds.length := by
        intro ts
        induction ts with
        | nil => intro ds Γ Γ' h; cases ds with
          | nil => rfl
          | cons => simp only [asgT.asgTs, reduceCtorEq] at h
        | cons t ts ih => intro ds Γ Γ' h; cases ds with
          | nil => simp only [asgT.asgTs, reduceCtorEq] at h
          | cons d ds =>
            simp only [asgT.asgTs] at h
            obtain ⟨G1, _, h⟩ := Option.bind_eq_some_iff.mp h
            rw [List.length_cons, List.length_cons, ih _ _ _ h]
      exact this _ _ _ _ e
    exact ⟨a, vs, rfl, s, hl.symm, asgTs_ok ts rs rr e fun σ' q1 q2 q3 => k σ' q1 q2 fun i hi => q3 i (by simpa only [tgIx] using hi)⟩
theorem asgTs_ok : ∀ (ts : List Tg) {ds : List D} {vs : List V} {σ : St} {Γ Γ' : Ct} {Q : St → Hp → Prop}, RS g Bn Ow H σ Γ → Reps g (Av Bn Ow) H ds vs → asgT.asgTs ts ds Γ = some Γ' →
    (∀ σ', RS g Bn Ow H σ' Γ' → σ'.length = σ.length → (∀ i, i ∉ tgIx.tgIxs ts → σ'[i]? = σ[i]?) → Q σ' H) → tgT.tgTs g.K ts vs σ H Q
  | [], ds, vs, σ, Γ, Γ', Q, rs, r, e, k => by
    cases ds <;> simp only [asgT.asgTs, reduceCtorEq, Option.some.injEq] at e
    subst e
    simp only [Reps] at r
    exact ⟨r, k σ rs rfl fun _ _ => rfl⟩
  | t :: ts, ds, vs, σ, Γ, Γ', Q, rs, r, e, k => by
    cases ds with
    | nil => simp only [asgT.asgTs, reduceCtorEq] at e
    | cons d ds =>
      simp only [asgT.asgTs] at e
      obtain ⟨G1, e1, e⟩ := Option.bind_eq_some_iff.mp e
      simp only [Reps] at r
      obtain ⟨v, w, rfl, r1, r2⟩ := r
      refine ⟨v, w, rfl, asgT_ok t rs r1 e1 fun σ1 q1 q2 q3 => asgTs_ok ts q1 r2 e fun σ2 p1 p2 p3 => k σ2 p1 (p2.trans q2) fun i hi => ?_⟩
      simp only [tgIx.tgIxs, List.mem_append, not_or] at hi
      rw [p3 i hi.2, q3 i hi.1]
end

/-! ### what is walked -/
structure WalkD (g : Gx) (Bn : Addr → Prop) (Ow : List Addr) (H : Hp) (J : It) (ds : List D) : Prop where
  goW : ∀ i H', i < ds.length → (∀ a o, H a = some o → nT o → ¬ Av Bn Ow a → H' a = some o) → J.go i H'
  stopW : ∀ H', (∀ a o, H a = some o → nT o → ¬ Av Bn Ow a → H' a = some o) → J.stop ds.length H'
  same : ∀ i H' x H'', J.yld i H' x H'' → Same H' H''
  yldW : ∀ (i : Nat) d (A' : Addr → Prop) H' x H'', ds[i]? = some d → (∀ a, Vst g (Av Bn Ow) H a → (∀ o, H a = some o → nT o → H' a = some o) ∧ ¬ A' a) → (∀ a, A' a → H' a ≠ none) → J.yld i H' x H'' → Same H' H'' ∧ Rep g A' H'' d x
theorem WalkD.go {J : It} {ds : List D} (w : WalkD g Bn Ow H J ds) (i : Nat) (H' : Hp) (hi : i < ds.length) (k : ∀ a o, H a = some o → nT o → a ∉ Ow → H' a = some o) : J.go i H' := w.goW i H' hi fun a o h t n => k a o h t fun z => n (.inr z)
theorem WalkD.stop {J : It} {ds : List D} (w : WalkD g Bn Ow H J ds) (H' : Hp) (k : ∀ a o, H a = some o → nT o → a ∉ Ow → H' a = some o) : J.stop ds.length H' := w.stopW H' fun a o h t n => k a o h t fun z => n (.inr z)
theorem vst2 {Bn' : Addr → Prop} (hB : ∀ a, Bn' a → Bn a ∨ H a = none) (s : Stp Ow H Ow' H') (rs : RS g Bn' Ow' H' σ Γ) : ∀ a, Vst g (Av Bn Ow) H a → (∀ o, H a = some o → nT o → H' a = some o) ∧ ¬ Av Bn' Ow' a := fun a ⟨n, t⟩ => by
  refine ⟨fun o h t => s.keep0 a o h t fun z => n (.inr z), fun z => ?_⟩
  rcases t with ⟨o, t, nt⟩ | ⟨o, t⟩
  · rcases z with z | z
    · rcases hB a z with z | z
      · exact n (.inl z)
      · rw [z] at t; cases t
    · rcases s.grow a z with z | z
      · exact n (.inr z)
      · exact z o t nt
  · rw [rs.kf a z] at t; cases t
theorem WalkD.yld {J : It} {ds : List D} (w : WalkD g Bn Ow H J ds) (i : Nat) (d : D) (Bn' : Addr → Prop) (Ow' : List Addr) (H' : Hp) (σ' : St) (Γ' : Ct) (x : V) (H'' : Hp) (e : ds[i]? = some d) (_ : ∀ a, Bn a → Bn' a) (b2 : ∀ a, Bn' a → Bn a ∨ H a = none) (s : Stp Ow H Ow' H') (rs : RS g Bn' Ow' H' σ' Γ') (y : J.yld i H' x H'') : Same H' H'' ∧ Rep g (Av Bn' Ow') H'' d x :=
  w.yldW i d (Av Bn' Ow') H' x H'' e (vst2 b2 s rs) rs.trk y
theorem walk_list {a : Addr} {vs : List V} {ds : List D} (na : ¬ Av Bn Ow a) (h : H a = some (.lst vs)) (r : Reps g (Av Bn Ow) H ds vs) : WalkD g Bn Ow H (Itl g.K a) ds where
  goW := fun i H' hi k => by
    have hi' : i < vs.length := by rw [← r.len]; exact hi
    exact ⟨vs, vs[i], .inl (.inl (k a _ h nofun na)), List.getElem?_eq_getElem hi'⟩
  stopW := fun H' k => ⟨vs, .inl (.inl (k a _ h nofun na)), by rw [r.len]; exact Nat.le_refl _⟩
  same := fun i H' x H'' y => by obtain ⟨rfl, _⟩ := y; exact same_rfl _
  yldW := fun i d A' H' x H'' e vv tr y => by
    obtain ⟨rfl, y⟩ := y
    obtain ⟨v, e1, r1⟩ := r.get e
    have e2 := y vs (.inl (.inl ((vv a ⟨na, .inl ⟨_, h, nofun⟩⟩).1 _ h nofun)))
    rw [e1] at e2; cases e2
    exact ⟨same_rfl _, rep_mono vv _ _ r1⟩
theorem walk_tup {a : Addr} {vs : List V} {ds : List D} (na : ¬ Av Bn Ow a) (h : SqT g.K H a vs) (r : Reps g (Av Bn Ow) H ds vs) : WalkD g Bn Ow H (Itt g.K a) ds where
  goW := fun i H' hi k => by
    have hi' : i < vs.length := by rw [← r.len]; exact hi
    exact ⟨vs, vs[i], sqT_mono h fun o e t => k a o e t na, List.getElem?_eq_getElem hi'⟩
  stopW := fun H' k => ⟨vs, sqT_mono h fun o e t => k a o e t na, by rw [r.len]; exact Nat.le_refl _⟩
  same := fun i H' x H'' y => by obtain ⟨rfl, _⟩ := y; exact same_rfl _
  yldW := fun i d A' H' x H'' e vv tr y => by
    obtain ⟨rfl, y⟩ := y
    obtain ⟨v, e1, r1⟩ := r.get e
    have e2 := y vs (sqT_mono h fun o e t => (vv a ⟨na, .inl ⟨_, e, t⟩⟩).1 o e t)
    rw [e1] at e2; cases e2
    exact ⟨same_rfl _, rep_mono vv _ _ r1⟩
theorem enumD_get : ∀ {ds : List D} {n i : Nat} {d : D}, (enumD n ds)[i]? = some d → ∃ e, ds[i]? = some e ∧ d = .tup [.int ((n + i : Nat) : Int), e]
  | [], n, i, d, h => by simp [enumD] at h
  | e :: ds, n, 0, d, h => by simp [enumD] at h; subst h; exact ⟨e, rfl, rfl⟩
  | e :: ds, n, i + 1, d, h => by
    simp only [enumD, List.getElem?_cons_succ] at h
    obtain ⟨f, h1, h2⟩ := enumD_get h
    exact ⟨f, by simpa using h1, by rw [h2, show n + 1 + i = n + (i + 1) by omega]⟩
theorem enumD_len : ∀ (ds : List D) (n : Nat), (enumD n ds).length = ds.length
  | [], _ => rfl
  | _ :: ds, n => by simp only [enumD, List.length_cons]; rw [enumD_len ds (n + 1)]
theorem zipD_get : ∀ {ds es : List D} {i : Nat} {d : D}, (zipD ds es)[i]? = some d → ∃ a b, ds[i]? = some a ∧ es[i]? = some b ∧ d = .tup [a, b]
  | [], es, i, d, h => by simp [zipD] at h
  | a :: ds, [], i, d, h => by simp [zipD] at h
  | a :: ds, b :: es, 0, d, h => by simp [zipD] at h; subst h; exact ⟨a, b, rfl, rfl, rfl⟩
  | a :: ds, b :: es, i + 1, d, h => by
    simp only [zipD, List.getElem?_cons_succ] at h
    obtain ⟨x, y, h1, h2, h3⟩ := zipD_get h
    exact ⟨x, y, by simpa using h1, by simpa using h2, h3⟩
theorem zipD_len : ∀ (ds es : List D), (zipD ds es).length = min ds.length es.length
  | [], es => by simp [zipD]
  | a :: ds, [] => by simp [zipD]
  | a :: ds, b :: es => by simp only [zipD, List.length_cons]; rw [zipD_len ds es]; omega
theorem tup2 {A' : Addr → Prop} {T : Addr} {d e : D} {x y : V} {H'' : Hp} (nT : H' T = none) (e0 : H'' = upd H' T (.tup [x, y])) (tr : ∀ a, A' a → H' a ≠ none) (r1 : Rep g A' H' d x) (r2 : Rep g A' H' e y) : Same H' H'' ∧ Rep g A' H'' (.tup [d, e]) (.ref T) := by
  subst e0
  refine ⟨same_new nT, ?_⟩
  simp only [Rep]
  refine ⟨T, [x, y], rfl, fun z => tr T z nT, .inl (.inl upd_same), ?_⟩
  simp only [Reps]
  exact ⟨_, _, rfl, r1.same (same_new nT), _, _, rfl, r2.same (same_new nT), rfl⟩
theorem walk_enum {a : Addr} {vs : List V} {ds : List D} (na : ¬ Av Bn Ow a) (h : H a = some (.lst vs)) (r : Reps g (Av Bn Ow) H ds vs) : WalkD g Bn Ow H (Ite g.K a) (enumD 0 ds) where
  goW := fun i H' hi k => by
    rw [enumD_len] at hi
    have hi' : i < vs.length := by rw [← r.len]; exact hi
    exact ⟨vs, vs[i], .inl (.inl (k a _ h nofun na)), List.getElem?_eq_getElem hi'⟩
  stopW := fun H' k => ⟨vs, .inl (.inl (k a _ h nofun na)), by rw [enumD_len, r.len]; exact Nat.le_refl _⟩
  same := fun i H' x H'' y => by obtain ⟨T, v, rfl, nT, rfl, _⟩ := y; exact same_new nT
  yldW := fun i d A' H' x H'' e vv tr y => by
    obtain ⟨T, v, rfl, nT, e0, y⟩ := y
    obtain ⟨f, e1, rfl⟩ := enumD_get e
    obtain ⟨w, e2, r1⟩ := r.get e1
    have e3 := y vs (.inl (.inl ((vv a ⟨na, .inl ⟨_, h, nofun⟩⟩).1 _ h nofun)))
    rw [e2] at e3; cases e3
    rw [Nat.zero_add]
    exact tup2 nT e0 tr (by simp only [Rep]) (rep_mono vv _ _ r1)
theorem walk_zip {a b : Addr} {vs ws : List V} {ds es : List D} (na : ¬ Av Bn Ow a) (nb : ¬ Av Bn Ow b) (h : H a = some (.lst vs)) (h' : H b = some (.lst ws)) (r : Reps g (Av Bn Ow) H ds vs) (r' : Reps g (Av Bn Ow) H es ws) : WalkD g Bn Ow H (Itz g.K a b) (zipD ds es) where
  goW := fun i H' hi k => by
    rw [zipD_len] at hi
    have hi1 : i < vs.length := by rw [← r.len]; omega
    have hi2 : i < ws.length := by rw [← r'.len]; omega
    exact ⟨vs, ws, vs[i], ws[i], .inl (.inl (k a _ h nofun na)), .inl (.inl (k b _ h' nofun nb)), List.getElem?_eq_getElem hi1, List.getElem?_eq_getElem hi2⟩
  stopW := fun H' k => ⟨vs, ws, .inl (.inl (k a _ h nofun na)), .inl (.inl (k b _ h' nofun nb)), by
    rw [zipD_len, ← r.len, ← r'.len]
    omega⟩
  same := fun i H' x H'' y => by obtain ⟨T, v, w, rfl, nT, rfl, _⟩ := y; exact same_new nT
  yldW := fun i d A' H' x H'' e vv tr y => by
    obtain ⟨T, v, w, rfl, nT, e0, y1, y2⟩ := y
    obtain ⟨p, q, e1, e2, rfl⟩ := zipD_get e
    obtain ⟨v', e3, r1⟩ := r.get e1
    obtain ⟨w', e4, r2⟩ := r'.get e2
    have e5 := y1 vs (.inl (.inl ((vv a ⟨na, .inl ⟨_, h, nofun⟩⟩).1 _ h nofun)))
    have e6 := y2 ws (.inl (.inl ((vv b ⟨nb, .inl ⟨_, h', nofun⟩⟩).1 _ h' nofun)))
    rw [e3] at e5; cases e5
    rw [e4] at e6; cases e6
    exact tup2 nT e0 tr (rep_mono vv _ _ r1) (rep_mono vv _ _ r2)
theorem rngD_get : ∀ {n : Nat} {lo c : Int} {i : Nat} {d : D}, (rngD lo c n)[i]? = some d → i < n ∧ d = .int (lo + (i : Nat) * c)
  | 0, lo, c, i, d, h => by simp [rngD] at h
  | n + 1, lo, c, 0, d, h => by simp [rngD] at h; subst h; exact ⟨by omega, by simp⟩
  | n + 1, lo, c, i + 1, d, h => by
    simp only [rngD, List.getElem?_cons_succ] at h
    obtain ⟨h1, h2⟩ := rngD_get h
    refine ⟨by omega, ?_⟩
    rw [h2]
    have : lo + c + (i : Int) * c = lo + ((i + 1 : Nat) : Int) * c := by
      have : ((i + 1 : Nat) : Int) = (i : Int) + 1 := by omega
      rw [this, Int.add_mul]; omega
    rw [this]
theorem rngD_len : ∀ (n : Nat) (lo c : Int), (rngD lo c n).length = n
  | 0, _, _ => rfl
  | n + 1, lo, c => by simp only [rngD, List.length_cons]; rw [rngD_len n]
theorem walk_rng (lo : Int) (n : Nat) : WalkD g Bn Ow H (Itr lo n) (rngD lo 1 n) where
  goW := fun i H' hi k => by rw [rngD_len] at hi; exact hi
  stopW := fun H' k => by rw [rngD_len]; exact Nat.le_refl _
  same := fun i H' x H'' y => by obtain ⟨rfl, _⟩ := y; exact same_rfl _
  yldW := fun i d A' H' x H'' e vv tr y => by
    obtain ⟨rfl, rfl⟩ := y
    obtain ⟨_, rfl⟩ := rngD_get e
    exact ⟨same_rfl _, by simp only [Rep, Int.mul_one]⟩
end
def tI (g : Gx) (fs : List FS) (ik : IK) (its : List E) : TI := fun σ H R => ∃ Bn Ow Γ xs Γ1 ds Γ2, RS g Bn Ow H σ Γ ∧ evs fs its Γ = some (xs, Γ1) ∧ iterD ik xs Γ1 = some (ds, Γ2) ∧ ∀ J H' Ow', Stp Ow H Ow' H' → RS g Bn Ow' H' σ Γ2 → WalkD g Bn Ow' H' J ds → R J H'
section
variable {X : Cx} {g : Gx} {fs : List FS} {tg l : Expr} {il : E} {p pos tpos : Pos} {elts : List Expr} {kk : Nat} {es : List Expr} {ies : List E}
theorem PI.weak {it : Expr} {w w' : TI} (h : PI X tg it w) (k : ∀ σ H R, w' σ H R → w σ H R) : PI X tg it w' := ⟨fun pins s σ H R I q => h.run pins s σ H R I (k σ H R q)⟩
theorem PI.or {it : Expr} {w w' : TI} (h : PI X tg it w) (h' : PI X tg it w') : PI X tg it (fun σ H R => w σ H R ∨ w' σ H R) := ⟨fun pins s σ H R I q => q.elim (fun q => h.run pins s σ H R I q) fun q => h'.run pins s σ H R I q⟩
theorem evs_one {Γ Γ1 : Ct} {xs : List RV} (h : evs fs [il] Γ = some (xs, Γ1)) : ∃ x, xs = [x] ∧ ev fs il Γ = some (x, Γ1) := by
  simp only [evs] at h
  obtain ⟨⟨x, G⟩, e1, h⟩ := Option.bind_eq_some_iff.mp h
  simp only [Option.map_some, Option.some.injEq, Prod.mk.injEq] at h
  obtain ⟨rfl, rfl⟩ := h
  exact ⟨x, rfl, e1⟩
/-- by what is walked, on what the value says: a list, a tuple -/
theorem i_seq_or (C : Cok0 g X) (h : PI X tg l (fun σ H R => iList X.K (tR g fs il) σ H R ∨ iTup X.K (tR g fs il) σ H R)) : PI X tg l (tI g fs .seq [il]) := by
  refine PI.weak h ?_
  rintro σ H R ⟨Bn, Ow, Γ, xs, Γ1, ds, Γ2, rs, e1, e2, k⟩
  obtain ⟨x, rfl, e9⟩ := evs_one e1
  simp only [iterD] at e2
  obtain ⟨⟨d, G2⟩, e3, e2⟩ := Option.bind_eq_some_iff.mp e2
  cases d <;> simp only [reduceCtorEq, Option.some.injEq, Prod.mk.injEq] at e2
  · obtain ⟨rfl, rfl⟩ := e2
    refine .inl ⟨Bn, Ow, Γ, x, Γ1, rs, e9, fun v H1 O1 s1 r1 v1 => ?_⟩
    obtain ⟨O2, s2, r2, rp⟩ := fre_ok r1 v1 e3
    simp only [Rep] at rp
    obtain ⟨a, vs, rfl, na, ha, rr⟩ := rp
    refine ⟨a, rfl, ⟨vs, .inl (.inl ha)⟩, ?_⟩
    rw [C.K]
    exact k _ H1 O2 (s1.trans s2) r2 (walk_list na ha rr)
  · obtain ⟨rfl, rfl⟩ := e2
    refine .inr ⟨Bn, Ow, Γ, x, Γ1, rs, e9, fun v H1 O1 s1 r1 v1 => ?_⟩
    obtain ⟨O2, s2, r2, rp⟩ := fre_ok r1 v1 e3
    simp only [Rep] at rp
    obtain ⟨a, vs, rfl, na, ha, rr⟩ := rp
    refine ⟨a, rfl, ⟨vs, by rw [C.K]; exact ha⟩, ?_⟩
    rw [C.K]
    exact k _ H1 O2 (s1.trans s2) r2 (walk_tup na ha rr)
theorem i_seq (C : Cok0 g X) (hl : PE X l (tR g fs il)) : PI X tg l (tI g fs .seq [il]) := i_seq_or C (PI.or (pi_list hl) (pi_tup hl))
theorem i_enum (C : Cok0 g X) (hg : Gl X "enumerate") (hm : X.mg "enumerate" = none) (ha : PA X [l] (tAs g fs [il])) (hs : starEach [l] X.env = [(false, eval l X.env)]) : PI X (.Tuple elts kk tpos) (.Call (.Name "enumerate" p) [l] [] pos) (tI g fs .enum [il]) := by
  refine PI.weak (pi_enum hg hm ha hs) ?_
  rintro σ H R ⟨Bn, Ow, Γ, xs, Γ1, ds, Γ2, rs, e1, e2, k⟩
  refine ⟨Bn, Ow, Γ, xs, Γ1, rs, e1, fun vs H1 O1 s1 r1 v1 => ?_⟩
  obtain ⟨x, rfl, e1⟩ := evs_one e1
  simp only [iterD] at e2
  obtain ⟨⟨d, G2⟩, e3, e2⟩ := Option.bind_eq_some_iff.mp e2
  cases d <;> simp only [reduceCtorEq, Option.some.injEq, Prod.mk.injEq] at e2
  obtain ⟨rfl, rfl⟩ := e2
  obtain ⟨v, w, rfl, v1, z⟩ := v1
  have z : w = [] := z
  subst z
  rw [← fre_dn] at e3
  obtain ⟨O2, s2, r2, rp⟩ := fre_ok r1 v1 e3
  simp only [Rep] at rp
  obtain ⟨a, vs, rfl, na, ha, rr⟩ := rp
  refine ⟨a, vs, rfl, .inl (.inl ha), ?_⟩
  rw [C.K]
  exact k _ H1 O2 (s1.trans s2) r2 (walk_enum na ha rr)
theorem i_zip {l2 : Expr} {il2 : E} (C : Cok0 g X) (hg : Gl X "zip") (hm : X.mg "zip" = none) (ha : PA X [l, l2] (tAs g fs [il, il2])) (hs : starEach [l, l2] X.env = (false, eval l X.env) :: starEach [l2] X.env) (hpl : (backTo pos (starEach [l2] X.env)).any (·.1) = false) :
    PI X (.Tuple elts kk tpos) (.Call (.Name "zip" p) [l, l2] [] pos) (tI g fs .zip [il, il2]) := by
  refine PI.weak (pi_zip hg hm ha hs hpl) ?_
  rintro σ H R ⟨Bn, Ow, Γ, xs, Γ1, ds, Γ2, rs, e1, e2, k⟩
  refine ⟨Bn, Ow, Γ, xs, Γ1, rs, e1, fun vs H1 O1 s1 r1 v1 => ?_⟩
  simp only [evs] at e1
  obtain ⟨⟨x, G1⟩, e3, e1⟩ := Option.bind_eq_some_iff.mp e1
  obtain ⟨⟨ys, G2⟩, e4, e1⟩ := Option.map_eq_some_iff.mp e1
  obtain ⟨⟨y, G3⟩, e5, e4⟩ := Option.bind_eq_some_iff.mp e4
  simp only [Option.map_some, Option.some.injEq, Prod.mk.injEq] at e4 e1
  obtain ⟨rfl, rfl⟩ := e4
  obtain ⟨rfl, rfl⟩ := e1
  simp only [iterD] at e2
  obtain ⟨⟨d, F1⟩, e6, e2⟩ := Option.bind_eq_some_iff.mp e2
  obtain ⟨⟨e, F2⟩, e7, e2⟩ := Option.bind_eq_some_iff.mp e2
  cases d <;> cases e <;> simp only [reduceCtorEq, Option.some.injEq, Prod.mk.injEq] at e2
  obtain ⟨rfl, rfl⟩ := e2
  obtain ⟨v, w, rfl, v1, w', w'', rfl, v2, z⟩ := v1
  have z : w'' = [] := z
  subst z
  rw [← fre_dn] at e6 e7
  obtain ⟨O2, s2, r2, rp⟩ := fre_ok r1 v1 e6
  obtain ⟨O3, s3, r3, rq⟩ := fre_ok r2 (v2.step s2 r2) e7
  have rp := rp.step s3 r3
  simp only [Rep] at rp rq
  obtain ⟨a, vs, rfl, na, ha, rr⟩ := rp
  obtain ⟨b, ws, rfl, nb, hb, rr'⟩ := rq
  refine ⟨a, b, vs, ws, rfl, .inl (.inl ha), .inl (.inl hb), ?_⟩
  rw [C.K]
  exact k _ H1 O3 ((s1.trans s2).trans s3) r3 (walk_zip na nb ha hb rr rr')
theorem in62_of {i : Int} (h : in62 i = true) : -(2 ^ 62) ≤ i ∧ i < 2 ^ 62 := by
  unfold in62 at h
  have h := of_decide_eq_true h
  by_cases h0 : i.natAbs = 0
  · omega
  · rw [Nat.log2_lt h0] at h
    omega
theorem i_rng1 {a : Expr} {ia : E} (C : Cok0 g X) (hg : Gl X "range") (hm : X.mg "range" = none) (ha : PA X [a] (tAs g fs [ia])) (hs : starEach [a] X.env = [(false, eval a X.env)]) : PI X tg (.Call (.Name "range" p) [a] [] pos) (tI g fs .rng [ia]) := by
  refine PI.weak (pi_range1 hg hm ha hs) ?_
  rintro σ H R ⟨Bn, Ow, Γ, xs, Γ1, ds, Γ2, rs, e1, e2, k⟩
  refine ⟨Bn, Ow, Γ, xs, Γ1, rs, e1, fun vs H1 O1 s1 r1 v1 => ?_⟩
  obtain ⟨x, rfl, e1⟩ := evs_one e1
  simp only [iterD] at e2
  obtain ⟨dd, e3, e2⟩ := Option.bind_eq_some_iff.mp e2
  have pd := datums_ok r1 v1 e3
  simp only [datums] at e3
  obtain ⟨d, _, e3⟩ := Option.bind_eq_some_iff.mp e3
  simp only [Option.map_some, Option.some.injEq] at e3
  subst e3
  cases d <;> simp only [reduceCtorEq, Option.ite_none_right_eq_some, Option.some.injEq, Prod.mk.injEq] at e2
  obtain ⟨h6, rfl, rfl⟩ := e2
  obtain ⟨v, rfl, q⟩ := paired1 pd
  rw [rdb_int q]
  exact ⟨_, rfl, (in62_of h6).1, (in62_of h6).2, k _ H1 O1 s1 r1 (walk_rng _ _)⟩
end
end DV

namespace DV
open PySem L2
/-! ### slots wiped and restored -/
theorem wipe_nout {σ : St} {i : Nat} : ∀ {vs : List Nat}, i ∉ vs → (wipe σ vs)[i]? = σ[i]?
  | [], _ => rfl
  | v :: vs, h => by
    simp only [List.mem_cons, not_or] at h
    unfold wipe
    rw [List.getElem?_set_ne (fun z => h.1 z.symm)]
    exact wipe_nout h.2
theorem wipe_in {σ : St} {i : Nat} : ∀ {vs : List Nat}, i ∈ vs → i < σ.length → (wipe σ vs)[i]? = some none
  | v :: vs, h, hl => by
    unfold wipe
    by_cases e : v = i
    · subst e
      exact List.getElem?_set_self (by rw [wipe_length]; exact hl)
    · rw [List.getElem?_set_ne e]
      rcases List.mem_cons.mp h with h | h
      · exact absurd h.symm e
      · exact wipe_in h hl
theorem wipeG_len (Γ : Ct) : ∀ vs : List Nat, (wipeG Γ vs).length = Γ.length
  | [] => rfl
  | v :: vs => by unfold wipeG; rw [List.length_set, wipeG_len Γ vs]
theorem wipeG_some {Γ : Ct} {i : Nat} {p : D × Bool} : ∀ {vs : List Nat}, (wipeG Γ vs)[i]? = some (some p) → Γ[i]? = some (some p) ∧ i ∉ vs
  | [], h => ⟨h, by simp⟩
  | v :: vs, h => by
    unfold wipeG at h
    by_cases e : v = i
    · subst e
      by_cases hl : v < (wipeG Γ vs).length
      · rw [List.getElem?_set_self hl] at h; cases h
      · rw [List.getElem?_eq_none (by rw [List.length_set]; omega)] at h; cases h
    · rw [List.getElem?_set_ne e] at h
      obtain ⟨h1, h2⟩ := wipeG_some h
      exact ⟨h1, by simp only [List.mem_cons, not_or]; exact ⟨fun z => e z.symm, h2⟩⟩
theorem restG_len (Γ Γ' : Ct) : ∀ vs : List Nat, (restG Γ Γ' vs).length = Γ'.length
  | [] => rfl
  | v :: vs => by unfold restG; rw [List.length_set, restG_len Γ Γ' vs]
theorem restG_out {Γ Γ' : Ct} {i : Nat} : ∀ {vs : List Nat}, i ∉ vs → (restG Γ Γ' vs)[i]? = Γ'[i]?
  | [], _ => rfl
  | v :: vs, h => by
    simp only [List.mem_cons, not_or] at h
    unfold restG
    rw [List.getElem?_set_ne (fun z => h.1 z.symm)]
    exact restG_out h.2
theorem restG_in {Γ Γ' : Ct} {i : Nat} : ∀ {vs : List Nat}, i ∈ vs → i < Γ'.length → (restG Γ Γ' vs)[i]? = some (Γ.getD i none)
  | v :: vs, h, hl => by
    unfold restG
    by_cases e : v = i
    · subst e
      exact List.getElem?_set_self (by rw [restG_len]; exact hl)
    · rw [List.getElem?_set_ne e]
      rcases List.mem_cons.mp h with h | h
      · exact absurd h.symm e
      · exact restG_in h hl
theorem wipe_same {σ σ' : St} {vs : List Nat} (hl : σ'.length = σ.length) (h : ∀ i, i ∉ vs → σ'[i]? = σ[i]?) : wipe σ' vs = wipe σ vs := by
  apply List.ext_getElem?
  intro i
  by_cases hi : i ∈ vs
  · by_cases hlt : i < σ.length
    · rw [wipe_in hi hlt, wipe_in hi (by omega)]
    · rw [List.getElem?_eq_none (by rw [wipe_length]; omega), List.getElem?_eq_none (by rw [wipe_length]; omega)]
  · rw [wipe_nout hi, wipe_nout hi, h i hi]
theorem wipe_wipe (σ : St) (vs : List Nat) : wipe (wipe σ vs) vs = wipe σ vs := wipe_same (wipe_length σ vs) fun i hi => wipe_nout hi
section
variable {g : Gx} {Bn : Addr → Prop} {Ow Ow' : List Addr} {H H' : Hp} {σ : St} {Γ Γ' : Ct}
theorem RS.wipe (own : List Nat) (rs : RS g Bn Ow H σ Γ) : RS g Bn Ow H (L2.wipe σ own) (wipeG Γ own) := by
  refine ⟨by rw [wipe_length, wipeG_len]; exact rs.len, fun i d h => ?_, fun i d h => ?_, fun i j d e a h1 h2 h3 h4 => ?_, rs.trl, rs.sep, rs.kf, rs.tabs⟩
  · obtain ⟨h1, h2⟩ := wipeG_some h
    rw [wipe_nout h2]
    exact rs.slot i d h1
  · obtain ⟨h1, h2⟩ := wipeG_some h
    rw [wipe_nout h2]
    exact rs.own i d h1
  · obtain ⟨q1, n1⟩ := wipeG_some h1
    obtain ⟨q2, n2⟩ := wipeG_some h2
    rw [wipe_nout n1] at h3
    rw [wipe_nout n2] at h4
    exact rs.dist i j _ _ _ q1 q2 h3 h4
/-- the block is over: its own names are what they were -/
theorem RS.rest {Bn' : Addr → Prop} {own : List Nat} (r0 : RS g Bn Ow H σ Γ) (hp : plainIx Γ own = true) (s : Stp Ow H Ow' H') (hB : ∀ a, Bn' a → Bn a ∨ H a = none) (rs : RS g Bn' Ow' H' (L2.wipe σ own) Γ') : RS g Bn' Ow' H' σ (restG Γ Γ' own) := by
  have hl : σ.length = Γ'.length := by rw [← rs.len, wipe_length]
  have pl : ∀ i, i ∈ own → ∀ d, Γ[i]? ≠ some (some (d, true)) := fun i hi d z => by
    unfold plainIx at hp
    have q := List.all_eq_true.mp hp i hi
    rw [z] at q
    cases q
  have inn : ∀ {i : Nat} {p : D × Bool}, i ∈ own → (restG Γ Γ' own)[i]? = some (some p) → Γ[i]? = some (some p) := fun {i p} hi h => by
    have hlt : i < Γ'.length := by
      rw [← restG_len Γ Γ' own]
      exact (List.getElem?_eq_some_iff.mp h).1
    rw [restG_in hi hlt] at h
    have hlt2 : i < Γ.length := by rw [← r0.len, hl]; exact hlt
    rw [List.getD_eq_getElem?_getD, List.getElem?_eq_getElem hlt2] at h
    rw [List.getElem?_eq_getElem hlt2]
    simpa using h
  refine ⟨by rw [restG_len]; exact hl, fun i d h => ?_, fun i d h => ?_, fun i j d e a h1 h2 h3 h4 => ?_, rs.trl, rs.sep, rs.kf, rs.tabs⟩
  · by_cases hi : i ∈ own
    · obtain ⟨v, e, r⟩ := r0.slot i d (inn hi h)
      exact ⟨v, e, rep_mono (vst2 hB s rs) _ _ r⟩
    · rw [restG_out hi] at h
      obtain ⟨v, e, r⟩ := rs.slot i d h
      rw [wipe_nout hi] at e
      exact ⟨v, e, r⟩
  · by_cases hi : i ∈ own
    · exact absurd (inn hi h) (pl i hi d)
    · rw [restG_out hi] at h
      obtain ⟨v, e, r⟩ := rs.own i d h
      rw [wipe_nout hi] at e
      exact ⟨v, e, r⟩
  · have n1 : i ∉ own := fun z => pl i z d (inn z h1)
    have n2 : j ∉ own := fun z => pl j z e (inn z h2)
    rw [restG_out n1] at h1
    rw [restG_out n2] at h2
    exact rs.dist i j _ _ _ h1 h2 (by rw [wipe_nout n1]; exact h3) (by rw [wipe_nout n2]; exact h4)
abbrev orB (Bn : Addr → Prop) (p : Addr) : Addr → Prop := fun a => Bn a ∨ a = p
theorem RS.addB {p : Addr} (rs : RS g Bn Ow H σ Γ) (s : Same H H') (np : H p = none) (hp : LI H' p) (hk : g.K.lookup p = none) : RS g (orB Bn p) Ow H' σ Γ := by
  have r := rs.add s np hp hk
  have np' : p ∉ Ow := fun z => rs.trk p (.inr z) np
  have av : ∀ a, Av (orB Bn p) Ow a → Av Bn (p :: Ow) a := fun a h => by
    rcases h with (h | h) | h
    · exact .inl h
    · exact .inr (by rw [h]; exact List.mem_cons_self)
    · exact .inr (List.mem_cons_of_mem _ h)
  refine ⟨r.len, fun i d h => ?_, fun i d h => ?_, r.dist, fun a h => r.trl a (av a h), fun a h z => ?_, fun a h => r.kf a (av a h), r.tabs⟩
  · obtain ⟨v, e, q⟩ := r.slot i d h; exact ⟨v, e, rep_less av q⟩
  · obtain ⟨a, e, m, q⟩ := r.own i d h
    obtain ⟨a', e', m', _⟩ := rs.own i d h
    rw [e] at e'; cases e'
    exact ⟨a, e, m', own_less av q⟩
  · rcases h with h | h
    · exact rs.sep a h z
    · rw [h] at z; exact np' z
theorem RS.unB {p : Addr} (rs : RS g (orB Bn p) Ow H σ Γ) (nb : ¬ Bn p) : RS g Bn (p :: Ow) H σ Γ := by
  have av : ∀ a, Av Bn (p :: Ow) a → Av (orB Bn p) Ow a := fun a h => by
    rcases h with h | h
    · exact .inl (.inl h)
    · rcases List.mem_cons.mp h with h | h
      · exact .inl (.inr h)
      · exact .inr h
  refine ⟨rs.len, fun i d h => ?_, fun i d h => ?_, rs.dist, fun a h => rs.trl a (av a h), fun a h z => ?_, fun a h => rs.kf a (av a h), rs.tabs⟩
  · obtain ⟨v, e, q⟩ := rs.slot i d h; exact ⟨v, e, rep_less av q⟩
  · obtain ⟨a, e, m, q⟩ := rs.own i d h
    exact ⟨a, e, List.mem_cons_of_mem _ m, own_less av q⟩
  · rcases List.mem_cons.mp z with z | z
    · subst z; exact nb h
    · exact rs.sep a (.inl h) z
/-- what is banned may change -/
theorem ban_vst {p : Addr} {o : HO} {A : Addr → Prop} (h : A p) : ∀ a, Vst g A H a → (∀ x, H a = some x → nT x → (upd H p o) a = some x) ∧ ¬ A a := fun a ⟨n, _⟩ => ⟨fun x e _ => by
  rw [upd_ne (fun z => n (by rw [z]; exact h))]
  exact e, n⟩
theorem RS.updB {p : Addr} {o : HO} (rs : RS g Bn Ow H σ Γ) (hp : Bn p) (ho : LI (upd H p o) p) : RS g Bn Ow (upd H p o) σ Γ := by
  have v := ban_vst (g := g) (H := H) (o := o) (A := Av Bn Ow) (p := p) (.inl hp)
  refine ⟨rs.len, fun i d h => ?_, fun i d h => ?_, rs.dist, fun a h => ?_, rs.sep, rs.kf, rs.tabs.upd (rs.trl p (.inl hp))⟩
  · obtain ⟨w, e, q⟩ := rs.slot i d h; exact ⟨w, e, rep_mono v _ _ q⟩
  · obtain ⟨a, e, m, q⟩ := rs.own i d h
    have ne : a ≠ p := fun z => by subst z; exact rs.sep a hp m
    refine ⟨a, e, m, ?_⟩
    cases d with
    | lst ds => obtain ⟨ws, z1, z2⟩ := q; exact ⟨ws, by rw [upd_ne ne]; exact z1, reps_mono v _ _ z2⟩
    | obj c ks ds => obtain ⟨dx, ws, l, z1, z2⟩ := q; exact ⟨dx, ws, l, by rw [upd_ne ne]; exact z1, reps_mono v _ _ z2⟩
    | _ => exact q
  · exact (rs.trl a h).upd fun _ => ho
theorem Stp.updN {O O' : List Addr} {p : Addr} {o : HO} (s : Stp O H O' H') (np : H p = none) : Stp O H O' (upd H' p o) where
  keep0 := fun a x h t n => by
    rw [upd_ne (ne_of_none h np)]
    exact s.keep0 a x h t n
  grow := s.grow
end
def tTc (g : Gx) (fs : List FS) (cond : List E) : TT := fun σ H Q => ∃ Bn Ow Γ t Γ', RS g Bn Ow H σ Γ ∧ evc fs cond Γ = some (t, Γ') ∧ ∀ H' Ow', Stp Ow H Ow' H' → RS g Bn Ow' H' σ Γ' → Q t H'
abbrev kfs (K : PySem.W.Frag) (H : Hp) : Prop := ∀ a o, K.lookup a = some o → H a = none
def tgK (K : PySem.W.Frag) (tg : Tg) : TG := fun v σ H Q => kfs K H → tgT K tg v σ H Q
section
variable {g : Gx} {fs : List FS} {Bn : Addr → Prop} {Ow : List Addr} {H : Hp} {σ : St} {Γ Γ' : Ct}
theorem comp_core {own : List Nat} {tg : Tg} {ik : IK} {its cond : List E} {elt : E} {r : RV} {Q : VK} (rs : RS g Bn Ow H σ Γ) (he : ev fs (.comp own tg ik its cond elt) Γ = some (r, Γ'))
    (hQ : ∀ v H' Ow', Stp Ow H Ow' H' → RS g Bn Ow' H' σ Γ' → Val g Bn Ow' H' σ Γ' r v → Q v H') :
    tLc (tI g fs ik its) (tgK g.K tg) (tTc g fs cond) (tR g fs elt) own σ H (fun v H' => kfs g.K H' → Q v H') := by
  simp only [ev] at he
  obtain ⟨⟨xs, Γ1⟩, e1, he⟩ := Option.bind_eq_some_iff.mp he
  obtain ⟨⟨ds, Γ2⟩, e2, he⟩ := Option.bind_eq_some_iff.mp he
  simp only [Option.ite_none_right_eq_some, Bool.and_eq_true, decide_eq_true_eq] at he
  obtain ⟨⟨⟨hp, hz⟩, htg⟩, he⟩ := he
  obtain ⟨⟨acc, Γ3⟩, e3, he⟩ := Option.map_eq_some_iff.mp he
  simp only [Prod.mk.injEq] at he
  obtain ⟨rfl, rfl⟩ := he
  refine ⟨Bn, Ow, Γ, xs, Γ1, ds, Γ2, rs, e1, e2, fun J H1 O1 s1 r1 wk Dl hD => ?_⟩
  have nbD : ¬ Bn Dl := fun z => r1.trk Dl (.inl z) hD
  have tgO : ∀ i, i ∉ own → i ∉ tgIx tg := fun i hi z => by
    have := List.all_eq_true.mp htg i z
    simp only [List.contains_eq_mem, decide_eq_true_eq] at this
    exact hi this
  let Cn : Nat → Hp → Prop := fun i H => g.K.lookup Dl = none → ∃ O Γi acci vs, Stp O1 H1 O H ∧ RS g (orB Bn Dl) O H (L2.wipe σ own) Γi ∧ H Dl = some (.lst vs) ∧ vs.length ≤ i ∧ Reps g (Av (orB Bn Dl) O) H acci vs ∧ compLoop own tg (evc fs cond) (ev fs elt) (ds.drop i) acci Γi = some (acc, Γ3)
  let U : Nat → Hp → Prop := fun i H => (∀ a o, H1 a = some o → nT o → a ∉ O1 → H a = some o) ∧ ∃ vs, H Dl = some (.lst vs)
  refine ⟨fun i m H => m = ds.length - i ∧ i ≤ ds.length ∧ U i H ∧ Cn i H, ⟨ds.length, by simp, Nat.zero_le _, ⟨fun a o h _ _ => by rw [upd_ne (ne_of_none h hD)]; exact h, [], upd_same⟩, fun hk => ?_⟩, ?_⟩
  · exact ⟨O1, _, [], [], (Stp.refl O1 H1).updN hD, (r1.wipe own).addB (same_new hD) hD (.inl ⟨_, upd_same⟩) hk, upd_same, Nat.le_refl _, by simp only [Reps], e3⟩
  rintro i m H ⟨rfl, hi, ⟨hU1, vs0, hU2⟩, hC⟩
  by_cases hlt : i < ds.length
  · refine .inr ⟨wk.go i H hlt hU1, fun H' => U (i + 1) H' ∧ Cn (i + 1) H', fun H' q => ⟨ds.length - (i + 1), by omega, rfl, hlt, q.1, q.2⟩, fun x H' y kf => ?_⟩
    have sm := wk.same i H x H' y
    have hk : g.K.lookup Dl = none := kf_new kf (sm _ _ hU2)
    obtain ⟨O, Γi, acci, vs, st, r2, hDl, hvl, rp, lp⟩ := hC hk
    have ed : ds[i]? = some ds[i] := List.getElem?_eq_getElem hlt
    have edr : ds.drop i = ds[i] :: ds.drop (i + 1) := List.drop_eq_getElem_cons hlt
    rw [edr] at lp
    simp only [compLoop] at lp
    obtain ⟨G1, a1, lp⟩ := Option.bind_eq_some_iff.mp lp
    obtain ⟨⟨b, G2⟩, a2, lp⟩ := Option.bind_eq_some_iff.mp lp
    obtain ⟨_, rx⟩ := wk.yld i _ (orB Bn Dl) O H _ _ x H' ed (fun a z => .inl z) (fun a z => z.elim .inl fun z => .inr (by rw [z]; exact hD)) st r2 y
    have r2' := r2.same sm
    refine asgT_ok tg r2' rx a1 fun σ2 q1 q2 q3 => ?_
    have hw : L2.wipe σ2 own = L2.wipe σ own := by
      rw [← wipe_wipe σ own]
      exact wipe_same q2 fun j hj => q3 j (tgO j hj)
    refine ⟨hw, orB Bn Dl, O, G1, b, G2, q1, a2, fun H3 O3 s3 r3 => ?_⟩
    have st3 : Stp O1 H1 O3 H3 := (st.trans (Stp.same sm)).trans s3
    have dO : Dl ∉ O := r2.sep Dl (.inr rfl)
    have hDl3 : H3 Dl = some (.lst vs) := s3.keep _ _ (sm _ _ hDl) dO
    have rp3 : Reps g (Av (orB Bn Dl) O3) H3 acci vs := (rp.same sm).step s3 r3
    cases b with
    | false =>
      simp only [Bool.false_eq_true, if_false, Option.ite_none_right_eq_some] at lp ⊢
      obtain ⟨_, lp⟩ := lp
      refine ⟨⟨fun a o h t n => st3.keep0 a o h t n, vs, hDl3⟩, fun _ => ⟨O3, _, acci, vs, st3, ?_, hDl3, by omega, rp3, lp⟩⟩
      have := r3.wipe own
      rw [hw] at this
      exact this
    | true =>
      simp only [if_true] at lp ⊢
      obtain ⟨⟨ye, G3⟩, a3, lp⟩ := Option.bind_eq_some_iff.mp lp
      obtain ⟨⟨e, G4⟩, a4, lp⟩ := Option.bind_eq_some_iff.mp lp
      simp only [Option.ite_none_right_eq_some] at lp
      obtain ⟨_, lp⟩ := lp
      refine ⟨orB Bn Dl, O3, G2, ye, G3, r3, a3, fun y4 H4 O4 s4 r4 v4 => ?_⟩
      obtain ⟨O5, s5, r5, p5⟩ := fre_ok r4 v4 a4
      have dO3 : Dl ∉ O3 := r3.sep Dl (.inr rfl)
      have hDl4 : H4 Dl = some (.lst vs) := s4.keep _ _ hDl3 dO3
      have st5 : Stp O1 H1 O5 H4 := (st3.trans s4).trans s5
      have rp5 : Reps g (Av (orB Bn Dl) O5) H4 acci vs := (rp3.step s4 r4).step s5 r5
      have st6 : Stp O1 H1 O5 (upd H4 Dl (.lst (vs ++ [y4]))) := st5.updN hD
      refine ⟨vs, hDl4, by omega, ⟨fun a o h t n => st6.keep0 a o h t n, vs ++ [y4], upd_same⟩, fun _ => ⟨O5, _, acci ++ [e], vs ++ [y4], st6, ?_, upd_same, by rw [List.length_append, List.length_singleton]; omega, ?_, lp⟩⟩
      · have := r5.wipe own
        rw [hw] at this
        exact this.updB (.inr rfl) (.inl ⟨_, upd_same⟩)
      · exact reps_mono (ban_vst (.inl (.inr rfl))) _ _ (rp5.app (Reps.one p5))
  · have e : i = ds.length := by omega
    subst e
    refine .inl ⟨wk.stop H hU1, fun kf => ?_⟩
    have hk : g.K.lookup Dl = none := kf_new kf hU2
    obtain ⟨O, Γi, acci, vs, st, r2, hDl, hvl, rp, lp⟩ := hC hk
    rw [List.drop_length] at lp
    simp only [compLoop, Option.some.injEq, Prod.mk.injEq] at lp
    obtain ⟨rfl, rfl⟩ := lp
    have r3 := r1.rest hp st (fun a z => z.elim .inl fun z => .inr (by rw [z]; exact hD)) r2
    have r4 := r3.unB nbD
    refine hQ _ H (Dl :: O) (s1.trans ⟨st.keep0, fun a h => ?_⟩) r4 ⟨Dl, rfl, List.mem_cons_self, ⟨vs, hDl, ?_⟩, fun j e h1 h2 => ?_⟩
    · rcases List.mem_cons.mp h with h | h
      · rw [h]; exact .inr (nw_none hD)
      · exact st.grow a h
    · refine reps_less (fun a z => ?_) rp
      rcases z with z | z
      · exact .inl (.inl z)
      · rcases List.mem_cons.mp z with z | z
        · exact .inl (.inr z)
        · exact .inr z
    · obtain ⟨a, e2, m2, _⟩ := r3.own j e h1
      rw [h2] at e2; cases e2
      exact r2.sep Dl (.inr rfl) m2
end
section
variable {X : Cx} {g : Gx} {fs : List FS}
theorem PG.kf {tg : Expr} {t : TG} (h : PG X tg t) : PG X tg (fun v σ H Q => kfs X.K H → t v σ H Q) := ⟨fun pins s σ H v u Q I r q => h.run pins s σ H v u Q I r (q (Inv.kf I))⟩
theorem PTs.weak {e : List Expr} {t t' : TT} (h : PTs X e t) (k : ∀ σ H Q, t' σ H Q → t σ H Q) : PTs X e t' := ⟨fun pins s σ H Q I q => h.run pins s σ H Q I (k σ H Q q)⟩
theorem c_nil : PTs X [] (tTc g fs []) := by
  refine PTs.weak pts_nil ?_
  rintro σ H Q ⟨Bn, Ow, Γ, t, Γ', rs, he, hQ⟩
  simp only [evc, Option.some.injEq, Prod.mk.injEq] at he
  obtain ⟨rfl, rfl⟩ := he
  exact hQ H Ow (.refl _ _) rs
theorem c_one {c : Expr} {ic : E} (h : PT X c (tT g fs ic)) : PTs X [c] (tTc g fs [ic]) := by
  refine PTs.weak (pts_one h) ?_
  rintro σ H Q ⟨Bn, Ow, Γ, t, Γ', rs, he, hQ⟩
  simp only [evc] at he
  obtain ⟨⟨x, Γ1⟩, e1, he⟩ := Option.bind_eq_some_iff.mp he
  obtain ⟨t', e2, he⟩ := Option.map_eq_some_iff.mp he
  simp only [Prod.mk.injEq] at he
  obtain ⟨rfl, rfl⟩ := he
  exact ⟨Bn, Ow, Γ, x, Γ1, t', rs, e1, e2, hQ⟩
theorem p_comp {elt tg iter : Expr} {ifs : List Expr} {scope : Scope} {own : List (Str × Nat)} {pos : Pos} {itg : Tg} {ik : IK} {its cond : List E} {ielt : E} (C : Cok g X) (hi : PI X tg iter (tI g fs ik its)) (ok : BlkOk X.N X.env.scope scope own)
    (hg : ∀ (s : Shared) (H : Hp) (C : Addr) (cl : List (Str × Addr)) (fp : List Addr), PG (X.blk s H scope (compEnvC scope cl C X.env) fp) tg (tgT g.K itg)) (ht : ∀ (s : Shared) (H : Hp) (C : Addr) (cl : List (Str × Addr)) (fp : List Addr), PTs (X.blk s H scope (compEnvC scope cl C X.env) fp) ifs (tTc g fs cond))
    (he : ∀ (s : Shared) (H : Hp) (C : Addr) (cl : List (Str × Addr)) (fp : List Addr), PE (X.blk s H scope (compEnvC scope cl C X.env) fp) elt (tR g fs ielt)) (hs : ∀ x, foldedSetIterable iter X.env x = pure x) :
    PE X (.ListComp elt [⟨tg, iter, ifs, 0⟩] scope pos) (tR g fs (.comp (own.map (·.2)) itg ik its cond ielt)) := by
  refine PE.weak (PE.kf (pe_lc (g := tgK g.K itg) C.calm C.nd hi ok (fun s H Ca cl fp => ?_) ht he hs)) ?_
  · have := PG.kf (hg s H Ca cl fp)
    exact ⟨fun pins s σ H v u Q I r q => this.run pins s σ H v u Q I r fun kf => q fun a o e => kf a o (by show X.K.lookup a = some o; rw [C.K]; exact e)⟩
  · rintro σ H Q ⟨Bn, Ow, Γ, r, Γ', rs, he, hQ⟩
    have q := comp_core rs he hQ
    rw [C.K]
    exact q
end
end DV

namespace DV
open PySem L2
variable {Wx : L2.XK}
def Pin (pv : Nat × List (Nat × V)) (σ : St) : Prop := σ.length = pv.1 ∧ ∀ p ∈ pv.2, σ[p.1]? = some (some p.2)
def Post (g : Gx) (Wx : L2.XK) (Dn : Ends) (pv : Nat × List (Nat × V)) (Bn : Addr → Prop) (Ow : List Addr) (H : Hp) : Out → Prop
  | .nx Γ' => ∀ σ' H' Ow', Stp Ow H Ow' H' → RS g Bn Ow' H' σ' Γ' → Pin pv σ' → Dn.nx σ' H'
  | .bk Γ' => ∀ σ' H' Ow', Stp Ow H Ow' H' → RS g Bn Ow' H' σ' Γ' → Pin pv σ' → Dn.bk σ' H'
  | .ct Γ' => ∀ σ' H' Ow', Stp Ow H Ow' H' → RS g Bn Ow' H' σ' Γ' → Pin pv σ' → Dn.ct σ' H'
  | .rt r Γ' => ∀ v σ' H' Ow', Stp Ow H Ow' H' → RS g Bn Ow' H' σ' Γ' → Pin pv σ' → Val g Bn Ow' H' σ' Γ' r v → Dn.rt v H'
  | .xc c ks ds Γ' => ∀ d σ' H' Ow', Stp Ow H Ow' H' → RS g Bn Ow' H' σ' Γ' → Pin pv σ' → Rep g (Av Bn Ow') H' (.exc c ks ds) (.ref d) → Wx (.ref (g.cl c)) (some d) H'
def tSt (g : Gx) (Wx : L2.XK) (fs : List FS) (is : S) : TS := fun Dn σ H => ∃ pv Bn Ow Γ o, RS g Bn Ow H σ Γ ∧ Pin pv σ ∧ ex fs (pv.2.map (·.1)) is Γ = some o ∧ Post g Wx Dn pv Bn Ow H o
def tSs (g : Gx) (Wx : L2.XK) (fs : List FS) (is : List S) : TS := fun Dn σ H => ∃ pv Bn Ow Γ o, RS g Bn Ow H σ Γ ∧ Pin pv σ ∧ exs fs (pv.2.map (·.1)) is Γ = some o ∧ Post g Wx Dn pv Bn Ow H o
section
variable {X : Cx} {g : Gx} {fs : List FS} {st : Stmt} {pos : Pos}
theorem PS.weak {t t' : TS} (h : PS X st t) (k : ∀ Dn σ H, t' Dn σ H → t Dn σ H) : PS X st t' := ⟨fun pins s σ H Dn I q => h.run pins s σ H Dn I (k Dn σ H q)⟩
theorem PSs.weak {ss : List Stmt} {t t' : TS} (h : PSs X ss t) (k : ∀ Dn σ H, t' Dn σ H → t Dn σ H) : PSs X ss t' := ⟨fun pins s σ H Dn I q => h.run pins s σ H Dn I (k Dn σ H q)⟩
theorem PS.kf {t : TS} (h : PS X st t) : PS X st (fun Dn σ H => t { nx := fun σ H => kfs X.K H → Dn.nx σ H, rt := fun v H => kfs X.K H → Dn.rt v H, bk := fun σ H => kfs X.K H → Dn.bk σ H, ct := fun σ H => kfs X.K H → Dn.ct σ H } σ H) := ⟨fun pins s σ H Dn I q => thn (h.run pins s σ H _ I q) fun f s1 r => by
  cases f with
  | next => obtain ⟨a, b, I1, c⟩ := r; exact ⟨a, b, I1, c (Inv.kf I1)⟩
  | brk => obtain ⟨a, b, I1, c⟩ := r; exact ⟨a, b, I1, c (Inv.kf I1)⟩
  | cont => obtain ⟨a, b, I1, c⟩ := r; exact ⟨a, b, I1, c (Inv.kf I1)⟩
  | ret v => obtain ⟨x, a, b, I1, r1, c⟩ := r; exact ⟨x, a, b, I1, r1, c (Inv.kf I1)⟩⟩
section
variable {Bn : Addr → Prop} {Ow Ow' : List Addr} {H H' : Hp} {σ : St} {Γ Γ' : Ct} {Dn : Ends} {pv : Nat × List (Nat × V)}
theorem Post.step {o : Out} (h : Post g Wx Dn pv Bn Ow H o) (s : Stp Ow H Ow' H') : Post g Wx Dn pv Bn Ow' H' o := by
  cases o with
  | nx G => exact fun σ1 H1 O1 s1 r p => h σ1 H1 O1 (s.trans s1) r p
  | bk G => exact fun σ1 H1 O1 s1 r p => h σ1 H1 O1 (s.trans s1) r p
  | ct G => exact fun σ1 H1 O1 s1 r p => h σ1 H1 O1 (s.trans s1) r p
  | rt r G => exact fun v σ1 H1 O1 s1 r p => h v σ1 H1 O1 (s.trans s1) r p
  | xc c ks ds G => exact fun v σ1 H1 O1 s1 r p => h v σ1 H1 O1 (s.trans s1) r p
theorem Pin.set {i : Nat} {v : Option V} (h : Pin pv σ) (d : disjB [i] (pv.2.map (·.1)) = true) : Pin pv (σ.set i v) := ⟨by rw [List.length_set]; exact h.1, fun p hp => by
  rw [List.getElem?_set_ne]
  · exact h.2 p hp
  · intro z
    simp only [disjB, List.all_cons, List.all_nil, Bool.and_true, Bool.not_eq_true', List.contains_eq_mem, decide_eq_false_iff_not] at d
    exact d (by rw [z]; exact List.mem_map.mpr ⟨p, hp, rfl⟩)⟩
theorem Pin.keep {σ' : St} {xs : List Nat} (h : Pin pv σ) (d : disjB xs (pv.2.map (·.1)) = true) (hl : σ'.length = σ.length) (k : ∀ i, i ∉ xs → σ'[i]? = σ[i]?) : Pin pv σ' := ⟨hl.trans h.1, fun p hp => by
  rw [k]
  · exact h.2 p hp
  · intro z
    have := List.all_eq_true.mp d _ z
    simp only [Bool.not_eq_true', List.contains_eq_mem, decide_eq_false_iff_not] at this
    exact this (List.mem_map.mpr ⟨p, hp, rfl⟩)⟩
/-- an owned list is rewritten -/
theorem RS.mut {i : Nat} {c : D} {a : Addr} {ds : List D} {ws : List V} (rs : RS g Bn Ow H σ Γ) (hi : Γ[i]? = some (some (c, true))) (hs : σ[i]? = some (some (.ref a))) (r : Reps g (Av Bn Ow) H ds ws) :
    RS g Bn Ow (upd H a (.lst ws)) σ (Γ.set i (some (.lst ds, true))) ∧ Stp Ow H Ow (upd H a (.lst ws)) := by
  have hil : i < Γ.length := (List.getElem?_eq_some_iff.mp hi).1
  obtain ⟨b, e1, m, _⟩ := rs.own i _ hi
  rw [hs] at e1; cases e1
  have vs := ban_vst (g := g) (H := H) (o := .lst ws) (A := Av Bn Ow) (p := a) (.inr m)
  refine ⟨⟨by rw [List.length_set]; exact rs.len, fun j e h => ?_, fun j e h => ?_, fun j k e f b h1 h2 h3 h4 => ?_, fun b h => ?_, rs.sep, rs.kf, rs.tabs.upd (rs.trl a (.inr m))⟩, ⟨fun b o h _ n => ?_, fun _ h => .inl h⟩⟩
  · have hj : i ≠ j := fun z => by subst z; rw [List.getElem?_set_self hil] at h; cases h
    rw [List.getElem?_set_ne hj] at h
    obtain ⟨v, e1, r1⟩ := rs.slot j e h
    exact ⟨v, e1, rep_mono vs _ _ r1⟩
  · by_cases hj : i = j
    · subst hj
      rw [List.getElem?_set_self hil] at h; cases h
      exact ⟨a, hs, m, ws, upd_same, reps_mono vs _ _ r⟩
    · rw [List.getElem?_set_ne hj] at h
      obtain ⟨b, e1, m1, o1⟩ := rs.own j e h
      have nb : b ≠ a := fun z => hj (by subst z; exact rs.dist i j _ _ _ hi h hs e1)
      refine ⟨b, e1, m1, ?_⟩
      cases e with
      | lst es => obtain ⟨us, e2, r2⟩ := o1; exact ⟨us, by rw [upd_ne nb]; exact e2, reps_mono vs _ _ r2⟩
      | obj c ks es => obtain ⟨dx, us, l, e2, r2⟩ := o1; exact ⟨dx, us, l, by rw [upd_ne nb]; exact e2, reps_mono vs _ _ r2⟩
      | _ => exact o1
  · have ex : ∀ (j : Nat) e, (Γ.set i (some (.lst ds, true)))[j]? = some (some (e, true)) → ∃ e', Γ[j]? = some (some (e', true)) := fun j e h => by
      by_cases hj : i = j
      · subst hj; exact ⟨_, hi⟩
      · rw [List.getElem?_set_ne hj] at h; exact ⟨_, h⟩
    obtain ⟨e', h1⟩ := ex j e h1
    obtain ⟨f', h2⟩ := ex k f h2
    exact rs.dist j k _ _ _ h1 h2 h3 h4
  · exact (rs.trl b h).upd fun _ => .inl ⟨_, upd_same⟩
  · have z : b ≠ a := fun z => n (by rw [z]; exact m)
    rw [upd_ne z]; exact h
end
/-! ### simple statements -/
theorem s_pass : PS X (.Pass pos) (tSt g Wx fs .pass) := by
  refine PS.weak ps_pass ?_
  rintro Dn σ H ⟨pv, Bn, Ow, Γ, o, rs, pn, he, po⟩
  simp only [ex, Option.some.injEq] at he; subst he
  exact po σ H Ow (.refl _ _) rs pn
theorem s_brk : PS X (.Break pos) (tSt g Wx fs .brk) := by
  refine PS.weak ps_break ?_
  rintro Dn σ H ⟨pv, Bn, Ow, Γ, o, rs, pn, he, po⟩
  simp only [ex, Option.some.injEq] at he; subst he
  exact po σ H Ow (.refl _ _) rs pn
theorem s_stuck : PS X st (tSt g Wx fs .stuck) := by
  refine PS.weak ps_never ?_
  rintro Dn σ H ⟨pv, Bn, Ow, Γ, o, rs, pn, he, po⟩
  simp only [ex, reduceCtorEq] at he
theorem s_expr {e : Expr} {ie : E} (h : PE X e (tR g fs ie)) (hs : swapsWith e none pos.line X.env = pure false) : PS X (.Expr e pos) (tSt g Wx fs (.expr ie)) := by
  refine PS.weak (ps_expr h hs) ?_
  rintro Dn σ H ⟨pv, Bn, Ow, Γ, o, rs, pn, he, po⟩
  simp only [ex] at he
  obtain ⟨⟨x, Γ1⟩, e1, rfl⟩ := Option.map_eq_some_iff.mp he
  exact ⟨Bn, Ow, Γ, x, Γ1, rs, e1, fun v H1 O1 s1 r1 _ => po σ H1 O1 s1 r1 pn⟩
theorem s_ret {e : Expr} {ie : E} (h : PE X e (tR g fs ie)) : PS X (.Return (some e) pos) (tSt g Wx fs (.ret ie)) := by
  refine PS.weak (ps_ret h) ?_
  rintro Dn σ H ⟨pv, Bn, Ow, Γ, o, rs, pn, he, po⟩
  simp only [ex] at he
  obtain ⟨⟨x, Γ1⟩, e1, rfl⟩ := Option.map_eq_some_iff.mp he
  exact ⟨Bn, Ow, Γ, x, Γ1, rs, e1, fun v H1 O1 s1 r1 vl => po v σ H1 O1 s1 r1 pn vl⟩
theorem asg_core {tg : Tg} {ie : E} {Dn : Ends} {σ : St} {H : Hp} (h : tSt g Wx fs (.asg tg ie) Dn σ H) : tAsg (tR g fs ie) (tgT g.K tg) Dn σ H := by
  obtain ⟨pv, Bn, Ow, Γ, o, rs, pn, he, po⟩ := h
  simp only [ex] at he
  obtain ⟨⟨x, Γ1⟩, e1, he⟩ := Option.bind_eq_some_iff.mp he
  obtain ⟨⟨d, Γ2⟩, e2, he⟩ := Option.bind_eq_some_iff.mp he
  simp only [Option.ite_none_right_eq_some] at he
  obtain ⟨dj, he⟩ := he
  obtain ⟨Γ3, e3, rfl⟩ := Option.map_eq_some_iff.mp he
  refine ⟨Bn, Ow, Γ, x, Γ1, rs, e1, fun v H1 O1 s1 r1 vl => ?_⟩
  obtain ⟨O2, s2, r2, p2⟩ := fre_ok r1 vl e2
  exact asgT_ok tg r2 p2 e3 fun σ' q1 q2 q3 => po σ' H1 O2 (s1.trans s2) q1 (pn.keep dj q2 q3)
theorem s_asg {tg e : Expr} {itg : Tg} {ie : E} (h : PE X e (tR g fs ie)) (hg : PG X tg (tgT g.K itg)) (hs : swapsWithSole [tg] e pos.line X.env = pure false) (hw : swappedStores [tg] e X.env = pure none)
    (h1 : (assignEach [tg] X.env).map (·.2) = [assign tg X.env]) : PS X (.Assign [tg] e pos) (tSt g Wx fs (.asg itg ie)) := PS.weak (ps_asg h hg hs hw h1) fun _ _ _ => asg_core
theorem asgO_core {i : Nat} {ie : E} {Dn : Ends} {σ : St} {H : Hp} {te : TE} (hte : ∀ Q, tR g fs ie σ H Q → te σ H Q) (h : tSt g Wx fs (.asgO i ie) Dn σ H) : tAsg te (gName i) Dn σ H := by
  obtain ⟨pv, Bn, Ow, Γ, o, rs, pn, he, po⟩ := h
  simp only [ex] at he
  obtain ⟨⟨x, Γ1⟩, e1, he⟩ := Option.bind_eq_some_iff.mp he
  refine hte _ ⟨Bn, Ow, Γ, x, Γ1, rs, e1, fun v H1 O1 s1 r1 vl => ?_⟩
  have plain : ∀ {o : Out}, ((fre Γ1 x).bind fun (p : D × Ct) => if i < p.2.length ∧ disjB [i] (pv.2.map (·.1)) = true then some (Out.nx (p.2.set i (some (p.1, false)))) else none) = some o → Post g Wx Dn pv Bn Ow H o → gName i v σ H1 Dn.nx := fun {o} he po => by
    obtain ⟨⟨d, Γ2⟩, e2, he⟩ := Option.bind_eq_some_iff.mp he
    simp only [Option.ite_none_right_eq_some, Option.some.injEq] at he
    obtain ⟨⟨hi, dj⟩, rfl⟩ := he
    obtain ⟨O2, s2, r2, p2⟩ := fre_ok r1 vl e2
    exact po _ H1 O2 (s1.trans s2) (r2.set p2 hi) (pn.set dj)
  cases x with
  | nw d =>
    simp only [Option.ite_none_right_eq_some, Option.some.injEq] at he
    obtain ⟨⟨hi, dj⟩, rfl⟩ := he
    exact po _ H1 O1 s1 (r1.setO vl hi) (pn.set dj)
  | fz d => exact plain he po
  | sl j => exact plain he po
theorem s_asgO {i : Nat} {y : Str} {e : Expr} {ie : E} {pos' : Pos} (C : Cok0 g X) (hi : X.N[i]? = some y) (hx : Loc X.env.scope y) (h : PE X e (tR g fs ie)) (hs : swapsWith e (some (.Name y pos')) pos.line X.env = pure false) (hf : X.fn y = true ∨ X.env.scope.names.lookup y = some .local) :
    PS X (.Assign [.Name y pos'] e pos) (tSt g Wx fs (.asgO i ie)) := PS.weak (ps_set C.nd hi hx h hs hf) fun _ _ _ q => asgO_core (fun _ q => q) q
theorem s_ite {c : Expr} {a b : List Stmt} {ic : E} {ia ib : List S} (hc : PT X c (tT g fs ic)) (ha : PSs X a (tSs g Wx fs ia)) (hb : PSs X b (tSs g Wx fs ib)) : PS X (.If c a b pos) (tSt g Wx fs (.ite ic ia ib)) := by
  refine PS.weak (ps_if hc ha hb) ?_
  rintro Dn σ H ⟨pv, Bn, Ow, Γ, o, rs, pn, he, po⟩
  simp only [ex] at he
  obtain ⟨⟨x, Γ1⟩, e1, he⟩ := Option.bind_eq_some_iff.mp he
  obtain ⟨t, e2, he⟩ := Option.bind_eq_some_iff.mp he
  refine ⟨Bn, Ow, Γ, x, Γ1, t, rs, e1, e2, fun H1 O1 s1 r1 => ?_⟩
  cases t with
  | true => rw [if_pos rfl] at he ⊢; exact ⟨pv, Bn, O1, Γ1, o, r1, pn, he, po.step s1⟩
  | false => rw [if_neg Bool.false_ne_true] at he ⊢; exact ⟨pv, Bn, O1, Γ1, o, r1, pn, he, po.step s1⟩
theorem ss_nil : PSs X [] (tSs g Wx fs []) := by
  refine PSs.weak pss_nil ?_
  rintro Dn σ H ⟨pv, Bn, Ow, Γ, o, rs, pn, he, po⟩
  simp only [exs, Option.some.injEq] at he; subst he
  exact po σ H Ow (.refl _ _) rs pn
theorem ss_cons {rest : List Stmt} {a : S} {b : List S} (h1 : PS X st (tSt g Wx fs a)) (h2 : PSs X rest (tSs g Wx fs b)) : PSs X (st :: rest) (tSs g Wx fs (a :: b)) := by
  refine PSs.weak (pss_cons h1 h2) ?_
  rintro Dn σ H ⟨pv, Bn, Ow, Γ, o, rs, pn, he, po⟩
  simp only [exs] at he
  obtain ⟨o1, e1, he⟩ := Option.bind_eq_some_iff.mp he
  refine ⟨pv, Bn, Ow, Γ, o1, rs, pn, e1, ?_⟩
  cases o1 with
  | nx G => exact fun σ1 H1 O1 s1 r1 p1 => ⟨pv, Bn, O1, G, o, r1, p1, he, po.step s1⟩
  | bk G => simp only [Option.some.injEq] at he; subst he; exact po
  | ct G => simp only [Option.some.injEq] at he; subst he; exact po
  | rt r G => simp only [Option.some.injEq] at he; subst he; exact po
  | xc c ks ds G => simp only [Option.some.injEq] at he; subst he; exact po
theorem s_for {tg iter : Expr} {b : List Stmt} {itg : Tg} {ik : IK} {its : List E} {ib : List S} (C : Cok g X) (hp : PassesOwn (model X.prog X.w) X.A X.env X.xe) (hi : PI X tg iter (tI g fs ik its)) (hg : PG X tg (tgT g.K itg)) (hb : PSs X b (tSs g Wx fs ib)) (hs : ∀ x, foldedSetIterable iter X.env x = pure x) :
    PS X (.For tg iter b [] pos) (tSt g Wx fs (.for_ itg ik its ib)) := by
  refine PS.weak (ps_for hp C.calm hi hg hb hs) ?_
  rintro Dn σ H ⟨pv, Bn, Ow, Γ, o, rs, pn, he, po⟩
  simp only [ex] at he
  obtain ⟨⟨xs, Γ1⟩, e1, he⟩ := Option.bind_eq_some_iff.mp he
  obtain ⟨⟨ds, Γ2⟩, e2, he⟩ := Option.bind_eq_some_iff.mp he
  simp only [Option.ite_none_right_eq_some] at he
  obtain ⟨dj, he⟩ := he
  refine ⟨Bn, Ow, Γ, xs, Γ1, ds, Γ2, rs, e1, e2, fun J H1 O1 s1 r1 wk => ?_⟩
  let C1 : Nat → St → Hp → Prop := fun i σ2 H2 => ∃ O2 G2, Stp O1 H1 O2 H2 ∧ RS g Bn O2 H2 σ2 G2 ∧ Pin pv σ2 ∧ forLoop itg (exs fs (pv.2.map (·.1)) ib) (ds.drop i) G2 = some o
  refine ⟨fun i m σ2 H2 => m = ds.length - i ∧ i ≤ ds.length ∧ C1 i σ2 H2, ⟨ds.length, by simp, Nat.zero_le _, O1, Γ2, .refl _ _, r1, pn, he⟩, ?_⟩
  rintro i m σ2 H2 ⟨rfl, hle, O2, G2, s2, r2, p2, l2⟩
  by_cases hlt : i < ds.length
  · refine .inr ⟨wk.go i H2 hlt fun a o h t n => s2.keep0 a o h t n, fun σ' H' => C1 (i + 1) σ' H', fun σ' H' q => ⟨ds.length - (i + 1), by omega, rfl, hlt, q⟩, fun x H3 y => ?_⟩
    have edr : ds.drop i = ds[i] :: ds.drop (i + 1) := List.drop_eq_getElem_cons hlt
    rw [edr] at l2
    simp only [forLoop] at l2
    obtain ⟨G3, a1, l2⟩ := Option.bind_eq_some_iff.mp l2
    obtain ⟨o1, a2, l2⟩ := Option.bind_eq_some_iff.mp l2
    obtain ⟨sm, rx⟩ := wk.yld i _ Bn O2 H2 _ _ x H3 (List.getElem?_eq_getElem hlt) (fun a z => z) (fun a z => .inl z) s2 r2 y
    have s3 : Stp O1 H1 O2 H3 := s2.trans (Stp.same sm)
    refine asgT_ok itg (r2.same sm) rx a1 fun σ3 q1 q2 q3 => ⟨pv, Bn, O2, G3, o1, q1, p2.keep dj q2 q3, a2, ?_⟩
    cases o1 with
    | nx G => exact fun σ4 H4 O4 s4 r4 p4 => ⟨O4, G, s3.trans s4, r4, p4, l2⟩
    | ct G => exact fun σ4 H4 O4 s4 r4 p4 => ⟨O4, G, s3.trans s4, r4, p4, l2⟩
    | bk G =>
      simp only [Option.some.injEq] at l2; subst l2
      exact fun σ4 H4 O4 s4 r4 p4 => po σ4 H4 O4 (s1.trans (s3.trans s4)) r4 p4
    | rt r G =>
      simp only [Option.some.injEq] at l2; subst l2
      exact fun v σ4 H4 O4 s4 r4 p4 => po v σ4 H4 O4 (s1.trans (s3.trans s4)) r4 p4
    | xc c ks ds G =>
      simp only [Option.some.injEq] at l2; subst l2
      exact fun v σ4 H4 O4 s4 r4 p4 => po v σ4 H4 O4 (s1.trans (s3.trans s4)) r4 p4
  · have e : i = ds.length := by omega
    subst e
    rw [List.drop_length] at l2
    simp only [forLoop, Option.some.injEq] at l2
    subst l2
    exact .inl ⟨wk.stop H2 fun a o h t n => s2.keep0 a o h t n, po σ2 H2 O2 (s1.trans s2) r2 p2⟩
end
end DV

namespace DV
open PySem L2
variable {Wx : L2.XK}
section
variable {X : Cx} {g : Gx} {fs : List FS} {st : Stmt} {pos : Pos} {Bn : Addr → Prop} {Ow Ow' : List Addr} {H H' : Hp} {σ : St} {Γ Γ' : Ct}
theorem isLst_ty {i : Nat} (rs : RS g Bn Ow H σ Γ) (h : isLst Γ i = true) : ∃ a, σ[i]? = some (some (.ref a)) ∧ tyV g.K "list" (.ref a) H := by
  unfold isLst at h
  split at h
  · rename_i ds b q
    cases b with
    | false =>
      obtain ⟨v, e1, r1⟩ := rs.slot i _ q
      simp only [Rep] at r1
      obtain ⟨a, vs, rfl, _, s, _⟩ := r1
      exact ⟨a, e1, .inl ⟨rfl, vs, .inl (.inl s)⟩⟩
    | true =>
      obtain ⟨a, e1, _, vs, s, _⟩ := rs.own i _ q
      exact ⟨a, e1, .inl ⟨rfl, vs, .inl (.inl s)⟩⟩
  · cases h
theorem s_app {o e : Expr} {i : Nat} {ie : E} {apos cpos : Pos} (C : Cok0 g X) (ho : PE X o (tVar i)) (he : PE X e (tR g fs ie)) (hbase : attributeBase o "append" X.env (eval o X.env) = eval o X.env)
    (hline : (apos.endLine == cpos.line) = true) (hs : starEach [e] X.env = [(false, eval e X.env)]) (hsw : swapsWith (.Call (.Attribute o "append" apos) [e] [] cpos) none pos.line X.env = pure false) :
    PS X (.Expr (.Call (.Attribute o "append" apos) [e] [] cpos) pos) (tSt g Wx fs (.app i ie)) := by
  refine PS.weak (ps_expr (pe_bm PySem.F.plainAttrs_list PySem.F.slot_list_append PySem.F.type_list_append mt_append ho (pa_cons he pa_nil (by rw [hs]; rfl)) hbase (by rw [hs]; rfl) hline (by rw [hs]; rfl) rfl) hsw) ?_
  rintro Dn σ H ⟨pv, Bn, Ow, Γ, o, rs, pn, he, po⟩
  simp only [ex, Option.ite_none_right_eq_some] at he
  obtain ⟨hl, he⟩ := he
  obtain ⟨⟨x, Γ1⟩, e1, he⟩ := Option.bind_eq_some_iff.mp he
  obtain ⟨⟨d, Γ2⟩, e2, he⟩ := Option.bind_eq_some_iff.mp he
  obtain ⟨a, ea, ty⟩ := isLst_ty rs hl
  refine ⟨_, ea, by rw [C.K]; exact ty, Bn, Ow, Γ, x, Γ1, rs, e1, fun v H1 O1 s1 r1 vl => ?_⟩
  obtain ⟨O2, s2, r2, p2⟩ := fre_ok r1 vl e2
  split at he
  · rename_i c q
    obtain ⟨c', e3, rfl⟩ := Option.map_eq_some_iff.mp he
    obtain ⟨b, eb, m, ow⟩ := r2.own i _ q
    rw [ea] at eb; cases eb
    cases c <;> simp only [appD, reduceCtorEq, Option.ite_none_right_eq_some, Option.some.injEq] at e3
    rename_i xs
    obtain ⟨hz, rfl⟩ := e3
    obtain ⟨vs, hv, rp⟩ := ow
    obtain ⟨r3, s3⟩ := r2.mut q ea (rp.app (Reps.one p2))
    exact ⟨a, vs, v, rfl, rfl, hv, by rw [← rp.len]; exact hz, po _ _ O2 ((s1.trans s2).trans s3) r3 pn⟩
  · cases he
theorem s_seti {o k e : Expr} {i : Nat} {ik ie : E} {tpos : Pos} (C : Cok0 g X) (ho : PE X o (tVar i)) (hk : PE X k (tR g fs ik)) (he : PE X e (tR g fs ie)) (hs : swapsWithSole [.Subscript o k tpos] e pos.line X.env = pure false) (hw : swappedStores [.Subscript o k tpos] e X.env = pure none)
    (h1 : (assignEach [.Subscript o k tpos] X.env).map (·.2) = [assign (.Subscript o k tpos) X.env])
    (ha : ∀ v, assign (.Subscript o k tpos) X.env v = (do
      let ov ← holding [v] (eval o X.env)
      let iv ← holding [v, ov] (eval k X.env)
      standAt tpos
      holding [v, ov, iv] (setItem ov iv v)
      release [v, ov, iv] [])) : PS X (.Assign [.Subscript o k tpos] e pos) (tSt g Wx fs (.seti i ik ie)) := by
  refine PS.weak (ps_asg he (pg_sub ho hk set_list ha) hs hw h1) ?_
  rintro Dn σ H ⟨pv, Bn, Ow, Γ, o, rs, pn, he, po⟩
  simp only [ex] at he
  obtain ⟨⟨x, Γ1⟩, e1, he⟩ := Option.bind_eq_some_iff.mp he
  obtain ⟨⟨d, Γ2⟩, e2, he⟩ := Option.bind_eq_some_iff.mp he
  simp only [Option.ite_none_right_eq_some] at he
  obtain ⟨hil, he⟩ := he
  obtain ⟨⟨y, Γ3⟩, e3, he⟩ := Option.bind_eq_some_iff.mp he
  obtain ⟨kd, e4, he⟩ := Option.bind_eq_some_iff.mp he
  refine ⟨Bn, Ow, Γ, x, Γ1, rs, e1, fun v H1 O1 s1 r1 vl => ?_⟩
  obtain ⟨O2, s2, r2, p2⟩ := fre_ok r1 vl e2
  split at he
  · rename_i c q
    obtain ⟨c', e5, rfl⟩ := Option.map_eq_some_iff.mp he
    obtain ⟨a, ea, _⟩ := isLst_ty r2 hil
    refine ⟨_, ea, Bn, O2, Γ2, y, Γ3, r2, e3, fun w H3 O3 s3 r3 v3 => ?_⟩
    have rd := v3.rdb r3 e4
    obtain ⟨b, eb, m, ow⟩ := r3.own i _ q
    rw [ea] at eb; cases eb
    cases c <;> simp only [setD, reduceCtorEq] at e5
    cases kd <;> simp only [setD, reduceCtorEq] at e5
    rename_i ki
    obtain ⟨j, e6, rfl⟩ := Option.map_eq_some_iff.mp e5
    obtain ⟨vs, hv, rp⟩ := ow
    have rd : w = .int ki := by simpa only [Rdb, Rep] using rd
    obtain ⟨r4, s4⟩ := r3.mut q ea (rp.set (p2.step s3 r3) j)
    exact ⟨a, vs, _, j, rfl, rd, hv, by rw [← rp.len]; exact e6, po _ _ O3 (((s1.trans s2).trans s3).trans s4) r4 pn⟩
  · cases he
/-! ### parallel assignment -/
def VlN (g : Gx) (Bn : Addr → Prop) (Ow : List Addr) (H : Hp) (σ : St) (Γ : Ct) : List RV → List V → Prop
  | [], vs => vs = []
  | x :: xs, vs => ∃ v r, vs = v :: r ∧ Val g Bn Ow H σ Γ x v ∧ (∀ d, x = .nw d → v ∉ r) ∧ (∀ i, x ≠ .sl i) ∧ VlN g Bn Ow H σ Γ xs r
theorem Rep.nav {A : Addr → Prop} {d : D} {a : Addr} (h0 : g.ea = none) (hr : nrf (.fz d) = true) (h : Rep g A H d (.ref a)) : ¬ A a := by
  cases d <;> simp only [Rep, reduceCtorEq] at h
  · obtain ⟨b, vs, e, n, _⟩ := h; cases e; exact n
  · obtain ⟨b, vs, e, n, _⟩ := h; cases e; exact n
  · obtain ⟨b, vs, ws, e, n, _⟩ := h; cases e; exact n
  · obtain ⟨b, e, n, _⟩ := h; cases e; exact n
  · obtain ⟨b, e, n, _⟩ := h; cases e; exact n
  · obtain ⟨b, vs, e, n, _⟩ := h; cases e; exact n
  · obtain ⟨b, vs, e, n, _⟩ := h; cases e; exact n
  · obtain ⟨e0, b, vs, e1, _⟩ := h; rw [h0] at e1; cases e1
  · cases hr
theorem OwnA.step {d : D} {p : Addr} (o : OwnA g (Av Bn Ow) H d p) (np : p ∉ Ow) (s : Stp Ow H Ow' H') (rs : RS g Bn Ow' H' σ Γ) : OwnA g (Av Bn Ow') H' d p := by
  cases d with
  | lst es => obtain ⟨us, e2, r2⟩ := o; exact ⟨us, s.keep _ _ e2 np, r2.step s rs⟩
  | obj c ks es => obtain ⟨dx, us, l, e2, r2⟩ := o; exact ⟨dx, us, l, s.keep _ _ e2 np, r2.step s rs⟩
  | _ => exact o
theorem RS.ban {d : D} {p : Addr} (rs : RS g Bn Ow H σ Γ) (m : p ∈ Ow) (no : ∀ (i : Nat) e, Γ[i]? = some (some (e, true)) → σ[i]? ≠ some (some (.ref p))) : RS g (orB Bn p) (Ow.filter (fun x => decide (x ≠ p))) H σ Γ := by
  have k1 : ∀ a, Av (orB Bn p) (Ow.filter (fun x => decide (x ≠ p))) a → Av Bn Ow a := fun a z => by
    rcases z with (z | z) | z
    · exact .inl z
    · rw [z]; exact .inr m
    · exact .inr (mem_ne z).1
  refine ⟨rs.len, fun i d h => ?_, fun i d h => ?_, rs.dist, fun a h => rs.trl a (k1 a h), fun a h z => ?_, fun a h => rs.kf a (k1 a h), rs.tabs⟩
  · obtain ⟨v, e, r⟩ := rs.slot i d h; exact ⟨v, e, rep_less k1 r⟩
  · obtain ⟨a, e, ma, r⟩ := rs.own i d h
    exact ⟨a, e, ne_mem ma fun z => no i d h (by rw [e, z]), own_less k1 r⟩
  · rcases h with h | h
    · exact rs.sep a h (mem_ne z).1
    · exact (mem_ne z).2 h
theorem VlN.unB {p : Addr} : ∀ {xs : List RV} {vs : List V}, VlN g (orB Bn p) Ow H σ Γ xs vs → VlN g Bn (p :: Ow) H σ Γ xs vs
  | [], _, h => h
  | x :: xs, _, ⟨v, r, e, h1, h2, h3, h4⟩ => by
    refine ⟨v, r, e, ?_, h2, h3, VlN.unB h4⟩
    have k1 : ∀ a, Av Bn (p :: Ow) a → Av (orB Bn p) Ow a := fun a z => by
      rcases z with z | z
      · exact .inl (.inl z)
      · rcases List.mem_cons.mp z with z | z
        · exact .inl (.inr z)
        · exact .inr z
    cases x with
    | fz d => exact rep_less k1 h1
    | nw d => obtain ⟨a, e1, m1, o1, n1⟩ := h1; exact ⟨a, e1, List.mem_cons_of_mem _ m1, own_less k1 o1, n1⟩
    | sl i => exact h1
theorem VlN.nin {p : Addr} (h0 : g.ea = none) : ∀ {xs : List RV} {vs : List V}, xs.all nrf = true → VlN g Bn Ow H σ Γ xs vs → Bn p → (∀ a, Bn a → a ∉ Ow) → V.ref p ∉ vs
  | [], _, _, h, _, _ => by have h : _ = [] := h; subst h; simp
  | x :: xs, _, hn, ⟨v, r, e, h1, h2, h3, h4⟩, hp, sp => by
    subst e
    simp only [List.all_cons, Bool.and_eq_true] at hn
    intro z
    rcases List.mem_cons.mp z with z | z
    · subst z
      cases x with
      | fz d => exact Rep.nav h0 hn.1 h1 (.inl hp)
      | nw d => obtain ⟨a, e1, m1, _⟩ := h1; cases e1; exact sp p hp m1
      | sl i => exact h3 i rfl
    · exact VlN.nin h0 hn.2 h4 hp sp z
theorem VlW.unB {p : Addr} : ∀ {xs : List RV} {vs : List V}, VlW g (orB Bn p) Ow H σ Γ xs vs → VlW g Bn (p :: Ow) H σ Γ xs vs
  | [], _, h => h
  | x :: xs, _, ⟨v, r, e, h1, h2, h4⟩ => by
    refine ⟨v, r, e, ?_, h2, VlW.unB h4⟩
    have k1 : ∀ a, Av Bn (p :: Ow) a → Av (orB Bn p) Ow a := fun a z => by
      rcases z with z | z
      · exact .inl (.inl z)
      · rcases List.mem_cons.mp z with z | z
        · exact .inl (.inr z)
        · exact .inr z
    cases x with
    | fz d => exact rep_less k1 h1
    | nw d => obtain ⟨a, e1, m1, o1, n1⟩ := h1; exact ⟨a, e1, List.mem_cons_of_mem _ m1, own_less k1 o1, n1⟩
    | sl i => exact h1
theorem aw_nil : PA X [] (tAw g fs []) := by
  refine PA.weak pa_nil ?_
  rintro σ H Q ⟨Bn, Ow, Γ, xs, Γ', rs, he, hQ⟩
  simp only [evs, Option.some.injEq, Prod.mk.injEq] at he
  obtain ⟨rfl, rfl⟩ := he
  exact hQ [] H Ow (.refl _ _) rs rfl
theorem aw_split {ia : E} {ies : List E} {σ : St} {H : Hp} {Q : List V → Hp → Prop} (h : tAw g fs (ia :: ies) σ H Q) : tR g fs ia σ H fun v H1 => tAw g fs ies σ H1 fun vs H2 => Q (v :: vs) H2 := by
  obtain ⟨Bn, Ow, Γ, xs, Γ', rs, he, hQ⟩ := h
  simp only [evs] at he
  obtain ⟨⟨x, Γ1⟩, e1, he⟩ := Option.bind_eq_some_iff.mp he
  obtain ⟨⟨ys, Γ3⟩, e3, he⟩ := Option.map_eq_some_iff.mp he
  simp only [Prod.mk.injEq] at he
  obtain ⟨rfl, rfl⟩ := he
  refine ⟨Bn, Ow, Γ, x, Γ1, rs, e1, fun v H1 O1 s1 r1 vl => ?_⟩
  cases x with
  | fz d => exact ⟨Bn, O1, Γ1, ys, Γ3, r1, e3, fun vs H3 O3 s3 r3 v3 => hQ (v :: vs) H3 O3 (s1.trans s3) r3 ⟨v, vs, rfl, Val.step (r := .fz d) vl s3 r3, nofun, v3⟩⟩
  | sl i => exact ⟨Bn, O1, Γ1, ys, Γ3, r1, e3, fun vs H3 O3 s3 r3 v3 => hQ (v :: vs) H3 O3 (s1.trans s3) r3 ⟨v, vs, rfl, vl, nofun, v3⟩⟩
  | nw d =>
    obtain ⟨p, rfl, m, ow, no⟩ := vl
    have r2 := r1.ban (d := d) m no
    have nb : ¬ Bn p := fun z => r1.sep p z m
    have np : p ∉ O1.filter (fun x => decide (x ≠ p)) := fun z => (mem_ne z).2 rfl
    have ow2 : OwnA g (Av (orB Bn p) (O1.filter (fun x => decide (x ≠ p)))) H1 d p := own_less (fun a z => by
      rcases z with (z | z) | z
      · exact .inl z
      · rw [z]; exact .inr m
      · exact .inr (mem_ne z).1) ow
    refine ⟨orB Bn p, _, Γ1, ys, Γ3, r2, e3, fun vs H3 O3 s3 r3 v3 => hQ (.ref p :: vs) H3 (p :: O3) (s1.trans ⟨fun a o h t n => s3.keep0 a o h t fun z => n (mem_ne z).1, fun a h => ?_⟩) (r3.unB nb) ⟨.ref p, vs, rfl, ⟨p, rfl, List.mem_cons_self, ?_, fun j e h1 h2 => ?_⟩, fun _ _ j e h1 h2 => ?_, v3.unB⟩⟩
    · rcases List.mem_cons.mp h with h | h
      · rw [h]; exact .inl m
      · rcases s3.grow a h with z | z
        · exact .inl (mem_ne z).1
        · exact .inr z
    · exact own_less (fun a z => by
        rcases z with z | z
        · exact .inl (.inl z)
        · rcases List.mem_cons.mp z with z | z
          · exact .inl (.inr z)
          · exact .inr z) (ow2.step np s3 r3)
    · obtain ⟨b, e2, m2, _⟩ := r3.own j e h1
      rw [h2] at e2; cases e2
      exact r3.sep p (.inr rfl) m2
    · obtain ⟨w, h3, h4⟩ := v3.get h1
      rw [h2] at h3; cases h3
      obtain ⟨b, e4, m4, _⟩ := h4
      cases e4
      exact r3.sep p (.inr rfl) m4
theorem aw_cons {a : Expr} {es : List Expr} {ia : E} {ies : List E} (ha : PE X a (tR g fs ia)) (hr : PA X es (tAw g fs ies)) (hs : starEach (a :: es) X.env = (false, eval a X.env) :: starEach es X.env) : PA X (a :: es) (tAw g fs (ia :: ies)) := 
  PA.weak (pa_cons ha hr hs) fun _ _ _ h => aw_split h
theorem VlN.set {i : Nat} {d : D} {b : Bool} {v : V} (hi : i < Γ.length) (hs : i < σ.length) : ∀ {xs : List RV} {vs : List V}, v ∉ vs ∨ b = false → VlN g Bn Ow H σ Γ xs vs → VlN g Bn Ow H (σ.set i (some v)) (Γ.set i (some (d, b))) xs vs
  | [], _, _, h => h
  | x :: xs, _, n, ⟨w, r, e, h1, h2, h3, h4⟩ => by
    subst e
    refine ⟨w, r, rfl, ?_, h2, h3, VlN.set hi hs (n.imp (fun n z => n (List.mem_cons_of_mem _ z)) id) h4⟩
    cases x with
    | fz d => exact h1
    | nw d =>
      obtain ⟨a, e1, m1, o1, n1⟩ := h1
      refine ⟨a, e1, m1, o1, fun j e q1 q2 => ?_⟩
      by_cases hj : i = j
      · subst hj
        rw [List.getElem?_set_self hi] at q1
        rw [List.getElem?_set_self hs] at q2
        cases q1; cases q2; cases e1
        exact n.elim (fun n => n List.mem_cons_self) nofun
      · rw [List.getElem?_set_ne hj] at q1 q2
        exact n1 j e q1 q2
    | sl i => exact (h3 i rfl).elim
theorem VlN.len : ∀ {xs : List RV} {vs : List V}, VlN g Bn Ow H σ Γ xs vs → xs.length = vs.length
  | [], _, h => by have h : _ = [] := h; subst h; rfl
  | x :: xs, _, ⟨v, r, e, _, _, _, h2⟩ => by subst e; rw [List.length_cons, List.length_cons, h2.len]
end
end DV

namespace DV
open PySem L2
variable {Wx : L2.XK}
theorem Cok.blk {g : Gx} {X : Cx} (C : Cok g X) (s : Shared) (H : Hp) (scope : Scope) (ce : Env) (fp : List Addr) : Cok g (X.blk s H scope ce fp) := ⟨C.K, C.calm, C.hu, C.nd, C.ea⟩
theorem part0 {g : Gx} {fs : List FS} {X : Cx} : Part g fs X none [] := ⟨.inl ⟨rfl, rfl⟩⟩
theorem part1 {g : Gx} {fs : List FS} {X : Cx} {a : Expr} {ia : E} (h : PE X a (tR g fs ia)) : Part g fs X (some a) [ia] := ⟨.inr ⟨a, ia, rfl, rfl, h⟩⟩
section
variable {g : Gx} {Bn : Addr → Prop} {Ow Ow' : List Addr} {H H' : Hp} {σ : St} {Γ Γ' : Ct}
theorem ownPs_mem : ∀ {G : Ct} {n i : Nat}, i ∈ ownPs n G ↔ ∃ j d, i = n + j ∧ G[j]? = some (some (d, true))
  | [], n, i => by simp [ownPs]
  | none :: r, n, i => by
    simp only [ownPs]
    rw [ownPs_mem]
    constructor
    · rintro ⟨j, d, rfl, h⟩; exact ⟨j + 1, d, by omega, by simpa using h⟩
    · rintro ⟨j, d, rfl, h⟩
      cases j with
      | zero => simp at h
      | succ j => exact ⟨j, d, by omega, by simpa using h⟩
  | some (c, false) :: r, n, i => by
    simp only [ownPs]
    rw [ownPs_mem]
    constructor
    · rintro ⟨j, d, rfl, h⟩; exact ⟨j + 1, d, by omega, by simpa using h⟩
    · rintro ⟨j, d, rfl, h⟩
      cases j with
      | zero => simp at h
      | succ j => exact ⟨j, d, by omega, by simpa using h⟩
  | some (c, true) :: r, n, i => by
    simp only [ownPs, List.mem_cons]
    rw [ownPs_mem]
    constructor
    · rintro (rfl | ⟨j, d, rfl, h⟩)
      · exact ⟨0, c, rfl, rfl⟩
      · exact ⟨j + 1, d, by omega, by simpa using h⟩
    · rintro ⟨j, d, rfl, h⟩
      cases j with
      | zero => exact .inl rfl
      | succ j => exact .inr ⟨j, d, by omega, by simpa using h⟩
theorem outsOf_len : ∀ {G G' : Ct}, G.length ≤ G'.length → (outsOf G G').length = G.length
  | [], G', _ => by cases G' <;> simp [outsOf]
  | x :: r, [], h => by simp at h
  | x :: r, y :: s, h => by
    have ih := outsOf_len (G := r) (G' := s) (by simpa using h)
    match x with
    | some (_, true) => simp [outsOf, ih]
    | some (_, false) => simp [outsOf, ih]
    | none => simp [outsOf, ih]
theorem outsOf_get : ∀ {G G' : Ct} {i : Nat} {p : D × Bool}, (outsOf G G')[i]? = some (some p) → (OwS G i ∧ G'[i]? = some (some p)) ∨ (¬ OwS G i ∧ G[i]? = some (some p))
  | [], G', i, p, h => by cases G' <;> simp [outsOf] at h
  | x :: r, [], i, p, h => by match x with
    | some (_, true) => simp [outsOf] at h
    | some (_, false) => simp [outsOf] at h
    | none => simp [outsOf] at h
  | x :: r, y :: s, 0, p, h => by
    match x with
    | some (d, true) => simp [outsOf] at h; exact .inl ⟨⟨d, rfl⟩, by simp [h]⟩
    | some (d, false) => simp [outsOf] at h; exact .inr ⟨by rintro ⟨e, he⟩; simp at he, by simp [h]⟩
    | none => simp [outsOf] at h
  | x :: r, y :: s, i + 1, p, h => by
    have h' : (outsOf r s)[i]? = some (some p) := by
      match x with
      | some (d, true) => simpa [outsOf] using h
      | some (d, false) => simpa [outsOf] using h
      | none => simpa [outsOf] using h
    rcases outsOf_get h' with ⟨⟨e, h1⟩, h2⟩ | ⟨h1, h2⟩
    · exact .inl ⟨⟨e, by simpa using h1⟩, by simpa using h2⟩
    · exact .inr ⟨by rintro ⟨e, he⟩; exact h1 ⟨e, by simpa using he⟩, by simpa using h2⟩
/-- what comes back at the parameters -/
theorem outs_ok {vs : List V} {G0 : Ct} (r0 : RS g Bn Ow H (vs.map some) G0) (st : Stp Ow H Ow' H') (r1 : RS g Bn Ow' H' σ Γ) (hl : G0.length ≤ Γ.length) (pn : ∀ i, OwS G0 i → σ[i]? = (vs.map some)[i]?) : RS g Bn Ow' H' (vs.map some) (outsOf G0 Γ) := by
  refine ⟨by rw [outsOf_len hl]; exact r0.len, fun i d h => ?_, fun i d h => ?_, fun i j d e a h1 h2 h3 h4 => ?_, r1.trl, r1.sep, r1.kf, r1.tabs⟩
  · rcases outsOf_get h with ⟨o, h1⟩ | ⟨_, h1⟩
    · obtain ⟨v, e, r⟩ := r1.slot i d h1
      exact ⟨v, by rw [← pn i o]; exact e, r⟩
    · obtain ⟨v, e, r⟩ := r0.slot i d h1
      exact ⟨v, e, r.step st r1⟩
  · rcases outsOf_get h with ⟨o, h1⟩ | ⟨n, h1⟩
    · obtain ⟨v, e, r⟩ := r1.own i d h1
      exact ⟨v, by rw [← pn i o]; exact e, r⟩
    · exact (n ⟨d, h1⟩).elim
  · rcases outsOf_get h1 with ⟨o1, h1⟩ | ⟨n, h1⟩
    · rcases outsOf_get h2 with ⟨o2, h2⟩ | ⟨n, h2⟩
      · exact r1.dist i j d e a h1 h2 (by rw [pn i o1]; exact h3) (by rw [pn j o2]; exact h4)
      · exact (n ⟨e, h2⟩).elim
    · exact (n ⟨d, h1⟩).elim
theorem RS.start {vs : List V} {G0 : Ct} (k : Nat) (r0 : RS g Bn Ow H (vs.map some) G0) : RS g Bn Ow H (vs.map some ++ List.replicate k none) (G0 ++ List.replicate k none) := by
  have low : ∀ {i : Nat} {p : D × Bool}, (G0 ++ List.replicate k none)[i]? = some (some p) → G0[i]? = some (some p) ∧ (vs.map some ++ List.replicate k none)[i]? = (vs.map some)[i]? := fun {i p} h => by
    rw [List.getElem?_append] at h
    split at h
    · rename_i hi
      refine ⟨h, ?_⟩
      rw [List.getElem?_append_left (by rw [r0.len]; exact hi)]
    · rw [List.getElem?_replicate] at h
      split at h <;> cases h
  refine ⟨by rw [List.length_append, List.length_append, r0.len, List.length_replicate, List.length_replicate], fun i d h => ?_, fun i d h => ?_, fun i j d e a h1 h2 h3 h4 => ?_, r0.trl, r0.sep, r0.kf, r0.tabs⟩
  · obtain ⟨h1, h2⟩ := low h
    rw [h2]
    exact r0.slot i d h1
  · obtain ⟨h1, h2⟩ := low h
    rw [h2]
    exact r0.own i d h1
  · obtain ⟨p1, p2⟩ := low h1
    obtain ⟨q1, q2⟩ := low h2
    exact r0.dist i j d e a p1 q1 (by rw [← p2]; exact h3) (by rw [← q2]; exact h4)
theorem finish_ok {vs : List V} {G0 : Ct} {n : Nat} {o : Out} {r : RV} {os : Ct} {Q : VK} (r0 : RS g Bn Ow H (vs.map some) G0) (hn : G0.length ≤ n) (hf : finish G0.length G0 o = some (r, os))
    (hQ : ∀ v H' Ow', Stp Ow H Ow' H' → RS g Bn Ow' H' (vs.map some) os → Val g Bn Ow' H' (vs.map some) os r v → Q v H') :
    Post g Wx { nx := fun _ H' => Q .non H', rt := Q } (n, (ownPs 0 G0).map fun i => (i, vs.getD i .non)) Bn Ow H o := by
  have pin : ∀ {σ' : St}, Pin (n, (ownPs 0 G0).map fun i => (i, vs.getD i .non)) σ' → ∀ i, OwS G0 i → σ'[i]? = (vs.map some)[i]? := fun {σ'} pn i ⟨d, h⟩ => by
    have := pn.2 (i, vs.getD i .non) (List.mem_map.mpr ⟨i, ownPs_mem.mpr ⟨i, d, by omega, h⟩, rfl⟩)
    have hi : i < vs.length := by
      have h1 := (List.getElem?_eq_some_iff.mp h).1
      have h2 := r0.len
      rw [List.length_map] at h2
      omega
    rw [this, List.getElem?_map, List.getElem?_eq_getElem hi, List.getD_eq_getElem?_getD, List.getElem?_eq_getElem hi]
    rfl
  have len : ∀ {σ' : St} {Γ' : Ct} {Ow' : List Addr} {H' : Hp}, RS g Bn Ow' H' σ' Γ' → Pin (n, (ownPs 0 G0).map fun i => (i, vs.getD i .non)) σ' → G0.length ≤ Γ'.length := fun r pn => by
    rw [← r.len, pn.1]; exact hn
  cases o with
  | bk G => simp only [finish, reduceCtorEq] at hf
  | ct G => simp only [finish, reduceCtorEq] at hf
  | xc c ks ds G => simp only [finish, reduceCtorEq] at hf
  | nx G =>
    simp only [finish, Option.some.injEq, Prod.mk.injEq] at hf
    obtain ⟨rfl, rfl⟩ := hf
    exact fun σ' H' O' s' r' p' => hQ .non H' O' s' (outs_ok r0 s' r' (len r' p') (pin p')) (show Rep g _ _ _ _ by simp only [Rep])
  | rt x G =>
    intro v σ' H' O' s' r' p' vl
    have lo := len r' p'
    cases x with
    | fz d =>
      simp only [finish, Option.some.injEq, Prod.mk.injEq] at hf
      obtain ⟨rfl, rfl⟩ := hf
      exact hQ v H' O' s' (outs_ok r0 s' r' lo (pin p')) vl
    | nw d =>
      simp only [finish, Option.some.injEq, Prod.mk.injEq] at hf
      obtain ⟨rfl, rfl⟩ := hf
      obtain ⟨a, e, m, ow, no⟩ := vl
      refine hQ v H' O' s' (outs_ok r0 s' r' lo (pin p')) ⟨a, e, m, ow, fun j f h1 h2 => ?_⟩
      rcases outsOf_get h1 with ⟨o1, h1⟩ | ⟨n1, h1⟩
      · exact no j f h1 (by rw [pin p' j o1]; exact h2)
      · exact n1 ⟨f, h1⟩
    | sl i =>
      have vl' : σ'[i]? = some (some v) := vl
      simp only [finish] at hf
      split at hf
      · rename_i d q
        split at hf
        · rename_i hi
          simp only [Option.some.injEq, Prod.mk.injEq] at hf
          obtain ⟨rfl, rfl⟩ := hf
          have fe : fre G (.sl i) = some (d, G.set i (some (d, false))) := by simp only [fre, q]
          obtain ⟨O2, s2, r2, p2⟩ := fre_ok r' vl fe
          exact hQ v H' O2 (s'.trans s2) (outs_ok r0 (s'.trans s2) r2 (by rw [List.length_set]; exact lo) (pin p')) p2
        · rename_i hi
          simp only [Option.some.injEq, Prod.mk.injEq] at hf
          obtain ⟨rfl, rfl⟩ := hf
          obtain ⟨a, e, m, ow⟩ := r'.own i d q
          rw [vl'] at e; cases e
          refine hQ _ H' O' s' (outs_ok r0 s' r' lo (pin p')) ⟨a, rfl, m, ow, fun j f h1 h2 => ?_⟩
          rcases outsOf_get h1 with ⟨o1, h1⟩ | ⟨n1, h1⟩
          · have e2 := r'.dist i j _ _ a q h1 vl' (by rw [pin p' j o1]; exact h2)
            subst e2
            obtain ⟨d1, h3⟩ := o1
            exact hi (List.getElem?_eq_some_iff.mp h3).1
          · exact n1 ⟨f, h1⟩
      · rename_i d q
        simp only [Option.some.injEq, Prod.mk.injEq] at hf
        obtain ⟨rfl, rfl⟩ := hf
        obtain ⟨w, e, rp⟩ := r'.slot i d q
        rw [vl'] at e; cases e
        exact hQ v H' O' s' (outs_ok r0 s' r' lo (pin p')) rp
      · cases hf
end
/-- a def that can be called -/
structure Cal (P : Program) (w : World) (mg : Str → Option Value) (base : Heap) (g : Gx) (k : Nat) (x : Str) (n : Nat) (F : FS) : Prop where
  ex : ∃ f fd ps, mg x = some (.ref f) ∧ PySem.W.keepIn g.K (.ref f) = true ∧ Binds g.K fd ps [] ∧ FnOk P w g.K mg base CX0 k f fd ps (spF g n F)
section
variable {P : Program} {w : World} {mg : Str → Option Value} {base : Heap} {g : Gx} {fs : List FS}
theorem Cal.mono {j k : Nat} {x : Str} {n : Nat} {F : FS} (h : Cal P w mg base g j x n F) (l : j ≤ k) : Cal P w mg base g k x n F := by
  obtain ⟨f, fd, ps, h1, h2, h3, h4⟩ := h.ex
  exact ⟨f, fd, ps, h1, h2, h3, h4.mono l⟩
theorem def_fn {x qual : Str} {st : Stmt} {f : Addr} {fd : FuncData} {N ps : List Str} {k np n : Nat} {ir : List S} (F : Fun g.K x qual st f fd) (S : FnScope N ps (defScope st)) (hp : ps.length = np) (hN : N.length = n) (ge : g.ea = none)
    (hbody : ∀ (cdv : Value) (A : Around) (outer : List Env) (s : Shared) (H : Hp) (E : XK), Room k (cxOf CX0 P w g.K mg base N qual (defScope st) f cdv A outer s H E).nox.A → Cok g (cxOf CX0 P w g.K mg base N qual (defScope st) f cdv A outer s H E).nox →
      PSs (cxOf CX0 P w g.K mg base N qual (defScope st) f cdv A outer s H E).nox (defBody st) (tSs g (fun _ _ _ => False) fs ir)) : FnOk P w g.K mg base CX0 (k + 1) f fd ps (spF g np (runF fs np n ir)) := by
  refine F.ok S (fun vs H Q E h => by rw [h.1, hp]) fun cdv A outer s H vs Q E hr h => ?_
  refine ⟨_, hbody cdv A outer s H E hr ⟨rfl, rfl, hr.units, S.nd, ge⟩, ?_⟩
  obtain ⟨hl, Bn, Ow, Γ, r, os, rs, ef, nr, hQ⟩ := h
  have hG : Γ.length = np := by rw [← rs.len, List.length_map, hl]
  have hle : np ≤ n := by
    rw [← hN, ← hp]
    have := congrArg List.length S.pre
    rw [List.length_take] at this
    omega
  simp only [runF, hG, if_true] at ef
  obtain ⟨o, e1, e2⟩ := Option.bind_eq_some_iff.mp ef
  have est : L2.start N vs = vs.map some ++ List.replicate (n - np) none := by rw [← hN, ← hl]; rfl
  refine ⟨(n, (ownPs 0 Γ).map fun i => (i, vs.getD i .non)), Bn, Ow, Γ ++ List.replicate (n - np) none, o, ?_, ⟨?_, fun p hp => ?_⟩, ?_, ?_⟩
  · rw [est]; exact rs.start _
  · rw [est, List.length_append, List.length_map, List.length_replicate, hl]; show np + (n - np) = n; omega
  · obtain ⟨i, hi, rfl⟩ := List.mem_map.mp hp
    obtain ⟨j, d, rfl, h⟩ := ownPs_mem.mp hi
    have hj : j < vs.length := by
      have h1 := (List.getElem?_eq_some_iff.mp h).1
      omega
    rw [est]
    show (vs.map some ++ List.replicate (n - np) none)[0 + j]? = some (some (vs.getD (0 + j) .non))
    rw [Nat.zero_add, List.getElem?_append_left (by rw [List.length_map]; exact hj), List.getElem?_map, List.getElem?_eq_getElem hj, List.getD_eq_getElem?_getD, List.getElem?_eq_getElem hj]
    rfl
  · rw [List.map_map]
    show exs fs ((ownPs 0 Γ).map id) ir _ = some o
    rw [List.map_id]
    exact e1
  · rw [← hG] at e2
    exact finish_ok rs (by omega) e2 hQ
end
section
variable {X : Cx} {g : Gx} {fs : List FS} {e : Expr} {es : List Expr} {ies : List E} {x : Str} {p pos : Pos} {k i n : Nat} {F : FS}
theorem c_call (c : Cal X.prog X.w X.mg X.base g k x n F) (C : Cok0 g X) (hF : fs[i]? = some F) (hn : ies.length = n) (hr : Room k X.A) (hg : Gl X x)
    (ha : PA X (e :: es) (tAw g fs ies)) (hdb : (x == ("__debug__" : Str)) = false) (he : starEach (e :: es) X.env = (false, eval e X.env) :: starEach es X.env) (hpl : (backTo pos (starEach es X.env)).any (·.1) = false) :
    PE X (.Call (.Name x p) (e :: es) [] pos) (tR g fs (.call i ies)) := by
  obtain ⟨f, fd, ps, h1, h2, h3, h4⟩ := c.ex
  rw [← C.K] at h2 h3 h4
  exact p_call hF hn h4 hr hg h1 h2 h3 ha hdb he hpl
end
end DV

namespace DV
open PySem L2
section
variable {X : Cx} {g : Gx} {fs : List FS} {e : Expr} {es : List Expr} {ies : List E} {x : Str} {p pos : Pos}
theorem k_int {i j pos} (C : Cok0 g X) : PE X (.Constant (.int i) j pos) (tR g fs (.cst (.int i))) := p_cst pe_int C.K fun _ _ _ => by simp only [Rep]
theorem k_bl {b j pos} (C : Cok0 g X) : PE X (.Constant (.bool b) j pos) (tR g fs (.cst (.bl b))) := p_cst pe_bl C.K fun _ _ _ => by simp only [Rep]
theorem k_str {b j pos} (C : Cok0 g X) : PE X (.Constant (.str b) j pos) (tR g fs (.cst (.str b))) := p_cst pe_str C.K fun _ _ _ => by simp only [Rep]
/-- a number that the top has written -/
def GInt (mg : Str → Option Value) (x : Str) (n : Int) : Prop := ∃ t, mg x = some (.int n t)
theorem k_gint {n : Int} (C : Cok0 g X) (h : GInt X.mg x n) (hg : Gl X x) (hd : (x == ("__debug__" : Str)) = false) : PE X (.Name x pos) (tR g fs (.cst (.int n))) := by
  obtain ⟨t, h⟩ := h
  exact p_cst (pe_glob (v := .int n) hg h ⟨t, rfl⟩ hd) C.K fun _ _ _ => by simp only [Rep]
theorem k_var (i : Nat) (hN : X.N[i]? = some x) (hv : Vis X.env.scope x) (hd : (x == ("__debug__" : Str)) = false) (hcd : (x == ("__classdict__" : Str)) = false) : PE X (.Name x pos) (tR g fs (.var i)) := p_var (pe_var hN hv hd hcd)
section
variable (C : Cok g X) (ha : PA X (e :: es) (tAs g fs ies)) (he : starEach (e :: es) X.env = (false, eval e X.env) :: starEach es X.env) (hpl : (backTo pos (starEach es X.env)).any (·.1) = false)
include C ha he hpl
theorem k_len (hm : X.mg "len" = none) (hg : Gl X "len") : PE X (.Call (.Name "len" p) (e :: es) [] pos) (tR g fs (.bi .len ies)) := p_biB (b_len C.K) hg hm (by decide +kernel) ha (by decide) (by decide) he hpl
theorem k_minl (hm : X.mg "min" = none) (hg : Gl X "min") : PE X (.Call (.Name "min" p) (e :: es) [] pos) (tR g fs (.bi .minl ies)) := p_biB (b_minl C) hg hm PyProof.Rows.boot_min ha (by decide) (by decide) he hpl
theorem k_int1 (hm : X.mg "int" = none) (hg : Gl X "int") : PE X (.Call (.Name "int" p) (e :: es) [] pos) (tR g fs (.bi .int1 ies)) := p_biT (b_int C.K) hg hm PyProof.Rows.boot_int ha (by decide) (by decide) he hpl
theorem k_list (hm : X.mg "list" = none) (hg : Gl X "list") : PE X (.Call (.Name "list" p) (e :: es) [] pos) (tR g fs (.bi .list ies)) := p_biT (b_list C.K) hg hm PyProof.Rows.boot_list ha (by decide) (by decide) he hpl
end
theorem ty_int {p2 : Pos} (hm : X.mg "int" = none) (hg : Gl X "int") : PE X (.Name "int" p2) (tC (.ty (tyN .int))) := pe_bltn hg hm PyProof.Rows.boot_int rfl
theorem ty_bool {p2 : Pos} (hm : X.mg "bool" = none) (hg : Gl X "bool") : PE X (.Name "bool" p2) (tC (.ty (tyN .bool))) := pe_bltn hg hm PyProof.Rows.boot_bool rfl
theorem ty_list {p2 : Pos} (hm : X.mg "list" = none) (hg : Gl X "list") : PE X (.Name "list" p2) (tC (.ty (tyN .list))) := pe_bltn hg hm PyProof.Rows.boot_list rfl
theorem ty_tuple {p2 : Pos} (hm : X.mg "tuple" = none) (hg : Gl X "tuple") : PE X (.Name "tuple" p2) (tC (.ty (tyN .tuple))) := pe_bltn hg hm PyProof.Rows.boot_tuple rfl
theorem tg_nm {i : Nat} (h : PG X e (gName i)) : PG X e (tgT g.K (.nm i)) := by simp only [tgT]; exact h
theorem tgs_nil : PGs X [] (tgT.tgTs g.K []) := by simp only [tgT.tgTs]; exact pgs_nil
theorem tgs_cons {t : Tg} {ts : List Tg} (h1 : PG X e (tgT g.K t)) (h2 : PGs X es (tgT.tgTs g.K ts)) (hs : (assignEach (e :: es) X.env).map (·.2) = assign e X.env :: (assignEach es X.env).map (·.2)) : PGs X (e :: es) (tgT.tgTs g.K (t :: ts)) := by
  simp only [tgT.tgTs]
  exact pgs_cons h1 h2 hs
theorem tgp {ts : List Tg} {k : Nat} (C : Cok g X) (h : PGs X es (tgT.tgTs g.K ts)) (hn : (assignEach es X.env).length = ts.length) (hst : (assignEach es X.env).findIdx? (·.1) = none) : PG X (.Tuple es k pos) (tgT g.K (.tp ts)) := by
  have := pg_tup (pos := pos) (k := k) C.calm h hn hst
  rw [C.K] at this
  simp only [tgT]
  exact this
end
end DV

namespace DV
open PySem L2
mutual
theorem eqd_refl : ∀ (d : D) (n : Nat), okB n d = true → eqd d d = true
  | .non, _, _ => by simp [eqd]
  | .bl _, _, _ => by simp [eqd]
  | .int _, _, _ => by simp [eqd]
  | .str _, _, _ => by simp [eqd]
  | .lst ds, n, h => by
    obtain ⟨m, rfl, h⟩ := okB_lst h
    simp only [eqd]
    exact eqds_refl ds m h
  | .tup ds, n, h => by
    obtain ⟨m, rfl, h⟩ := okB_tup h
    simp only [eqd]
    exact eqds_refl ds m h
  | .obj _ _ _, n, h => by rw [okB_obj] at h; cases h
  | .scr _, n, h => by rw [okB_scr] at h; cases h
  | .dct, n, h => by rw [okB_dct] at h; cases h
  | .dic _ _, n, h => by rw [okB_dic] at h; cases h
  | .exc _ _ _, n, h => by rw [okB_exc] at h; cases h
  | .err _ _ _, n, h => by rw [okB_err] at h; cases h
  | .ref _, n, h => by rw [okB_ref] at h; cases h
theorem eqds_refl : ∀ (ds : List D) (n : Nat), ds.all (okB n) = true → eqds ds ds = true
  | [], _, _ => by simp [eqds]
  | d :: ds, n, h => by
    simp only [List.all_cons, Bool.and_eq_true] at h
    simp only [eqds, Bool.and_eq_true]
    exact ⟨eqd_refl d n h.1, eqds_refl ds n h.2⟩
end
theorem cmp_ne_self {d : D} (h : okB 12 d = true) : cmpD .ne d d = some false := by simp only [cmpD, h, eqd_refl d 12 h, Bool.and_self, if_true, Bool.not_true]
theorem forLoop_step {tg : Tg} {body : Ct → Option Out} {d : D} {ds : List D} {Γ Γ1 Γ2 : Ct} (h1 : asgT tg d Γ = some Γ1) (h2 : body Γ1 = some (.nx Γ2)) : forLoop tg body (d :: ds) Γ = forLoop tg body ds Γ2 := by
  simp only [forLoop, h1, h2, Option.bind_some]
theorem exs_nx {fs : List FS} {pn : List Nat} {s : S} {ss : List S} {Γ Γ1 : Ct} (h : ex fs pn s Γ = some (.nx Γ1)) : exs fs pn (s :: ss) Γ = exs fs pn ss Γ1 := by
  simp only [exs, h, Option.bind_some]
theorem runF_by {fs : List FS} {np n : Nat} {body : List S} {G0 : Ct} {o : Out} {r : RV × Ct} (hl : G0.length = np) (e : exs fs (ownPs 0 G0) body (G0 ++ List.replicate (n - np) none) = some o) (f : DV.finish np G0 o = some r) : runF fs np n body G0 = some r := by
  simp only [runF, hl, if_true, e, Option.bind_some, f]
theorem ex_for {fs : List FS} {pn : List Nat} {tg : Tg} {ik : IK} {its : List E} {b : List S} {Γ Γ2 : Ct} {ds : List D} {o : Out} (h1 : ((evs fs its Γ).bind fun p => iterD ik p.1 p.2) = some (ds, Γ2)) (h3 : disjB (tgIx tg) pn = true) (h4 : forLoop tg (exs fs pn b) ds Γ2 = some o) : ex fs pn (.for_ tg ik its b) Γ = some o := by
  obtain ⟨⟨xs, Γ1⟩, e1, e2⟩ := Option.bind_eq_some_iff.mp h1
  simp only [ex, e1, e2, Option.bind_some, h3, if_true, h4]
/-- a while's test -/
def tst (fs : List FS) (c : E) (Γ : Ct) : Option (Bool × Ct) := (ev fs c Γ).bind fun (x, Γ1) => (testD Γ1 x).map fun t => (t, Γ1)
/-- a range's turns -/
@[irreducible] def rngO (Γ : Ct) (ds : List D) : Option (List D × Ct) := iterD .rng (ds.map .fz) Γ
theorem datums_fz (Γ : Ct) : ∀ ds : List D, datums Γ (ds.map .fz) = some ds
  | [] => rfl
  | d :: ds => by simp only [List.map_cons, datums, datum, datums_fz Γ ds, Option.bind_some, Option.map_some]
theorem it_rng (xs : List RV) (Γ : Ct) : iterD .rng xs Γ = (datums Γ xs).bind (rngO Γ) := by
  cases e : datums Γ xs with
  | none => simp only [iterD, e, Option.bind_none]
  | some ds => simp only [iterD, e, Option.bind_some, rngO, datums_fz]
theorem in62_int {n : Int} (h0 : -1000000000 < n) (h : n < 1000000000) : in62 n = true := by
  unfold in62
  refine decide_eq_true ?_
  by_cases z : n.natAbs = 0
  · rw [z]
    decide
  · rw [Nat.log2_lt z]
    omega
theorem in62_nat {n : Nat} (h : n < 1000000000) : in62 (n : Int) = true := in62_int (by omega) (by omega)
theorem rngO1 (Γ : Ct) (b : Int) (h : in62 b = true) : rngO Γ [.int b] = some (rngD 0 1 b.toNat, Γ) := by
  unfold rngO
  simp only [iterD, datums_fz, Option.bind_some]
  rw [if_pos h]
theorem rngN1 (Γ : Ct) (n : Nat) (h : n < 1000000000) : rngO Γ [.int (n : Int)] = some (rngD 0 1 n, Γ) := by
  rw [rngO1 Γ _ (in62_nat h), Int.toNat_natCast]
theorem mulOk_l {i j : Int} (h1 : -(2 ^ 64) < i) (h2 : i < 2 ^ 64) : mulOk i j = true := by simp only [mulOk, h1, h2, and_self, decide_true, Bool.true_or]
theorem mulOk_r {i j : Int} (h1 : -(2 ^ 64) < j) (h2 : j < 2 ^ 64) : mulOk i j = true := by simp only [mulOk, h1, h2, and_self, decide_true, Bool.true_or, Bool.or_true]
end DV

namespace DV
open PySem L2
variable {Wx : L2.XK}
def plainTy : List String := ["NoneType", "bool", "int", "str", "list", "tuple"]
/-- a class of the text -/
structure ClsX (g : Gx) (c : Nat) : Prop where
  cl : Cls g.K (g.cl c)
  ha : PySem.W.findIn g.K (.ref (g.cl c)) "__class__" = some (some (.builtin "object.__class__"))
  hn : PySem.W.specialIn g.K (.builtin "object.__class__") "__get__" = some (some (.builtin "getset_descriptor.__get__"))
  htk : PySem.W.takesIn g.K (.builtin "object.__class__") = some true
  hm : PySem.W.mroIn g.K (g.cl c) (.type "object") = some true
  nf : ∀ t ∈ plainTy, PySem.W.subIn g.K (.type t) (.ref (g.cl c)) = some false
theorem ClsX.ty {g : Gx} {c : Nat} (x : ClsX g c) {H : Hp} {a dx : Addr} {fl : List (Str × V)} (e : H a = some (.ins (g.cl c) dx fl)) : TyX g.K H (.ref a) (.ref (g.cl c)) := .base (.ins e x.cl x.ha x.hn x.htk x.hm)
section
variable {g : Gx} {A : Addr → Prop} {H : Hp}
theorem fldL_ok {nm : Str} : ∀ {ks : List Str} {ds : List D} {vs : List V} {d : D}, ks.length = vs.length → Reps g A H ds vs → fldL nm ks ds = some d → ∃ v, (ks.zip vs).lookup nm = some v ∧ Rep g A H d v
  | [], ds, vs, d, _, _, h => by simp only [fldL, reduceCtorEq] at h
  | k :: ks, [], vs, d, _, _, h => by simp only [fldL, reduceCtorEq] at h
  | k :: ks, e :: ds, vs, d, l, r, h => by
    simp only [Reps] at r
    obtain ⟨v, w, rfl, r1, r2⟩ := r
    simp only [fldL] at h
    rw [List.zip_cons_cons, List.lookup_cons]
    split at h
    · rename_i q
      subst q
      cases h
      exact ⟨v, by simp, r1⟩
    · rename_i q
      obtain ⟨u, h1, h2⟩ := fldL_ok (by simpa using l) r2 h
      have : (nm == k) = false := by simpa using q
      exact ⟨u, by simp only [this]; exact h1, h2⟩
theorem putL_ok {nm : Str} {d : D} {v : V} (rd : Rep g A H d v) : ∀ {ks : List Str} {ds : List D} {vs : List V}, ks.length = vs.length → ks.length = ds.length → Reps g A H ds vs → ∃ ws, (putL nm d ks ds).1.zip ws = putF nm v (ks.zip vs) ∧ (putL nm d ks ds).1.length = ws.length ∧ Reps g A H (putL nm d ks ds).2 ws
  | [], ds, vs, _, l2, r => by
    cases ds with
    | nil => exact ⟨[v], rfl, rfl, Reps.one rd⟩
    | cons => simp at l2
  | k :: ks, [], vs, _, l2, _ => by simp at l2
  | k :: ks, e :: ds, vs, l, l2, r => by
    simp only [Reps] at r
    obtain ⟨u, w, rfl, r1, r2⟩ := r
    simp only [putL, List.zip_cons_cons, putF]
    split
    · exact ⟨v :: w, rfl, by simpa using l, by simp only [Reps]; exact ⟨v, w, rfl, rd, r2⟩⟩
    · obtain ⟨ws, h1, h2, h3⟩ := putL_ok rd (by simpa using l) (by simpa using l2) r2
      exact ⟨u :: ws, by rw [List.zip_cons_cons, h1], by simpa using h2, by simp only [Reps]; exact ⟨u, ws, rfl, r1, h3⟩⟩
end
section
variable {X : Cx} {g : Gx} {fs : List FS} {a : Expr} {ia : E} {nm : Str} {pos : Pos}
theorem p_fld {cs : List Nat} (C : Cok0 g X) (ha : PE X a (tR g fs ia)) (hc : ∀ c ∈ cs, Cls g.K (g.cl c) ∧ NoAttr g.K (g.cl c) nm) (hb : attributeBase a nm X.env (eval a X.env) = eval a X.env) : PE X (.Attribute a nm pos) (tR g fs (.fld cs ia nm)) := by
  refine PE.weak (pe_fld ha hb) ?_
  rintro σ H Q ⟨Bn, Ow, Γ, r, Γ', rs, he, hQ⟩
  simp only [ev] at he
  obtain ⟨⟨x, Γ1⟩, e1, he⟩ := Option.bind_eq_some_iff.mp he
  obtain ⟨d, e2, he⟩ := Option.bind_eq_some_iff.mp he
  obtain ⟨d', e3, he⟩ := Option.map_eq_some_iff.mp he
  simp only [Prod.mk.injEq] at he
  obtain ⟨rfl, rfl⟩ := he
  refine ⟨Bn, Ow, Γ, x, Γ1, rs, e1, fun v H1 O1 s1 r1 v1 => ?_⟩
  have rd := v1.rdb r1 e2
  cases d <;> simp only [fldD, reduceCtorEq] at e3
  rename_i c ks ds
  simp only [Option.ite_none_right_eq_some, List.contains_eq_mem, decide_eq_true_eq] at e3
  obtain ⟨hm, e3⟩ := e3
  obtain ⟨p, dx, vs, rfl, l, hp, rp⟩ := rd
  obtain ⟨v, h1, h2⟩ := fldL_ok l rp e3
  rw [C.K]
  exact ⟨p, g.cl c, dx, _, v, rfl, hp, (hc c hm).1, (hc c hm).2, h1, hQ v H1 O1 s1 r1 h2⟩
/-- an owned object is rewritten -/
theorem RS.mutO {Bn : Addr → Prop} {Ow : List Addr} {H : Hp} {σ : St} {Γ : Ct} {i : Nat} {c : Nat} {d0 : D} {p dx : Addr} {ks : List Str} {ds : List D} {ws : List V} (rs : RS g Bn Ow H σ Γ) (hi : Γ[i]? = some (some (d0, true))) (hs : σ[i]? = some (some (.ref p))) (l : ks.length = ws.length) (r : Reps g (Av Bn Ow) H ds ws) :
    RS g Bn Ow (upd H p (.ins (g.cl c) dx (ks.zip ws))) σ (Γ.set i (some (.obj c ks ds, true))) ∧ Stp Ow H Ow (upd H p (.ins (g.cl c) dx (ks.zip ws))) := by
  have hil : i < Γ.length := (List.getElem?_eq_some_iff.mp hi).1
  obtain ⟨b, e1, m, _⟩ := rs.own i _ hi
  rw [hs] at e1; cases e1
  have vs := ban_vst (g := g) (H := H) (o := .ins (g.cl c) dx (ks.zip ws)) (A := Av Bn Ow) (p := p) (.inr m)
  refine ⟨⟨by rw [List.length_set]; exact rs.len, fun j e h => ?_, fun j e h => ?_, fun j k e f b h1 h2 h3 h4 => ?_, fun b h => ?_, rs.sep, rs.kf, rs.tabs.upd (rs.trl p (.inr m))⟩, ⟨fun b o h _ n => ?_, fun _ h => .inl h⟩⟩
  · have hj : i ≠ j := fun z => by subst z; rw [List.getElem?_set_self hil] at h; cases h
    rw [List.getElem?_set_ne hj] at h
    obtain ⟨v, e1, r1⟩ := rs.slot j e h
    exact ⟨v, e1, rep_mono vs _ _ r1⟩
  · by_cases hj : i = j
    · subst hj
      rw [List.getElem?_set_self hil] at h; cases h
      exact ⟨p, hs, m, dx, ws, l, upd_same, reps_mono vs _ _ r⟩
    · rw [List.getElem?_set_ne hj] at h
      obtain ⟨b, e1, m1, o1⟩ := rs.own j e h
      have nb : b ≠ p := fun z => hj (by subst z; exact rs.dist i j _ _ _ hi h hs e1)
      refine ⟨b, e1, m1, ?_⟩
      cases e with
      | lst es => obtain ⟨us, e2, r2⟩ := o1; exact ⟨us, by rw [upd_ne nb]; exact e2, reps_mono vs _ _ r2⟩
      | obj c ks es => obtain ⟨dx, us, l, e2, r2⟩ := o1; exact ⟨dx, us, l, by rw [upd_ne nb]; exact e2, reps_mono vs _ _ r2⟩
      | _ => exact o1
  · have ex : ∀ (j : Nat) e, (Γ.set i (some (.obj c ks ds, true)))[j]? = some (some (e, true)) → ∃ e', Γ[j]? = some (some (e', true)) := fun j e h => by
      by_cases hj : i = j
      · subst hj; exact ⟨_, hi⟩
      · rw [List.getElem?_set_ne hj] at h; exact ⟨_, h⟩
    obtain ⟨e', h1⟩ := ex j e h1
    obtain ⟨f', h2⟩ := ex k f h2
    exact rs.dist j k _ _ _ h1 h2 h3 h4
  · exact (rs.trl b h).upd fun _ => .inr ⟨_, _, _, upd_same⟩
  · have z : b ≠ p := fun z => n (by rw [z]; exact m)
    rw [upd_ne z]; exact h
theorem s_setf {c i : Nat} {o e : Expr} {ie : E} {tpos : Pos} (C : Cok0 g X) (ho : PE X o (tVar i)) (he : PE X e (tR g fs ie)) (hc : Cls g.K (g.cl c) ∧ NoAttr g.K (g.cl c) nm) (hs : swapsWith e (some (.Attribute o nm tpos)) pos.line X.env = pure false) :
    PS X (.Assign [.Attribute o nm tpos] e pos) (tSt g Wx fs (.setf c i nm ie)) := by
  refine PS.weak (ps_fld ho he hs) ?_
  rintro Dn σ H ⟨pv, Bn, Ow, Γ, o, rs, pn, he, po⟩
  simp only [ex] at he
  obtain ⟨⟨x, Γ1⟩, e1, he⟩ := Option.bind_eq_some_iff.mp he
  obtain ⟨⟨d, Γ2⟩, e2, he⟩ := Option.bind_eq_some_iff.mp he
  refine ⟨Bn, Ow, Γ, x, Γ1, rs, e1, fun v H1 O1 s1 r1 vl => ?_⟩
  obtain ⟨O2, s2, r2, p2⟩ := fre_ok r1 vl e2
  split at he
  · rename_i c0 q
    obtain ⟨c', e3, rfl⟩ := Option.map_eq_some_iff.mp he
    obtain ⟨p, ea, m, ow⟩ := r2.own i _ q
    cases c0 <;> simp only [putD, reduceCtorEq] at e3
    rename_i c1 ks ds
    simp only [Option.ite_none_right_eq_some, Option.some.injEq] at e3
    obtain ⟨⟨rfl, hz, hl⟩, rfl⟩ := e3
    obtain ⟨dx, vs, l, hp, rp⟩ := ow
    obtain ⟨ws, h1, h2, h3⟩ := putL_ok (nm := nm) p2 l hl rp
    have key := r2.mutO (c := c1) (dx := dx) q ea h2 h3
    rw [h1] at key
    rw [C.K]
    exact ⟨_, ea, p, g.cl c1, dx, ks.zip vs, rfl, hp, hc.1, hc.2, by rw [List.length_zip]; omega, po _ _ O2 ((s1.trans s2).trans key.2) key.1 pn⟩
  · cases he
/-! ### calls, by what they do -/
theorem callD_core {F : FS} {xs : List RV} {vs : List V} {Bn : Addr → Prop} {Ow : List Addr} {H : Hp} {σ : St} {Γ Γ' : Ct} {r : RV} {n : Nat} {Q : VK} {E : XK} (rs : RS g Bn Ow H σ Γ) (hv : VlW g Bn Ow H σ Γ xs vs) (he : callD F xs Γ = some (r, Γ')) (hn : vs.length = n)
    (hQ : ∀ v H' Ow', Stp Ow H Ow' H' → RS g Bn Ow' H' σ Γ' → Val g Bn Ow' H' σ Γ' r v → Q v H') : spF g n F vs H Q E := by
  simp only [callD] at he
  obtain ⟨as, e3, he⟩ := Option.bind_eq_some_iff.mp he
  simp only [Option.ite_none_right_eq_some] at he
  obtain ⟨nd, he⟩ := he
  obtain ⟨⟨r', os⟩, e4, he⟩ := Option.bind_eq_some_iff.mp he
  cases r' with
  | sl i => cases he
  | fz d =>
    simp only [Option.some.injEq, Prod.mk.injEq] at he
    obtain ⟨rfl, rfl⟩ := he
    exact call_core rs hv e3 nd e4 (fun i z => nomatch z) hn fun v H' O2 s2 r2 val _ => hQ v H' O2 s2 r2 val
  | nw d =>
    simp only [Option.some.injEq, Prod.mk.injEq] at he
    obtain ⟨rfl, rfl⟩ := he
    exact call_core rs hv e3 nd e4 (fun i z => nomatch z) hn fun v H' O2 s2 r2 val _ => hQ v H' O2 s2 r2 val
/-- a method of the class c -/
structure Mtd (P : Program) (w : World) (mg : Str → Option Value) (base : Heap) (g : Gx) (k : Nat) (c : Nat) (x : Str) (n : Nat) (F : FS) : Prop where
  ex : ∃ f fd ps, Cls g.K (g.cl c) ∧ Meth g.K (g.cl c) x f ∧ Binds g.K fd ps [] ∧ FnOk P w g.K mg base CX0 k f fd ps (spF g n F)
theorem Mtd.mono {P : Program} {w : World} {mg : Str → Option Value} {base : Heap} {j k c : Nat} {x : Str} {n : Nat} {F : FS} (h : Mtd P w mg base g j c x n F) (l : j ≤ k) : Mtd P w mg base g k c x n F := by
  obtain ⟨f, fd, ps, h1, h2, h3, h4⟩ := h.ex
  exact ⟨f, fd, ps, h1, h2, h3, h4.mono l⟩
section
variable {o e : Expr} {es : List Expr} {io : E} {ies : List E} {c k i n : Nat} {F : FS} {m : Str} {apos : Pos}
end
/-! ### a new object -/
theorem FnOk.kf {P : Program} {w : World} {K : PySem.W.Frag} {mg : Str → Option Value} {base : Heap} {CX : CXT} {k : Nat} {f : Addr} {fd : FuncData} {ps : List Str} {sp : Sp} (F : FnOk P w K mg base CX k f fd ps sp) :
    FnOk P w K mg base CX k f fd ps (fun vs H Q E => vs.length = ps.length ∧ (kfs K H → sp vs H Q E)) :=
  ⟨fun vs H Q E q => q.1, fun A outer s H args us vs Q E hr he hb hv hs => F.run A outer s H args us vs Q E hr he hb hv (hs.2 fun a o l => (he.bs a o (he.mod.kin a o l)).2)⟩
structure Mkd (P : Program) (w : World) (mg : Str → Option Value) (base : Heap) (g : Gx) (k : Nat) (c : Nat) (x : Str) (n : Nat) (F : FS) : Prop where
  ex : ∃ f fd ps, mg x = some (.ref (g.cl c)) ∧ Mk g.K (g.cl c) f ∧ Binds g.K fd ps [] ∧ ps.length = n + 1 ∧ FnOk P w g.K mg base CX0 k f fd ps (spF g (n + 1) F)
theorem Mkd.mono {P : Program} {w : World} {mg : Str → Option Value} {base : Heap} {j k c : Nat} {x : Str} {n : Nat} {F : FS} (h : Mkd P w mg base g j c x n F) (l : j ≤ k) : Mkd P w mg base g k c x n F := by
  obtain ⟨f, fd, ps, h1, h2, h3, h5, h4⟩ := h.ex
  exact ⟨f, fd, ps, h1, h2, h3, h5, h4.mono l⟩
theorem mkD_core {c n np : Nat} {F : FS} {ys : List RV} {vs : List V} {Bn : Addr → Prop} {O1 : List Addr} {H1 : Hp} {σ : St} {Γ1 Γ' : Ct} {r : RV} {Q : VK} {Ex : XK} (r1 : RS g Bn O1 H1 σ Γ1) (v1 : VlW g Bn O1 H1 σ Γ1 ys vs) (he : mkD F c ys Γ1 = some (r, Γ')) (hl : vs.length = n) (hp : np = n + 1)
    (hQ : ∀ v H' Ow', Stp O1 H1 Ow' H' → RS g Bn Ow' H' σ Γ' → Val g Bn Ow' H' σ Γ' r v → Q v H') : ∀ x dx, H1 x = none → H1 dx = none → dx ≠ x →
    (V.ref x :: vs).length = np ∧ (kfs g.K (upd (upd H1 dx (.own x)) x (.ins (g.cl c) dx [])) → spF g (n + 1) F (V.ref x :: vs) (upd (upd H1 dx (.own x)) x (.ins (g.cl c) dx [])) (fun v H2 => v = .non ∧ Q (.ref x) H2) Ex) := by
  simp only [mkD] at he
  obtain ⟨as, e2, he⟩ := Option.bind_eq_some_iff.mp he
  simp only [Option.ite_none_right_eq_some] at he
  obtain ⟨nd, he⟩ := he
  obtain ⟨⟨r', os⟩, e3, he⟩ := Option.bind_eq_some_iff.mp he
  intro p dx np0 ndx ne
  refine ⟨by rw [List.length_cons, hl, hp], fun kf => ?_⟩
  have sm : Same H1 (upd (upd H1 dx (.own p)) p (.ins (g.cl c) dx [])) := fun b x e => by
    rw [upd_ne (ne_of_none e np0), upd_ne (ne_of_none e ndx)]; exact e
  have hp' : (upd (upd H1 dx (.own p)) p (.ins (g.cl c) dx [])) p = some (.ins (g.cl c) dx []) := upd_same
  have hk : g.K.lookup p = none := kf_new kf hp'
  have r2 := r1.add sm np0 (.inr ⟨_, _, _, hp'⟩) hk
  have st2 : Stp O1 H1 (p :: O1) _ := stp_add sm np0
  have nin : ∀ (j : Nat) (e : D), Γ1[j]? = some (some (e, true)) → σ[j]? ≠ some (some (.ref p)) := fun j e h1 h2 => by
    obtain ⟨b, e5, m5, _⟩ := r1.own j e h1
    rw [h2] at e5; cases e5
    exact r1.trk p (.inr m5) np0
  have vw : ∀ {xs : List RV} {ws : List V}, VlW g Bn O1 H1 σ Γ1 xs ws → VlW g Bn (p :: O1) (upd (upd H1 dx (.own p)) p (.ins (g.cl c) dx [])) σ Γ1 xs ws ∧ ∀ (j : Nat) (e : D), xs[j]? = some (.nw e) → ws[j]? ≠ some (.ref p) := by
    intro xs
    induction xs with
    | nil => intro ws h; exact ⟨h, fun j e h => by simp at h⟩
    | cons x xs ih =>
      rintro ws ⟨v, w, rfl, q1, q2, q3⟩
      obtain ⟨i1, i2⟩ := ih q3
      have kstep := step_vst (g := g) (Bn := Bn) st2 fun a h => r2.kf a (.inr h)
      refine ⟨⟨v, w, rfl, ?_, q2, i1⟩, fun j e h => ?_⟩
      · cases x with
        | fz d => exact rep_mono kstep _ _ q1
        | sl j => exact q1
        | nw d =>
          obtain ⟨b, rfl, m, ow, no⟩ := q1
          refine ⟨b, rfl, List.mem_cons_of_mem _ m, ?_, no⟩
          cases d with
          | lst ds => obtain ⟨us, f1, f2⟩ := ow; exact ⟨us, sm _ _ f1, reps_mono kstep _ _ f2⟩
          | obj c ks ds => obtain ⟨dx, us, l, f1, f2⟩ := ow; exact ⟨dx, us, l, sm _ _ f1, reps_mono kstep _ _ f2⟩
          | _ => exact ow
      · cases j with
        | zero =>
          simp at h
          subst h
          obtain ⟨b, rfl, m, _⟩ := q1
          intro z
          simp at z
          subst z
          exact r1.trk b (.inr m) np0
        | succ j => exact i2 j e (by simpa using h)
  obtain ⟨v2, n2⟩ := vw v1
  have v3 : VlW g Bn (p :: O1) (upd (upd H1 dx (.own p)) p (.ins (g.cl c) dx [])) σ Γ1 (.nw (.obj c [] []) :: ys) (.ref p :: vs) :=
    ⟨_, vs, rfl, ⟨p, rfl, List.mem_cons_self, ⟨dx, [], rfl, hp', by simp only [Reps]⟩, nin⟩, fun _ _ j e h1 => n2 j e h1, v2⟩
  have ea : argSs Γ1 (.nw (.obj c [] []) :: ys) = some ((.obj c [] [], true) :: as) := by simp only [argSs, argS, Option.bind_some, e2, Option.map_some]
  have nd2 : nodupB (ownIx Γ1 (.nw (.obj c [] []) :: ys)) = true := by simpa only [ownIx] using nd
  match r', os, he, e3 with
  | .fz .non, some (.obj c' ks ds, true) :: os', he, e3 =>
    simp only [Option.some.injEq, Prod.mk.injEq] at he
    obtain ⟨rfl, rfl⟩ := he
    refine call_core r2 v3 ea nd2 (by simpa using e3) (fun i z => by cases z) (by rw [List.length_cons, hl]) fun v H' O2 s2 r3 val nws => ⟨by simpa only [Val, Rep] using val, ?_⟩
    have w1 := nws 0 _ _ p rfl rfl rfl
    exact hQ _ H' O2 (st2.trans s2) (by simpa only [putOuts] using r3) (by simpa only [putOuts] using w1)
section
variable {e : Expr} {es : List Expr} {ies : List E} {c k i n : Nat} {F : FS} {x : Str} {p : Pos}
end
end
end DV

namespace DV
open PySem L2
section
variable {X : Cx} {g : Gx} {k : Nat} {f C : Addr} {fd : FuncData} {ps : List Str} {sp : Sp}
end
end DV

namespace DV
open PySem L2
section
variable {X : Cx} {g : Gx} {k : Nat} {f C : Addr} {fd : FuncData} {ps : List Str} {sp : Sp}
end
end DV

namespace DV
open PySem L2
section
variable {X : Cx} {g : Gx} {fs : List FS} {a b : Expr} {ia ib : E} {pos : Pos} {c k i : Nat} {F : FS}
section
variable {op : COp} {o : OOp} {p : Bool → Bool}
end
end
end DV

namespace DV
open PySem L2
section
variable {X : Cx} {g : Gx} {k : Nat} {f C : Addr} {fd : FuncData} {ps : List Str} {sp : Sp}
/-! ### o + p -/
/-! ### o[i] -/
/-! ### len(o) -/
end
section
variable {X : Cx} {g : Gx} {fs : List FS} {a b : Expr} {ia ib : E} {pos : Pos} {c k i : Nat} {F : FS}
end
end DV

namespace DV
open PySem L2
section
variable {g : Gx} {Bn : Addr → Prop} {Ow : List Addr} {H : Hp} {σ : St} {Γ : Ct}
theorem VlW.of : ∀ {xs : List RV} {vs : List V}, xs.length = vs.length → (∀ (i : Nat) x, xs[i]? = some x → ∃ v, vs[i]? = some v ∧ Val g Bn Ow H σ Γ x v) → (∀ (i k : Nat) d e v, xs[i]? = some (.nw d) → xs[k]? = some (.nw e) → vs[i]? = some v → vs[k]? = some v → i = k) → VlW g Bn Ow H σ Γ xs vs
  | [], vs, l, _, _ => by
    have : vs = [] := List.length_eq_zero_iff.mp l.symm
    exact this
  | x :: xs, [], l, _, _ => by simp at l
  | x :: xs, v :: vs, l, h, u => by
    refine ⟨v, vs, rfl, ?_, ?_, VlW.of (by simpa using l) (fun i y e => ?_) fun i k d e w h1 h2 h3 h4 => ?_⟩
    · obtain ⟨w, e1, e2⟩ := h 0 x rfl
      simp at e1; subst e1
      exact e2
    · intro d e j e' h1 h2
      have := u 0 (j + 1) d e' v (by simp [e]) (by simpa using h1) rfl (by simpa using h2)
      omega
    · obtain ⟨w, e1, e2⟩ := h (i + 1) y (by simpa using e)
      exact ⟨w, by simpa using e1, e2⟩
    · have := u (i + 1) (k + 1) d e w (by simpa using h1) (by simpa using h2) (by simpa using h3) (by simpa using h4)
      omega
theorem permL_get {α : Type} : ∀ {p : List Nat} {xs : List α}, (∀ i ∈ p, i < xs.length) → ∀ j : Nat, (permL p xs)[j]? = (p[j]?).bind fun i => xs[i]?
  | [], xs, _, j => by simp [permL]
  | i :: p, xs, h, j => by
    have hi := h i List.mem_cons_self
    have e : permL (i :: p) xs = xs[i] :: permL p xs := by simp [permL, List.getElem?_eq_getElem hi]
    rw [e]
    cases j with
    | zero => simp [List.getElem?_eq_getElem hi]
    | succ j => simpa using permL_get (fun k hk => h k (List.mem_cons_of_mem _ hk)) j
theorem permL_len {α : Type} {p : List Nat} {xs : List α} (h : ∀ i ∈ p, i < xs.length) : (permL p xs).length = p.length := by
  induction p with
  | nil => simp [permL]
  | cons i p ih =>
    have hi := h i List.mem_cons_self
    have e : permL (i :: p) xs = xs[i] :: permL p xs := by simp [permL, List.getElem?_eq_getElem hi]
    rw [e, List.length_cons, List.length_cons, ih fun k hk => h k (List.mem_cons_of_mem _ hk)]
theorem nodupB_iff : ∀ {p : List Nat}, nodupB p = true → p.Nodup
  | [], _ => List.nodup_nil
  | x :: p, h => by
    obtain ⟨h1, h2⟩ := nodupB_cons h
    exact List.nodup_cons.mpr ⟨h1, nodupB_iff h2⟩
theorem VlW.perm {p : List Nat} {xs : List RV} {vs : List V} (h : VlW g Bn Ow H σ Γ xs vs) (hp : permOk p xs.length = true) : VlW g Bn Ow H σ Γ (permL p xs) (permL p vs) := by
  simp only [permOk, Bool.and_eq_true, List.all_eq_true, decide_eq_true_eq] at hp
  obtain ⟨nd, hr⟩ := hp
  have hr' : ∀ i ∈ p, i < vs.length := fun i m => by rw [← h.len]; exact hr i m
  refine VlW.of (by rw [permL_len hr, permL_len hr']) (fun i x e => ?_) fun i k d e v h1 h2 h3 h4 => ?_
  · rw [permL_get hr] at e
    obtain ⟨j, e1, e2⟩ := Option.bind_eq_some_iff.mp e
    obtain ⟨v, e3, e4⟩ := h.get e2
    exact ⟨v, by rw [permL_get hr', e1]; exact e3, e4⟩
  · rw [permL_get hr] at h1 h2
    rw [permL_get hr'] at h3 h4
    obtain ⟨j1, a1, a2⟩ := Option.bind_eq_some_iff.mp h1
    obtain ⟨j2, b1, b2⟩ := Option.bind_eq_some_iff.mp h2
    rw [a1] at h3
    rw [b1] at h4
    have := h.uniq a2 b2 h3 h4
    subst this
    exact ((List.getElem?_inj (List.getElem?_eq_some_iff.mp a1).1 (nodupB_iff nd)).mp (a1.trans b1.symm))
end
section
variable {X : Cx} {g : Gx} {fs : List FS}
/-- one behind another -/
def tFold (g : Gx) (fs : List FS) : List E → TA
  | [] => tNil
  | ie :: ies => tCons (tR g fs ie) (tFold g fs ies)
theorem fold_mono : ∀ {is : List E} {σ : St} {H : Hp} {Q Q' : List V → Hp → Prop}, (∀ vs H', Q vs H' → Q' vs H') → tFold g fs is σ H Q → tFold g fs is σ H Q'
  | [], _, _, _, _, k, h => k _ _ h
  | i :: is, σ, H, Q, Q', k, h => by
    obtain ⟨Bn, Ow, Γ, x, Γ1, rs, e1, kk⟩ := h
    exact ⟨Bn, Ow, Γ, x, Γ1, rs, e1, fun v H1 O1 s1 r1 v1 => fold_mono (fun vs H' q => k _ _ q) (kk v H1 O1 s1 r1 v1)⟩
theorem pf_nil : PA X [] (tFold g fs []) := pa_nil
theorem pf_cons {a : Expr} {es : List Expr} {ia : E} {ies : List E} (ha : PE X a (tR g fs ia)) (hr : PA X es (tFold g fs ies)) (hs : starEach (a :: es) X.env = (false, eval a X.env) :: starEach es X.env) : PA X (a :: es) (tFold g fs (ia :: ies)) := pa_cons ha hr hs
theorem kf_nil : PK X [] (tFold g fs []) := pk_nil
theorem kf_cons {a : Expr} {kws : List Keyword} {nm : Option Str} {kpos : Pos} {ia : E} {ies : List E} (ha : PE X a (tR g fs ia)) (hr : PK X kws (tFold g fs ies)) : PK X (⟨nm, a, kpos⟩ :: kws) (tFold g fs (ia :: ies)) := pk_cons ha hr
theorem fold_one {ies : List E} : ∀ {jes : List E} {σ : St} {H : Hp} {Q : List V → Hp → Prop}, tAw g fs (jes ++ ies) σ H Q → tFold g fs jes σ H fun vs H1 => tAw g fs ies σ H1 fun zs H2 => Q (vs ++ zs) H2
  | [], _, _, _, h => h
  | j :: jes, σ, H, Q, h => by
    obtain ⟨Bn, Ow, Γ, x, Γ1, rs, e1, kk⟩ := aw_split h
    exact ⟨Bn, Ow, Γ, x, Γ1, rs, e1, fun v H1 O1 s1 r1 v1 => fold_one (kk v H1 O1 s1 r1 v1)⟩
theorem aw_done {σ : St} {H : Hp} {Q : List V → Hp → Prop} (h : tAw g fs [] σ H Q) : Q [] H := by
  obtain ⟨Bn, Ow, Γ, xs, Γ', rs, he, hQ⟩ := h
  simp only [evs, Option.some.injEq, Prod.mk.injEq] at he
  obtain ⟨rfl, rfl⟩ := he
  exact hQ [] H Ow (.refl _ _) rs rfl
def dfl (ns : List Int) : List E := ns.map fun n => .cst (.int n)
theorem aw_dfl : ∀ {ns : List Int} {σ : St} {H : Hp} {Q : List V → Hp → Prop}, tAw g fs (dfl ns) σ H Q → Q (ns.map .int) H
  | [], _, _, _, h => aw_done h
  | n :: ns, σ, H, Q, h => by
    obtain ⟨Bn, Ow, Γ, x, Γ1, rs, e1, kk⟩ := aw_split h
    simp only [ev, Option.some.injEq, Prod.mk.injEq] at e1
    obtain ⟨rfl, rfl⟩ := e1
    exact aw_dfl (Q := fun vs H2 => Q (.int n :: vs) H2) (kk (.int n) H Ow (.refl _ _) rs (by simp only [Val, Rep]))
theorem fold_all {ies jes : List E} {ns : List Int} {σ : St} {H : Hp} {Q : List V → Hp → Prop} (h : tAw g fs (ies ++ (jes ++ dfl ns)) σ H Q) : tFold g fs ies σ H fun vs H1 => tFold g fs jes σ H1 fun zs H2 => Q (vs ++ (zs ++ ns.map .int)) H2 := by
  exact fold_mono (fun vs H1 q => fold_mono (fun zs H2 q => aw_dfl q) (fold_one q)) (fold_one h)
theorem fold_len : ∀ {ies : List E} {σ : St} {H : Hp} {Q : List V → Hp → Prop}, tFold g fs ies σ H Q → tFold g fs ies σ H fun vs H1 => vs.length = ies.length ∧ Q vs H1
  | [], _, _, _, h => ⟨rfl, h⟩
  | i :: is, σ, H, Q, h => by
    obtain ⟨Bn, Ow, Γ, x, Γ1, rs, e1, kk⟩ := h
    refine ⟨Bn, Ow, Γ, x, Γ1, rs, e1, fun v H1 O1 s1 r1 v1 => ?_⟩
    have q := fold_len (kk v H1 O1 s1 r1 v1)
    exact fold_mono (fun vs H' q => ⟨by rw [List.length_cons, List.length_cons, q.1], q.2⟩) q
theorem fold_len2 {ies jes : List E} {σ : St} {H : Hp} {Q : List V → List V → Hp → Prop} (h : tFold g fs ies σ H fun vs H1 => tFold g fs jes σ H1 fun zs H2 => Q vs zs H2) : tFold g fs ies σ H fun vs H1 => tFold g fs jes σ H1 fun zs H2 => vs.length = ies.length ∧ zs.length = jes.length ∧ Q vs zs H2 := by
  exact fold_mono (fun vs H1 q => fold_mono (fun zs H2 q2 => ⟨q.1, q2.1, q2.2⟩) (fold_len q.2)) (fold_len h)
/-- a def called with n values and keywords ks; p: where each parameter stands -/
structure CalK (P : Program) (w : World) (mg : Str → Option Value) (base : Heap) (g : Gx) (k : Nat) (x : Str) (n : Nat) (ks : List Str) (p : List Nat) (F : FS) : Prop where
  ex : ∃ f fd ps gg gV, mg x = some (.ref f) ∧ PySem.W.keepIn g.K (.ref f) = true ∧ KBn g.K fd ps n ks gg gV ∧ (∀ vs zs : List V, vs.length = n → zs.length = ks.length → gV vs zs = permL p (vs ++ zs)) ∧ FnOk P w g.K mg base CX0 k f fd ps (spF g p.length F)
theorem CalK.mono {P : Program} {w : World} {mg : Str → Option Value} {base : Heap} {j k n : Nat} {x : Str} {ks : List Str} {p : List Nat} {F : FS} (h : CalK P w mg base g j x n ks p F) (l : j ≤ k) : CalK P w mg base g k x n ks p F := by
  obtain ⟨f, fd, ps, gg, gV, h1, h2, h3, h5, h4⟩ := h.ex
  exact ⟨f, fd, ps, gg, gV, h1, h2, h3, h5, h4.mono l⟩
theorem callp_core {i : Nat} {ies jes : List E} {p : List Nat} {F : FS} {σ : St} {H : Hp} {Q : VK} {Ex : XK} (hF : fs[i]? = some F) (h : tR g fs (.callp i p (ies ++ jes)) σ H Q) :
    tFold g fs ies σ H fun vs H1 => tFold g fs jes σ H1 fun zs H2 => vs.length = ies.length ∧ zs.length = jes.length ∧ spF g p.length F (permL p (vs ++ zs)) H2 Q Ex := by
  obtain ⟨Bn, Ow, Γ, r, Γ', rs, he, hQ⟩ := h
  simp only [ev] at he
  obtain ⟨⟨xs, Γ1⟩, e1, he⟩ := Option.bind_eq_some_iff.mp he
  obtain ⟨F', e4, he⟩ := Option.bind_eq_some_iff.mp he
  rw [hF] at e4; cases e4
  simp only [Option.ite_none_right_eq_some] at he
  obtain ⟨hp, he⟩ := he
  have key : tAw g fs (ies ++ (jes ++ dfl [])) σ H fun ws H2 => spF g p.length F (permL p ws) H2 Q Ex := by
    rw [show dfl [] = ([] : List E) from rfl, List.append_nil]
    refine ⟨Bn, Ow, Γ, xs, Γ1, rs, e1, fun ws H1 O1 s1 r1 v1 => ?_⟩
    have hr : ∀ i ∈ p, i < ws.length := by
      simp only [permOk, Bool.and_eq_true, List.all_eq_true, decide_eq_true_eq] at hp
      rw [← v1.len]; exact hp.2
    exact callD_core r1 (v1.perm hp) he (permL_len hr) fun v H' O' st => hQ v H' O' (s1.trans st)
  have := fold_len2 (fold_all key)
  simpa only [List.map_nil, List.append_nil] using this
section
variable {e : Expr} {es : List Expr} {kws : List Keyword} {ies jes : List E} {c k i n : Nat} {ks : List Str} {F : FS} {x : Str} {p : List Nat} {q pos : Pos} {ns : List Int}
theorem c_callK0 (c : CalK X.prog X.w X.mg X.base g k x 0 ks p F) (C : Cok0 g X) (hF : fs[i]? = some F) (hj : jes.length = ks.length) (hr : Room k X.A) (hg : Gl X x) (hkw : PK X kws (tFold g fs jes))
    (hall : (backToKw pos (keywordEach kws X.env)).all (·.1.isSome) = true) (hks : (backToKw pos (keywordEach kws X.env)).filterMap (·.1) = ks) (hdb : (x == ("__debug__" : Str)) = false)
    (hpl : ((backTo pos (starEach [] X.env)).any (·.1) || (backToKw pos (keywordEach kws X.env)).any (·.1.isNone)) = false) :
    PE X (.Call (.Name x q) [] kws pos) (tR g fs (.callp i p jes)) := by
  obtain ⟨f, fd, ps, gg, gV, h1, h2, h3, h5, h4⟩ := c.ex
  rw [← C.K] at h2 h3 h4
  refine ⟨fun pins s σ H Q I h => ?_⟩
  have core : tFold g fs jes σ H fun zs H2 => zs.length = jes.length ∧ spF g p.length F (permL p zs) H2 Q E0 := by
    have := callp_core (Ex := E0) (ies := []) hF h
    exact fold_mono (fun vs H1 q => ⟨q.2.1, by simpa using q.2.2⟩) this
  refine wpAny_Call_Name_kw (ld_glob I hg h1 ?_ hdb)
  refine PySem.W.callWith_KW0 (h₀ := X.base) I.ok.mod.kin h2 hall ?_ hpl
  refine thn (hkw.run pos pins s σ H _ I core) fun ws s2 ⟨zs, H2, I2, rz, l1, q2⟩ => ⟨I2.kIn, ?_⟩
  rw [hks]
  exact run_fnN (us := []) (vs := []) h4 hr h3 pass0 I2 .nil rz rfl (l1.trans hj) (by rw [h5 [] zs rfl (l1.trans hj)]; exact q2)
/-- a new object, called with n values and keywords ks; ns: the numbers that lack -/
structure MkdK (P : Program) (w : World) (mg : Str → Option Value) (base : Heap) (g : Gx) (k : Nat) (c : Nat) (x : Str) (n : Nat) (ks : List Str) (p : List Nat) (ns : List Int) (F : FS) : Prop where
  ex : ∃ f fd ps gg gV, mg x = some (.ref (g.cl c)) ∧ Mk g.K (g.cl c) f ∧ KBn g.K fd ps (n + 1) ks gg gV ∧ (∀ (s : V) (vs zs : List V), vs.length = n → zs.length = ks.length → gV (s :: vs) zs = s :: permL p (vs ++ (zs ++ ns.map .int))) ∧ ps.length = p.length + 1 ∧ FnOk P w g.K mg base CX0 k f fd ps (spF g (p.length + 1) F)
theorem MkdK.mono {P : Program} {w : World} {mg : Str → Option Value} {base : Heap} {j k c n : Nat} {x : Str} {ks : List Str} {p : List Nat} {ns : List Int} {F : FS} (h : MkdK P w mg base g j c x n ks p ns F) (l : j ≤ k) : MkdK P w mg base g k c x n ks p ns F := by
  obtain ⟨f, fd, ps, gg, gV, h1, h2, h3, h5, h6, h4⟩ := h.ex
  exact ⟨f, fd, ps, gg, gV, h1, h2, h3, h5, h6, h4.mono l⟩
theorem mkp_core {i c np : Nat} {ies jes : List E} {p : List Nat} {F : FS} {σ : St} {H : Hp} {Q : VK} {Ex : XK} (hF : fs[i]? = some F) (hp : np = p.length + 1) (h : tR g fs (.mkp c i p (ies ++ (jes ++ dfl ns))) σ H Q) :
    tFold g fs ies σ H fun vs H1 => tFold g fs jes σ H1 fun zs H2 => vs.length = ies.length ∧ zs.length = jes.length ∧ ∀ x dx, H2 x = none → H2 dx = none → dx ≠ x →
    (V.ref x :: permL p (vs ++ (zs ++ ns.map .int))).length = np ∧ (kfs g.K (upd (upd H2 dx (.own x)) x (.ins (g.cl c) dx [])) → spF g (p.length + 1) F (V.ref x :: permL p (vs ++ (zs ++ ns.map .int))) (upd (upd H2 dx (.own x)) x (.ins (g.cl c) dx [])) (fun v H2 => v = .non ∧ Q (.ref x) H2) Ex) := by
  obtain ⟨Bn, Ow, Γ, r, Γ', rs, he, hQ⟩ := h
  simp only [ev] at he
  obtain ⟨⟨xs, Γ1⟩, e1, he⟩ := Option.bind_eq_some_iff.mp he
  obtain ⟨F', e4, he⟩ := Option.bind_eq_some_iff.mp he
  rw [hF] at e4; cases e4
  simp only [Option.ite_none_right_eq_some] at he
  obtain ⟨hpk, he⟩ := he
  refine fold_len2 (fold_all (Q := fun ws H2 => ∀ x dx, H2 x = none → H2 dx = none → dx ≠ x →
    (V.ref x :: permL p ws).length = np ∧ (kfs g.K (upd (upd H2 dx (.own x)) x (.ins (g.cl c) dx [])) → spF g (p.length + 1) F (V.ref x :: permL p ws) (upd (upd H2 dx (.own x)) x (.ins (g.cl c) dx [])) (fun v H2 => v = .non ∧ Q (.ref x) H2) Ex)) ⟨Bn, Ow, Γ, xs, Γ1, rs, e1, fun ws H1 O1 s1 r1 v1 => ?_⟩)
  have hr : ∀ i ∈ p, i < ws.length := by
    simp only [permOk, Bool.and_eq_true, List.all_eq_true, decide_eq_true_eq] at hpk
    rw [← v1.len]; exact hpk.2
  exact mkD_core r1 (v1.perm hpk) he (permL_len hr) hp fun v H' O' st => hQ v H' O' (s1.trans st)
theorem p_mkK (M : MkdK X.prog X.w X.mg X.base g k c x n ks p ns F) (C : Cok0 g X) (hF : fs[i]? = some F) (hn : ies.length = n) (hj : jes.length = ks.length) (hr : Room (k + 1) X.A) (hg : Gl X x) (ha : PA X (e :: es) (tFold g fs ies)) (hkw : PK X kws (tFold g fs jes))
    (hall : (backToKw pos (keywordEach kws X.env)).all (·.1.isSome) = true) (hks : (backToKw pos (keywordEach kws X.env)).filterMap (·.1) = ks) (hdb : (x == ("__debug__" : Str)) = false) (he : starEach (e :: es) X.env = (false, eval e X.env) :: starEach es X.env)
    (hpl : ((backTo pos (starEach (e :: es) X.env)).any (·.1) || (backToKw pos (keywordEach kws X.env)).any (·.1.isNone)) = false) :
    PE X (.Call (.Name x q) (e :: es) kws pos) (tR g fs (.mkp c i p (ies ++ (jes ++ dfl ns)))) := by
  obtain ⟨f, fd, ps, gg, gV, h1, h2, h3, h5, h6, h4⟩ := M.ex
  have h7 := FnOk.kf h4
  rw [← C.K] at h2 h3 h7
  refine PE.weak (pe_makeK h2 h7 hr hg h1 h3 pass0 ha hkw hall hks hdb he hpl) fun σ H Q h => ?_
  have core := mkp_core (Ex := E0) hF h6 h
  rw [← C.K] at core
  exact fold_mono (fun vs H1 q => fold_mono (fun zs H2 q => ⟨q.1.trans hn, q.2.1.trans hj, fun x dx a1 a2 a3 => by rw [h5 _ vs zs (q.1.trans hn) (q.2.1.trans hj)]; exact q.2.2 x dx a1 a2 a3⟩) q) core
end
end
end DV

namespace DV
open PySem L2
variable {Wx : L2.XK}
section
variable {P : Program} {w : World} {mg : Str → Option Value} {base : Heap} {g : Gx} {fs : List FS}
theorem def_fnD {x qual : Str} {params : Arguments} {body : List Stmt} {scope : Scope} {dvs : List V} {kws : List (Str × V)} {f : Addr} {fd : FuncData} {N ps : List Str} {k np n : Nat} {ir : List S} (F : FunD g.K x qual params body scope dvs kws f fd) (S : FnScope N ps scope) (hp : ps.length = np) (hN : N.length = n) (ge : g.ea = none)
    (hbody : ∀ (cdv : Value) (A : Around) (outer : List Env) (s : Shared) (H : Hp) (E : XK), Room k (cxOf CX0 P w g.K mg base N qual scope f cdv A outer s H E).nox.A → Cok g (cxOf CX0 P w g.K mg base N qual scope f cdv A outer s H E).nox →
      PSs (cxOf CX0 P w g.K mg base N qual scope f cdv A outer s H E).nox body (tSs g Wx fs ir)) : FnOk P w g.K mg base CX0 (k + 1) f fd ps (spF g np (runF fs np n ir)) := by
  refine F.ok S (fun vs H Q E h => by rw [h.1, hp]) fun cdv A outer s H vs Q E hr h => ?_
  refine ⟨_, (hbody cdv A outer s H E hr ⟨rfl, rfl, hr.units, S.nd, ge⟩).nox, ?_⟩
  obtain ⟨hl, Bn, Ow, Γ, r, os, rs, ef, nr, hQ⟩ := h
  have hG : Γ.length = np := by rw [← rs.len, List.length_map, hl]
  have hle : np ≤ n := by
    rw [← hN, ← hp]
    have := congrArg List.length S.pre
    rw [List.length_take] at this
    omega
  simp only [runF, hG, if_true] at ef
  obtain ⟨o, e1, e2⟩ := Option.bind_eq_some_iff.mp ef
  have est : L2.start N vs = vs.map some ++ List.replicate (n - np) none := by rw [← hN, ← hl]; rfl
  refine ⟨(n, (ownPs 0 Γ).map fun i => (i, vs.getD i .non)), Bn, Ow, Γ ++ List.replicate (n - np) none, o, ?_, ⟨?_, fun p hp => ?_⟩, ?_, ?_⟩
  · rw [est]; exact rs.start _
  · rw [est, List.length_append, List.length_map, List.length_replicate, hl]; show np + (n - np) = n; omega
  · obtain ⟨i, hi, rfl⟩ := List.mem_map.mp hp
    obtain ⟨j, d, rfl, h⟩ := ownPs_mem.mp hi
    have hj : j < vs.length := by
      have h1 := (List.getElem?_eq_some_iff.mp h).1
      omega
    rw [est]
    show (vs.map some ++ List.replicate (n - np) none)[0 + j]? = some (some (vs.getD (0 + j) .non))
    rw [Nat.zero_add, List.getElem?_append_left (by rw [List.length_map]; exact hj), List.getElem?_map, List.getElem?_eq_getElem hj, List.getD_eq_getElem?_getD, List.getElem?_eq_getElem hj]
    rfl
  · rw [List.map_map]
    show exs fs ((ownPs 0 Γ).map id) ir _ = some o
    rw [List.map_id]
    exact e1
  · rw [← hG] at e2
    exact finish_ok rs (by omega) e2 hQ
theorem paired_get {α β : Type} {R : α → β → Prop} : ∀ {xs : List α} {ys : List β}, Paired R xs ys → ∀ i : Nat, (∃ x y, xs[i]? = some x ∧ ys[i]? = some y ∧ R x y) ∨ (xs[i]? = none ∧ ys[i]? = none)
  | _, _, .nil, i => .inr ⟨by simp, by simp⟩
  | _, _, .cons r t, 0 => .inl ⟨_, _, rfl, rfl, r⟩
  | _, _, .cons r t, i + 1 => by simpa using paired_get t i
theorem paired_perm {α β : Type} {R : α → β → Prop} {xs : List α} {ys : List β} (h : Paired R xs ys) : ∀ p : List Nat, Paired R (permL p xs) (permL p ys)
  | [] => .nil
  | i :: p => by
    have ih := paired_perm h p
    rcases paired_get h i with ⟨x, y, e1, e2, r⟩ | ⟨e1, e2⟩
    · have a1 : permL (i :: p) xs = x :: permL p xs := by simp [permL, e1]
      have a2 : permL (i :: p) ys = y :: permL p ys := by simp [permL, e2]
      rw [a1, a2]
      exact .cons r ih
    · have a1 : permL (i :: p) xs = permL p xs := by simp [permL, e1]
      have a2 : permL (i :: p) ys = permL p ys := by simp [permL, e2]
      rw [a1, a2]
      exact ih
/-- keywords of a def without defaults -/
theorem fun_kbn {K : PySem.W.Frag} {x qual : Str} {st : Stmt} {f : Addr} {fd : FuncData} {ps : List Str} (F : Fun K x qual st f fd) {n : Nat} {ks : List Str} {p : List Nat}
    (h : ∀ (kV doc pm : Value) (an : Option Addr) (cdv ct : Value) (us ws : List Value), us.length = n → ws.length = ks.length → bindArgs (PySem.W.fnOf x qual (defArgs st) (defBody st) (defScope st) .none kV doc pm an cdv ct) ⟨us, ks.zip ws⟩ = pure (ps.zip (permL p (us ++ ws)))) :
    KBn K fd ps n ks (fun us ws => permL p (us ++ ws)) (fun vs zs => permL p (vs ++ zs)) := by
  obtain ⟨oc, od, kV, doc, pm, an, cdv, ct, osl, rfl, lk, hcd⟩ := F.ex
  exact ⟨fun s us ws _ l1 l2 => .of_eq (h kV doc pm an cdv ct us ws l1 l2), fun r1 r2 => paired_perm (r1.append r2) p⟩
theorem calk_of {x qual : Str} {st : Stmt} {f : Addr} {fd : FuncData} {ps : List Str} {n np k : Nat} {ks : List Str} {p : List Nat} {F : FS} (Fu : Fun g.K x qual st f fd) (hm : mg x = some (.ref f)) (hp : p.length = np) (G : FnOk P w g.K mg base CX0 k f fd ps (spF g np F))
    (h : ∀ (kV doc pm : Value) (an : Option Addr) (cdv ct : Value) (us ws : List Value), us.length = n → ws.length = ks.length → bindArgs (PySem.W.fnOf x qual (defArgs st) (defBody st) (defScope st) .none kV doc pm an cdv ct) ⟨us, ks.zip ws⟩ = pure (ps.zip (permL p (us ++ ws)))) : CalK P w mg base g k x n ks p F := by
  subst hp
  exact ⟨f, fd, ps, _, _, hm, Fu.kp, fun_kbn Fu h, fun vs zs _ _ => rfl, G⟩
/-- the order of an __init__: the object, then p -/
def gI {α : Type} (p : List Nat) (us mv ws : List α) : List α := match us with
  | [] => []
  | s :: r => s :: permL p (r ++ (ws ++ mv))
theorem gI_rel (p : List Nat) {vs mz zs : List V} {us mv ws : List Value} (h1 : Vals vs us) (h2 : Vals mz mv) (h3 : Vals zs ws) : Vals (gI p vs mz zs) (gI p us mv ws) := by
  cases h1 with
  | nil => exact .nil
  | cons r t => exact .cons r (paired_perm (Vals.append t (h3.append h2)) p)
theorem mkdk_of {c k n np : Nat} {x qual : Str} {params : Arguments} {body : List Stmt} {scope : Scope} {kws : List (Str × V)} {f : Addr} {fd : FuncData} {ps ks : List Str} {p : List Nat} {ms : List (Str × V)} {ns : List Int} {F : FS} {y : Str} (Fu : FunD g.K y qual params body scope [] kws f fd) (hk : kws ≠ []) (hms : ∀ q ∈ ms, q ∈ kws) (hns : ms.map (·.2) = ns.map V.int)
    (hm : mg x = some (.ref (g.cl c))) (M : Mk g.K (g.cl c) f) (hp : p.length = np) (hps : ps.length = np + 1) (G : FnOk P w g.K mg base CX0 k f fd ps (spF g (np + 1) F))
    (h : ∀ (D : Addr) (doc pm : Value) (an : Option Addr) (cdv ct : Value) (us mv ws : List Value), us.length = n + 1 → mv.length = ms.length → ws.length = ks.length →
      KwChain D ((ms.map (·.1)).zip mv) (bindArgs (PySem.W.fnOf y qual params body scope .none (.ref D) doc pm an cdv ct) ⟨us, ks.zip ws⟩) (ps.zip (gI p us mv ws))) : MkdK P w mg base g k c x n ks p ns F := by
  subst hp
  obtain ⟨mv, kb⟩ := Fu.kbinds0 (n + 1) ks ms (fun us mv ws => gI p us mv ws) hk hms (fun h1 h2 h3 => gI_rel p h1 h2 h3) h
  refine ⟨f, fd, ps, _, _, hm, M, kb, fun s vs zs _ _ => ?_, hps, G⟩
  show s :: permL p (vs ++ (zs ++ ms.map (·.2))) = _
  rw [hns]
/-- an __init__ with keyword-only numbers -/
theorem fund_mk {K : PySem.W.Frag} {x qual : Str} {st : Stmt} {f D : Addr} {oc : Value} {od an : Option Addr} {osl : Array (Option Value)} {doc pm cdv ct : Value} {y : Str} {n : Int} {t : Tok} (l : K.lookup f = some ⟨oc, od, .func (PySem.W.fnOf x qual (defArgs st) (defBody st) (defScope st) .none (.ref D) doc pm an cdv ct), osl⟩)
    (c : PySem.W.codeIn K cdv qual = true) (k : PySem.W.keepIn K (.ref f) = true) (d : PySem.W.nsIn K D y = some (some (.int n t))) : FunD K x qual (defArgs st) (defBody st) (defScope st) [] [(y, .int n)] f (PySem.W.fnOf x qual (defArgs st) (defBody st) (defScope st) .none (.ref D) doc pm an cdv ct) :=
  ⟨⟨oc, od, .none, .ref D, doc, pm, an, cdv, ct, osl, rfl, l, c, .inl ⟨rfl, rfl⟩, .inr ⟨D, rfl, fun q hq => by
    rcases List.mem_cons.mp hq with rfl | hq
    · exact ⟨_, d, t, rfl⟩
    · cases hq⟩⟩, k⟩
end
section
variable {X : Cx} {g : Gx} {fs : List FS} {x : Str} {pos : Pos}
end
end DV

namespace DV
open PySem L2
theorem all_nil {α : Type} (P : α → Prop) : ∀ c ∈ ([] : List α), P c := fun _ h => nomatch h
theorem all_cons {α : Type} {P : α → Prop} {c : α} {cs : List α} (h : P c) (t : ∀ c ∈ cs, P c) : ∀ d ∈ c :: cs, P d := fun d m => by
  rcases List.mem_cons.mp m with rfl | m
  · exact h
  · exact t d m
theorem so_eq (d e : D) : selfO .eq d e = (d, e) := rfl
theorem so_ne (d e : D) : selfO .ne d e = (d, e) := rfl
theorem so_in (d e : D) : selfO .inn d e = (e, d) := rfl
theorem so_ni (d e : D) : selfO .notin d e = (e, d) := rfl
theorem so_ix (d e : D) : selfO .ix d e = (d, e) := rfl
theorem so_ad (d e : D) : selfO .add d e = (d, e) := rfl
theorem oo_eq (c : Nat) (e : D) : okO .eq c e = (isObj c e || plainB e) := rfl
theorem oo_ne (c : Nat) (e : D) : okO .ne c e = (isObj c e || plainB e) := rfl
theorem oo_in (c : Nat) (e : D) : okO .inn c e = true := rfl
theorem oo_ni (c : Nat) (e : D) : okO .notin c e = true := rfl
theorem oo_ix (c : Nat) (e : D) : okO .ix c e = true := rfl
theorem oo_ad (c : Nat) (e : D) : okO .add c e = isObj c e := rfl
theorem pb_non : plainB .non = true := rfl
theorem pb_int (i : Int) : plainB (.int i) = true := rfl
theorem pb_bl (i : Bool) : plainB (.bl i) = true := rfl
theorem pb_str (i : Str) : plainB (.str i) = true := rfl
theorem pb_lst (i : List D) : plainB (.lst i) = true := rfl
theorem pb_tup (i : List D) : plainB (.tup i) = true := rfl
theorem ic_non (cs : List Nat) (c : Nat) : iscD cs c .non = some false := rfl
theorem ic_int (cs : List Nat) (c : Nat) (i : Int) : iscD cs c (.int i) = some false := rfl
theorem ic_bl (cs : List Nat) (c : Nat) (i : Bool) : iscD cs c (.bl i) = some false := rfl
theorem ic_str (cs : List Nat) (c : Nat) (i : Str) : iscD cs c (.str i) = some false := rfl
theorem ic_lst (cs : List Nat) (c : Nat) (i : List D) : iscD cs c (.lst i) = some false := rfl
theorem ic_tup (cs : List Nat) (c : Nat) (i : List D) : iscD cs c (.tup i) = some false := rfl
theorem io_non (c : Nat) : isObj c .non = false := rfl
theorem io_int (c : Nat) (i : Int) : isObj c (.int i) = false := rfl
theorem io_bl (c : Nat) (i : Bool) : isObj c (.bl i) = false := rfl
theorem io_str (c : Nat) (i : Str) : isObj c (.str i) = false := rfl
theorem io_lst (c : Nat) (i : List D) : isObj c (.lst i) = false := rfl
theorem io_tup (c : Nat) (i : List D) : isObj c (.tup i) = false := rfl
def clOf (cs : List Addr) : Nat → Addr := fun c => cs.getD c 0
section
variable {X : Cx} {g : Gx} {fs : List FS} {a b : Expr} {ia ib : E} {pos : Pos} {c k i : Nat} {F : FS}
end
end DV

namespace DV
open PySem L2
/-! ### single steps of the evaluation -/
section
variable {fs : List FS} {a b c : E} {es : List E} {Γ Γ1 Γ2 Γ3 Γ4 Γ5 : Ct} {x y r r' : RV} {xs : List RV} {d e d' e' : D} {F : FS} {k i : Nat} {t : Bool}
theorem ev_bin {o : BOp} (h1 : ev fs a Γ = some (x, Γ1)) (h2 : ev fs b Γ1 = some (y, Γ2)) (h3 : datum Γ2 x = some d) (h4 : datum Γ2 y = some e) (h5 : binD o d e = some r) : ev fs (.bin o a b) Γ = some (r, Γ2) := by
  rw [DV.ev.eq_4]
  simp only [h1, h2, Option.bind_some, h3, h4, h5, Option.map_some]
end
end DV

namespace DV
theorem nrf_s : (∀ d, nrf (.nw d) = true) ∧ (∀ i, nrf (.fz (.int i)) = true) ∧ (∀ i, nrf (.fz (.str i)) = true) ∧ (∀ i, nrf (.fz (.bl i)) = true) ∧ (∀ i, nrf (.fz (.lst i)) = true) ∧ (∀ i, nrf (.fz (.tup i)) = true) ∧ (∀ a b c, nrf (.fz (.obj a b c)) = true) ∧ nrf (.fz .non) = true ∧ (∀ a b, nrf (.fz (.dic a b)) = true) ∧ nrf (.fz .dct) = true ∧ (∀ a b c, nrf (.fz (.err a b c)) = true) ∧ (∀ i, nrf (.fz (.scr i)) = true) ∧ (∀ i, nrf (.sl i) = true) := ⟨fun _ => rfl, fun _ => rfl, fun _ => rfl, fun _ => rfl, fun _ => rfl, fun _ => rfl, fun _ _ _ => rfl, rfl, fun _ _ => rfl, rfl, fun _ _ _ => rfl, fun _ => rfl, fun _ => rfl⟩
/-- the evaluation equations, as one fact -/
def SC := And.intro nrf_s (And.intro (And.intro (And.intro (And.intro (And.intro (And.intro (And.intro (@DV.runF.eq_1) (And.intro (@DV.exs.eq_1) (@DV.exs.eq_2))) (And.intro (And.intro (@DV.ex.eq_1) (@DV.ex.eq_2)) (And.intro (@DV.ex.eq_3) (@DV.ex.eq_4)))) (And.intro (And.intro (And.intro (@DV.ex.eq_5) (@DV.ex.eq_6)) (And.intro (@DV.ex.eq_7) (@DV.ex.eq_8))) (And.intro (And.intro (@DV.ex.eq_9) (@DV.ex.eq_10)) (And.intro (@DV.ex.eq_11) (@DV.ex.eq_12))))) (And.intro (And.intro (And.intro (@DV.ex.eq_13) (And.intro (@DV.ex.eq_14) (@DV.ex.eq_15))) (And.intro (And.intro (@DV.ex.eq_16) (@DV.ev.eq_1)) (And.intro (@DV.ev.eq_2) (@DV.ev.eq_3)))) (And.intro (And.intro (And.intro (@DV.ev.eq_4) (@DV.ev.eq_5)) (And.intro (@DV.ev.eq_6) (@DV.ev.eq_7))) (And.intro (And.intro (@DV.ev.eq_8) (@DV.ev.eq_9)) (And.intro (@DV.ev.eq_10) (@DV.ev.eq_11)))))) (And.intro (And.intro (And.intro (And.intro (@DV.ev.eq_12) (And.intro (@DV.ev.eq_13) (@DV.ev.eq_14))) (And.intro (And.intro (@DV.ev.eq_15) (@DV.ev.eq_16)) (And.intro (@DV.ev.eq_17) (@DV.ev.eq_18)))) (And.intro (And.intro (And.intro (@DV.evs.eq_1) (@DV.evs.eq_2)) (And.intro (@DV.evc.eq_1) (@DV.evc.eq_2))) (And.intro (And.intro (@DV.evn.eq_1) (@DV.evn.eq_2)) (And.intro (@DV.parS.eq_1) (@DV.parS.eq_2))))) (And.intro (And.intro (And.intro (And.intro (@DV.parS.eq_3) (@DV.datums.eq_1)) (And.intro (@DV.datums.eq_2) (@DV.datum.eq_1))) (And.intro (And.intro (@DV.datum.eq_2) (@DV.datum.eq_3)) (And.intro (@DV.fre.eq_1) (@DV.fre.eq_2)))) (And.intro (And.intro (And.intro (@DV.fre.eq_3) (@DV.fres.eq_1)) (And.intro (@DV.fres.eq_2) (@DV.argSs.eq_1))) (And.intro (And.intro (@DV.argSs.eq_2) (@DV.argS.eq_1)) (And.intro (@DV.argS.eq_2) (@DV.argS.eq_3))))))) (And.intro (And.intro (And.intro (And.intro (And.intro (@DV.nodupB.eq_1) (And.intro (@DV.nodupB.eq_2) (@DV.ownIx.eq_1))) (And.intro (And.intro (@DV.ownIx.eq_2) (@DV.ownIx.eq_3)) (And.intro (@DV.putOuts.eq_1) (@DV.putOuts.eq_2)))) (And.intro (And.intro (And.intro (@DV.putOuts.eq_3) (@DV.biD.eq_1)) (And.intro (@DV.biD.eq_2) (@DV.biD.eq_3))) (And.intro (And.intro (@DV.biD.eq_4) (@DV.biD.eq_5)) (And.intro (@DV.biD.eq_6) (@DV.biD.eq_7))))) (And.intro (And.intro (And.intro (And.intro (@DV.biD.eq_8) (@DV.biD.eq_9)) (And.intro (@DV.biD.eq_10) (@DV.biD.eq_11))) (And.intro (And.intro (@DV.biD.eq_12) (@DV.biD.eq_13)) (And.intro (@DV.biD.eq_14) (@DV.biD.eq_15)))) (And.intro (And.intro (And.intro (@DV.biD.eq_16) (@DV.biD.eq_17)) (And.intro (@DV.biD.eq_18) (@DV.biD.eq_19))) (And.intro (And.intro (@DV.isiD.eq_1) (@DV.isiD.eq_2)) (And.intro (@DV.isiD.eq_3) (@DV.isiD.eq_4)))))) (And.intro (And.intro (And.intro (And.intro (@DV.isiD.eq_5) (And.intro (@DV.isiD.eq_6) (@DV.isiD.eq_7))) (And.intro (And.intro (@DV.shallow.eq_1) (@DV.shallow.eq_4)) (And.intro (@DV.shallow.eq_6) (@DV.testD.eq_1)))) (And.intro (And.intro (And.intro (@DV.truthD.eq_1) (@DV.truthD.eq_2)) (And.intro (@DV.truthD.eq_3) (@DV.truthD.eq_4))) (And.intro (And.intro (@DV.truthD.eq_5) (@DV.truthD.eq_6)) (And.intro (@DV.truthD.eq_7) (@DV.truthD.eq_8))))) (And.intro (And.intro (And.intro (And.intro (@DV.finish.eq_1) (@DV.finish.eq_2)) (And.intro (@DV.finish.eq_3) (@DV.finish.eq_4))) (And.intro (And.intro (@DV.finish.eq_5) (@DV.outsOf.eq_1)) (And.intro (@DV.outsOf.eq_2) (@DV.outsOf.eq_3)))) (And.intro (And.intro (And.intro (@DV.ownPs.eq_1) (@DV.ownPs.eq_2)) (And.intro (@DV.ownPs.eq_3) (@DV.disjB.eq_1))) (And.intro (And.intro (@DV.isLst.eq_1) (@DV.appD.eq_1)) (And.intro (@DV.extD.eq_1) (@DV.setD.eq_1)))))))) (And.intro (And.intro (And.intro (And.intro (And.intro (And.intro (@DV.asgT.eq_1) (And.intro (@DV.asgT.eq_2) (@DV.asgT.asgTs.eq_1))) (And.intro (And.intro (@DV.asgT.asgTs.eq_2) (@DV.tgIx.eq_1)) (And.intro (@DV.tgIx.eq_2) (@DV.tgIx.tgIxs.eq_1)))) (And.intro (And.intro (And.intro (@DV.tgIx.tgIxs.eq_2) (@DV.iterD.eq_1)) (And.intro (@DV.iterD.eq_2) (@DV.iterD.eq_3))) (And.intro (And.intro (@DV.it_rng) (@DV.binD.eq_1)) (And.intro (@DV.binD.eq_2) (@DV.binD.eq_3))))) (And.intro (And.intro (And.intro (And.intro (@DV.binD.eq_4) (@DV.binD.eq_5)) (And.intro (@DV.binD.eq_6) (@DV.binD.eq_7))) (And.intro (And.intro (@DV.binD.eq_8) (@DV.binD.eq_9)) (And.intro (@DV.binD.eq_10) (@DV.cmpD.eq_3)))) (And.intro (And.intro (And.intro (@DV.cmpD.eq_4) (@DV.cmpD.eq_5)) (And.intro (@DV.cmpD.eq_6) (@DV.cmpD.eq_7))) (And.intro (And.intro (@DV.cmpD.eq_8) (@DV.cmpD.eq_9)) (And.intro (@DV.cmpD.eq_10) (@DV.cmpD.eq_11)))))) (And.intro (And.intro (And.intro (And.intro (@DV.cmpD.eq_12) (And.intro (@DV.isNonD.eq_1) (@DV.isNonD.eq_2))) (And.intro (And.intro (@DV.ixD.eq_1) (@DV.ixD.eq_2)) (And.intro (@DV.ixD.eq_3) (@DV.ixD.eq_4)))) (And.intro (And.intro (And.intro (@DV.slcD.eq_1) (@DV.slcD.eq_2)) (And.intro (@DV.slcD.eq_3) (@DV.slO.eq_1))) (And.intro (And.intro (@DV.slO.eq_2) (@DV.plainIx.eq_1)) (And.intro (@DV.wipeG.eq_1) (@DV.wipeG.eq_2))))) (And.intro (And.intro (And.intro (And.intro (@DV.restG.eq_1) (@DV.restG.eq_2)) (And.intro (@DV.flatD.eq_1) (@DV.flatD.eq_2))) (And.intro (And.intro (@DV.flatD.eq_3) (@DV.flatD.eq_4)) (And.intro (@DV.flatD.eq_5) (@DV.ex.eq_17)))) (And.intro (And.intro (And.intro (@DV.ev.eq_19) (@DV.ev.eq_20)) (And.intro (@DV.ev.eq_21) (@DV.ev.eq_22))) (And.intro (And.intro (@DV.ev.eq_23) (@DV.ev.eq_24)) (And.intro (@DV.ev.eq_25) (@DV.ev.eq_26))))))) (And.intro (And.intro (And.intro (And.intro (And.intro (@DV.callD.eq_1) (And.intro (@DV.mkD.eq_1) (@DV.fldL.eq_1))) (And.intro (And.intro (@DV.fldL.eq_2) (@DV.fldD.eq_1)) (And.intro (@DV.fldD.eq_2) (@DV.isObj.eq_1)))) (And.intro (And.intro (And.intro (@DV.hasF.eq_1) (@DV.hasF.eq_2)) (And.intro (@DV.postO.eq_1) (@DV.postO.eq_2))) (And.intro (And.intro (@DV.postO.eq_3) (@DV.postO.eq_4)) (And.intro (@DV.postO.eq_5) (@DV.postO.eq_6))))) (And.intro (And.intro (And.intro (And.intro (@DV.plainO.eq_1) (@DV.plainO.eq_2)) (And.intro (@DV.plainO.eq_3) (@DV.plainO.eq_4))) (And.intro (And.intro (@DV.plainO.eq_5) (@DV.plainO.eq_6)) (And.intro (@DV.so_eq) (@DV.so_ne)))) (And.intro (And.intro (And.intro (@DV.so_in) (@DV.so_ni)) (And.intro (@DV.so_ix) (@DV.so_ad))) (And.intro (And.intro (@DV.oo_eq) (@DV.oo_ne)) (And.intro (@DV.oo_in) (@DV.oo_ni)))))) (And.intro (And.intro (And.intro (And.intro (@DV.oo_ix) (And.intro (@DV.oo_ad) (@DV.pb_non))) (And.intro (And.intro (@DV.pb_int) (@DV.pb_bl)) (And.intro (@DV.pb_str) (@DV.pb_lst)))) (And.intro (And.intro (And.intro (@DV.pb_tup) (@DV.ic_non)) (And.intro (@DV.ic_int) (@DV.ic_bl))) (And.intro (And.intro (@DV.ic_str) (@DV.ic_lst)) (And.intro (@DV.ic_tup) (@DV.io_non))))) (And.intro (And.intro (And.intro (And.intro (@DV.io_int) (@DV.io_bl)) (And.intro (@DV.io_str) (@DV.io_lst))) (And.intro (And.intro (@DV.io_tup) (@DV.putL.eq_1)) (And.intro (@DV.putL.eq_2) (@DV.putD.eq_1)))) (And.intro (And.intro (And.intro (@DV.putD.eq_2) (@DV.iscD.eq_1)) (And.intro (@DV.iscD.eq_2) (@DV.plainB.eq_1))) (And.intro (And.intro (@DV.plainB.eq_2) (@DV.permL.eq_1)) (And.intro (@DV.permOk.eq_1) (@DV.dfl.eq_1)))))))))
/-- those of == -/
def SE := And.intro (And.intro (And.intro (And.intro (@DV.cmpD.eq_1) (@DV.cmpD.eq_2)) (And.intro (@DV.okB.eq_1) (@DV.okB.eq_2))) (And.intro (And.intro (@DV.okB.eq_3) (@DV.okB.eq_4)) (And.intro (@DV.okB.eq_5) (And.intro (@DV.okB.eq_6) (@DV.eqd.eq_1))))) (And.intro (And.intro (And.intro (@DV.eqd.eq_2) (@DV.eqd.eq_3)) (And.intro (@DV.eqd.eq_4) (And.intro (@DV.eqd.eq_5) (@DV.eqd.eq_6)))) (And.intro (And.intro (@DV.eqd.eq_7) (@DV.eqd.eq_8)) (And.intro (@DV.eqds.eq_1) (And.intro (@DV.eqds.eq_2) (@DV.eqds.eq_3)))))
end DV

namespace DV
open PySem L2
/-! ### what is pinned matters only where it is stored -/
mutual
def asgOf : S → List Nat
  | .asg tg _ => tgIx tg
  | .asgO i _ => [i]
  | .par is _ => is.map (·.1)
  | .ite _ a b => asgOfs a ++ asgOfs b
  | .whl _ b => asgOfs b
  | .for_ tg _ _ b => tgIx tg ++ asgOfs b
  | .grow _ _ _ _ tg _ _ _ _ => tgIx tg
  | .xex _ (.asg tg) => tgIx tg
  | .xex _ (.asgO i) => [i]
  | .try_ _ _ i b => [i] ++ asgOfs b
  | .sem is _ => is
  | _ => []
def asgOfs : List S → List Nat
  | [] => []
  | s :: ss => asgOf s ++ asgOfs ss
end
theorem disjB_app {a b c : List Nat} (h : disjB (a ++ b) c = true) : disjB a c = true ∧ disjB b c = true := by
  simp only [disjB, List.all_append, Bool.and_eq_true] at h
  exact h
theorem forLoop_imp {tg : Tg} {f g : Ct → Option Out} (h : ∀ Γ o, f Γ = some o → g Γ = some o) : ∀ (ds : List D) (Γ : Ct) (o : Out), forLoop tg f ds Γ = some o → forLoop tg g ds Γ = some o
  | [], Γ, o, e => e
  | d :: ds, Γ, o, e => by
    simp only [forLoop] at e ⊢
    obtain ⟨Γ1, e1, e⟩ := Option.bind_eq_some_iff.mp e
    obtain ⟨o1, e2, e⟩ := Option.bind_eq_some_iff.mp e
    rw [e1]
    simp only [Option.bind_some]
    rw [h Γ1 o1 e2]
    simp only [Option.bind_some]
    cases o1 with
    | nx Γ2 => exact forLoop_imp h ds Γ2 o e
    | ct Γ2 => exact forLoop_imp h ds Γ2 o e
    | bk Γ2 => exact e
    | rt r Γ2 => exact e
    | xc c ks ds Γ2 => exact e
theorem whlLoop_imp {c : Ct → Option (Bool × Ct)} {f g : Ct → Option Out} (h : ∀ Γ o, f Γ = some o → g Γ = some o) : ∀ (n : Nat) (Γ : Ct) (o : Out), whlLoop c f n Γ = some o → whlLoop c g n Γ = some o
  | 0, Γ, o, e => e
  | n + 1, Γ, o, e => by
    simp only [whlLoop] at e ⊢
    obtain ⟨⟨b, Γ1⟩, e1, e⟩ := Option.bind_eq_some_iff.mp e
    rw [e1]
    simp only [Option.bind_some] at e ⊢
    cases b with
    | false => exact e
    | true =>
      simp only [if_true] at e ⊢
      obtain ⟨o1, e2, e⟩ := Option.bind_eq_some_iff.mp e
      rw [h Γ1 o1 e2]
      simp only [Option.bind_some]
      cases o1 with
      | nx Γ2 => exact whlLoop_imp h n Γ2 o e
      | ct Γ2 => exact whlLoop_imp h n Γ2 o e
      | bk Γ2 => exact e
      | rt r Γ2 => exact e
      | xc c ks ds Γ2 => exact e
mutual
theorem ex_pn {fs : List FS} {pn pn' : List Nat} : ∀ (s : S), disjB (asgOf s) pn' = true → ∀ (Γ : Ct) (o : Out), ex fs pn s Γ = some o → ex fs pn' s Γ = some o
  | .stuck, _, Γ, o, e => by simp only [ex, reduceCtorEq] at e
  | .pass, _, Γ, o, e => e
  | .brk, _, Γ, o, e => e
  | .cont, _, Γ, o, e => e
  | .retN, _, Γ, o, e => e
  | .asg tg a, h, Γ, o, e => by
    simp only [asgOf] at h
    simp only [ex] at e ⊢
    obtain ⟨⟨x, Γ1⟩, e1, e⟩ := Option.bind_eq_some_iff.mp e
    obtain ⟨⟨d, Γ2⟩, e2, e⟩ := Option.bind_eq_some_iff.mp e
    simp only [Option.ite_none_right_eq_some] at e
    simp only [e1, Option.bind_some, e2, h, if_true]
    exact e.2
  | .asgO i a, h, Γ, o, e => by
    simp only [asgOf] at h
    simp only [ex] at e ⊢
    obtain ⟨⟨x, Γ1⟩, e1, e⟩ := Option.bind_eq_some_iff.mp e
    simp only [e1, Option.bind_some]
    simp only at e
    cases x with
    | nw d =>
      simp only [Option.ite_none_right_eq_some] at e ⊢
      exact ⟨⟨e.1.1, h⟩, e.2⟩
    | fz d =>
      simp only at e ⊢
      obtain ⟨⟨d, Γ2⟩, e2, e⟩ := Option.bind_eq_some_iff.mp e
      simp only [e2, Option.bind_some, Option.ite_none_right_eq_some] at e ⊢
      exact ⟨⟨e.1.1, h⟩, e.2⟩
    | sl j =>
      simp only at e ⊢
      obtain ⟨⟨d, Γ2⟩, e2, e⟩ := Option.bind_eq_some_iff.mp e
      simp only [e2, Option.bind_some, Option.ite_none_right_eq_some] at e ⊢
      exact ⟨⟨e.1.1, h⟩, e.2⟩
  | .par is es, h, Γ, o, e => by
    simp only [asgOf] at h
    simp only [ex, Option.ite_none_right_eq_some] at e ⊢
    exact ⟨h, e.2⟩
  | .expr a, _, Γ, o, e => e
  | .app i a, _, Γ, o, e => e
  | .ext i a, _, Γ, o, e => e
  | .seti i k a, _, Γ, o, e => e
  | .ret a, _, Γ, o, e => e
  | .ite c a b, h, Γ, o, e => by
    simp only [asgOf] at h
    obtain ⟨h1, h2⟩ := disjB_app h
    simp only [ex] at e ⊢
    obtain ⟨⟨x, Γ1⟩, e1, e⟩ := Option.bind_eq_some_iff.mp e
    obtain ⟨t, e2, e⟩ := Option.bind_eq_some_iff.mp e
    simp only [e1, Option.bind_some, e2]
    simp only at e
    cases t with
    | true => exact exs_pn a h1 _ _ e
    | false => exact exs_pn b h2 _ _ e
  | .whl c b, h, Γ, o, e => by
    simp only [asgOf] at h
    simp only [ex] at e ⊢
    exact whlLoop_imp (fun Γ o => exs_pn b h Γ o) _ _ _ e
  | .for_ tg ik its b, h, Γ, o, e => by
    simp only [asgOf] at h
    obtain ⟨h1, h2⟩ := disjB_app h
    simp only [ex] at e ⊢
    obtain ⟨⟨xs, Γ1⟩, e1, e⟩ := Option.bind_eq_some_iff.mp e
    obtain ⟨⟨ds, Γ2⟩, e2, e⟩ := Option.bind_eq_some_iff.mp e
    simp only [Option.ite_none_right_eq_some] at e
    simp only [e1, Option.bind_some, e2, h1, if_true]
    exact forLoop_imp (fun Γ o => exs_pn b h2 Γ o) _ _ _ e.2
  | .setf c i nm a, _, Γ, o, e => e
  | .xapp a d, _, Γ, o, e => e
  | .grow c i nm e0 tg e1 e2 k a, h, Γ, o, e => by
    simp only [asgOf] at h
    simp only [ex] at e ⊢
    obtain ⟨⟨x, Γ1⟩, q1, e⟩ := Option.bind_eq_some_iff.mp e
    rw [q1]
    simp only [Option.bind_some] at e ⊢
    split at e
    · rename_i L0 c1 ks ds z
      simp only [Option.ite_none_right_eq_some] at e ⊢
      refine ⟨⟨e.1.1, e.1.2.1, e.1.2.2.1, e.1.2.2.2.1, ?_⟩, e.2⟩
      have h2 := e.1.2.2.2.2
      simp only [disjB, List.all_eq_true] at h h2 ⊢
      intro y hy
      have q2 := h y hy
      have q3 := h2 y hy
      simp only [List.contains_cons, Bool.not_or, Bool.and_eq_true] at q3 ⊢
      exact ⟨q3.1, q2⟩
    · cases e
  | .rse c ks es, _, Γ, o, e => e
  | .xex a .drop, _, Γ, o, e => e
  | .xex a .ret, _, Γ, o, e => e
  | .xex a (.asg tg), h, Γ, o, e => by
    simp only [asgOf] at h
    simp only [ex] at e ⊢
    obtain ⟨⟨x, Γ1⟩, e1, e⟩ := Option.bind_eq_some_iff.mp e
    rw [e1]
    simp only [Option.bind_some] at e ⊢
    split at e
    · exact e
    · obtain ⟨⟨d, Γ2⟩, e2, e⟩ := Option.bind_eq_some_iff.mp e
      simp only [Option.ite_none_right_eq_some] at e
      simp only [e2, Option.bind_some, h, if_true]
      exact e.2
  | .xex a (.asgO i), h, Γ, o, e => by
    simp only [asgOf] at h
    simp only [ex] at e ⊢
    obtain ⟨⟨x, Γ1⟩, e1, e⟩ := Option.bind_eq_some_iff.mp e
    rw [e1]
    simp only [Option.bind_some] at e ⊢
    split at e
    · exact e
    · split at e
      · simp only [Option.ite_none_right_eq_some] at e ⊢
        exact ⟨⟨e.1.1, h⟩, e.2⟩
      · obtain ⟨⟨d, Γ2⟩, e2, e⟩ := Option.bind_eq_some_iff.mp e
        simp only [e2, Option.bind_some, Option.ite_none_right_eq_some] at e ⊢
        exact ⟨⟨e.1.1, h⟩, e.2⟩
  | .try_ a all i b, h, Γ, o, e => by
    simp only [asgOf] at h
    obtain ⟨h1, h2⟩ := disjB_app h
    simp only [ex] at e ⊢
    obtain ⟨⟨x, Γ1⟩, e1, e⟩ := Option.bind_eq_some_iff.mp e
    rw [e1]
    simp only [Option.bind_some] at e ⊢
    split at e
    · simp only [Option.ite_none_right_eq_some] at e ⊢
      obtain ⟨⟨h3, _, h4⟩, e⟩ := e
      obtain ⟨o1, e2, e⟩ := Option.bind_eq_some_iff.mp e
      exact ⟨⟨h3, h1, h4⟩, by rw [exs_pn b h2 _ _ e2]; exact e⟩
    · exact e
  | .sem is F, h, Γ, o, e => by
    simp only [asgOf] at h
    simp only [ex, Option.ite_none_right_eq_some] at e ⊢
    exact ⟨h, e.2⟩
theorem exs_pn {fs : List FS} {pn pn' : List Nat} : ∀ (ss : List S), disjB (asgOfs ss) pn' = true → ∀ (Γ : Ct) (o : Out), exs fs pn ss Γ = some o → exs fs pn' ss Γ = some o
  | [], _, Γ, o, e => e
  | s :: ss, h, Γ, o, e => by
    simp only [asgOfs] at h
    obtain ⟨h1, h2⟩ := disjB_app h
    simp only [exs] at e ⊢
    obtain ⟨o1, e1, e⟩ := Option.bind_eq_some_iff.mp e
    rw [ex_pn s h1 Γ o1 e1]
    simp only [Option.bind_some]
    cases o1 with
    | nx Γ1 => exact exs_pn ss h2 Γ1 o e
    | ct Γ2 => exact e
    | bk Γ2 => exact e
    | rt r Γ2 => exact e
    | xc c ks ds Γ2 => exact e
end
/-- a def, whatever of its arguments is owned -/
theorem runF_pn {fs : List FS} {np n : Nat} {body : List S} {G0 : Ct} {o : Out} {r : RV × Ct} {pn : List Nat} (hl : G0.length = np) (hd : disjB (asgOfs body) (ownPs 0 G0) = true) (e : exs fs pn body (G0 ++ List.replicate (n - np) none) = some o) (f : DV.finish np G0 o = some r) : runF fs np n body G0 = some r :=
  runF_by hl (exs_pn body hd _ _ e) f
end DV

namespace DV
open PySem L2 PySem.Spec
/-! ### a op b op c op d -/
section
open PyProof.Rows
variable {X : Cx} {a b c d : Expr} {ta tb tc td : TE} {pos : Pos}
end
section
variable {X : Cx} {g : Gx} {fs : List FS} {a b c d : Expr} {ia ib ic id' : E} {pos : Pos} {Bn : Addr → Prop} {Ow : List Addr} {H : Hp} {σ : St} {Γ Γ' : Ct}
/-! ### xs[::-1] -/
end
end DV

namespace DV
open PySem L2 PySem.Spec
/-! ### sorted pairs of ints -/
section
variable {X : Cx} {g : Gx}
open Classical in
variable {fs : List FS} {e : Expr} {es : List Expr} {ies : List E} {p pos : Pos}
/-! ### X.append(constant), X new -/
theorem RS.updO {Bn : Addr → Prop} {Ow : List Addr} {H : Hp} {σ : St} {Γ : Ct} {p : Addr} {o : HO} (rs : RS g Bn Ow H σ Γ) (hp : p ∈ Ow) (no : ∀ (i : Nat) e, Γ[i]? = some (some (e, true)) → σ[i]? ≠ some (some (.ref p))) (ho : LI (upd H p o) p) : RS g Bn Ow (upd H p o) σ Γ ∧ Stp Ow H Ow (upd H p o) := by
  have v := ban_vst (g := g) (H := H) (o := o) (A := Av Bn Ow) (p := p) (.inr hp)
  refine ⟨⟨rs.len, fun i d h => ?_, fun i d h => ?_, rs.dist, fun a h => ?_, rs.sep, rs.kf, rs.tabs.upd (rs.trl p (.inr hp))⟩, ⟨fun b x h _ n => ?_, fun _ h => .inl h⟩⟩
  · obtain ⟨w, e, q⟩ := rs.slot i d h; exact ⟨w, e, rep_mono v _ _ q⟩
  · obtain ⟨a, e, m, q⟩ := rs.own i d h
    have ne : a ≠ p := fun z => by subst z; exact no i d h e
    refine ⟨a, e, m, ?_⟩
    cases d with
    | lst ds => obtain ⟨ws, z1, z2⟩ := q; exact ⟨ws, by rw [upd_ne ne]; exact z1, reps_mono v _ _ z2⟩
    | obj c ks ds => obtain ⟨dx, ws, l, z1, z2⟩ := q; exact ⟨dx, ws, l, by rw [upd_ne ne]; exact z1, reps_mono v _ _ z2⟩
    | _ => exact q
  · exact (rs.trl a h).upd fun _ => ho
  · have z : b ≠ p := fun z => n (by rw [z]; exact hp)
    rw [upd_ne z]; exact h
theorem s_xapp {o e : Expr} {io : E} {d : D} {v : V} {apos cpos : Pos} (C : Cok0 g X) (ho : PE X o (tR g fs io)) (he : PE X e (tC v)) (hbase : attributeBase o "append" X.env (eval o X.env) = eval o X.env)
    (hline : (apos.endLine == cpos.line) = true) (hs : starEach [e] X.env = [(false, eval e X.env)]) (hsw : swapsWith (.Call (.Attribute o "append" apos) [e] [] cpos) none pos.line X.env = pure false) :
    PS X (.Expr (.Call (.Attribute o "append" apos) [e] [] cpos) pos) (tSt g Wx fs (.xapp io d)) := by
  refine PS.weak (ps_expr (pe_bm PySem.F.plainAttrs_list PySem.F.slot_list_append PySem.F.type_list_append mt_append ho (pa_cons he pa_nil (by rw [hs]; rfl)) hbase (by rw [hs]; rfl) hline (by rw [hs]; rfl) rfl) hsw) ?_
  rintro Dn σ H ⟨pv, Bn, Ow, Γ, o, rs, pn, he, po⟩
  simp only [ex] at he
  obtain ⟨⟨x, Γ1⟩, e1, he⟩ := Option.bind_eq_some_iff.mp he
  match x, he, e1 with
  | .nw (.lst xs), he, e1 =>
    simp only [Option.ite_none_right_eq_some, Option.some.injEq] at he
    obtain ⟨⟨hz, hf⟩, rfl⟩ := he
    refine ⟨Bn, Ow, Γ, _, Γ1, rs, e1, fun w H1 O1 s1 r1 vl => ?_⟩
    obtain ⟨a, rfl, m, ⟨ws, ha, rp⟩, no⟩ := vl
    refine ⟨by rw [C.K]; exact .inl ⟨rfl, ws, .inl (.inl ha)⟩, ?_⟩
    obtain ⟨r2, s2⟩ := r1.updO (o := .lst (ws ++ [v])) m no (.inl ⟨_, upd_same⟩)
    exact ⟨a, ws, v, rfl, rfl, ha, by rw [← rp.len]; exact hz, po _ _ O1 (s1.trans s2) r2 pn⟩
end
/-! ### an empty dict, as a datum that says nothing -/
end DV

namespace DV
open PySem L2
/-! ### an argument that was only read comes back as it was handed over -/
section
variable {g : Gx} {A : Addr → Prop} {H : Hp} {a : Addr} {ws : List V}
end
end DV

namespace DV
/-- further evaluation equations -/
def SX := And.intro (@DV.tupGt.eq_1) <| And.intro (@DV.cmpD.eq_13) <| And.intro (@DV.ev.eq_36) <| And.intro (@DV.ev.eq_37) <| And.intro (@DV.ev.eq_38) <| And.intro (@DV.ev.eq_39) <| And.intro (@DV.biD.eq_23) <| And.intro (@DV.biD.eq_24) <| And.intro (@DV.lstOf.eq_1) <| And.intro (@DV.ev.eq_35) <| And.intro (@DV.isLD.eq_1) <| And.intro (@DV.idxD.eq_1) <| And.intro (@DV.ev.eq_32) <| And.intro (@DV.ev.eq_33) <| And.intro (@DV.ev.eq_34) <| And.intro (@DV.mxdD.eq_1) <| And.intro (@DV.cntD.eq_1) <| And.intro (@DV.ev.eq_27) (And.intro (@DV.ev.eq_28) (And.intro (@DV.ev.eq_29) (And.intro (@DV.ev.eq_30) (And.intro (@DV.ev.eq_31) (And.intro (@DV.rnglD.eq_1) (And.intro (@DV.tupOf.eq_1) (And.intro (@DV.tneD.eq_1) (And.intro (@DV.tneD.eq_2) (And.intro (@DV.trueR.eq_1) (And.intro (@DV.ex.eq_18) (And.intro (@DV.revD.eq_1) (And.intro (@DV.biD.eq_20) (@DV.sortD.eq_1)))))))))))))
end DV


namespace DV
open PySem L2 PySem.Spec
section
variable {X : Cx} {g : Gx} {fs : List FS} {a b : Expr} {ia ib : E} {pos p p2 pos2 : Pos}
end
end DV

namespace DV
open PySem L2 PySem.Spec
section
variable {X : Cx} {g : Gx} {fs : List FS} {pos : Pos}
theorem VlN.same {Bn : Addr → Prop} {Ow : List Addr} {H H' : Hp} {σ : St} {Γ : Ct} (s : Same H H') : ∀ {xs : List RV} {vs : List V}, VlN g Bn Ow H σ Γ xs vs → VlN g Bn Ow H' σ Γ xs vs
  | [], _, h => h
  | x :: xs, _, ⟨v, r, e, h1, h2, h3, h4⟩ => by
    refine ⟨v, r, e, ?_, h2, h3, VlN.same s h4⟩
    cases x with
    | fz d => exact Rep.same h1 s
    | nw d => obtain ⟨a, e1, m1, o1, n1⟩ := h1; exact ⟨a, e1, m1, o1.same s, n1⟩
    | sl i => exact (h3 i rfl).elim
end
end DV

namespace DV
open PySem L2 PySem.Spec
/-! ### a list in a field of a new object grows -/
theorem Stp.cons {O O' : List Addr} {H H' : Hp} (s : Stp O H O' H') (p : Addr) : Stp (p :: O) H (p :: O') H' where
  keep0 := fun a o h t n => s.keep0 a o h t fun z => n (List.mem_cons_of_mem _ z)
  grow := fun a h => by
    rcases List.mem_cons.mp h with h | h
    · exact .inl (by rw [h]; exact List.mem_cons_self)
    · rcases s.grow a h with z | z
      · exact .inl (List.mem_cons_of_mem _ z)
      · exact .inr z
section
variable {g : Gx} {Bn : Addr → Prop} {Ow Ow' : List Addr} {H H' : Hp} {σ : St} {Γ Γ' : Ct}
theorem RS.drop (rs : RS g Bn Ow H σ Γ) (i : Nat) : RS g Bn Ow H σ (Γ.set i none) := by
  have low : ∀ {j : Nat} {p : D × Bool}, (Γ.set i none)[j]? = some (some p) → Γ[j]? = some (some p) := fun {j p} h => by
    by_cases hj : i = j
    · subst hj
      by_cases hl : i < Γ.length
      · rw [List.getElem?_set_self hl] at h; cases h
      · rw [List.getElem?_eq_none (by rw [List.length_set]; omega)] at h; cases h
    · rw [List.getElem?_set_ne hj] at h; exact h
  exact ⟨by rw [List.length_set]; exact rs.len, fun j d h => rs.slot j d (low h), fun j d h => rs.own j d (low h), fun j k d e a h1 h2 => rs.dist j k d e a (low h1) (low h2), rs.trl, rs.sep, rs.kf, rs.tabs⟩
/-- what stands while the list grows -/
structure GrowS (g : Gx) (B : Addr → Prop) (p L dx : Addr) (c : Nat) (ks : List Str) (ds : List D) (nm : Str) (O : List Addr) (H : Hp) (Ls : List D) : Prop where
  bp : B p
  bL : B L
  ne : L ≠ p
  self : ∃ vs, ks.length = vs.length ∧ H p = some (.ins (g.cl c) dx ((ks ++ [nm]).zip (vs ++ [.ref L]))) ∧ Reps g (Av B O) H ds vs
  list : ∃ ws, H L = some (.lst ws) ∧ Reps g (Av B O) H Ls ws
theorem GrowS.step {B : Addr → Prop} {p L dx : Addr} {c : Nat} {ks : List Str} {ds : List D} {nm : Str} {Ls : List D} (G : GrowS g B p L dx c ks ds nm Ow H Ls) (sp : ∀ a, B a → a ∉ Ow) (s : Stp Ow H Ow' H') (rs : RS g B Ow' H' σ Γ) : GrowS g B p L dx c ks ds nm Ow' H' Ls := by
  obtain ⟨vs, l, h, r⟩ := G.self
  obtain ⟨ws, h2, r2⟩ := G.list
  exact ⟨G.bp, G.bL, G.ne, ⟨vs, l, s.keep _ _ h (sp _ G.bp), r.step s rs⟩, ⟨ws, s.keep _ _ h2 (sp _ G.bL), r2.step s rs⟩⟩
theorem GrowS.app {B : Addr → Prop} {p L dx : Addr} {c : Nat} {ks : List Str} {ds : List D} {nm : Str} {Ls : List D} {d : D} {v : V} {ws : List V} (G : GrowS g B p L dx c ks ds nm Ow H Ls) (hw : H L = some (.lst ws)) (r : Rep g (Av B Ow) H d v) : GrowS g B p L dx c ks ds nm Ow (upd H L (.lst (ws ++ [v]))) (Ls ++ [d]) := by
  obtain ⟨vs, l, h, r1⟩ := G.self
  obtain ⟨ws', h2, r2⟩ := G.list
  rw [hw] at h2; cases h2
  have vst := ban_vst (g := g) (H := H) (o := .lst (ws ++ [v])) (A := Av B Ow) (p := L) (.inl G.bL)
  exact ⟨G.bp, G.bL, G.ne, ⟨vs, l, by rw [upd_ne (fun z => G.ne z.symm)]; exact h, reps_mono vst _ _ r1⟩, ⟨_, upd_same, reps_mono vst _ _ (r2.app (Reps.one r))⟩⟩
end
section
variable {X : Cx} {g : Gx} {fs : List FS}
end
end DV

namespace DV
open PySem L2 PySem.Spec PyProof.Rows
/-! ### max, min with default= -/
section
variable {X : Cx}
end
section
variable {X : Cx} {g : Gx} {fs : List FS} {a b : Expr} {ia ib : E} {pos p kp : Pos} {es : List Expr}
end

/-! ### list.count, list.index of flat items; list.pop() -/
section
variable {X : Cx} {g : Gx} {fs : List FS} {a b : Expr} {ia ib : E} {apos cpos : Pos}
theorem Reps.dropLast {A : Addr → Prop} {H : Hp} {ds : List D} {vs : List V} (h : Reps g A H ds vs) : Reps g A H ds.dropLast vs.dropLast := by
  rw [List.dropLast_eq_take, List.dropLast_eq_take, ← h.len]
  exact h.take _
end
end DV

namespace DV
open PySem L2 PySem.Spec PyProof.Rows
/-! ### min of pairs of ints -/
section
variable {X : Cx} {g : Gx}
end
section
variable {prog : Program} {w : World} {A : Around} {E : Value → Shared → Prop} {s : Shared}
end
section
variable {X : Cx} {g : Gx}
variable {fs : List FS} {e : Expr} {es : List Expr} {ies : List E} {p pos : Pos}
end
end DV


namespace DV
open PySem L2 PySem.Spec
/-! ### dicts that are read -/
section
variable {X : Cx} {g : Gx} {fs : List FS} {a b : Expr} {ia ib : E} {pos : Pos}
end
/-! ### dict(a list of pairs) -/
section
variable {X : Cx} {g : Gx}
variable {fs : List FS} {e : Expr} {es : List Expr} {ies : List E} {p pos : Pos}
end
/-! ### sorted(triples that ascend) -/
section
variable {X : Cx} {g : Gx}
variable {fs : List FS} {e : Expr} {es : List Expr} {ies : List E} {p pos : Pos}
end
/-! ### a op b op c op d, as a test -/
section
open PyProof.Rows
variable {X : Cx} {a b c d : Expr} {ta tb tc td : TE} {pos : Pos}
end
section
variable {X : Cx} {g : Gx} {fs : List FS} {a b c d : Expr} {ia ib ic id' : E} {pos : Pos}
end
end DV

namespace DV
open PySem L2
variable {Wx : L2.XK}
/-! ### defs that may raise -/
/-- what is wished behind a call: an exception is told as its fields -/
def xcQ (g : Gx) (W : L2.XK) (Q : VK) : RV → VK
  | .fz (.exc c _ _) => fun v H' => ∀ d, v = .ref d → W (.ref (g.cl c)) (some d) H'
  | _ => Q
/-- the promise of a def that may raise -/
def spX (g : Gx) (n : Nat) (F : FS) : Sp := fun vs H Q E => spG g n F (xcQ g E Q) vs H
section
variable {g : Gx} {Bn : Addr → Prop} {Ow Ow' : List Addr} {H H' : Hp} {σ : St} {Γ Γ' : Ct}
end
/-- a def that can be called, and may raise -/
structure CalX (P : Program) (w : World) (mg : Str → Option Value) (base : Heap) (g : Gx) (k : Nat) (x : Str) (n : Nat) (F : FS) : Prop where
  ex : ∃ f fd ps, mg x = some (.ref f) ∧ PySem.W.keepIn g.K (.ref f) = true ∧ Binds g.K fd ps [] ∧ FnOk P w g.K mg base (L2.CX P w) k f fd ps (spX g n F)
structure MtdX (P : Program) (w : World) (mg : Str → Option Value) (base : Heap) (g : Gx) (k : Nat) (c : Nat) (x : Str) (n : Nat) (F : FS) : Prop where
  ex : ∃ f fd ps, Cls g.K (g.cl c) ∧ Meth g.K (g.cl c) x f ∧ Binds g.K fd ps [] ∧ FnOk P w g.K mg base (L2.CX P w) k f fd ps (spX g n F)
structure MkdX (P : Program) (w : World) (mg : Str → Option Value) (base : Heap) (g : Gx) (k : Nat) (c : Nat) (x : Str) (n : Nat) (F : FS) : Prop where
  ex : ∃ f fd ps, mg x = some (.ref (g.cl c)) ∧ Mk g.K (g.cl c) f ∧ Binds g.K fd ps [] ∧ ps.length = n + 1 ∧ FnOk P w g.K mg base (L2.CX P w) k f fd ps (spX g (n + 1) F)
section
variable {P : Program} {w : World} {mg : Str → Option Value} {base : Heap} {g : Gx} {fs : List FS}
theorem CalX.mono {j k : Nat} {x : Str} {n : Nat} {F : FS} (h : CalX P w mg base g j x n F) (l : j ≤ k) : CalX P w mg base g k x n F := by
  obtain ⟨f, fd, ps, h1, h2, h3, h4⟩ := h.ex
  exact ⟨f, fd, ps, h1, h2, h3, h4.mono l⟩
theorem MtdX.mono {j k c : Nat} {x : Str} {n : Nat} {F : FS} (h : MtdX P w mg base g j c x n F) (l : j ≤ k) : MtdX P w mg base g k c x n F := by
  obtain ⟨f, fd, ps, h1, h2, h3, h4⟩ := h.ex
  exact ⟨f, fd, ps, h1, h2, h3, h4.mono l⟩
theorem MkdX.mono {j k c : Nat} {x : Str} {n : Nat} {F : FS} (h : MkdX P w mg base g j c x n F) (l : j ≤ k) : MkdX P w mg base g k c x n F := by
  obtain ⟨f, fd, ps, h1, h2, h3, h5, h4⟩ := h.ex
  exact ⟨f, fd, ps, h1, h2, h3, h5, h4.mono l⟩
end
/-! ### calls that may raise, as whole statements -/
section
variable {X : Cx} {g : Gx} {fs : List FS} {e : Expr} {es : List Expr} {ie : E} {ies : List E} {x : Str} {p pos : Pos} {c k i n : Nat} {F : FS}
/-! ### statements -/
end
end DV

namespace DV
open PySem L2
variable {Wx : L2.XK}
/-! ### errors of the program: own classes over ArithmeticError whose __init__ stores its arguments -/
abbrev aeT : List Value := [.type "ArithmeticError", .type "Exception", .type "BaseException", .type "object"]
/-- what is written of such a class -/
structure AexC (K : PySem.W.Frag) (C : Addr) : Prop where
  ini : PySem.W.excInitIn K C aeT "ArithmeticError.__new__" = true
  ov : PySem.W.excOver K C aeT = true
  hd : PySem.W.hasDictIn K C = true
  sa : PySem.W.findIn K (.ref C) "__setattr__" = some (some (.builtin "object.__setattr__"))
  exC : PySem.W.subIn K (.ref C) (.type "BaseException") = some true
  tyC : PySem.W.typeIn K (.ref C) = some (.type "type")
  kC : PySem.W.keepIn K (.ref C) = true
section
variable {X : Cx} {pins : List (Addr × Obj)} {σ : L2.St} {H : Hp} {s : Shared} {a C dx : Addr} {f : Str} {y : V} {u : Value} {fs : List (Str × V)} {Q : Unit → Shared → Prop} {E : Value → Shared → Prop} {A : Around}
end
/-! ### readings and rules -/
section
variable {X : Cx} {o e : Expr} {es : List Expr} {to te : TE} {ta : TA} {f x : Str} {p p' p1 p2 pos : Pos} {B : Addr}
end
end DV

namespace DV
open PySem L2
variable {Wx : L2.XK}
/-! ### raise -/
/-- what the __init__ of an error does: each argument becomes a field -/
def spI (g : Gx) (c : Nat) (ks : List Str) : Sp := fun vs H Q _ => ∃ a ws, vs = V.ref a :: ws ∧ ws.length = ks.length ∧ H a = some (exo a (g.cl c) none) ∧
  ∀ H' d, H' a = some (exo a (g.cl c) (some d)) → H' d = some (exd d (ks.zip ws).reverse) → H d = none → d ≠ a → (∀ b, b ≠ a → b ≠ d → H' b = H b) → Q .non H'
structure XCls (P : Program) (w : World) (mg : Str → Option Value) (base : Heap) (g : Gx) (k c : Nat) (x : Str) (ks : List Str) : Prop where
  ex : ∃ fI fd ps, mg x = some (.ref (g.cl c)) ∧ AexC g.K (g.cl c) ∧ PySem.W.findIn g.K (.ref (g.cl c)) "__init__" = some (some (.ref fI)) ∧ PySem.W.typeIn g.K (.ref fI) = some (.type "function") ∧ Binds g.K fd ps [] ∧ FnOk P w g.K mg base CX0 k fI fd ps (spI g c ks)
theorem XCls.mono {P : Program} {w : World} {mg : Str → Option Value} {base : Heap} {g : Gx} {j k c : Nat} {x : Str} {ks : List Str} (h : XCls P w mg base g j c x ks) (l : j ≤ k) : XCls P w mg base g k c x ks := by
  obtain ⟨f, fd, ps, h1, h2, h3, h4, h5, h6⟩ := h.ex
  exact ⟨f, fd, ps, h1, h2, h3, h4, h5, h6.mono l⟩
/-! ### the readings of an __init__ -/
section
variable {g : Gx} {c : Nat} {K : PySem.W.Frag} {k1 k2 n0 n1 n2 msg : Str} {vs : List V} {H : Hp} {Q : VK} {E : L2.XK}
end
end DV

namespace DV
open PySem L2
variable {Wx : L2.XK}
/-! ### an error that a suite holds: isinstance(e, C), e.f -/
/-- the suite holds the error -/
abbrev gE (g : Gx) (c : Nat) (e d : Addr) : Gx := ⟨g.K, g.cl, g.T, some (c, e, d), g.A⟩
section
variable {Y : Cx} {X : Cx} {g : Gx} {fs : List FS} {a dd DC : Addr} {oe : Obj} {pn : List (Addr × Obj)} {c0 i : Nat} {n y : Str} {p p2 pe pos : Pos}
end
end DV

namespace DV
open PySem L2
variable {Wx : L2.XK}
/-! ### data without an error inside -/
section
variable {g : Gx} {A : Addr → Prop} {H : Hp} {c : Nat} {e dd : Addr}
mutual
theorem rep_dn : ∀ (d : D) (v : V), noE d = true → Rep (gE g c e dd) A H d v → Rep g A H d v
  | .non, _, _, h => by simpa [Rep] using h
  | .bl _, _, _, h => by simpa [Rep] using h
  | .int _, _, _, h => by simpa [Rep] using h
  | .str _, _, _, h => by simpa [Rep] using h
  | .scr _, _, _, h => by simpa [Rep] using h
  | .dct, _, _, h => by simpa [Rep] using h
  | .ref _, _, _, h => by simpa [Rep] using h
  | .lst ds, v, k, h => by
    simp only [Rep] at h ⊢
    simp only [noE] at k
    obtain ⟨a, vs, q, n, s, r⟩ := h
    exact ⟨a, vs, q, n, s, reps_dn ds vs k r⟩
  | .tup ds, v, k, h => by
    simp only [Rep] at h ⊢
    simp only [noE] at k
    obtain ⟨a, vs, q, n, s, r⟩ := h
    exact ⟨a, vs, q, n, s, reps_dn ds vs k r⟩
  | .obj _ ks ds, v, k, h => by
    simp only [Rep] at h ⊢
    simp only [noE] at k
    obtain ⟨a, dx, vs, q, n, l, s, r⟩ := h
    exact ⟨a, dx, vs, q, n, l, s, reps_dn ds vs k r⟩
  | .dic ks ds, v, k, h => by
    simp only [Rep] at h ⊢
    simp only [noE] at k
    obtain ⟨a, vs, q, n, l, s, r⟩ := h
    exact ⟨a, vs, q, n, l, s, reps_dn ds vs k r⟩
  | .exc _ ks ds, v, k, h => by
    simp only [Rep] at h ⊢
    simp only [noE] at k
    obtain ⟨a, vs, q, n, l, s, r⟩ := h
    exact ⟨a, vs, q, n, l, s, reps_dn ds vs k r⟩
  | .err _ ks ds, v, k, h => by simp [noE] at k
theorem reps_dn : ∀ (ds : List D) (vs : List V), noEs ds = true → Reps (gE g c e dd) A H ds vs → Reps g A H ds vs
  | [], _, _, h => by simpa [Reps] using h
  | d :: ds, _, k, h => by
    simp only [Reps] at h ⊢
    simp only [noEs, Bool.and_eq_true] at k
    obtain ⟨v, r, q, h1, h2⟩ := h
    exact ⟨v, r, q, rep_dn d v k.1 h1, reps_dn ds r k.2 h2⟩
end
end
/-- plain slots without an error inside -/
def plainG (Γ : Ct) : Bool := Γ.all fun s => match s with
  | some (d, false) => noE d
  | some (_, true) => false
  | none => true
section
variable {g : Gx} {Bn : Addr → Prop} {Ow O : List Addr} {H H' : Hp} {σ σs : L2.St} {Γ Γs Γ' : Ct} {c : Nat} {e dd : Addr}
theorem plainG_at {i : Nat} {d : D} {b : Bool} (h : plainG Γ = true) (q : Γ[i]? = some (some (d, b))) : b = false ∧ noE d = true := by
  have := List.all_eq_true.mp h _ (List.mem_of_getElem? q)
  cases b with
  | false => exact ⟨rfl, this⟩
  | true => cases this
/-- plain slots alone -/
theorem RS.plain {σ1 : L2.St} {Γ1 : Ct} (rs : RS g Bn Ow H σ Γ) (hl : σ1.length = Γ1.length) (hp : plainG Γ1 = true) (hs : ∀ (i : Nat) d, Γ1[i]? = some (some (d, false)) → ∃ v, σ1[i]? = some (some v) ∧ Rep g (Av Bn Ow) H d v) : RS g (Av Bn Ow) [] H σ1 Γ1 := by
  have av : ∀ a, Av (Av Bn Ow) [] a → Av Bn Ow a := fun a z => z.elim id fun z => nomatch z
  refine ⟨hl, fun i d h => ?_, fun i d h => ?_, fun i j d f a h => ?_, fun a h => rs.trl a (av a h), fun a _ => by simp, fun a h => rs.kf a (av a h), rs.tabs⟩
  · obtain ⟨v, q, r⟩ := hs i d h
    exact ⟨v, q, rep_less av r⟩
  · exact absurd (plainG_at hp h).1 Bool.noConfusion
  · exact absurd (plainG_at hp h).1 Bool.noConfusion
/-- a frame behind what another one did that could not touch it -/
theorem RS.over (r0 : RS g Bn Ow H σ Γ) (s : Stp [] H O H') (t : Tb g.T H') : RS g Bn Ow H' σ Γ := by
  have kp : ∀ a, Vst g (Av Bn Ow) H a → (∀ o, H a = some o → nT o → H' a = some o) ∧ ¬ Av Bn Ow a := fun a z => ⟨fun o h q => s.keep0 a o h q (by simp), z.1⟩
  refine ⟨r0.len, fun i d h => ?_, fun i d h => ?_, r0.dist, fun a h => ?_, r0.sep, r0.kf, t⟩
  · obtain ⟨v, q, r⟩ := r0.slot i d h
    exact ⟨v, q, rep_mono kp _ _ r⟩
  · obtain ⟨a, q, m, r⟩ := r0.own i d h
    refine ⟨a, q, m, ?_⟩
    cases d with
    | lst ds => obtain ⟨ws, z1, z2⟩ := r; exact ⟨ws, s.keep0 a _ z1 nofun (by simp), reps_mono kp _ _ z2⟩
    | obj c ks ds => obtain ⟨dx, ws, l, z1, z2⟩ := r; exact ⟨dx, ws, l, s.keep0 a _ z1 nofun (by simp), reps_mono kp _ _ z2⟩
    | _ => exact r
  · rcases r0.trl a h with ⟨vs, q⟩ | ⟨C, dx, fl, q⟩
    · exact .inl ⟨vs, s.keep0 a _ q nofun (by simp)⟩
    · exact .inr ⟨C, dx, fl, s.keep0 a _ q nofun (by simp)⟩
theorem Stp.any (s : Stp [] H O H') : Stp Ow H Ow H' := ⟨fun a o h t _ => s.keep0 a o h t (by simp), fun _ h => .inl h⟩
theorem Vst.eq {a : Addr} {A : Addr → Prop} (h : Vst (gE g c e dd) A H a) : Vst g A H a := h
/-- tables alone: a lambda was made -/
theorem RS.ext (r0 : RS g Bn Ow H σ Γ) (k : LamX.ExtN H H') (t : Tb g.T H') : Stp Ow H Ow H' ∧ RS g Bn Ow H' σ Γ := by
  have s : Stp [] H [] H' := ⟨fun a o h n _ => k a o h n, fun _ h => .inl h⟩
  exact ⟨s.any, r0.over s t⟩
end
end DV

namespace DV
open PySem L2
/-! ### a def that calls what it got, and tells of the error: told(lambda: e) -/
section
variable {g : Gx} {fs0 : List FS} {B : Addr → Prop} {H : Hp} {σ : L2.St} {Γ : Ct}
end
section
variable {X : Cx} {g : Gx} {fs0 : List FS} {Ng : List Str} {x a be n q : Str} {sg : Scope} {g0 BE : Addr} {cdg : Value} {p2 q1 b0 : Stmt} {mid suite : List Stmt} {pa pb pc np pos' pos : Pos} {i2 iq : S} {im isu : List S} {ie nn : Nat} {all : List Nat} {d0 : D}
end
end DV

namespace DV
open PySem L2
/-! ### told(lambda: e), in the frame that asks -/
section
variable {X : Cx} {g : Gx} {fs fs0 : List FS} {d0 : D} {sd : Nat → List Str → List D → Option D} {ie : E} {x a : Str} {g0 c P : Addr} {k : Nat} {pg : Arguments} {bg : List Stmt} {sg : Scope} {dV kV doc pm cdv ct oc : Value} {an od : Option Addr} {osl : Array (Option Value)} {Ng : List Str}
  {params : Arguments} {body : Expr} {scope : Scope} {p lpos pos : Pos}
end
/-! ### a def that makes lambdas: its code object is at c -/
section
variable {P : Program} {w : World} {mg : Str → Option Value} {base : Heap} {g : Gx} {fs : List FS}
end
/-! ### the law behind the top, with tables -/
end DV

namespace DV
open PySem L2
variable {Wx : L2.XK}
section
variable {X : Cx} {g : Gx} {fs : List FS} {a dd : Addr} {oe : Obj} {pn : List (Addr × Obj)} {c0 i : Nat} {n y : Str} {p p2 pe pos tp : Pos} {es : List Expr} {kt : Nat} {Y : Cx} {e : Expr} {v : V} {vs : List V}
end
end DV

namespace DV
open PySem L2
end DV

namespace DV
open PySem L2 PySem.Spec PyProof.Rows
/-! ### sorted list of ints -/
section
variable {X : Cx} {g : Gx}
variable {fs : List FS} {e : Expr} {es : List Expr} {ies : List E} {p pos : Pos}
end
/-! ### min of tuples of an int and a list of ints -/
section
variable {X : Cx} {g : Gx}
variable {fs : List FS} {e : Expr} {es : List Expr} {ies : List E} {p pos : Pos}
end
end DV

namespace DV
open PySem L2
section
variable {g : Gx} {fs : List FS} {H : Hp} {σ : St}
end
section
variable {X : Cx} {g : Gx} {fs : List FS}
end
end DV

namespace DV
open PySem L2 PySem.Spec
section
variable {X : Cx} {g : Gx} {fs : List FS} {a : Expr} {ia : E} {pos p p2 pos2 : Pos}
end
end DV

namespace DV
open PySem PySem.Spec PyProof.Rows L2 LamX
/-- the promise of a def, where no repr is under way -/
structure FnG (P : Program) (w : World) (K : PySem.W.Frag) (mg : Str → Option Value) (base : Heap) (CX : CXT) (k : Nat) (f : Addr) (fd : FuncData) (ps : List Str) (sp : Sp) : Prop where
  len : ∀ vs H Q E, sp vs H Q E → vs.length = ps.length
  run : ∀ (A : Around) (ot : List Env) (s : Shared) (H : Hp) (as : Args) (us : List Value) (vs : List V) (Q : VK) (E : XK), A.guards = some [] → Room k A → Env0 P w K mg base A ot s H → BindsTo s fd as (ps.zip us) → Vals vs us → sp vs H Q E →
    codeAny (model P w) A (.call (.ref f) as) (CR CX ot P w H s Q E) s
/-! ### defs over this promise -/
theorem FnG.mono {P : Program} {w : World} {K : PySem.W.Frag} {mg : Str → Option Value} {base : Heap} {CX : CXT} {j k : Nat} {f : Addr} {fd : FuncData} {ps : List Str} {sp : Sp} (h : FnG P w K mg base CX j f fd ps sp) (l : j ≤ k) : FnG P w K mg base CX k f fd ps sp :=
  ⟨h.len, fun A ot s H as us vs Q E hg hr he hb hv hs => h.run A ot s H as us vs Q E hg (hr.mono l) he hb hv hs⟩
theorem FnG.of {P : Program} {w : World} {K : PySem.W.Frag} {mg : Str → Option Value} {base : Heap} {CX : CXT} {k : Nat} {f : Addr} {fd : FuncData} {ps : List Str} {sp : Sp} (h : FnOk P w K mg base CX k f fd ps sp) : FnG P w K mg base CX k f fd ps sp :=
  ⟨h.len, fun A ot s H as us vs Q E _ hr he hb hv hs => h.run A ot s H as us vs Q E hr he hb hv hs⟩
/-- a def that can be called where no repr is under way -/
structure CalG (P : Program) (w : World) (mg : Str → Option Value) (base : Heap) (g : Gx) (k : Nat) (x : Str) (n : Nat) (F : FS) : Prop where
  ex : ∃ f fd ps, mg x = some (.ref f) ∧ PySem.W.keepIn g.K (.ref f) = true ∧ Binds g.K fd ps [] ∧ FnG P w g.K mg base CX0 k f fd ps (spF g n F)
section
variable {P : Program} {w : World} {mg : Str → Option Value} {base : Heap} {g : Gx} {fs : List FS}
theorem CalG.mono {j k : Nat} {x : Str} {n : Nat} {F : FS} (h : CalG P w mg base g j x n F) (l : j ≤ k) : CalG P w mg base g k x n F := by
  obtain ⟨f, fd, ps, h1, h2, h3, h4⟩ := h.ex
  exact ⟨f, fd, ps, h1, h2, h3, h4.mono l⟩
end
section
variable {X : Cx} {g : Gx} {fs : List FS} {e : Expr} {es : List Expr} {ies : List E} {x : Str} {p pos : Pos} {k i n : Nat} {F : FS}
end
end DV

namespace DV
open PySem L2
/-! ### repr of plain data, where no repr is under way -/
section
variable {X : Cx} {g : Gx} {A : Addr → Prop} {pins : List (Addr × Obj)} {σ : L2.St} {H : Hp} {s : Shared}
variable {fs : List FS} {e : Expr} {es : List Expr} {ies : List E} {p pos : Pos}
end
end DV

namespace DV
open PySem L2
variable {Wx : L2.XK}
/-! ### try: a call / except C as e: .. / further clauses that are never asked -/
section
variable {g : Gx} {Bn : Addr → Prop} {Ow : List Addr} {H : Hp} {σ : L2.St} {Γ : Ct} {c : Nat} {e dd : Addr}
theorem noG_at {i : Nat} {d : D} {b : Bool} (h : noG Γ = true) (q : Γ[i]? = some (some (d, b))) : noE d = true := List.all_eq_true.mp h _ (List.mem_of_getElem? q)
theorem RS.dn (rs : RS (gE g c e dd) Bn Ow H σ Γ) (hn : noG Γ = true) : RS g Bn Ow H σ Γ := by
  refine ⟨rs.len, fun i d h => ?_, fun i d h => ?_, rs.dist, rs.trl, rs.sep, rs.kf, rs.tabs⟩
  · obtain ⟨v, q, r⟩ := rs.slot i d h
    exact ⟨v, q, rep_dn _ _ (noG_at hn h) r⟩
  · have k := noG_at hn h
    obtain ⟨a, q, m, r⟩ := rs.own i d h
    refine ⟨a, q, m, ?_⟩
    cases d with
    | lst ds => obtain ⟨ws, z1, z2⟩ := r; exact ⟨ws, z1, reps_dn _ _ (by simpa only [noE] using k) z2⟩
    | obj c ks ds => obtain ⟨dx, ws, l, z1, z2⟩ := r; exact ⟨dx, ws, l, z1, reps_dn _ _ (by simpa only [noE] using k) z2⟩
    | _ => exact r
end
section
variable {X : Cx} {x n : Str} {cv : Value} {i : Nat} {bdy sui : List Stmt} {st0 : Stmt} {hdl : List ExceptHandler} {npq pos posb : Pos} {tb : WX → TS} {ts : Addr → Value → Option Addr → TS}
end
/-! ### calls that may raise, told at the caller's slots -/
section
variable {X : Cx} {W : WX} {g : Gx} {fs : List FS} {e : Expr} {es : List Expr} {ie : E} {ies : List E} {x : Str} {p pos : Pos} {c k i n : Nat} {F : FS} {C f : Addr} {fd : FuncData} {ps : List Str} {sp : Sp} {E : XK}
end
/-! ### the statement -/
section
variable {X : Cx} {g : Gx} {fs : List FS} {e : Expr} {ie : E} {x n : Str} {cv : Value} {i : Nat} {sui : List Stmt} {st0 : Stmt} {hdl : List ExceptHandler} {npq pos posb pc : Pos} {all : List Nat} {isu : List S}
end
end DV

namespace DV
open PySem L2
theorem Cok.tr {g : Gx} {X : Cx} (C : Cok g X) (pn : List (Addr × Obj)) (xe : Value → Shared → Prop) : Cok g (X.tr pn xe) := ⟨C.K, C.calm, C.hu, C.nd, C.ea⟩
end DV

namespace DV
open PySem L2

/-! ### a store: objects that are told by their numbers -/
def Gx.w (g : Gx) (A : List Addr) : Gx := { g with A := A }
section
variable {g : Gx} {A A' : List Addr} {av av' : Addr → Prop} {H H' : Hp}
theorem pre_get {α : Type} {xs ys : List α} {k : Nat} {x : α} (h : xs <+: ys) (e : xs[k]? = some x) : ys[k]? = some x := by
  obtain ⟨zs, rfl⟩ := h
  have hl := (List.getElem?_eq_some_iff.mp e).1
  rw [List.getElem?_append_left hl]
  exact e
mutual
theorem rep_w (p : A <+: A') : ∀ (d : D) (v : V), Rep (g.w A) av H d v → Rep (g.w A') av H d v
  | .non, _, h => by simpa [Rep] using h
  | .bl _, _, h => by simpa [Rep] using h
  | .int _, _, h => by simpa [Rep] using h
  | .str _, _, h => by simpa [Rep] using h
  | .lst ds, v, h => by
    simp only [Rep] at h ⊢
    obtain ⟨a, vs, e, n, s, r⟩ := h
    exact ⟨a, vs, e, n, s, reps_w p ds vs r⟩
  | .scr ns, v, h => by
    simp only [Rep] at h ⊢
    exact h
  | .tup ds, v, h => by
    simp only [Rep] at h ⊢
    obtain ⟨a, vs, e, n, s, r⟩ := h
    exact ⟨a, vs, e, n, s, reps_w p ds vs r⟩
  | .obj c ks ds, v, h => by
    simp only [Rep] at h ⊢
    obtain ⟨a, dx, vs, e, n, l, s, r⟩ := h
    exact ⟨a, dx, vs, e, n, l, s, reps_w p ds vs r⟩
  | .dct, v, h => by
    simp only [Rep] at h ⊢
    exact h
  | .dic ks ds, v, h => by
    simp only [Rep] at h ⊢
    obtain ⟨a, vs, e, n, l, s, r⟩ := h
    exact ⟨a, vs, e, n, l, s, reps_w p ds vs r⟩
  | .exc c ks ds, v, h => by
    simp only [Rep] at h ⊢
    obtain ⟨a, vs, e, n, l, s, r⟩ := h
    exact ⟨a, vs, e, n, l, s, reps_w p ds vs r⟩
  | .err c ks ds, v, h => by
    simp only [Rep] at h ⊢
    obtain ⟨e0, a, vs, e1, e, n, l, s, r⟩ := h
    exact ⟨e0, a, vs, e1, e, n, l, s, reps_w p ds vs r⟩
  | .ref k, v, h => by
    simp only [Rep] at h ⊢
    obtain ⟨a, e, rfl⟩ := h
    exact ⟨a, pre_get p e, rfl⟩
theorem reps_w (p : A <+: A') : ∀ (ds : List D) (vs : List V), Reps (g.w A) av H ds vs → Reps (g.w A') av H ds vs
  | [], _, h => by simpa [Reps] using h
  | d :: ds, _, h => by
    simp only [Reps] at h ⊢
    obtain ⟨v, r, e, h1, h2⟩ := h
    exact ⟨v, r, e, rep_w p d v h1, reps_w p ds r h2⟩
end
theorem own_w (p : A <+: A') {d : D} {a : Addr} (h : OwnA (g.w A) av H d a) : OwnA (g.w A') av H d a := by
  cases d with
  | lst ds => obtain ⟨vs, e, r⟩ := h; exact ⟨vs, e, reps_w p _ _ r⟩
  | obj c ks ds => obtain ⟨dx, vs, l, e, r⟩ := h; exact ⟨dx, vs, l, e, reps_w p _ _ r⟩
  | _ => exact h
theorem RS.w {Bn : Addr → Prop} {Ow : List Addr} {σ : St} {Γ : Ct} (r : RS (g.w A) Bn Ow H σ Γ) (p : A <+: A') : RS (g.w A') Bn Ow H σ Γ where
  len := r.len
  slot := fun i d h => let ⟨v, e, q⟩ := r.slot i d h; ⟨v, e, rep_w p _ _ q⟩
  own := fun i d h => let ⟨a, e, m, q⟩ := r.own i d h; ⟨a, e, m, own_w p q⟩
  dist := r.dist
  trl := r.trl
  sep := r.sep
  kf := r.kf
  tabs := r.tabs
end
abbrev Bx (Bn : Addr → Prop) (A : List Addr) : Addr → Prop := fun a => Bn a ∨ a ∈ A
/-- the frame beside a store -/
structure SS (g : Gx) (A : List Addr) (Bn : Addr → Prop) (Ow : List Addr) (H : Hp) (σ : St) (Γ : Ct) (M : List D) : Prop where
  rs : RS (g.w A) (Bx Bn A) Ow H σ Γ
  len : A.length = M.length
  nd : A.Nodup
  sepA : ∀ a, a ∈ A → ¬ Bn a
  cell : ∀ (k : Nat) d a, M[k]? = some d → A[k]? = some a → OwnA (g.w A) (Av (Bx Bn A) Ow) H d a
/-- a step of frame and store -/
structure Sm (A Ow : List Addr) (H : Hp) (A' Ow' : List Addr) (H' : Hp) : Prop where
  pre : A <+: A'
  keep0 : ∀ a o, H a = some o → nT o → a ∉ Ow → a ∉ A → H' a = some o
  grow : ∀ a, a ∈ Ow' ∨ a ∈ A' → a ∈ Ow ∨ a ∈ A ∨ Nw H a
theorem Sm.refl (A Ow : List Addr) (H : Hp) : Sm A Ow H A Ow H := ⟨List.prefix_refl _, fun _ _ h _ _ _ => h, fun _ h => h.elim .inl fun h => .inr (.inl h)⟩
theorem Sm.trans {A1 O1 A2 O2 A3 O3 : List Addr} {H1 H2 H3 : Hp} (a : Sm A1 O1 H1 A2 O2 H2) (b : Sm A2 O2 H2 A3 O3 H3) : Sm A1 O1 H1 A3 O3 H3 where
  pre := a.pre.trans b.pre
  keep0 := fun x o h t n1 n2 => b.keep0 x o (a.keep0 x o h t n1 n2) t (fun z => by
    rcases a.grow x (.inl z) with q | q | q
    · exact n1 q
    · exact n2 q
    · exact q o h t) fun z => by
    rcases a.grow x (.inr z) with q | q | q
    · exact n1 q
    · exact n2 q
    · exact q o h t
  grow := fun x h => by
    rcases b.grow x h with q | q | q
    · exact a.grow x (.inl q)
    · exact a.grow x (.inr q)
    · by_cases m : x ∈ O1
      · exact .inl m
      · by_cases m2 : x ∈ A1
        · exact .inr (.inl m2)
        · exact .inr (.inr fun o e t => q o (a.keep0 x o e t m m2) t)
theorem Sm.of {A Ow Ow' : List Addr} {H H' : Hp} (s : Stp Ow H Ow' H') : Sm A Ow H A Ow' H' := ⟨List.prefix_refl _, fun a o h t n _ => s.keep0 a o h t n, fun a h => by
  rcases h with h | h
  · exact (s.grow a h).imp id .inr
  · exact .inr (.inl h)⟩
section
variable {g : Gx} {A A' : List Addr} {Bn : Addr → Prop} {Ow Ow' : List Addr} {H H' : Hp} {σ σ' : St} {Γ Γ' : Ct} {M M' : List D}
theorem sm_vst (s : Sm A Ow H A' Ow' H') (kf : ∀ a, a ∈ Ow' ∨ a ∈ A' → g.K.lookup a = none) : ∀ a, Vst g (Av (Bx Bn A) Ow) H a → (∀ o, H a = some o → nT o → H' a = some o) ∧ ¬ Av (Bx Bn A') Ow' a := fun a ⟨n, t⟩ => by
  have n1 : ¬ Bn a := fun z => n (.inl (.inl z))
  have n2 : a ∉ A := fun z => n (.inl (.inr z))
  have n3 : a ∉ Ow := fun z => n (.inr z)
  refine ⟨fun o h t => s.keep0 a o h t n3 n2, fun z => ?_⟩
  have z' : a ∈ Ow' ∨ a ∈ A' := by
    rcases z with (z | z) | z
    · exact absurd z n1
    · exact .inr z
    · exact .inl z
  rcases t with ⟨o, t, nt⟩ | ⟨o, t⟩
  · rcases s.grow a z' with q | q | q
    · exact n3 q
    · exact n2 q
    · exact q o t nt
  · rw [show g.K.lookup a = none from kf a z'] at t; cases t
theorem SS.kf (r : SS g A Bn Ow H σ Γ M) : ∀ a, a ∈ Ow ∨ a ∈ A → g.K.lookup a = none := fun a h => r.rs.kf a (h.elim .inr fun h => .inl (.inr h))
theorem Rep.sm {d : D} {v : V} (h : Rep (g.w A) (Av (Bx Bn A) Ow) H d v) (s : Sm A Ow H A' Ow' H') (r : SS g A' Bn Ow' H' σ' Γ' M') : Rep (g.w A') (Av (Bx Bn A') Ow') H' d v :=
  rep_w s.pre d v (rep_mono (g := g.w A) (sm_vst (g := g) s r.kf) d v h)
theorem Reps.sm {d : List D} {v : List V} (h : Reps (g.w A) (Av (Bx Bn A) Ow) H d v) (s : Sm A Ow H A' Ow' H') (r : SS g A' Bn Ow' H' σ' Γ' M') : Reps (g.w A') (Av (Bx Bn A') Ow') H' d v :=
  reps_w s.pre d v (reps_mono (g := g.w A) (sm_vst (g := g) s r.kf) d v h)
theorem Val.sm {r : RV} {v : V} (h : Val (g.w A) (Bx Bn A) Ow H σ Γ r.dn v) (s : Sm A Ow H A' Ow' H') (rs : SS g A' Bn Ow' H' σ Γ' M') : Val (g.w A') (Bx Bn A') Ow' H' σ Γ' r.dn v := by
  cases r with
  | fz x => exact Rep.sm h s rs
  | nw x => exact Rep.sm h s rs
  | sl i => exact h
theorem SS.ad {k : Nat} {a : Addr} (r : SS g A Bn Ow H σ Γ M) (e : A[k]? = some a) : a ∈ A ∧ a ∉ Ow := by
  have m : a ∈ A := by
    obtain ⟨h, rfl⟩ := List.getElem?_eq_some_iff.mp e
    exact List.getElem_mem h
  exact ⟨m, r.rs.sep a (.inr m)⟩
/-- a step that leaves the store -/
theorem SS.step (r : SS g A Bn Ow H σ Γ M) (s : Stp Ow H Ow' H') (rs : RS (g.w A) (Bx Bn A) Ow' H' σ' Γ') : SS g A Bn Ow' H' σ' Γ' M :=
  ⟨rs, r.len, r.nd, r.sepA, fun k d a h1 h2 => (r.cell k d a h1 h2).step (r.ad h2).2 s rs⟩
theorem SS.same (r : SS g A Bn Ow H σ Γ M) (s : Same H H') : SS g A Bn Ow H' σ Γ M := r.step (Stp.same s) (r.rs.same s)
theorem bx_or {p : Addr} : orB (Bx Bn A) p = Bx Bn (A ++ [p]) := by
  funext a
  simp only [orB, Bx, List.mem_append, List.mem_singleton, or_assoc]
/-- a new owned object becomes one of the store -/
theorem SS.alc {d : D} {v : V} (r : SS g A Bn Ow H σ Γ M) (h : Val (g.w A) (Bx Bn A) Ow H σ Γ (.nw d) v) :
    ∃ A' Ow', Sm A Ow H A' Ow' H ∧ SS g A' Bn Ow' H σ Γ (M ++ [d]) ∧ Rep (g.w A') (Av (Bx Bn A') Ow') H (.ref M.length) v := by
  obtain ⟨a, rfl, m, o, no⟩ := h
  have na : a ∉ A := fun z => r.rs.sep a (.inr z) m
  have nb : ¬ Bn a := fun z => r.rs.sep a (.inl z) m
  have r2 := (r.rs.ban (d := d) m no).w (A' := A ++ [a]) (List.prefix_append _ _)
  rw [bx_or] at r2
  have k1 : ∀ b, Av (Bx Bn (A ++ [a])) (Ow.filter fun x => decide (x ≠ a)) b → Av (Bx Bn A) Ow b := fun b z => by
    rcases z with (z | z) | z
    · exact .inl (.inl z)
    · rcases List.mem_append.mp z with z | z
      · exact .inl (.inr z)
      · rw [List.mem_singleton.mp z]; exact .inr m
    · exact .inr (mem_ne z).1
  refine ⟨A ++ [a], Ow.filter fun x => decide (x ≠ a), ⟨List.prefix_append _ _, fun _ _ h _ _ _ => h, fun b z => ?_⟩, ⟨r2, by simp [r.len], ?_, fun b z => ?_, fun k e b h1 h2 => ?_⟩, ?_⟩
  · rcases z with z | z
    · exact .inl (mem_ne z).1
    · rcases List.mem_append.mp z with z | z
      · exact .inr (.inl z)
      · rw [List.mem_singleton.mp z]; exact .inl m
  · refine List.nodup_append.mpr ⟨r.nd, by simp, fun x hx y hy => ?_⟩
    rw [List.mem_singleton.mp hy]
    exact fun z => na (z ▸ hx)
  · rcases List.mem_append.mp z with z | z
    · exact r.sepA b z
    · rw [List.mem_singleton.mp z]; exact nb
  · by_cases hk : k < M.length
    · rw [List.getElem?_append_left hk] at h1
      rw [List.getElem?_append_left (by rw [r.len]; exact hk)] at h2
      exact own_w (List.prefix_append _ _) (own_less k1 (r.cell k e b h1 h2))
    · rw [List.getElem?_append_right (by omega)] at h1
      rw [List.getElem?_append_right (by rw [r.len]; omega)] at h2
      rw [r.len] at h2
      cases hz : k - M.length with
      | zero =>
        rw [hz] at h1 h2
        simp only [List.getElem?_cons_zero, Option.some.injEq] at h1 h2
        subst h1; subst h2
        exact own_w (List.prefix_append _ _) (own_less k1 o)
      | succ n => rw [hz] at h1; simp at h1
  · simp only [Rep]
    refine ⟨a, ?_, rfl⟩
    show (A ++ [a])[M.length]? = some a
    rw [List.getElem?_append_right (by rw [r.len]; exact Nat.le_refl _), r.len, Nat.sub_self]
    rfl
theorem set_get {α : Type} {xs : List α} {k j : Nat} {x y : α} (h : (xs.set k x)[j]? = some y) : (j = k ∧ y = x) ∨ (j ≠ k ∧ xs[j]? = some y) := by
  by_cases e : k = j
  · subst e
    have hl : k < xs.length := by
      have := (List.getElem?_eq_some_iff.mp h).1
      rwa [List.length_set] at this
    rw [List.getElem?_set_self hl] at h
    cases h
    exact .inl ⟨rfl, rfl⟩
  · rw [List.getElem?_set_ne e] at h
    exact .inr ⟨fun z => e z.symm, h⟩
theorem nd_ne {k j : Nat} {a b : Addr} (nd : A.Nodup) (h1 : A[k]? = some a) (h2 : A[j]? = some b) (n : j ≠ k) : b ≠ a := fun z => by
  subst z
  exact n ((List.getElem?_inj (List.getElem?_eq_some_iff.mp h2).1 nd).mp (h2.trans h1.symm))
/-- an object of the store is rewritten -/
theorem SS.mutG {k : Nat} {a : Addr} {d : D} {o : HO} (r : SS g A Bn Ow H σ Γ M) (ha : A[k]? = some a) (hL : LI (upd H a o) a) (ho : OwnA (g.w A) (Av (Bx Bn A) Ow) (upd H a o) d a) :
    SS g A Bn Ow (upd H a o) σ Γ (M.set k d) ∧ Sm A Ow H A Ow (upd H a o) := by
  have m := (r.ad ha).1
  have vs := ban_vst (g := g.w A) (H := H) (o := o) (A := Av (Bx Bn A) Ow) (p := a) (.inl (.inr m))
  refine ⟨⟨r.rs.updB (.inr m) hL, by rw [List.length_set]; exact r.len, r.nd, r.sepA, fun j e b h1 h2 => ?_⟩, ⟨List.prefix_refl _, fun b x h _ _ n => ?_, fun b z => z.elim .inl fun z => .inr (.inl z)⟩⟩
  · rcases set_get h1 with ⟨rfl, rfl⟩ | ⟨n, h1⟩
    · rw [ha] at h2; cases h2
      exact ho
    · have nb := nd_ne r.nd ha h2 n
      have q := r.cell j e b h1 h2
      cases e with
      | lst es => obtain ⟨us, e2, r2⟩ := q; exact ⟨us, by rw [upd_ne nb]; exact e2, reps_mono vs _ _ r2⟩
      | obj c ks es => obtain ⟨dx, us, l, e2, r2⟩ := q; exact ⟨dx, us, l, by rw [upd_ne nb]; exact e2, reps_mono vs _ _ r2⟩
      | _ => exact q
  · have z : b ≠ a := fun z => n (by rw [z]; exact m)
    rw [upd_ne z]; exact h
theorem SS.mutL {k : Nat} {a : Addr} {ds : List D} {ws : List V} (r : SS g A Bn Ow H σ Γ M) (ha : A[k]? = some a) (q : Reps (g.w A) (Av (Bx Bn A) Ow) H ds ws) :
    SS g A Bn Ow (upd H a (.lst ws)) σ Γ (M.set k (.lst ds)) ∧ Sm A Ow H A Ow (upd H a (.lst ws)) := by
  have vs := ban_vst (g := g.w A) (H := H) (o := .lst ws) (A := Av (Bx Bn A) Ow) (p := a) (.inl (.inr (r.ad ha).1))
  exact r.mutG ha (.inl ⟨_, upd_same⟩) ⟨ws, upd_same, reps_mono vs _ _ q⟩
theorem SS.mutO {k c : Nat} {a dx : Addr} {ks : List Str} {ds : List D} {ws : List V} (r : SS g A Bn Ow H σ Γ M) (ha : A[k]? = some a) (l : ks.length = ws.length) (q : Reps (g.w A) (Av (Bx Bn A) Ow) H ds ws) :
    SS g A Bn Ow (upd H a (.ins (g.cl c) dx (ks.zip ws))) σ Γ (M.set k (.obj c ks ds)) ∧ Sm A Ow H A Ow (upd H a (.ins (g.cl c) dx (ks.zip ws))) := by
  have vs := ban_vst (g := g.w A) (H := H) (o := .ins (g.cl c) dx (ks.zip ws)) (A := Av (Bx Bn A) Ow) (p := a) (.inl (.inr (r.ad ha).1))
  exact r.mutG ha (.inr ⟨_, _, _, upd_same⟩) ⟨dx, ws, l, upd_same, reps_mono vs _ _ q⟩
/-! ### a look at the store -/
/-- objects in the place of their numbers, down to a depth -/
def snap (M : List D) : Nat → D → D
  | n + 1, .ref k => match M[k]? with
    | some (.obj c ks ds) => .obj c ks (ds.map (snap M n))
    | some (.lst ds) => .lst (ds.map (snap M n))
    | _ => .ref k
  | _, d => d
def snapT (M : List D) (n : Nat) (b : Bool) (d : D) : D := if b then (match d with
  | .lst ds => .lst (ds.map (snap M n))
  | .tup ds => .tup (ds.map (snap M n))
  | d => d) else snap M n d
/-- slots that are looked into: slot, depth, and whether it is its items -/
def snapG (M : List D) : List (Nat × Nat × Bool) → Ct → Ct
  | [], Γ => Γ
  | (i, n, b) :: is, Γ => match Γ[i]? with
    | some (some (d, false)) => snapG M is (Γ.set i (some (snapT M n b d, false)))
    | _ => snapG M is Γ
theorem reps_map {f : D → D} {av : Addr → Prop} {g : Gx} {ds : List D} {vs : List V} (hf : ∀ d v, Rep g av H d v → Rep g av H (f d) v) (h : Reps g av H ds vs) : Reps g av H (ds.map f) vs := by
  induction ds generalizing vs with
  | nil => exact h
  | cons d ds ih =>
    simp only [Reps] at h
    obtain ⟨v, r, rfl, h1, h2⟩ := h
    rw [List.map_cons]
    simp only [Reps]
    exact ⟨v, r, rfl, hf d v h1, ih h2⟩
theorem snap_ok {g : Gx} {av : Addr → Prop} (hc : ∀ (k : Nat) d a, M[k]? = some d → g.A[k]? = some a → ¬ av a ∧ OwnA g av H d a) : ∀ (n : Nat) (d : D) (v : V), Rep g av H d v → Rep g av H (snap M n d) v
  | 0, d, v, h => by cases d <;> exact h
  | n + 1, d, v, h => by
    cases d with
    | ref k =>
      have h' := h
      simp only [Rep] at h'
      obtain ⟨a, ea, rfl⟩ := h'
      simp only [snap]
      split
      · rename_i c ks ds e
        obtain ⟨na, dx, vs, l, s, r⟩ := hc k _ a e ea
        simp only [Rep]
        exact ⟨a, dx, vs, rfl, na, l, s, reps_map (snap_ok hc n) r⟩
      · rename_i ds e
        obtain ⟨na, vs, s, r⟩ := hc k _ a e ea
        simp only [Rep]
        exact ⟨a, vs, rfl, na, s, reps_map (snap_ok hc n) r⟩
      · exact h
    | _ => exact h
theorem snapT_ok {g : Gx} {av : Addr → Prop} (hc : ∀ (k : Nat) d a, M[k]? = some d → g.A[k]? = some a → ¬ av a ∧ OwnA g av H d a) {n : Nat} {b : Bool} {d : D} {v : V} (h : Rep g av H d v) : Rep g av H (snapT M n b d) v := by
  unfold snapT
  split
  · split
    · simp only [Rep] at h ⊢
      obtain ⟨a, vs, e, na, s, r⟩ := h
      exact ⟨a, vs, e, na, s, reps_map (snap_ok hc n) r⟩
    · simp only [Rep] at h ⊢
      obtain ⟨a, vs, e, na, s, r⟩ := h
      exact ⟨a, vs, e, na, s, reps_map (snap_ok hc n) r⟩
    · exact h
  · exact snap_ok hc n d v h
/-- another reading of a plain slot -/
theorem RS.reset {g : Gx} {i : Nat} {d : D} (rs : RS g Bn Ow H σ Γ) (hi : ∃ d0, Γ[i]? = some (some (d0, false))) (h : ∀ v, σ[i]? = some (some v) → Rep g (Av Bn Ow) H d v) : RS g Bn Ow H σ (Γ.set i (some (d, false))) := by
  obtain ⟨d0, hi⟩ := hi
  refine ⟨by rw [List.length_set]; exact rs.len, fun j e q => ?_, fun j e q => ?_, fun j k e f a q1 q2 => ?_, rs.trl, rs.sep, rs.kf, rs.tabs⟩
  · rcases set_get q with ⟨z, w⟩ | ⟨_, w⟩
    · obtain ⟨v, e1, _⟩ := rs.slot i d0 hi
      cases w
      rw [z]
      exact ⟨v, e1, h v e1⟩
    · exact rs.slot j e w
  · rcases set_get q with ⟨_, w⟩ | ⟨_, w⟩
    · cases w
    · exact rs.own j e w
  · rcases set_get q1 with ⟨_, w1⟩ | ⟨_, w1⟩
    · cases w1
    · rcases set_get q2 with ⟨_, w2⟩ | ⟨_, w2⟩
      · cases w2
      · exact rs.dist j k e f a w1 w2
theorem snapG_ok {g : Gx} (hc : ∀ (k : Nat) d a, M[k]? = some d → g.A[k]? = some a → ¬ Av Bn Ow a ∧ OwnA g (Av Bn Ow) H d a) : ∀ (is : List (Nat × Nat × Bool)) {Γ : Ct}, RS g Bn Ow H σ Γ → RS g Bn Ow H σ (snapG M is Γ)
  | [], Γ, rs => rs
  | (i, n, b) :: is, Γ, rs => by
    unfold snapG
    split
    · rename_i d e
      refine snapG_ok hc is (rs.reset ⟨d, e⟩ fun v hv => ?_)
      obtain ⟨w, e1, r1⟩ := rs.slot i d e
      rw [hv] at e1; cases e1
      exact snapT_ok hc r1
    · exact snapG_ok hc is rs
theorem RS.lessB {g : Gx} {Bn' : Addr → Prop} (rs : RS g Bn Ow H σ Γ) (k : ∀ a, Bn' a → Bn a) : RS g Bn' Ow H σ Γ := by
  have kk : ∀ a, Av Bn' Ow a → Av Bn Ow a := fun a h => h.imp (k a) id
  exact ⟨rs.len, fun i d h => let ⟨v, e, q⟩ := rs.slot i d h; ⟨v, e, rep_less kk q⟩, fun i d h => let ⟨a, e, m, q⟩ := rs.own i d h; ⟨a, e, m, own_less kk q⟩, rs.dist, fun a h => rs.trl a (kk a h), fun a h => rs.sep a (k a h), fun a h => rs.kf a (kk a h), rs.tabs⟩
/-! data that stand apart from any list and object -/
mutual
def safe : D → Bool
  | .non => true
  | .bl _ => true
  | .int _ => true
  | .str _ => true
  | .tup ds => safes ds
  | _ => false
def safes : List D → Bool
  | [] => true
  | d :: ds => safe d && safes ds
end
def safeR : RV → Bool
  | .fz d => safe d
  | .nw (.lst ds) => safes ds
  | _ => false
mutual
theorem rep_safe {g : Gx} {av av' : Addr → Prop} (hk : ∀ a, av' a → LI H a ∧ g.K.lookup a = none) : ∀ (d : D) (v : V), safe d = true → Rep g av H d v → Rep g av' H d v
  | .non, _, _, h => by simpa [Rep] using h
  | .bl _, _, _, h => by simpa [Rep] using h
  | .int _, _, _, h => by simpa [Rep] using h
  | .str _, _, _, h => by simpa [Rep] using h
  | .tup ds, v, hs, h => by
    simp only [Rep] at h ⊢
    obtain ⟨a, vs, e, n, s, r⟩ := h
    refine ⟨a, vs, e, fun z => ?_, s, reps_safe hk ds vs (by simpa only [safe] using hs) r⟩
    obtain ⟨l, k⟩ := hk a z
    rcases s with (s | ⟨o, s⟩) | ⟨o, _, _, s, _⟩
    · rcases l with ⟨_, l⟩ | ⟨_, _, _, l⟩ <;> (rw [s] at l; cases l)
    · rcases l with ⟨_, l⟩ | ⟨_, _, _, l⟩ <;> (rw [s] at l; cases l)
    · rw [k] at s; cases s
  | .lst _, _, hs, _ => by simp [safe] at hs
  | .scr _, _, hs, _ => by simp [safe] at hs
  | .obj _ _ _, _, hs, _ => by simp [safe] at hs
  | .dct, _, hs, _ => by simp [safe] at hs
  | .dic _ _, _, hs, _ => by simp [safe] at hs
  | .exc _ _ _, _, hs, _ => by simp [safe] at hs
  | .err _ _ _, _, hs, _ => by simp [safe] at hs
  | .ref _, _, hs, _ => by simp [safe] at hs
theorem reps_safe {g : Gx} {av av' : Addr → Prop} (hk : ∀ a, av' a → LI H a ∧ g.K.lookup a = none) : ∀ (ds : List D) (vs : List V), safes ds = true → Reps g av H ds vs → Reps g av' H ds vs
  | [], _, _, h => by simpa [Reps] using h
  | d :: ds, _, hs, h => by
    simp only [safes, Bool.and_eq_true] at hs
    simp only [Reps] at h ⊢
    obtain ⟨v, r, e, h1, h2⟩ := h
    exact ⟨v, r, e, rep_safe hk d v hs.1 h1, reps_safe hk ds r hs.2 h2⟩
end
/-- all slots plain -/
def flat (Γ : Ct) : Ct := Γ.map fun s => s.map fun p => (p.1, false)
def lookG (M : List D) (is : List (Nat × Nat × Bool)) (Γ : Ct) : Ct := snapG M is (flat Γ)
theorem flat_get {i : Nat} {d : D} {b : Bool} (h : (flat Γ)[i]? = some (some (d, b))) : b = false ∧ ∃ b', Γ[i]? = some (some (d, b')) := by
  unfold flat at h
  rw [List.getElem?_map] at h
  cases e : Γ[i]? with
  | none => rw [e] at h; simp at h
  | some s =>
    rw [e] at h
    cases s with
    | none => simp at h
    | some p =>
      simp at h
      exact ⟨h.2, p.2, by rw [← h.1]⟩
theorem RS.flt {g : Gx} (rs : RS g Bn Ow H σ Γ) : RS g Bn [] H σ (flat Γ) := by
  have kk : ∀ a, Av Bn [] a → Av Bn Ow a := fun a h => h.elim .inl fun z => (by cases z)
  refine ⟨by unfold flat; rw [List.length_map]; exact rs.len, fun i d q => ?_, fun i d q => ?_, fun i j d e a q1 q2 => ?_, fun a h => rs.trl a (kk a h), fun a h z => (by cases z), fun a h => rs.kf a (kk a h), rs.tabs⟩
  · obtain ⟨_, b, q⟩ := flat_get q
    cases b with
    | false => obtain ⟨v, e, r⟩ := rs.slot i d q; exact ⟨v, e, rep_less kk r⟩
    | true =>
      obtain ⟨a, e, m, r⟩ := rs.own i d q
      refine ⟨_, e, (own_less kk r).rep fun z => ?_⟩
      rcases z with z | z
      · exact rs.sep a z m
      · cases z
  · cases (flat_get q).1
  · cases (flat_get q1).1
theorem SS.look (r : SS g A Bn Ow H σ Γ M) (is : List (Nat × Nat × Bool)) : RS (g.w A) Bn [] H σ (lookG M is Γ) := by
  refine snapG_ok (fun k d a h1 h2 => ⟨fun z => ?_, own_less (fun b z => ?_) (r.cell k d a h1 h2)⟩) is ((r.rs.lessB fun a h => .inl h).flt)
  · have h2 : A[k]? = some a := h2
    rcases z with z | z
    · exact r.sepA a (r.ad h2).1 z
    · cases z
  · rcases z with z | z
    · exact .inl (.inl z)
    · cases z
/-- behind the look -/
theorem SS.back {Γs : Ct} (r : SS g A Bn Ow H σ Γ M) (s : Stp [] H Ow' H') (rs : RS (g.w A) Bn Ow' H' σ Γs) : SS g A Bn (Ow ++ Ow') H' σ Γ M ∧ Sm A Ow H A (Ow ++ Ow') H' ∧
    ∀ x v, safeR x = true → Val (g.w A) Bn Ow' H' σ Γs x v → Val (g.w A) (Bx Bn A) (Ow ++ Ow') H' σ Γ x v := by
  have kp : ∀ a o, H a = some o → nT o → H' a = some o := fun a o h t => s.keep0 a o h t (by simp)
  have kL : ∀ a, LI H a → LI H' a := fun a h => by
    rcases h with ⟨vs, e⟩ | ⟨C, dx, fl, e⟩
    · exact .inl ⟨vs, kp a _ e nofun⟩
    · exact .inr ⟨C, dx, fl, kp a _ e nofun⟩
  have nw : ∀ a, a ∈ Ow' → Nw H a := fun a m => (s.grow a m).elim (fun z => by cases z) id
  have hk : ∀ a, Av (Bx Bn A) (Ow ++ Ow') a → LI H' a ∧ (g.w A).K.lookup a = none := fun a z => by
    rcases z with z | z
    · exact ⟨kL a (r.rs.trl a (.inl z)), r.rs.kf a (.inl z)⟩
    · rcases List.mem_append.mp z with z | z
      · exact ⟨kL a (r.rs.trl a (.inr z)), r.rs.kf a (.inr z)⟩
      · exact ⟨rs.trl a (.inr z), rs.kf a (.inr z)⟩
  have vst : ∀ a, Vst (g.w A) (Av (Bx Bn A) Ow) H a → (∀ o, H a = some o → nT o → H' a = some o) ∧ ¬ Av (Bx Bn A) (Ow ++ Ow') a := fun a ⟨n, t⟩ => by
    refine ⟨fun o h t => kp a o h t, fun z => ?_⟩
    rcases z with z | z
    · exact n (.inl z)
    · rcases List.mem_append.mp z with z | z
      · exact n (.inr z)
      · rcases t with ⟨o, t, nt⟩ | ⟨o, t⟩
        · exact nw a z o t nt
        · rw [rs.kf a (.inr z)] at t; cases t
  have own : ∀ d a, OwnA (g.w A) (Av (Bx Bn A) Ow) H d a → OwnA (g.w A) (Av (Bx Bn A) (Ow ++ Ow')) H' d a := fun d a o => by
    cases d with
    | lst es => obtain ⟨us, e2, r2⟩ := o; exact ⟨us, kp _ _ e2 nofun, reps_mono vst _ _ r2⟩
    | obj c ks es => obtain ⟨dx, us, l, e2, r2⟩ := o; exact ⟨dx, us, l, kp _ _ e2 nofun, reps_mono vst _ _ r2⟩
    | _ => exact o
  refine ⟨⟨⟨r.rs.len, fun i d q => ?_, fun i d q => ?_, r.rs.dist, fun a z => (hk a z).1, fun a z w => ?_, fun a z => (hk a z).2, rs.tabs⟩, r.len, r.nd, r.sepA, fun k d a h1 h2 => own d a (r.cell k d a h1 h2)⟩, ⟨List.prefix_refl _, fun a o h t _ _ => kp a o h t, fun a z => ?_⟩, fun x v hs h => ?_⟩
  · obtain ⟨w, e1, r1⟩ := r.rs.slot i d q
    exact ⟨w, e1, rep_mono vst d w r1⟩
  · obtain ⟨a, e1, m1, o1⟩ := r.rs.own i d q
    exact ⟨a, e1, List.mem_append_left _ m1, own d a o1⟩
  · rcases List.mem_append.mp w with w | w
    · exact r.rs.sep a z w
    · exact r.rs.trn a (.inl z) (nw a w)
  · rcases z with z | z
    · rcases List.mem_append.mp z with z | z
      · exact .inl z
      · exact .inr (.inr (nw a z))
    · exact .inr (.inl z)
  · cases x with
    | fz d => exact rep_safe hk d v hs h
    | sl i => cases hs
    | nw d =>
      cases d <;> simp only [safeR, Bool.false_eq_true] at hs
      rename_i ds
      obtain ⟨a, rfl, m, ⟨vs, e1, r1⟩, no⟩ := h
      refine ⟨a, rfl, List.mem_append_right _ m, ⟨vs, e1, reps_safe hk ds vs hs r1⟩, fun i e q1 q2 => ?_⟩
      obtain ⟨b, e2, m2, _⟩ := r.rs.own i e q1
      rw [q2] at e2; cases e2
      exact r.rs.trn a (.inr m2) (nw a m)
end
end DV

namespace DV
open PySem L2

/-! ### the language beside a store: expressions -/
abbrev FM := Ct → List D → Option (RV × List D)
inductive XE where
  | stuck
  | raw (e : E)
  | snp (is : List (Nat × Nat × Bool)) (e : E)
  | rfld (o : E) (c : Nat) (nm : Str)
  | callS (k : Nat) (xs : List XE)
  | callM (k : Nat) (xs : List XE)
  | methM (c : Nat) (nm : Str) (k : Nat) (o : E) (xs : List XE)
  | mkM (c k : Nat) (xs : List XE)
  | alc (x : XE)
  | cmp (op : COp) (a b : XE)
  | and (a b : XE)
  | or (a b : XE)
  | not (a : XE)
  | tup (xs : List XE)
  | lst (xs : List XE)
  | ixX (a : XE) (b : E)
  | bor (i : Nat) (e : E)
  | methK (c : Nat) (nm : Str) (k : Nat) (p : List Nat) (o : E) (xs : List XE)
  | ownM (op : OOp) (c k n : Nat) (a b : XE)
  | sem (F : List FS → List (Ct → List D → Option (RV × List D)) → Ct → List D → Option (RV × Ct × List D))
def plG (ds : List D) : Ct := ds.map fun d => some (d, false)
/-- a field of an object of the store -/
def rfldD (M : List D) (c : Nat) (nm : Str) : D → Option D
  | .ref k => match M[k]? with
    | some (.obj c' ks ds) => if c' = c then fldL nm ks ds else none
    | _ => none
  | _ => none
/-- an object of the store, of the class c, without a field of that name -/
def refO (M : List D) (c : Nat) (nm : Str) : D → Bool
  | .ref k => match M[k]? with
    | some (.obj c' ks _) => c' == c && !(ks.contains nm)
    | _ => false
  | _ => false
def noSl : RV → Bool
  | .sl _ => false
  | _ => true
/-- a slot with a list of the store: the list itself, for a while -/
def borG (M : List D) (i : Nat) (Γ : Ct) : Option (Nat × Ct) := match Γ[i]? with
  | some (some (.ref k, false)) => match M[k]? with
    | some (.lst ds) => some (k, Γ.set i (some (.lst ds, true)))
    | _ => none
  | _ => none
/-- and back into the store -/
def bakG (M : List D) (i k : Nat) (Γ : Ct) : Option (Ct × List D) := match Γ[i]? with
  | some (some (.lst ds, true)) => some (Γ.set i (some (.ref k, false)), M.set k (.lst ds))
  | _ => none
def notSl (i : Nat) : RV → Bool
  | .sl j => j != i
  | _ => true
mutual
def evX (fs : List FS) (ms : List FM) : XE → Ct → List D → Option (RV × Ct × List D)
  | .stuck, _, _ => none
  | .raw e, Γ, M => (ev fs e Γ).map fun (r, Γ1) => (r, Γ1, M)
  | .snp is e, Γ, M => (ev fs e (lookG M is Γ)).bind fun (r, _) => if safeR r = true then some (r, Γ, M) else none
  | .rfld o c nm, Γ, M => (ev fs o Γ).bind fun (x, Γ1) => (datum Γ1 x).bind fun d => (rfldD M c nm d).map fun r => (.fz r, Γ1, M)
  | .callS k xs, Γ, M => (evXs fs ms xs Γ M).bind fun (ds, Γ1, M1) => (fs[k]?).bind fun F => (callD F (ds.map .fz) Γ1).map fun (r, Γ2) => (r, Γ2, M1)
  | .callM k xs, Γ, M => (evXs fs ms xs Γ M).bind fun (ds, Γ1, M1) => (ms[k]?).bind fun F => (F (plG ds) M1).bind fun (r, M2) => if noSl r = true then some (r, Γ1, M2) else none
  | .methM c nm k o xs, Γ, M => (ev fs o Γ).bind fun (x, Γ1) => (datum Γ1 x).bind fun d => if refO M c nm d = true then (evXs fs ms xs Γ1 M).bind fun (ds, Γ2, M1) => (ms[k]?).bind fun F => (F (plG (d :: ds)) M1).bind fun (r, M2) => if noSl r = true then some (r, Γ2, M2) else none else none
  | .mkM c k xs, Γ, M => (evXs fs ms xs Γ M).bind fun (ds, Γ1, M1) => (ms[k]?).bind fun F => (F (plG (.ref M1.length :: ds)) (M1 ++ [.obj c [] []])).bind fun (r, M2) => match r with
    | .fz .non => some (.fz (.ref M1.length), Γ1, M2)
    | _ => none
  | .alc x, Γ, M => (evX fs ms x Γ M).bind fun (r, Γ1, M1) => match r with
    | .nw d => some (.fz (.ref M1.length), Γ1, M1 ++ [d])
    | _ => none
  | .cmp op a b, Γ, M => (evX fs ms a Γ M).bind fun (x, Γ1, M1) => (evX fs ms b Γ1 M1).bind fun (y, Γ2, M2) => (datum Γ2 x).bind fun d => (datum Γ2 y).bind fun e => (cmpD op d e).map fun r => (.fz (.bl r), Γ2, M2)
  | .and a b, Γ, M => (evX fs ms a Γ M).bind fun (x, Γ1, M1) => (testD Γ1 x).bind fun t => if t then evX fs ms b Γ1 M1 else some (x, Γ1, M1)
  | .or a b, Γ, M => (evX fs ms a Γ M).bind fun (x, Γ1, M1) => (testD Γ1 x).bind fun t => if t then some (x, Γ1, M1) else evX fs ms b Γ1 M1
  | .not a, Γ, M => (evX fs ms a Γ M).bind fun (x, Γ1, M1) => (testD Γ1 x).map fun t => (.fz (.bl (!t)), Γ1, M1)
  | .tup xs, Γ, M => (evXs fs ms xs Γ M).bind fun (ds, Γ1, M1) => if ds.length ≤ sizeLine then some (.fz (.tup ds), Γ1, M1) else none
  | .lst xs, Γ, M => (evXs fs ms xs Γ M).bind fun (ds, Γ1, M1) => if ds.length ≤ sizeLine then some (.nw (.lst ds), Γ1, M1) else none
  | .ixX a b, Γ, M => (evX fs ms a Γ M).bind fun (x, Γ1, M1) => (ev fs b Γ1).bind fun (y, Γ2) => (datum Γ2 x).bind fun d => (datum Γ2 y).bind fun e => (ixD d e).map fun r => (.fz r, Γ2, M1)
  | .bor i e, Γ, M => (borG M i Γ).bind fun (k, Γb) => (ev fs e Γb).bind fun (r, Γ1) => if notSl i r = true then (bakG M i k Γ1).map fun (Γ2, M2) => (r, Γ2, M2) else none
  | .methK c nm k p o xs, Γ, M => (ev fs o Γ).bind fun (x, Γ1) => (datum Γ1 x).bind fun d => if refO M c nm d = true then (evXs fs ms xs Γ1 M).bind fun (ds, Γ2, M1) => if permOk p ds.length = true then (ms[k]?).bind fun F => (F (plG (d :: permL p ds)) M1).bind fun (r, M2) => if noSl r = true then some (r, Γ2, M2) else none else none else none
  | .ownM op c k n a b, Γ, M => (evX fs ms a Γ M).bind fun (x, Γ1, M1) => (evX fs ms b Γ1 M1).bind fun (y, Γ2, M2) => (datum Γ2 x).bind fun d => (datum Γ2 y).bind fun e =>
      if (isObj c (snap M2 n d) && okO op c (snap M2 n e)) = true then (fs[k]?).bind fun F => (callD F [.fz (snap M2 n d), .fz (snap M2 n e)] (lookG M2 [] Γ2)).bind fun (r, _) => (postO op r).bind fun r' => if safeR r' = true then some (r', Γ2, M2) else none else none
  | .sem F, Γ, M => F fs ms Γ M
def evXs (fs : List FS) (ms : List FM) : List XE → Ct → List D → Option (List D × Ct × List D)
  | [], Γ, M => some ([], Γ, M)
  | x :: xs, Γ, M => (evX fs ms x Γ M).bind fun (r, Γ1, M1) => (fre Γ1 r).bind fun (d, Γ2) => (evXs fs ms xs Γ2 M1).map fun (ds, Γ3, M2) => (d :: ds, Γ3, M2)
end
def tX (g : Gx) (fs : List FS) (ms : List FM) (x : XE) : TE := fun σ H Q => ∃ A Bn Ow Γ M r Γ' M', SS g A Bn Ow H σ Γ M ∧ evX fs ms x Γ M = some (r, Γ', M') ∧ ∀ v H' A' Ow', Sm A Ow H A' Ow' H' → SS g A' Bn Ow' H' σ Γ' M' → Val (g.w A') (Bx Bn A') Ow' H' σ Γ' r v → Q v H'
def tXT (g : Gx) (fs : List FS) (ms : List FM) (x : XE) : TT := fun σ H Q => ∃ A Bn Ow Γ M r Γ' M' t, SS g A Bn Ow H σ Γ M ∧ evX fs ms x Γ M = some (r, Γ', M') ∧ testD Γ' r = some t ∧ ∀ H' A' Ow', Sm A Ow H A' Ow' H' → SS g A' Bn Ow' H' σ Γ' M' → Q t H'
def tXs (g : Gx) (fs : List FS) (ms : List FM) (xs : List XE) : TA := fun σ H Q => ∃ A Bn Ow Γ M ds Γ' M', SS g A Bn Ow H σ Γ M ∧ evXs fs ms xs Γ M = some (ds, Γ', M') ∧ ∀ vs H' A' Ow', Sm A Ow H A' Ow' H' → SS g A' Bn Ow' H' σ Γ' M' → Reps (g.w A') (Av (Bx Bn A') Ow') H' ds vs → Q vs H'
section
variable {g : Gx} {A A' : List Addr} {Bn : Addr → Prop} {Ow Ow' : List Addr} {H H' : Hp} {σ σ' : St} {Γ Γ' : Ct} {M M' : List D}
theorem SS.fre {x : RV} {v : V} {d : D} (r : SS g A Bn Ow H σ Γ M) (h : Val (g.w A) (Bx Bn A) Ow H σ Γ x v) (e : fre Γ x = some (d, Γ')) : ∃ Ow', Sm A Ow H A Ow' H ∧ SS g A Bn Ow' H σ Γ' M ∧ Rep (g.w A) (Av (Bx Bn A) Ow') H d v := by
  obtain ⟨O2, s2, r2, p2⟩ := fre_ok r.rs h e
  exact ⟨O2, Sm.of s2, r.step s2 r2, p2⟩
theorem SS.dn {x : RV} {v : V} (r : SS g A Bn Ow H σ Γ M) (h : Val (g.w A) (Bx Bn A) Ow H σ Γ x v) : ∃ Ow', Sm A Ow H A Ow' H ∧ SS g A Bn Ow' H σ Γ M ∧ Val (g.w A) (Bx Bn A) Ow' H σ Γ x.dn v := by
  obtain ⟨O2, s2, r2, p2⟩ := dn_ok r.rs h
  exact ⟨O2, Sm.of s2, r.step s2 r2, p2⟩
/-- a call with plain values: the callee's frame -/
theorem SS.sub {ds : List D} {vs : List V} (r : SS g A Bn Ow H σ Γ M) (q : Reps (g.w A) (Av (Bx Bn A) Ow) H ds vs) : SS g A (fun a => Bn a ∨ a ∈ Ow) [] H (vs.map some) (plG ds) M := by
  have kk : ∀ a, Av (Bx (fun a => Bn a ∨ a ∈ Ow) A) [] a → Av (Bx Bn A) Ow a := fun a z => by
    rcases z with ((z | z) | z) | z
    · exact .inl (.inl z)
    · exact .inr z
    · exact .inl (.inr z)
    · cases z
  have pg : ∀ {i : Nat} {d : D} {b : Bool}, (plG ds)[i]? = some (some (d, b)) → b = false ∧ ds[i]? = some d := fun {i d b} h => by
    unfold plG at h
    rw [List.getElem?_map] at h
    cases e : ds[i]? with
    | none => rw [e] at h; simp at h
    | some x => rw [e] at h; simp at h; exact ⟨h.2, by rw [h.1]⟩
  refine ⟨⟨by rw [plG, List.length_map, List.length_map, q.len], fun i d h => ?_, fun i d h => ?_, fun i j d e a h1 => ?_, fun a h => r.rs.trl a (kk a h), fun a _ z => (by cases z), fun a h => r.rs.kf a (kk a h), r.rs.tabs⟩, r.len, r.nd, fun a h z => ?_, fun k d a h1 h2 => own_less kk (r.cell k d a h1 h2)⟩
  · obtain ⟨v, e, rp⟩ := q.get (pg h).2
    exact ⟨v, by rw [List.getElem?_map, e]; rfl, rep_less kk rp⟩
  · cases (pg h).1
  · cases (pg h1).1
  · rcases z with z | z
    · exact r.sepA a h z
    · exact r.rs.sep a (.inr h) z
theorem SS.ret {σ1 : St} {Γ1 : Ct} (r : SS g A Bn Ow H σ Γ M) (s : Sm A [] H A' Ow' H') (r' : SS g A' (fun a => Bn a ∨ a ∈ Ow) Ow' H' σ1 Γ1 M') : SS g A' Bn (Ow ++ Ow') H' σ Γ M' ∧ Sm A Ow H A' (Ow ++ Ow') H' ∧
    ∀ x v, noSl x = true → Val (g.w A') (Bx (fun a => Bn a ∨ a ∈ Ow) A') Ow' H' σ1 Γ1 x v → Val (g.w A') (Bx Bn A') (Ow ++ Ow') H' σ Γ x v := by
  have kk : ∀ a, Av (Bx Bn A') (Ow ++ Ow') a → Av (Bx (fun a => Bn a ∨ a ∈ Ow) A') Ow' a := fun a z => by
    rcases z with (z | z) | z
    · exact .inl (.inl (.inl z))
    · exact .inl (.inr z)
    · rcases List.mem_append.mp z with z | z
      · exact .inl (.inl (.inr z))
      · exact .inr z
  have st : Sm A Ow H A' (Ow ++ Ow') H' := ⟨s.pre, fun a o h t _ n => s.keep0 a o h t (by simp) n, fun a z => by
    have z' : a ∈ Ow ∨ (a ∈ Ow' ∨ a ∈ A') := by
      rcases z with z | z
      · rcases List.mem_append.mp z with z | z
        · exact .inl z
        · exact .inr (.inl z)
      · exact .inr (.inr z)
    rcases z' with z | z
    · exact .inl z
    · rcases s.grow a z with q | q | q
      · cases q
      · exact .inr (.inl q)
      · exact .inr (.inr q)⟩
  have nOA : ∀ a, a ∈ Ow → a ∉ A' := fun a m z => by
    rcases s.grow a (.inr z) with q | q | q
    · cases q
    · exact r.rs.sep a (.inr q) m
    · exact r.rs.trn a (.inr m) q
  have vst : ∀ a, Vst g (Av (Bx Bn A) Ow) H a → (∀ o, H a = some o → nT o → H' a = some o) ∧ ¬ Av (Bx Bn A') (Ow ++ Ow') a := sm_vst (g := g) st fun a z => by
    refine r'.rs.kf a ?_
    rcases z with z | z
    · rcases List.mem_append.mp z with z | z
      · exact .inl (.inl (.inr z))
      · exact .inr z
    · exact .inl (.inr z)
  refine ⟨⟨⟨r.rs.len, fun i d h => ?_, fun i d h => ?_, r.rs.dist, fun a h => r'.rs.trl a (kk a h), fun a h z => ?_, fun a h => r'.rs.kf a (kk a h), r'.rs.tabs⟩, r'.len, r'.nd, fun a h z => r'.sepA a h (.inl z), fun k d a h1 h2 => own_less kk (r'.cell k d a h1 h2)⟩, st, fun x v hs h => ?_⟩
  · obtain ⟨v, e, q⟩ := r.rs.slot i d h
    exact ⟨v, e, rep_w s.pre d v (rep_mono (g := g.w A) vst d v q)⟩
  · obtain ⟨a, e, m, o⟩ := r.rs.own i d h
    have nA : a ∉ A := fun z => r.rs.sep a (.inr z) m
    refine ⟨a, e, List.mem_append_left _ m, own_w s.pre ?_⟩
    cases d with
    | lst es => obtain ⟨us, e2, r2⟩ := o; exact ⟨us, s.keep0 a _ e2 nofun (by simp) nA, reps_mono (g := g.w A) vst _ _ r2⟩
    | obj c ks es => obtain ⟨dx, us, l, e2, r2⟩ := o; exact ⟨dx, us, l, s.keep0 a _ e2 nofun (by simp) nA, reps_mono (g := g.w A) vst _ _ r2⟩
    | _ => exact o
  · rcases List.mem_append.mp z with z | z
    · rcases h with h | h
      · exact r.rs.sep a (.inl h) z
      · exact nOA a z h
    · rcases h with h | h
      · exact r'.rs.sep a (.inl (.inl h)) z
      · exact r'.rs.sep a (.inr h) z
  · cases x with
    | sl i => cases hs
    | fz d => exact rep_less kk h
    | nw d =>
      obtain ⟨a, rfl, m, o, no⟩ := h
      refine ⟨a, rfl, List.mem_append_right _ m, own_less kk o, fun i e q1 q2 => ?_⟩
      obtain ⟨b, e2, m2, _⟩ := r.rs.own i e q1
      rw [q2] at e2; cases e2
      exact r'.rs.sep a (.inl (.inr m2)) m
end
/-- the promise of a def that works on the store -/
def spM (g : Gx) (n : Nat) (F : FM) : Sp := fun vs H Q _ => vs.length = n ∧ ∃ A Bn ds M r M', SS g A Bn [] H (vs.map some) (plG ds) M ∧ F (plG ds) M = some (r, M') ∧ noSl r = true ∧
  ∀ v H' A' Ow', Sm A [] H A' Ow' H' → SS g A' Bn Ow' H' (vs.map some) (plG ds) M' → Val (g.w A') (Bx Bn A') Ow' H' (vs.map some) (plG ds) r v → Q v H'
section
variable {g : Gx} {A : List Addr} {Bn : Addr → Prop} {Ow : List Addr} {H : Hp} {σ : St} {Γ : Ct} {M M' : List D}
theorem callM_core {n : Nat} {F : FM} {ds : List D} {vs : List V} {x : RV} {Q : VK} {E : XK} (r : SS g A Bn Ow H σ Γ M) (q : Reps (g.w A) (Av (Bx Bn A) Ow) H ds vs) (ef : F (plG ds) M = some (x, M')) (nx : noSl x = true) (hn : vs.length = n)
    (hQ : ∀ v H' A' Ow', Sm A Ow H A' Ow' H' → SS g A' Bn Ow' H' σ Γ M' → Val (g.w A') (Bx Bn A') Ow' H' σ Γ x v → Q v H') : spM g n F vs H Q E :=
  ⟨hn, A, _, ds, M, x, M', r.sub q, ef, nx, fun v H' A' O' s r' h => by
    obtain ⟨r2, s2, h2⟩ := r.ret s r'
    exact hQ v H' A' _ s2 r2 (h2 x v nx h)⟩
end
section
variable {X : Cx} {g : Gx} {fs : List FS} {ms : List FM} {a b : Expr} {ia ib : E} {xa xb : XE} {pos : Pos}
theorem PE.exA {α : Type} {e : Expr} {t : α → TE} (h : ∀ A, PE X e (t A)) : PE X e (fun σ H Q => ∃ A, t A σ H Q) := ⟨fun pins s σ H Q I ⟨A, q⟩ => (h A).run pins s σ H Q I q⟩
theorem PT.exA {α : Type} {e : Expr} {t : α → TT} (h : ∀ A, PT X e (t A)) : PT X e (fun σ H Q => ∃ A, t A σ H Q) := ⟨fun pins s σ H Q I ⟨A, q⟩ => (h A).run pins s σ H Q I q⟩
theorem OpR.exA {α : Type} {f : Value → Value → Sem Value} {r : α → R2} (h : ∀ A, OpR X f (r A)) : OpR X f (fun x y H Q => ∃ A, r A x y H Q) := fun pins s σ H x y v u Q I rx ry ⟨A, q⟩ => h A pins s σ H x y v u Q I rx ry q
theorem x_raw (h : ∀ A, PE X a (tR (g.w A) fs ia)) : PE X a (tX g fs ms (.raw ia)) := by
  refine PE.weak (PE.exA h) ?_
  rintro σ H Q ⟨A, Bn, Ow, Γ, M, r, Γ', M', ss, he, hQ⟩
  simp only [evX] at he
  obtain ⟨⟨x, Γ1⟩, e1, he⟩ := Option.map_eq_some_iff.mp he
  simp only [Prod.mk.injEq] at he
  obtain ⟨rfl, rfl, rfl⟩ := he
  exact ⟨A, Bx Bn A, Ow, Γ, x, Γ1, ss.rs, e1, fun v H1 O1 s1 r1 v1 => hQ v H1 A O1 (Sm.of s1) (ss.step s1 r1) v1⟩
theorem xt_raw (h : ∀ A, PT X a (tT (g.w A) fs ia)) : PT X a (tXT g fs ms (.raw ia)) := by
  refine PT.weak (PT.exA h) ?_
  rintro σ H Q ⟨A, Bn, Ow, Γ, M, r, Γ', M', t, ss, he, ht, hQ⟩
  simp only [evX] at he
  obtain ⟨⟨x, Γ1⟩, e1, he⟩ := Option.map_eq_some_iff.mp he
  simp only [Prod.mk.injEq] at he
  obtain ⟨rfl, rfl, rfl⟩ := he
  exact ⟨A, Bx Bn A, Ow, Γ, x, Γ1, t, ss.rs, e1, ht, fun H1 O1 s1 r1 => hQ H1 A O1 (Sm.of s1) (ss.step s1 r1)⟩
theorem x_snp {is : List (Nat × Nat × Bool)} (h : ∀ A, PE X a (tR (g.w A) fs ia)) : PE X a (tX g fs ms (.snp is ia)) := by
  refine PE.weak (PE.exA h) ?_
  rintro σ H Q ⟨A, Bn, Ow, Γ, M, r, Γ', M', ss, he, hQ⟩
  simp only [evX] at he
  obtain ⟨⟨x, Γ1⟩, e1, he⟩ := Option.bind_eq_some_iff.mp he
  simp only [Option.ite_none_right_eq_some, Option.some.injEq, Prod.mk.injEq] at he
  obtain ⟨hs, rfl, rfl, rfl⟩ := he
  refine ⟨A, Bn, [], _, x, Γ1, ss.look is, e1, fun v H1 O1 s1 r1 v1 => ?_⟩
  obtain ⟨r2, s2, k2⟩ := ss.back s1 r1
  exact hQ v H1 A _ s2 r2 (k2 x v hs v1)
theorem truthD_of_safe {Γ Γ' : Ct} {x : RV} (h : safeR x = true) : datum Γ x = datum Γ' x := by
  cases x with
  | sl i => cases h
  | _ => rfl
theorem xt_snp {is : List (Nat × Nat × Bool)} (h : ∀ A, PT X a (tT (g.w A) fs ia)) : PT X a (tXT g fs ms (.snp is ia)) := by
  refine PT.weak (PT.exA h) ?_
  rintro σ H Q ⟨A, Bn, Ow, Γ, M, r, Γ', M', t, ss, he, ht, hQ⟩
  simp only [evX] at he
  obtain ⟨⟨x, Γ1⟩, e1, he⟩ := Option.bind_eq_some_iff.mp he
  simp only [Option.ite_none_right_eq_some, Option.some.injEq, Prod.mk.injEq] at he
  obtain ⟨hs, rfl, rfl, rfl⟩ := he
  have ht' : testD Γ1 x = some t := by rw [← ht]; simp only [testD, truthD_of_safe (Γ := Γ1) (Γ' := Γ) hs]
  refine ⟨A, Bn, [], _, x, Γ1, t, ss.look is, e1, ht', fun H1 O1 s1 r1 => ?_⟩
  obtain ⟨r2, s2, k2⟩ := ss.back s1 r1
  exact hQ H1 A _ s2 r2
theorem xs_nil : PA X [] (tXs g fs ms []) := by
  refine PA.weak pa_nil ?_
  rintro σ H Q ⟨A, Bn, Ow, Γ, M, ds, Γ', M', ss, he, hQ⟩
  simp only [evXs, Option.some.injEq, Prod.mk.injEq] at he
  obtain ⟨rfl, rfl, rfl⟩ := he
  exact hQ [] H A Ow (.refl _ _ _) ss (by simp only [Reps])
theorem xs_cons {es : List Expr} {xs : List XE} (ha : PE X a (tX g fs ms xa)) (hr : PA X es (tXs g fs ms xs)) (hs : starEach (a :: es) X.env = (false, eval a X.env) :: starEach es X.env) : PA X (a :: es) (tXs g fs ms (xa :: xs)) := by
  refine PA.weak (pa_cons ha hr hs) ?_
  rintro σ H Q ⟨A, Bn, Ow, Γ, M, ds, Γ', M', ss, he, hQ⟩
  simp only [evXs] at he
  obtain ⟨⟨x, Γ1, M1⟩, e1, he⟩ := Option.bind_eq_some_iff.mp he
  obtain ⟨⟨d, Γ2⟩, e2, he⟩ := Option.bind_eq_some_iff.mp he
  obtain ⟨⟨es', Γ3, M2⟩, e3, he⟩ := Option.map_eq_some_iff.mp he
  simp only [Prod.mk.injEq] at he
  obtain ⟨rfl, rfl, rfl⟩ := he
  refine ⟨A, Bn, Ow, Γ, M, x, Γ1, M1, ss, e1, fun v H1 A1 O1 s1 r1 v1 => ?_⟩
  obtain ⟨O2, s2, r2, p2⟩ := r1.fre v1 e2
  refine ⟨A1, Bn, O2, Γ2, M1, es', Γ3, M2, r2, e3, fun vs H3 A3 O3 s3 r3 v3 => hQ (v :: vs) H3 A3 O3 ((s1.trans s2).trans s3) r3 ?_⟩
  simp only [Reps]
  exact ⟨v, vs, rfl, p2.sm s3 r3, v3⟩
theorem evXs_len : ∀ {xs : List XE} {Γ Γ' : Ct} {M M' : List D} {ds : List D}, evXs fs ms xs Γ M = some (ds, Γ', M') → xs.length = ds.length
  | [], _, _, _, _, _, h => by simp only [evXs, Option.some.injEq, Prod.mk.injEq] at h; rw [← h.1]; rfl
  | x :: xs, _, _, _, _, _, h => by
    simp only [evXs] at h
    obtain ⟨⟨y, G1, M1⟩, _, h⟩ := Option.bind_eq_some_iff.mp h
    obtain ⟨⟨d, G2⟩, _, h⟩ := Option.bind_eq_some_iff.mp h
    obtain ⟨⟨ys, G3, M2⟩, h2, h⟩ := Option.map_eq_some_iff.mp h
    simp only [Prod.mk.injEq] at h
    rw [← h.1, List.length_cons, List.length_cons, evXs_len h2]
theorem x_alc (ha : PE X a (tX g fs ms xa)) : PE X a (tX g fs ms (.alc xa)) := by
  refine PE.weak ha ?_
  rintro σ H Q ⟨A, Bn, Ow, Γ, M, r, Γ', M', ss, he, hQ⟩
  simp only [evX] at he
  obtain ⟨⟨x, Γ1, M1⟩, e1, he⟩ := Option.bind_eq_some_iff.mp he
  refine ⟨A, Bn, Ow, Γ, M, x, Γ1, M1, ss, e1, fun v H1 A1 O1 s1 r1 v1 => ?_⟩
  cases x with
  | nw d =>
    simp only [Option.some.injEq, Prod.mk.injEq] at he
    obtain ⟨rfl, rfl, rfl⟩ := he
    obtain ⟨A2, O2, s2, r2, p2⟩ := r1.alc v1
    exact hQ v H1 A2 O2 (s1.trans s2) r2 p2
  | fz d => cases he
  | sl i => cases he
end
end DV

namespace DV
open PySem L2

/-! ### calls beside a store -/
theorem FnOk.exA {P : Program} {w : World} {K : PySem.W.Frag} {mg : Str → Option Value} {base : Heap} {CX : CXT} {k : Nat} {f : Addr} {fd : FuncData} {ps : List Str} {α : Type} {sp : α → Sp} (F : ∀ A, FnOk P w K mg base CX k f fd ps (sp A)) :
    FnOk P w K mg base CX k f fd ps (fun vs H Q E => ∃ A, sp A vs H Q E) :=
  ⟨fun vs H Q E ⟨A, q⟩ => (F A).len vs H Q E q, fun A' outer s H args us vs Q E hr he hb hv ⟨A, hs⟩ => (F A).run A' outer s H args us vs Q E hr he hb hv hs⟩
/-- a def that can be called whatever the store is -/
structure CalA (P : Program) (w : World) (mg : Str → Option Value) (base : Heap) (g : Gx) (k : Nat) (x : Str) (n : Nat) (F : FS) : Prop where
  ex : ∃ f fd ps, mg x = some (.ref f) ∧ PySem.W.keepIn g.K (.ref f) = true ∧ Binds g.K fd ps [] ∧ ∀ A, FnOk P w g.K mg base CX0 k f fd ps (spF (g.w A) n F)
/-- a def that works on the store -/
structure CalM (P : Program) (w : World) (mg : Str → Option Value) (base : Heap) (g : Gx) (k : Nat) (x : Str) (n : Nat) (F : FM) : Prop where
  ex : ∃ f fd ps, mg x = some (.ref f) ∧ PySem.W.keepIn g.K (.ref f) = true ∧ Binds g.K fd ps [] ∧ FnOk P w g.K mg base CX0 k f fd ps (spM g n F)
structure MtdM (P : Program) (w : World) (mg : Str → Option Value) (base : Heap) (g : Gx) (k : Nat) (c : Nat) (x : Str) (n : Nat) (F : FM) : Prop where
  ex : ∃ f fd ps, Cls g.K (g.cl c) ∧ Meth g.K (g.cl c) x f ∧ Binds g.K fd ps [] ∧ FnOk P w g.K mg base CX0 k f fd ps (spM g n F)
structure MkdM (P : Program) (w : World) (mg : Str → Option Value) (base : Heap) (g : Gx) (k : Nat) (c : Nat) (x : Str) (n : Nat) (F : FM) : Prop where
  ex : ∃ f fd ps, mg x = some (.ref (g.cl c)) ∧ Mk g.K (g.cl c) f ∧ Binds g.K fd ps [] ∧ ps.length = n + 1 ∧ FnOk P w g.K mg base CX0 k f fd ps (spM g (n + 1) F)
section
variable {P : Program} {w : World} {mg : Str → Option Value} {base : Heap} {g : Gx} {j k c n : Nat} {x : Str}
theorem CalA.mono {F : FS} (h : CalA P w mg base g j x n F) (l : j ≤ k) : CalA P w mg base g k x n F := by
  obtain ⟨f, fd, ps, h1, h2, h3, h4⟩ := h.ex
  exact ⟨f, fd, ps, h1, h2, h3, fun A => (h4 A).mono l⟩
theorem CalA.at {F : FS} (h : CalA P w mg base g k x n F) (A : List Addr) : Cal P w mg base (g.w A) k x n F := by
  obtain ⟨f, fd, ps, h1, h2, h3, h4⟩ := h.ex
  exact ⟨f, fd, ps, h1, h2, h3, h4 A⟩
theorem CalM.mono {F : FM} (h : CalM P w mg base g j x n F) (l : j ≤ k) : CalM P w mg base g k x n F := by
  obtain ⟨f, fd, ps, h1, h2, h3, h4⟩ := h.ex
  exact ⟨f, fd, ps, h1, h2, h3, h4.mono l⟩
theorem MtdM.mono {F : FM} (h : MtdM P w mg base g j c x n F) (l : j ≤ k) : MtdM P w mg base g k c x n F := by
  obtain ⟨f, fd, ps, h1, h2, h3, h4⟩ := h.ex
  exact ⟨f, fd, ps, h1, h2, h3, h4.mono l⟩
theorem MkdM.mono {F : FM} (h : MkdM P w mg base g j c x n F) (l : j ≤ k) : MkdM P w mg base g k c x n F := by
  obtain ⟨f, fd, ps, h1, h2, h3, h5, h4⟩ := h.ex
  exact ⟨f, fd, ps, h1, h2, h3, h5, h4.mono l⟩
end
section
variable {X : Cx} {g : Gx} {fs : List FS} {ms : List FM} {e o : Expr} {es : List Expr} {io : E} {xs : List XE} {x m : Str} {p pos apos : Pos} {c k i n : Nat}
theorem xcallM_core {F : FM} {σ : St} {H : Hp} {Q : VK} {Ex : XK} (hF : ms[i]? = some F) (hn : xs.length = n) (h : tX g fs ms (.callM i xs) σ H Q) : tCall (spM g n F) [] Ex (tXs g fs ms xs) σ H Q := by
  obtain ⟨A, Bn, Ow, Γ, M, r, Γ', M', ss, he, hQ⟩ := h
  simp only [evX] at he
  obtain ⟨⟨ds, Γ1, M1⟩, e1, he⟩ := Option.bind_eq_some_iff.mp he
  obtain ⟨F', e2, he⟩ := Option.bind_eq_some_iff.mp he
  rw [hF] at e2; cases e2
  obtain ⟨⟨y, M2⟩, e3, he⟩ := Option.bind_eq_some_iff.mp he
  simp only [Option.ite_none_right_eq_some, Option.some.injEq, Prod.mk.injEq] at he
  obtain ⟨hs, rfl, rfl, rfl⟩ := he
  refine ⟨A, Bn, Ow, Γ, M, ds, Γ1, M1, ss, e1, fun vs H1 A1 O1 s1 r1 v1 => ?_⟩
  show spM g n F (vs ++ []) H1 Q Ex
  rw [List.append_nil]
  exact callM_core r1 v1 e3 hs (by rw [← v1.len, ← evXs_len e1, hn]) fun v H2 A2 O2 s2 r2 v2 => hQ v H2 A2 O2 (s1.trans s2) r2 v2
variable {F : FS} {FF : FM}
theorem x_callM (h : CalM X.prog X.w X.mg X.base g k x n FF) (C : Cok0 g X) (hF : ms[i]? = some FF) (hn : xs.length = n) (hr : Room k X.A) (hg : Gl X x)
    (ha : PA X (e :: es) (tXs g fs ms xs)) (hdb : (x == ("__debug__" : Str)) = false) (he : starEach (e :: es) X.env = (false, eval e X.env) :: starEach es X.env) (hpl : (backTo pos (starEach es X.env)).any (·.1) = false) :
    PE X (.Call (.Name x p) (e :: es) [] pos) (tX g fs ms (.callM i xs)) := by
  obtain ⟨f, fd, ps, h1, h2, h3, h4⟩ := h.ex
  rw [← C.K] at h2 h3 h4
  exact PE.weak (pe_call h4 hr hg h1 h2 h3 .nil pass0 ha hdb he hpl) fun _ _ _ q => xcallM_core hF hn q
end
end DV

namespace DV
open PySem L2

/-! ### the language beside a store: statements -/
inductive XIt where
  | raw (ik : IK) (its : List E)
  | seq (x : XE)
inductive TX where
  | nm (i : Nat) | at (i c : Nat) (nm : Str)
inductive MS where
  | stuck
  | old (s : S)
  | asg (tg : Tg) (x : XE)
  | asgO (i : Nat) (x : XE)
  | par (is : List (Nat × Bool)) (xs : List XE)
  | expr (x : XE)
  | ret (x : XE)
  | ite (c : XE) (a b : List MS)
  | whl (c : XE) (b : List MS)
  | for_ (tg : Tg) (it : XIt) (b : List MS)
  | setf (o : E) (c : Nat) (nm : Str) (x : XE)
  | asgT (ts : List TX) (x : XE)
  | app (o x : XE)
  | seti (o : XE) (k : E) (x : XE)
  | oldB (i : Nat) (s : S)
  | appL (i : Nat) (x : XE)
  | forL (tg : Tg) (en : Bool) (o : XE) (b : List MS)
  | sem (F : List FS → List FM → Ct → List D → Option (Out × List D))
def forLoopM (tg : Tg) (body : Ct → List D → Option (Out × List D)) : List D → Ct → List D → Option (Out × List D)
  | [], Γ, M => some (.nx Γ, M)
  | d :: ds, Γ, M => (asgT tg d Γ).bind fun Γ1 => (body Γ1 M).bind fun (o, M1) => match o with
    | .nx Γ2 => forLoopM tg body ds Γ2 M1
    | .ct Γ2 => forLoopM tg body ds Γ2 M1
    | .bk Γ2 => some (.nx Γ2, M1)
    | .rt r Γ2 => some (.rt r Γ2, M1)
    | .xc _ _ _ _ => none
def whlLoopM (c : Ct → List D → Option (Bool × Ct × List D)) (body : Ct → List D → Option (Out × List D)) : Nat → Ct → List D → Option (Out × List D)
  | 0, _, _ => none
  | n + 1, Γ, M => (c Γ M).bind fun (b, Γ1, M1) => if b then (body Γ1 M1).bind fun (o, M2) => match o with
    | .nx Γ2 => whlLoopM c body n Γ2 M2
    | .ct Γ2 => whlLoopM c body n Γ2 M2
    | .bk Γ2 => some (.nx Γ2, M2)
    | .rt r Γ2 => some (.rt r Γ2, M2)
    | .xc _ _ _ _ => none
   else some (.nx Γ1, M1)
/-- a list of the store -/
def isLM (M : List D) : D → Bool
  | .ref k => match M[k]? with
    | some (.lst _) => true
    | _ => false
  | _ => false
def appM (M : List D) (d : D) : D → Option (List D)
  | .ref k => (M[k]?).bind fun o => (appD o d).map fun o' => M.set k o'
  | _ => none
def setM (M : List D) (kd d : D) : D → Option (List D)
  | .ref k => (M[k]?).bind fun o => (setD o kd d).map fun o' => M.set k o'
  | _ => none
def putM (M : List D) (c : Nat) (nm : Str) (d : D) : D → Option (List D)
  | .ref k => (M[k]?).bind fun o => (putD c o nm d).map fun o' => M.set k o'
  | _ => none
def asgX : List TX → List D → Ct → List D → Option (Ct × List D)
  | [], [], Γ, M => some (Γ, M)
  | .nm i :: ts, d :: ds, Γ, M => if i < Γ.length then asgX ts ds (Γ.set i (some (d, false))) M else none
  | .at i c nm :: ts, d :: ds, Γ, M => match Γ[i]? with
    | some (some (e, false)) => (putM M c nm d e).bind fun M1 => asgX ts ds Γ M1
    | _ => none
  | _, _, _, _ => none
def evnX (fs : List FS) (ms : List FM) : List (Nat × Bool) → List XE → Ct → List D → Option (List RV × Ct × List D)
  | [], [], Γ, M => some ([], Γ, M)
  | (i, b) :: is, x :: xs, Γ, M => (evX fs ms x Γ M).bind fun (r, Γ1, M1) => match b, r with
    | true, .nw d => (evnX fs ms is xs Γ1 M1).map fun (ys, Γ2, M2) => (.nw d :: ys, Γ2, M2)
    | _, r => (fre Γ1 r).bind fun (d, Γ2) => (evnX fs ms is xs Γ2 M1).map fun (ys, Γ3, M2) => (.fz d :: ys, Γ3, M2)
  | _, _, _, _ => none
def seqD : D → Option (List D)
  | .lst ds => some ds
  | .tup ds => some ds
  | _ => none
def itM (fs : List FS) (ms : List FM) : XIt → Ct → List D → Option (List D × Ct × List D)
  | .raw ik its, Γ, M => (evs fs its Γ).bind fun (xs, Γ1) => (iterD ik xs Γ1).map fun (ds, Γ2) => (ds, Γ2, M)
  | .seq x, Γ, M => (evX fs ms x Γ M).bind fun (r, Γ1, M1) => (fre Γ1 r).bind fun (d, Γ2) => (seqD d).map fun ds => (ds, Γ2, M1)
def noXc : Out → Bool
  | .xc _ _ _ _ => false
  | _ => true
/-- behind a statement with a list of the store -/
def bakO (M : List D) (i k : Nat) : Out → Option (Out × List D)
  | .nx G => (bakG M i k G).map fun (G2, M2) => (.nx G2, M2)
  | .bk G => (bakG M i k G).map fun (G2, M2) => (.bk G2, M2)
  | .ct G => (bakG M i k G).map fun (G2, M2) => (.ct G2, M2)
  | .rt r G => if notSl i r = true then (bakG M i k G).map fun (G2, M2) => (.rt r G2, M2) else none
  | .xc _ _ _ _ => none
/-- an item, or a pair of its index and it -/
def liveD (en : Bool) (i : Nat) (d : D) : D := if en then .tup [.int (i : Nat), d] else d
/-- the turns over a list of the store -/
def liveLoop (tg : Tg) (en : Bool) (body : Ct → List D → Option (Out × List D)) (k : Nat) : Nat → Nat → Ct → List D → Option (Out × List D)
  | 0, _, _, _ => none
  | n + 1, i, Γ, M => match M[k]? with
    | some (.lst ds) => match ds[i]? with
      | some d => (asgT tg (liveD en i d) Γ).bind fun Γ1 => (body Γ1 M).bind fun (o, M1) => match o with
        | .nx Γ2 => liveLoop tg en body k n (i + 1) Γ2 M1
        | .ct Γ2 => liveLoop tg en body k n (i + 1) Γ2 M1
        | .bk Γ2 => some (.nx Γ2, M1)
        | .rt r Γ2 => some (.rt r Γ2, M1)
        | .xc _ _ _ _ => none
      | none => some (.nx Γ, M)
    | _ => none
mutual
def exM (fs : List FS) (ms : List FM) : MS → Ct → List D → Option (Out × List D)
  | .stuck, _, _ => none
  | .old s, Γ, M => (ex fs [] s Γ).bind fun o => if noXc o = true then some (o, M) else none
  | .asg tg x, Γ, M => (evX fs ms x Γ M).bind fun (r, Γ1, M1) => (fre Γ1 r).bind fun (d, Γ2) => (asgT tg d Γ2).map fun G => (.nx G, M1)
  | .asgO i x, Γ, M => (evX fs ms x Γ M).bind fun (r, Γ1, M1) => match r with
    | .nw d => if i < Γ1.length then some (.nx (Γ1.set i (some (d, true))), M1) else none
    | r => (fre Γ1 r).bind fun (d, Γ2) => if i < Γ2.length then some (.nx (Γ2.set i (some (d, false))), M1) else none
  | .par is xs, Γ, M => (evnX fs ms is xs Γ M).bind fun (ys, Γ2, M1) => (parS is ys Γ2).map fun G => (.nx G, M1)
  | .expr x, Γ, M => (evX fs ms x Γ M).map fun (_, Γ1, M1) => (.nx Γ1, M1)
  | .ret x, Γ, M => (evX fs ms x Γ M).map fun (r, Γ1, M1) => (.rt r Γ1, M1)
  | .ite c a b, Γ, M => (evX fs ms c Γ M).bind fun (r, Γ1, M1) => (testD Γ1 r).bind fun t => if t then exMs fs ms a Γ1 M1 else exMs fs ms b Γ1 M1
  | .whl c b, Γ, M => whlLoopM (fun Γ M => (evX fs ms c Γ M).bind fun (x, Γ1, M1) => (testD Γ1 x).map fun t => (t, Γ1, M1)) (exMs fs ms b) fuel Γ M
  | .for_ tg it b, Γ, M => (itM fs ms it Γ M).bind fun (ds, Γ2, M1) => forLoopM tg (exMs fs ms b) ds Γ2 M1
  | .setf o c nm x, Γ, M => (evX fs ms x Γ M).bind fun (r, Γ1, M1) => (fre Γ1 r).bind fun (d, Γ2) => (ev fs o Γ2).bind fun (y, Γ3) => (datum Γ3 y).bind fun e => (putM M1 c nm d e).map fun M2 => (.nx Γ3, M2)
  | .asgT ts x, Γ, M => (evX fs ms x Γ M).bind fun (r, Γ1, M1) => (fre Γ1 r).bind fun (d, Γ2) => (tupOf d).bind fun ds => (asgX ts ds Γ2 M1).map fun (G, M2) => (.nx G, M2)
  | .app o x, Γ, M => (evX fs ms o Γ M).bind fun (r, Γ1, M1) => (datum Γ1 r).bind fun e => if isLM M1 e = true then (evX fs ms x Γ1 M1).bind fun (y, Γ2, M2) => (fre Γ2 y).bind fun (d, Γ3) => (appM M2 d e).map fun M3 => (.nx Γ3, M3) else none
  | .seti o k x, Γ, M => (evX fs ms x Γ M).bind fun (r, Γ1, M1) => (fre Γ1 r).bind fun (d, Γ2) => (evX fs ms o Γ2 M1).bind fun (y, Γ3, M2) => (datum Γ3 y).bind fun e => if isLM M2 e = true then (ev fs k Γ3).bind fun (z, Γ4) => (datum Γ4 z).bind fun kd => (setM M2 kd d e).map fun M3 => (.nx Γ4, M3) else none
  | .oldB i s, Γ, M => (borG M i Γ).bind fun (k, Γb) => (ex fs [i] s Γb).bind fun o => bakO M i k o
  | .appL i x, Γ, M => if isLst Γ i = true then (evX fs ms x Γ M).bind fun (r, Γ1, M1) => (fre Γ1 r).bind fun (d, Γ2) => match Γ2[i]? with
    | some (some (c, true)) => (appD c d).map fun c' => (.nx (Γ2.set i (some (c', true))), M1)
    | _ => none
   else none
  | .forL tg en o b, Γ, M => (evX fs ms o Γ M).bind fun (r, Γ1, M1) => (fre Γ1 r).bind fun (d, Γ2) => match d with
    | .ref k => liveLoop tg en (exMs fs ms b) k fuel 0 Γ2 M1
    | _ => none
  | .sem F, Γ, M => F fs ms Γ M
def exMs (fs : List FS) (ms : List FM) : List MS → Ct → List D → Option (Out × List D)
  | [], Γ, M => some (.nx Γ, M)
  | s :: ss, Γ, M => (exM fs ms s Γ M).bind fun (o, M1) => match o with
    | .nx Γ1 => exMs fs ms ss Γ1 M1
    | o => some (o, M1)
end
def finM : Out × List D → Option (RV × List D)
  | (.nx _, M) => some (.fz .non, M)
  | (.rt (.fz d) _, M) => some (.fz d, M)
  | (.rt (.nw d) _, M) => some (.nw d, M)
  | (.rt (.sl i) Γ, M) => match Γ[i]? with
    | some (some (d, true)) => some (.nw d, M)
    | some (some (d, false)) => some (.fz d, M)
    | _ => none
  | _ => none
def runM (fs : List FS) (ms : List FM) (np n : Nat) (body : List MS) : FM := fun G0 M => if G0.length = np then (exMs fs ms body (G0 ++ List.replicate (n - np) none) M).bind finM else none

def PostM (g : Gx) (Dn : Ends) (A : List Addr) (Bn : Addr → Prop) (Ow : List Addr) (H : Hp) : Out → List D → Prop
  | .nx Γ', M' => ∀ σ' H' A' Ow', Sm A Ow H A' Ow' H' → SS g A' Bn Ow' H' σ' Γ' M' → Dn.nx σ' H'
  | .bk Γ', M' => ∀ σ' H' A' Ow', Sm A Ow H A' Ow' H' → SS g A' Bn Ow' H' σ' Γ' M' → Dn.bk σ' H'
  | .ct Γ', M' => ∀ σ' H' A' Ow', Sm A Ow H A' Ow' H' → SS g A' Bn Ow' H' σ' Γ' M' → Dn.ct σ' H'
  | .rt r Γ', M' => ∀ v σ' H' A' Ow', Sm A Ow H A' Ow' H' → SS g A' Bn Ow' H' σ' Γ' M' → Val (g.w A') (Bx Bn A') Ow' H' σ' Γ' r v → Dn.rt v H'
  | .xc _ _ _ _, _ => True
def tMt (g : Gx) (fs : List FS) (ms : List FM) (s : MS) : TS := fun Dn σ H => ∃ A Bn Ow Γ M o M', SS g A Bn Ow H σ Γ M ∧ exM fs ms s Γ M = some (o, M') ∧ PostM g Dn A Bn Ow H o M'
def tMs (g : Gx) (fs : List FS) (ms : List FM) (s : List MS) : TS := fun Dn σ H => ∃ A Bn Ow Γ M o M', SS g A Bn Ow H σ Γ M ∧ exMs fs ms s Γ M = some (o, M') ∧ PostM g Dn A Bn Ow H o M'
def tIM (g : Gx) (fs : List FS) (ms : List FM) (it : XIt) : TI := fun σ H R => ∃ A Bn Ow Γ M ds Γ' M', SS g A Bn Ow H σ Γ M ∧ itM fs ms it Γ M = some (ds, Γ', M') ∧ ∀ J H' A' Ow', Sm A Ow H A' Ow' H' → SS g A' Bn Ow' H' σ Γ' M' → WalkD (g.w A') (Bx Bn A') Ow' H' J ds → R J H'

/-! ### a target's attribute -/

section
variable {g : Gx} {A A' : List Addr} {Bn : Addr → Prop} {Ow Ow' : List Addr} {H H' : Hp} {σ σ' : St} {Γ Γ' : Ct} {M M' : List D} {fs : List FS} {ms : List FM}
theorem PostM.step {Dn : Ends} {o : Out} (h : PostM g Dn A Bn Ow H o M) (s : Sm A Ow H A' Ow' H') : PostM g Dn A' Bn Ow' H' o M := by
  cases o with
  | nx G => exact fun σ1 H1 A1 O1 s1 r => h σ1 H1 A1 O1 (s.trans s1) r
  | bk G => exact fun σ1 H1 A1 O1 s1 r => h σ1 H1 A1 O1 (s.trans s1) r
  | ct G => exact fun σ1 H1 A1 O1 s1 r => h σ1 H1 A1 O1 (s.trans s1) r
  | rt r G => exact fun v σ1 H1 A1 O1 s1 r => h v σ1 H1 A1 O1 (s.trans s1) r
  | xc c ks ds G => trivial
theorem SS.frm (r : SS g A Bn Ow H σ Γ M) (rs : RS (g.w A) (Bx Bn A) Ow H σ' Γ') : SS g A Bn Ow H σ' Γ' M := ⟨rs, r.len, r.nd, r.sepA, r.cell⟩
/-- a plain value to a slot -/
theorem SS.setv {i : Nat} {d : D} {v : V} (r : SS g A Bn Ow H σ Γ M) (h : Rep (g.w A) (Av (Bx Bn A) Ow) H d v) (hi : i < Γ.length) : SS g A Bn Ow H (σ.set i (some v)) (Γ.set i (some (d, false))) M := r.frm (r.rs.set h hi)
/-- a field of an object of the store is set -/
theorem SS.put {k c : Nat} {a : Addr} {nm : Str} {d o o' : D} {v : V} (r : SS g A Bn Ow H σ Γ M) (ha : A[k]? = some a) (ho : M[k]? = some o) (hd : Rep (g.w A) (Av (Bx Bn A) Ow) H d v) (hp : putD c o nm d = some o') :
    ∃ dx fl, H a = some (.ins (g.cl c) dx fl) ∧ fl.length < 1000 ∧ SS g A Bn Ow (upd H a (.ins (g.cl c) dx (putF nm v fl))) σ Γ (M.set k o') ∧ Sm A Ow H A Ow (upd H a (.ins (g.cl c) dx (putF nm v fl))) := by
  have ow := r.cell k o a ho ha
  cases o <;> simp only [putD, reduceCtorEq] at hp
  rename_i c1 ks ds
  simp only [Option.ite_none_right_eq_some, Option.some.injEq] at hp
  obtain ⟨⟨rfl, hz, hl⟩, rfl⟩ := hp
  obtain ⟨dx, vs, l, hh, rp⟩ := ow
  obtain ⟨ws, h1, h2, h3⟩ := putL_ok (nm := nm) hd l hl rp
  have key := r.mutO (c := c1) (dx := dx) ha h2 h3
  rw [h1] at key
  exact ⟨dx, ks.zip vs, hh, by rw [List.length_zip]; omega, key⟩
theorem SS.putM {c : Nat} {nm : Str} {d e : D} {v w : V} (r : SS g A Bn Ow H σ Γ M) (hp : putM M c nm d e = some M') (he : Rep (g.w A) (Av (Bx Bn A) Ow) H e w) (hd : Rep (g.w A) (Av (Bx Bn A) Ow) H d v) :
    ∃ a dx fl, w = .ref a ∧ H a = some (.ins (g.cl c) dx fl) ∧ fl.length < 1000 ∧ SS g A Bn Ow (upd H a (.ins (g.cl c) dx (putF nm v fl))) σ Γ M' ∧ Sm A Ow H A Ow (upd H a (.ins (g.cl c) dx (putF nm v fl))) := by
  cases e <;> simp only [DV.putM, reduceCtorEq] at hp
  rename_i k
  obtain ⟨o, e1, hp⟩ := Option.bind_eq_some_iff.mp hp
  obtain ⟨o', e2, rfl⟩ := Option.map_eq_some_iff.mp hp
  simp only [Rep] at he
  obtain ⟨a, ea, rfl⟩ := he
  obtain ⟨dx, fl, h1, h2, h3, h4⟩ := r.put ea e1 hd e2
  exact ⟨a, dx, fl, rfl, h1, h2, h3, h4⟩
theorem isLM_ty {e : D} {v : V} (r : SS g A Bn Ow H σ Γ M) (h : isLM M e = true) (he : Rdb (g.w A) (Av (Bx Bn A) Ow) H e v) : ∃ k a, e = .ref k ∧ v = .ref a ∧ A[k]? = some a ∧ tyV g.K "list" (.ref a) H := by
  cases e <;> simp only [isLM, Bool.false_eq_true] at h
  rename_i k
  simp only [Rdb, Rep] at he
  obtain ⟨a, ea, rfl⟩ := he
  split at h
  · rename_i ds em
    obtain ⟨vs, s, _⟩ := r.cell k _ a em ea
    exact ⟨k, a, rfl, rfl, ea, .inl ⟨rfl, vs, .inl (.inl s)⟩⟩
  · cases h
/-! a new owned object is banned while the others are made -/
theorem bx_orB {p : Addr} : orB (Bx Bn A) p = Bx (orB Bn p) A := by
  funext a
  simp only [orB, Bx, or_right_comm]
theorem SS.ban {d : D} {p : Addr} (r : SS g A Bn Ow H σ Γ M) (m : p ∈ Ow) (no : ∀ (i : Nat) e, Γ[i]? = some (some (e, true)) → σ[i]? ≠ some (some (.ref p))) : SS g A (orB Bn p) (Ow.filter (fun x => decide (x ≠ p))) H σ Γ M := by
  have r2 := r.rs.ban (d := d) m no
  rw [bx_orB] at r2
  refine ⟨r2, r.len, r.nd, fun a h z => ?_, fun k e a h1 h2 => own_less (fun b z => ?_) (r.cell k e a h1 h2)⟩
  · rcases z with z | z
    · exact r.sepA a h z
    · rw [z] at h; exact r.rs.sep p (.inr h) m
  · rcases z with ((z | z) | z) | z
    · exact .inl (.inl z)
    · rw [z]; exact .inr m
    · exact .inl (.inr z)
    · exact .inr (mem_ne z).1
theorem SS.unB {p : Addr} (r : SS g A (orB Bn p) Ow H σ Γ M) (nb : ¬ Bn p) : SS g A Bn (p :: Ow) H σ Γ M := by
  have nA : p ∉ A := fun z => r.sepA p z (.inr rfl)
  have r1 : RS (g.w A) (orB (Bx Bn A) p) Ow H σ Γ := by rw [bx_orB]; exact r.rs
  refine ⟨r1.unB fun z => z.elim nb nA, r.len, r.nd, fun a h z => r.sepA a h (.inl z), fun k e a h1 h2 => own_less (fun b z => ?_) (r.cell k e a h1 h2)⟩
  rcases z with (z | z) | z
  · exact .inl (.inl (.inl z))
  · exact .inl (.inr z)
  · rcases List.mem_cons.mp z with z | z
    · exact .inl (.inl (.inr z))
    · exact .inr z
theorem OwnA.sm {d : D} {p : Addr} (o : OwnA (g.w A) (Av (Bx Bn A) Ow) H d p) (np : p ∉ Ow) (nA : p ∉ A) (s : Sm A Ow H A' Ow' H') (r : SS g A' Bn Ow' H' σ Γ M) : OwnA (g.w A') (Av (Bx Bn A') Ow') H' d p := by
  cases d with
  | lst es => obtain ⟨us, e2, r2⟩ := o; exact ⟨us, s.keep0 _ _ e2 nofun np nA, r2.sm s r⟩
  | obj c ks es => obtain ⟨dx, us, l, e2, r2⟩ := o; exact ⟨dx, us, l, s.keep0 _ _ e2 nofun np nA, r2.sm s r⟩
  | _ => exact o
end
section
variable {X : Cx} {g : Gx} {fs : List FS} {ms : List FM} {a : Expr} {es : List Expr} {xa : XE} {st : Stmt} {pos : Pos}
theorem PS.exA {α : Type} {t : α → TS} (h : ∀ A, PS X st (t A)) : PS X st (fun Dn σ H => ∃ A, t A Dn σ H) := ⟨fun pins s σ H Dn I ⟨A, q⟩ => (h A).run pins s σ H Dn I q⟩
theorem PI.exA {α : Type} {tg it : Expr} {t : α → TI} (h : ∀ A, PI X tg it (t A)) : PI X tg it (fun σ H R => ∃ A, t A σ H R) := ⟨fun pins s σ H R I ⟨A, q⟩ => (h A).run pins s σ H R I q⟩
theorem m_old {s : S} (h : ∀ A, PS X st (tSt (g.w A) (fun _ _ _ => False) fs s)) : PS X st (tMt g fs ms (.old s)) := by
  refine PS.weak (PS.exA h) ?_
  rintro Dn σ H ⟨A, Bn, Ow, Γ, M, o, M', ss, he, po⟩
  simp only [exM] at he
  obtain ⟨o1, e1, he⟩ := Option.bind_eq_some_iff.mp he
  simp only [Option.ite_none_right_eq_some, Option.some.injEq, Prod.mk.injEq] at he
  obtain ⟨hx, rfl, rfl⟩ := he
  refine ⟨A, (σ.length, []), Bx Bn A, Ow, Γ, o1, ss.rs, ⟨rfl, nofun⟩, e1, ?_⟩
  cases o1 with
  | nx G => exact fun σ1 H1 O1 s1 r _ => po σ1 H1 A O1 (Sm.of s1) (ss.step s1 r)
  | bk G => exact fun σ1 H1 O1 s1 r _ => po σ1 H1 A O1 (Sm.of s1) (ss.step s1 r)
  | ct G => exact fun σ1 H1 O1 s1 r _ => po σ1 H1 A O1 (Sm.of s1) (ss.step s1 r)
  | rt x G => exact fun v σ1 H1 O1 s1 r _ vl => po v σ1 H1 A O1 (Sm.of s1) (ss.step s1 r) vl
  | xc c ks ds G => cases hx
theorem mas_core {tg : Tg} {Dn : Ends} {σ : St} {H : Hp} (h : tMt g fs ms (.asg tg xa) Dn σ H) : tAsg (tX g fs ms xa) (tgT g.K tg) Dn σ H := by
  obtain ⟨A, Bn, Ow, Γ, M, o, M', ss, he, po⟩ := h
  simp only [exM] at he
  obtain ⟨⟨x, Γ1, M1⟩, e1, he⟩ := Option.bind_eq_some_iff.mp he
  obtain ⟨⟨d, Γ2⟩, e2, he⟩ := Option.bind_eq_some_iff.mp he
  obtain ⟨Γ3, e3, he⟩ := Option.map_eq_some_iff.mp he
  simp only [Prod.mk.injEq] at he
  obtain ⟨rfl, rfl⟩ := he
  refine ⟨A, Bn, Ow, Γ, M, x, Γ1, M1, ss, e1, fun v H1 A1 O1 s1 r1 vl => ?_⟩
  obtain ⟨O2, s2, r2, p2⟩ := r1.fre vl e2
  exact asgT_ok (g := g.w A1) tg r2.rs p2 e3 fun σ' q1 q2 q3 => po σ' H1 A1 O2 (s1.trans s2) (r2.frm q1)
theorem m_asg {tg e : Expr} {itg : Tg} (h : PE X e (tX g fs ms xa)) (hg : PG X tg (tgT g.K itg)) (hs : swapsWithSole [tg] e pos.line X.env = pure false) (hw : swappedStores [tg] e X.env = pure none)
    (h1 : (assignEach [tg] X.env).map (·.2) = [assign tg X.env]) : PS X (.Assign [tg] e pos) (tMt g fs ms (.asg itg xa)) := PS.weak (ps_asg h hg hs hw h1) fun _ _ _ => mas_core
theorem m_expr {e : Expr} (h : PE X e (tX g fs ms xa)) (hs : swapsWith e none pos.line X.env = pure false) : PS X (.Expr e pos) (tMt g fs ms (.expr xa)) := by
  refine PS.weak (ps_expr h hs) ?_
  rintro Dn σ H ⟨A, Bn, Ow, Γ, M, o, M', ss, he, po⟩
  simp only [exM] at he
  obtain ⟨⟨x, Γ1, M1⟩, e1, he⟩ := Option.map_eq_some_iff.mp he
  simp only [Prod.mk.injEq] at he
  obtain ⟨rfl, rfl⟩ := he
  exact ⟨A, Bn, Ow, Γ, M, x, Γ1, M1, ss, e1, fun v H1 A1 O1 s1 r1 _ => po σ H1 A1 O1 s1 r1⟩
theorem m_ite {c : Expr} {a b : List Stmt} {ia ib : List MS} (hc : PT X c (tXT g fs ms xa)) (ha : PSs X a (tMs g fs ms ia)) (hb : PSs X b (tMs g fs ms ib)) : PS X (.If c a b pos) (tMt g fs ms (.ite xa ia ib)) := by
  refine PS.weak (ps_if hc ha hb) ?_
  rintro Dn σ H ⟨A, Bn, Ow, Γ, M, o, M', ss, he, po⟩
  simp only [exM] at he
  obtain ⟨⟨x, Γ1, M1⟩, e1, he⟩ := Option.bind_eq_some_iff.mp he
  obtain ⟨t, e2, he⟩ := Option.bind_eq_some_iff.mp he
  refine ⟨A, Bn, Ow, Γ, M, x, Γ1, M1, t, ss, e1, e2, fun H1 A1 O1 s1 r1 => ?_⟩
  cases t with
  | true => rw [if_pos rfl] at he ⊢; exact ⟨A1, Bn, O1, Γ1, M1, o, M', r1, he, po.step s1⟩
  | false => rw [if_neg Bool.false_ne_true] at he ⊢; exact ⟨A1, Bn, O1, Γ1, M1, o, M', r1, he, po.step s1⟩
theorem ms_nil : PSs X [] (tMs g fs ms []) := by
  refine PSs.weak pss_nil ?_
  rintro Dn σ H ⟨A, Bn, Ow, Γ, M, o, M', ss, he, po⟩
  simp only [exMs, Option.some.injEq, Prod.mk.injEq] at he
  obtain ⟨rfl, rfl⟩ := he
  exact po σ H A Ow (.refl _ _ _) ss
theorem ms_cons {rest : List Stmt} {a : MS} {b : List MS} (h1 : PS X st (tMt g fs ms a)) (h2 : PSs X rest (tMs g fs ms b)) : PSs X (st :: rest) (tMs g fs ms (a :: b)) := by
  refine PSs.weak (pss_cons h1 h2) ?_
  rintro Dn σ H ⟨A, Bn, Ow, Γ, M, o, M', ss, he, po⟩
  simp only [exMs] at he
  obtain ⟨⟨o1, M1⟩, e1, he⟩ := Option.bind_eq_some_iff.mp he
  refine ⟨A, Bn, Ow, Γ, M, o1, M1, ss, e1, ?_⟩
  cases o1 with
  | nx G => exact fun σ1 H1 A1 O1 s1 r1 => ⟨A1, Bn, O1, G, M1, o, M', r1, he, po.step s1⟩
  | bk G => simp only [Option.some.injEq, Prod.mk.injEq] at he; obtain ⟨rfl, rfl⟩ := he; exact po
  | ct G => simp only [Option.some.injEq, Prod.mk.injEq] at he; obtain ⟨rfl, rfl⟩ := he; exact po
  | rt r G => simp only [Option.some.injEq, Prod.mk.injEq] at he; obtain ⟨rfl, rfl⟩ := he; exact po
  | xc c ks ds G => trivial
theorem m_whl {c : Expr} {b : List Stmt} {ib : List MS} (hp : PassesOwn (model X.prog X.w) X.A X.env X.xe) (hc : PT X c (tXT g fs ms xa)) (hb : PSs X b (tMs g fs ms ib)) : PS X (.While c b [] pos) (tMt g fs ms (.whl xa ib)) := by
  refine PS.weak (ps_while hp hc hb) ?_
  rintro Dn σ H ⟨A, Bn, Ow, Γ, M, o, M', ss, he, po⟩
  simp only [exM] at he
  let W : Nat → St → Hp → Prop := fun m σ1 H1 => ∃ A1 O1 Γ1 M1, Sm A Ow H A1 O1 H1 ∧ SS g A1 Bn O1 H1 σ1 Γ1 M1 ∧ whlLoopM (fun Γ M => (evX fs ms xa Γ M).bind fun (x, Γ1, M1) => (testD Γ1 x).map fun t => (t, Γ1, M1)) (exMs fs ms ib) m Γ1 M1 = some (o, M')
  refine ⟨W, ⟨fuel, A, Ow, Γ, M, .refl _ _ _, ss, he⟩, ?_⟩
  rintro m σ1 H1 ⟨A1, O1, Γ1, M1, s1, r1, l1⟩
  cases m with
  | zero => simp only [whlLoopM, reduceCtorEq] at l1
  | succ n =>
    simp only [whlLoopM] at l1
    obtain ⟨⟨t, Γ2, M2⟩, e2, l1⟩ := Option.bind_eq_some_iff.mp l1
    obtain ⟨⟨x, Γ3, M3⟩, e3, e2⟩ := Option.bind_eq_some_iff.mp e2
    obtain ⟨t', e4, e2⟩ := Option.map_eq_some_iff.mp e2
    simp only [Prod.mk.injEq] at e2
    obtain ⟨rfl, rfl, rfl⟩ := e2
    refine ⟨A1, Bn, O1, Γ1, M1, x, Γ3, M3, t', r1, e3, e4, fun H2 A2 O2 s2 r2 => ?_⟩
    cases t' with
    | false =>
      simp only [Bool.false_eq_true, if_false, Option.some.injEq, Prod.mk.injEq] at l1 ⊢
      obtain ⟨rfl, rfl⟩ := l1
      exact po σ1 H2 A2 O2 (s1.trans s2) r2
    | true =>
      simp only [if_true] at l1 ⊢
      obtain ⟨⟨o1, M4⟩, e5, l1⟩ := Option.bind_eq_some_iff.mp l1
      refine ⟨fun σ' H' => W n σ' H', fun σ' H' w => ⟨n, Nat.lt_succ_self n, w⟩, A2, Bn, O2, Γ3, M3, o1, M4, r2, e5, ?_⟩
      cases o1 with
      | nx G => exact fun σ4 H4 A4 O4 s4 r4 => ⟨A4, O4, G, M4, (s1.trans s2).trans s4, r4, l1⟩
      | ct G => exact fun σ4 H4 A4 O4 s4 r4 => ⟨A4, O4, G, M4, (s1.trans s2).trans s4, r4, l1⟩
      | bk G =>
        simp only [Option.some.injEq, Prod.mk.injEq] at l1; obtain ⟨rfl, rfl⟩ := l1
        exact fun σ4 H4 A4 O4 s4 r4 => po σ4 H4 A4 O4 ((s1.trans s2).trans s4) r4
      | rt r G =>
        simp only [Option.some.injEq, Prod.mk.injEq] at l1; obtain ⟨rfl, rfl⟩ := l1
        exact fun v σ4 H4 A4 O4 s4 r4 => po v σ4 H4 A4 O4 ((s1.trans s2).trans s4) r4
      | xc c ks ds G => trivial
theorem m_for {tg iter : Expr} {b : List Stmt} {itg : Tg} {it : XIt} {ib : List MS} (C : Cok g X) (hp : PassesOwn (model X.prog X.w) X.A X.env X.xe) (hi : PI X tg iter (tIM g fs ms it)) (hg : PG X tg (tgT g.K itg)) (hb : PSs X b (tMs g fs ms ib)) (hs : ∀ x, foldedSetIterable iter X.env x = pure x) :
    PS X (.For tg iter b [] pos) (tMt g fs ms (.for_ itg it ib)) := by
  refine PS.weak (ps_for hp C.calm hi hg hb hs) ?_
  rintro Dn σ H ⟨A, Bn, Ow, Γ, M, o, M', ss, he, po⟩
  simp only [exM] at he
  obtain ⟨⟨ds, Γ2, M2⟩, e1, he⟩ := Option.bind_eq_some_iff.mp he
  refine ⟨A, Bn, Ow, Γ, M, ds, Γ2, M2, ss, e1, fun J H1 A1 O1 s1 r1 wk => ?_⟩
  let C1 : Nat → St → Hp → Prop := fun i σ2 H2 => ∃ A2 O2 G2 M2, Sm A1 O1 H1 A2 O2 H2 ∧ SS g A2 Bn O2 H2 σ2 G2 M2 ∧ forLoopM itg (exMs fs ms ib) (ds.drop i) G2 M2 = some (o, M')
  refine ⟨fun i m σ2 H2 => m = ds.length - i ∧ i ≤ ds.length ∧ C1 i σ2 H2, ⟨ds.length, by simp, Nat.zero_le _, A1, O1, Γ2, M2, .refl _ _ _, r1, he⟩, ?_⟩
  rintro i m σ2 H2 ⟨rfl, hle, A2, O2, G2, N2, s2, r2, l2⟩
  have kp : ∀ a o, H1 a = some o → nT o → ¬ Av (Bx Bn A1) O1 a → H2 a = some o := fun a o h t n => s2.keep0 a o h t (fun z => n (.inr z)) fun z => n (.inl (.inr z))
  by_cases hlt : i < ds.length
  · refine .inr ⟨wk.goW i H2 hlt kp, fun σ' H' => C1 (i + 1) σ' H', fun σ' H' q => ⟨ds.length - (i + 1), by omega, rfl, hlt, q⟩, fun x H3 y => ?_⟩
    have edr : ds.drop i = ds[i] :: ds.drop (i + 1) := List.drop_eq_getElem_cons hlt
    rw [edr] at l2
    simp only [forLoopM] at l2
    obtain ⟨G3, a1, l2⟩ := Option.bind_eq_some_iff.mp l2
    obtain ⟨⟨o1, N3⟩, a2, l2⟩ := Option.bind_eq_some_iff.mp l2
    obtain ⟨sm, rx⟩ := wk.yldW i _ (Av (Bx Bn A2) O2) H2 x H3 (List.getElem?_eq_getElem hlt) (sm_vst (g := g) s2 r2.kf) (fun a z => r2.rs.trk a z) y
    have r3 := r2.same sm
    have s3 : Sm A1 O1 H1 A2 O2 H3 := s2.trans (Sm.of (Stp.same sm))
    refine asgT_ok (g := g.w A2) itg r3.rs (rep_w s2.pre _ _ rx) a1 fun σ3 q1 q2 q3 => ⟨A2, Bn, O2, G3, N2, o1, N3, r3.frm q1, a2, ?_⟩
    cases o1 with
    | nx G => exact fun σ4 H4 A4 O4 s4 r4 => ⟨A4, O4, G, N3, s3.trans s4, r4, l2⟩
    | ct G => exact fun σ4 H4 A4 O4 s4 r4 => ⟨A4, O4, G, N3, s3.trans s4, r4, l2⟩
    | bk G =>
      simp only [Option.some.injEq, Prod.mk.injEq] at l2; obtain ⟨rfl, rfl⟩ := l2
      exact fun σ4 H4 A4 O4 s4 r4 => po σ4 H4 A4 O4 (s1.trans (s3.trans s4)) r4
    | rt r G =>
      simp only [Option.some.injEq, Prod.mk.injEq] at l2; obtain ⟨rfl, rfl⟩ := l2
      exact fun v σ4 H4 A4 O4 s4 r4 => po v σ4 H4 A4 O4 (s1.trans (s3.trans s4)) r4
    | xc c ks ds G => trivial
  · have e : i = ds.length := by omega
    subst e
    rw [List.drop_length] at l2
    simp only [forLoopM, Option.some.injEq, Prod.mk.injEq] at l2
    obtain ⟨rfl, rfl⟩ := l2
    exact .inl ⟨wk.stopW H2 kp, po σ2 H2 A2 O2 (s1.trans s2) r2⟩
theorem im_raw {tg it : Expr} {ik : IK} {its : List E} (h : ∀ A, PI X tg it (tI (g.w A) fs ik its)) : PI X tg it (tIM g fs ms (.raw ik its)) := by
  refine PI.weak (PI.exA h) ?_
  rintro σ H R ⟨A, Bn, Ow, Γ, M, ds, Γ', M', ss, he, hQ⟩
  simp only [itM] at he
  obtain ⟨⟨xs, Γ1⟩, e1, he⟩ := Option.bind_eq_some_iff.mp he
  obtain ⟨⟨es, Γ2⟩, e2, he⟩ := Option.map_eq_some_iff.mp he
  simp only [Prod.mk.injEq] at he
  obtain ⟨rfl, rfl, rfl⟩ := he
  exact ⟨A, Bx Bn A, Ow, Γ, xs, Γ1, es, Γ2, ss.rs, e1, e2, fun J H1 O1 s1 r1 wk => hQ J H1 A O1 (Sm.of s1) (ss.step s1 r1) wk⟩
theorem m_app {o e : Expr} {xo : XE} {apos cpos : Pos} (C : Cok0 g X) (ho : PE X o (tX g fs ms xo)) (he : PE X e (tX g fs ms xa)) (hbase : attributeBase o "append" X.env (eval o X.env) = eval o X.env)
    (hline : (apos.endLine == cpos.line) = true) (hs : starEach [e] X.env = [(false, eval e X.env)]) (hsw : swapsWith (.Call (.Attribute o "append" apos) [e] [] cpos) none pos.line X.env = pure false) :
    PS X (.Expr (.Call (.Attribute o "append" apos) [e] [] cpos) pos) (tMt g fs ms (.app xo xa)) := by
  refine PS.weak (ps_expr (pe_bm PySem.F.plainAttrs_list PySem.F.slot_list_append PySem.F.type_list_append mt_append ho (pa_cons he pa_nil (by rw [hs]; rfl)) hbase (by rw [hs]; rfl) hline (by rw [hs]; rfl) rfl) hsw) ?_
  rintro Dn σ H ⟨A, Bn, Ow, Γ, M, o, M', ss, he, po⟩
  simp only [exM] at he
  obtain ⟨⟨r, Γ1, M1⟩, e1, he⟩ := Option.bind_eq_some_iff.mp he
  obtain ⟨e', e2, he⟩ := Option.bind_eq_some_iff.mp he
  simp only [Option.ite_none_right_eq_some] at he
  obtain ⟨hl, he⟩ := he
  obtain ⟨⟨y, Γ2, M2⟩, e3, he⟩ := Option.bind_eq_some_iff.mp he
  obtain ⟨⟨d, Γ3⟩, e4, he⟩ := Option.bind_eq_some_iff.mp he
  obtain ⟨M3, e5, he⟩ := Option.map_eq_some_iff.mp he
  simp only [Prod.mk.injEq] at he
  obtain ⟨rfl, rfl⟩ := he
  refine ⟨A, Bn, Ow, Γ, M, r, Γ1, M1, ss, e1, fun u H1 A1 O1 s1 r1 vl => ?_⟩
  obtain ⟨k, a, rfl, rfl, ea, ty⟩ := isLM_ty r1 hl (vl.rdb r1.rs e2)
  refine ⟨by rw [C.K]; exact ty, A1, Bn, O1, Γ1, M1, y, Γ2, M2, r1, e3, fun v H2 A2 O2 s2 r2 v2 => ?_⟩
  obtain ⟨O3, s3, r3, p3⟩ := r2.fre v2 e4
  simp only [appM] at e5
  obtain ⟨c, e6, e5⟩ := Option.bind_eq_some_iff.mp e5
  obtain ⟨c', e7, rfl⟩ := Option.map_eq_some_iff.mp e5
  cases c <;> simp only [appD, reduceCtorEq, Option.ite_none_right_eq_some, Option.some.injEq] at e7
  rename_i xs
  obtain ⟨hz, rfl⟩ := e7
  have ea2 := pre_get s2.pre ea
  obtain ⟨vs, hv, rp⟩ := r3.cell k _ a e6 ea2
  obtain ⟨r4, s4⟩ := r3.mutL ea2 (rp.app (Reps.one p3))
  exact ⟨a, vs, v, rfl, rfl, hv, by rw [← rp.len]; exact hz, po _ _ A2 O3 (((s1.trans s2).trans s3).trans s4) r4⟩
theorem m_seti {o k e : Expr} {xo : XE} {ik : E} {tpos : Pos} (C : Cok0 g X) (ho : PE X o (tX g fs ms xo)) (hk : ∀ A, PE X k (tR (g.w A) fs ik)) (he : PE X e (tX g fs ms xa)) (hs : swapsWithSole [.Subscript o k tpos] e pos.line X.env = pure false) (hw : swappedStores [.Subscript o k tpos] e X.env = pure none)
    (h1 : (assignEach [.Subscript o k tpos] X.env).map (·.2) = [assign (.Subscript o k tpos) X.env])
    (ha : ∀ v, assign (.Subscript o k tpos) X.env v = (do
      let ov ← holding [v] (eval o X.env)
      let iv ← holding [v, ov] (eval k X.env)
      standAt tpos
      holding [v, ov, iv] (setItem ov iv v)
      release [v, ov, iv] [])) : PS X (.Assign [.Subscript o k tpos] e pos) (tMt g fs ms (.seti xo ik xa)) := by
  refine PS.weak (ps_asg he (pg_sub ho (PE.exA hk) set_list ha) hs hw h1) ?_
  rintro Dn σ H ⟨A, Bn, Ow, Γ, M, o, M', ss, he, po⟩
  simp only [exM] at he
  obtain ⟨⟨x, Γ1, M1⟩, e1, he⟩ := Option.bind_eq_some_iff.mp he
  obtain ⟨⟨d, Γ2⟩, e2, he⟩ := Option.bind_eq_some_iff.mp he
  obtain ⟨⟨y, Γ3, M2⟩, e3, he⟩ := Option.bind_eq_some_iff.mp he
  obtain ⟨e', e4, he⟩ := Option.bind_eq_some_iff.mp he
  simp only [Option.ite_none_right_eq_some] at he
  obtain ⟨hl, he⟩ := he
  obtain ⟨⟨z, Γ4⟩, e5, he⟩ := Option.bind_eq_some_iff.mp he
  obtain ⟨kd, e6, he⟩ := Option.bind_eq_some_iff.mp he
  obtain ⟨M3, e7, he⟩ := Option.map_eq_some_iff.mp he
  simp only [Prod.mk.injEq] at he
  obtain ⟨rfl, rfl⟩ := he
  refine ⟨A, Bn, Ow, Γ, M, x, Γ1, M1, ss, e1, fun v H1 A1 O1 s1 r1 vl => ?_⟩
  obtain ⟨O2, s2, r2, p2⟩ := r1.fre vl e2
  refine ⟨A1, Bn, O2, Γ2, M1, y, Γ3, M2, r2, e3, fun u H3 A3 O3 s3 r3 v3 => ?_⟩
  obtain ⟨kk, a, rfl, rfl, ea, ty⟩ := isLM_ty r3 hl (v3.rdb r3.rs e4)
  refine ⟨A3, Bx Bn A3, O3, Γ3, z, Γ4, r3.rs, e5, fun w H4 O4 s4 r4 v4 => ?_⟩
  have r4' := r3.step s4 r4
  have rd := v4.rdb r4 e6
  simp only [setM] at e7
  obtain ⟨c, e8, e7⟩ := Option.bind_eq_some_iff.mp e7
  obtain ⟨c', e9, rfl⟩ := Option.map_eq_some_iff.mp e7
  obtain ⟨xs, rfl⟩ : ∃ xs, c = .lst xs := by
    cases c <;> simp only [setD, reduceCtorEq] at e9
    exact ⟨_, rfl⟩
  obtain ⟨ki, rfl⟩ : ∃ ki, kd = .int ki := by
    cases kd <;> simp only [setD, reduceCtorEq] at e9
    exact ⟨_, rfl⟩
  simp only [setD] at e9
  obtain ⟨j, e10, rfl⟩ := Option.map_eq_some_iff.mp e9
  obtain ⟨vs, hv, rp⟩ := r4'.cell kk _ a e8 ea
  have rd : w = .int ki := by simpa only [Rdb, Rep] using rd
  obtain ⟨r5, s5⟩ := r4'.mutL ea (rp.set ((p2.sm s3 r3).sm (Sm.of s4) r4') j)
  exact ⟨a, vs, _, j, rfl, rd, hv, by rw [← rp.len]; exact e10, po _ _ A3 O4 ((((s1.trans s2).trans s3).trans (Sm.of s4)).trans s5) r5⟩
end
/-! ### defs that work on the store -/
section
variable {g : Gx} {A A' : List Addr} {Bn : Addr → Prop} {Ow Ow' : List Addr} {H H' : Hp} {σ σ' : St} {Γ Γ' : Ct} {M M' : List D} {fs : List FS} {ms : List FM}
theorem plG_get {ds : List D} {i : Nat} {d : D} {b : Bool} (h : (plG ds)[i]? = some (some (d, b))) : b = false ∧ ds[i]? = some d := by
  unfold plG at h
  rw [List.getElem?_map] at h
  cases e : ds[i]? with
  | none => rw [e] at h; simp at h
  | some x => rw [e] at h; simp at h; exact ⟨h.2, by rw [h.1]⟩
/-- the arguments behind the body -/
theorem SS.outs {vs : List V} {ds : List D} (r0 : SS g A Bn [] H (vs.map some) (plG ds) M) (s : Sm A [] H A' Ow' H') (r : SS g A' Bn Ow' H' σ Γ M') : SS g A' Bn Ow' H' (vs.map some) (plG ds) M' :=
  r.frm ⟨r0.rs.len, fun i d h => let ⟨v, e, q⟩ := r0.rs.slot i d h; ⟨v, e, q.sm s r⟩, fun i d h => by (cases (plG_get h).1), fun i j d e a h1 => by (cases (plG_get h1).1), r.rs.trl, r.rs.sep, r.rs.kf, r.rs.tabs⟩
theorem finM_ok {M1 : List D} {vs : List V} {ds : List D} {o : Out} {r : RV} {Q : VK} (r0 : SS g A Bn [] H (vs.map some) (plG ds) M) (hf : finM (o, M1) = some (r, M')) 
    (hQ : ∀ v H' A' Ow', Sm A [] H A' Ow' H' → SS g A' Bn Ow' H' (vs.map some) (plG ds) M' → Val (g.w A') (Bx Bn A') Ow' H' (vs.map some) (plG ds) r v → Q v H') :
    noSl r = true ∧ PostM g { nx := fun _ H' => Q .non H', rt := Q } A Bn [] H o M1 := by
  cases o with
  | bk G => simp only [finM, reduceCtorEq] at hf
  | ct G => simp only [finM, reduceCtorEq] at hf
  | xc c ks ds G => simp only [finM, reduceCtorEq] at hf
  | nx G =>
    simp only [finM, Option.some.injEq, Prod.mk.injEq] at hf
    obtain ⟨rfl, rfl⟩ := hf
    exact ⟨rfl, fun σ' H' A' O' s' r' => hQ .non H' A' O' s' (r0.outs s' r') (show Rep _ _ _ _ _ by simp only [Rep])⟩
  | rt x G =>
    cases x with
    | fz d =>
      simp only [finM, Option.some.injEq, Prod.mk.injEq] at hf
      obtain ⟨rfl, rfl⟩ := hf
      exact ⟨rfl, fun v σ' H' A' O' s' r' vl => hQ v H' A' O' s' (r0.outs s' r') vl⟩
    | nw d =>
      simp only [finM, Option.some.injEq, Prod.mk.injEq] at hf
      obtain ⟨rfl, rfl⟩ := hf
      refine ⟨rfl, fun v σ' H' A' O' s' r' vl => ?_⟩
      obtain ⟨a, e, m, ow, no⟩ := vl
      exact hQ v H' A' O' s' (r0.outs s' r') ⟨a, e, m, ow, fun j f h1 => by (cases (plG_get h1).1)⟩
    | sl i =>
      simp only [finM] at hf
      split at hf
      · rename_i d q
        simp only [Option.some.injEq, Prod.mk.injEq] at hf
        obtain ⟨rfl, rfl⟩ := hf
        refine ⟨rfl, fun v σ' H' A' O' s' r' vl => ?_⟩
        have vl' : σ'[i]? = some (some v) := vl
        obtain ⟨a, e, m, ow⟩ := r'.rs.own i d q
        rw [vl'] at e; cases e
        exact hQ _ H' A' O' s' (r0.outs s' r') ⟨a, rfl, m, ow, fun j f h1 => by (cases (plG_get h1).1)⟩
      · rename_i d q
        simp only [Option.some.injEq, Prod.mk.injEq] at hf
        obtain ⟨rfl, rfl⟩ := hf
        refine ⟨rfl, fun v σ' H' A' O' s' r' vl => ?_⟩
        have vl' : σ'[i]? = some (some v) := vl
        obtain ⟨w, e, rp⟩ := r'.rs.slot i d q
        rw [vl'] at e; cases e
        exact hQ v H' A' O' s' (r0.outs s' r') rp
      · cases hf
theorem SS.start {vs : List V} {G0 : Ct} (k : Nat) (r0 : SS g A Bn Ow H (vs.map some) G0 M) : SS g A Bn Ow H (vs.map some ++ List.replicate k none) (G0 ++ List.replicate k none) M := r0.frm (r0.rs.start k)
end
section
variable {P : Program} {w : World} {mg : Str → Option Value} {base : Heap} {g : Gx} {fs : List FS} {ms : List FM}
theorem def_fnM {x qual : Str} {st : Stmt} {f : Addr} {fd : FuncData} {N ps : List Str} {k np n : Nat} {ir : List MS} (F : Fun g.K x qual st f fd) (S : FnScope N ps (defScope st)) (hp : ps.length = np) (hN : N.length = n) (ge : g.ea = none)
    (hbody : ∀ (cdv : Value) (A : Around) (outer : List Env) (s : Shared) (H : Hp) (E : XK), Room k (cxOf CX0 P w g.K mg base N qual (defScope st) f cdv A outer s H E).nox.A → Cok g (cxOf CX0 P w g.K mg base N qual (defScope st) f cdv A outer s H E).nox →
      PSs (cxOf CX0 P w g.K mg base N qual (defScope st) f cdv A outer s H E).nox (defBody st) (tMs g fs ms ir)) : FnOk P w g.K mg base CX0 (k + 1) f fd ps (spM g np (runM fs ms np n ir)) := by
  refine F.ok S (fun vs H Q E h => by rw [h.1, hp]) fun cdv A outer s H vs Q E hr h => ?_
  refine ⟨_, hbody cdv A outer s H E hr ⟨rfl, rfl, hr.units, S.nd, ge⟩, ?_⟩
  obtain ⟨hl, A1, Bn, ds, M, r, M', ss, ef, nr, hQ⟩ := h
  have hG : (plG ds).length = np := by rw [← ss.rs.len, List.length_map, hl]
  simp only [runM, hG, if_true] at ef
  obtain ⟨⟨o, M1⟩, e1, e2⟩ := Option.bind_eq_some_iff.mp ef
  have est : L2.start N vs = vs.map some ++ List.replicate (n - np) none := by rw [← hN, ← hl]; rfl
  refine ⟨A1, Bn, [], plG ds ++ List.replicate (n - np) none, M, o, M1, ?_, e1, ?_⟩
  · rw [est]; exact ss.start _
  · exact (finM_ok ss e2 hQ).2
end
/-- the law's promise beside a store, the classes left open -/
def spNM (K : PySem.W.Frag) (F : FM) : Sp := fun vs H Q E => vs.length = 1 ∧ ∀ cl, spM ⟨K, cl, [], none, []⟩ 1 F vs H Q E
theorem spNM_of {P : Program} {w : World} {K : PySem.W.Frag} {mg : Str → Option Value} {base : Heap} {k : Nat} {f : Addr} {fd : FuncData} {ps : List Str} {F : FM} {cl : Nat → Addr} (h : FnOk P w K mg base CX0 k f fd ps (spM ⟨K, cl, [], none, []⟩ 1 F)) : FnOk P w K mg base CX0 k f fd ps (spNM K F) :=
  ⟨fun vs H Q E q => h.len vs H Q E (q.2 cl), fun A outer s H args us vs Q E hr he hb hv hs => h.run A outer s H args us vs Q E hr he hb hv (hs.2 cl)⟩
theorem sp_lawM {K : PySem.W.Frag} {F : FM} {ns : List Int} {a : Addr} {H : Hp} {M' : List D} (hF : F (plG [.scr ns]) [] = some (.fz (.bl true), M')) (hS : SqL K H a (ns.map V.int)) : spNM K F [.ref a] H (fun v _ => v = .bl true) fun _ _ _ => False := by
  refine ⟨rfl, fun cl => ⟨rfl, [], fun _ => False, [.scr ns], [], _, M', ⟨⟨rfl, fun i d h => ?_, fun i d h => ?_, fun i j d e b h1 => ?_, fun b z => ?_, fun _ _ z => (by cases z), fun b z => ?_, nofun⟩, rfl, List.nodup_nil, nofun, fun k d a h => (by simp at h)⟩, hF, rfl, fun v H' A' O' _ _ vl => ?_⟩⟩
  · obtain ⟨_, h⟩ := plG_get h
    cases i with
    | zero => simp at h; subst h; exact ⟨.ref a, rfl, by simp only [Rep]; exact ⟨a, rfl, fun z => (by rcases z with (z | z) | z <;> cases z), hS⟩⟩
    | succ i => simp at h
  · cases (plG_get h).1
  · cases (plG_get h1).1
  · rcases z with (z | z) | z <;> cases z
  · rcases z with (z | z) | z <;> cases z
  · have vl : Rep _ _ _ _ _ := vl
    simpa only [Rep] using vl
end DV

namespace DV
open PySem L2
theorem Cok.w {g : Gx} {X : Cx} (C : Cok g X) (A : List Addr) : Cok (g.w A) X := ⟨C.K, C.calm, C.hu, C.nd, C.ea⟩
section
variable {X : Cx} {g : Gx} {e o : Expr} {es : List Expr} {ts : List TX} {i c : Nat} {nm : Str} {pos : Pos}
end
end DV

namespace DV
open PySem L2

/-! ### a list of the store, handed to the language of plain frames for a while -/
abbrev Bo (Bn : Addr → Prop) (A : List Addr) (a : Addr) : Addr → Prop := fun b => Bn b ∨ (b ∈ A ∧ b ≠ a)
section
variable {g : Gx} {A A' : List Addr} {Bn : Addr → Prop} {Ow Ow' : List Addr} {H H' : Hp} {σ σ' : St} {Γ Γ' Γ2 : Ct} {M M2 : List D} {i k : Nat} {a : Addr}
theorem av_bo (m : a ∈ A) : ∀ b, Av (Bo Bn A a) (a :: Ow) b ↔ Av (Bx Bn A) Ow b := fun b => by
  constructor
  · rintro ((h | h) | h)
    · exact .inl (.inl h)
    · exact .inl (.inr h.1)
    · rcases List.mem_cons.mp h with h | h
      · rw [h]; exact .inl (.inr m)
      · exact .inr h
  · rintro ((h | h) | h)
    · exact .inl (.inl h)
    · by_cases e : b = a
      · rw [e]; exact .inr List.mem_cons_self
      · exact .inl (.inr ⟨h, e⟩)
    · exact .inr (List.mem_cons_of_mem _ h)
theorem SS.bor {Γb : Ct} (r : SS g A Bn Ow H σ Γ M) (h : borG M i Γ = some (k, Γb)) : ∃ a, A[k]? = some a ∧ σ[i]? = some (some (.ref a)) ∧ RS (g.w A) (Bo Bn A a) (a :: Ow) H σ Γb := by
  unfold borG at h
  split at h
  · rename_i k0 hi
    split at h
    · rename_i ds hk
      simp only [Option.some.injEq, Prod.mk.injEq] at h
      obtain ⟨rfl, rfl⟩ := h
      obtain ⟨v, e1, q⟩ := r.rs.slot i _ hi
      simp only [Rep] at q
      obtain ⟨a, ea, rfl⟩ := q
      have ea : A[k0]? = some a := ea
      have m := (r.ad ea).1
      have no := (r.ad ea).2
      have av := av_bo (Bn := Bn) (Ow := Ow) m
      have hil : i < Γ.length := (List.getElem?_eq_some_iff.mp hi).1
      refine ⟨a, ea, e1, by rw [List.length_set]; exact r.rs.len, fun j d hj => ?_, fun j d hj => ?_, fun j l d e b h1 h2 h3 h4 => ?_, fun b hb => r.rs.trl b ((av b).mp hb), fun b hb z => ?_, fun b hb => r.rs.kf b ((av b).mp hb), r.rs.tabs⟩
      · rcases set_get hj with ⟨_, w⟩ | ⟨_, w⟩
        · cases w
        · obtain ⟨v, e2, q2⟩ := r.rs.slot j d w
          exact ⟨v, e2, rep_less (fun b hb => (av b).mp hb) q2⟩
      · rcases set_get hj with ⟨z, w⟩ | ⟨_, w⟩
        · cases w
          rw [z]
          exact ⟨a, e1, List.mem_cons_self, own_less (fun b hb => (av b).mp hb) (r.cell k0 _ a hk ea)⟩
        · obtain ⟨b, e2, m2, o2⟩ := r.rs.own j d w
          exact ⟨b, e2, List.mem_cons_of_mem _ m2, own_less (fun b hb => (av b).mp hb) o2⟩
      · rcases set_get h1 with ⟨z1, w1⟩ | ⟨n1, w1⟩ <;> rcases set_get h2 with ⟨z2, w2⟩ | ⟨n2, w2⟩
        · rw [z1, z2]
        · exfalso
          rw [z1, e1] at h3; cases h3
          obtain ⟨c, e2, m2, _⟩ := r.rs.own l e w2
          rw [h4] at e2; cases e2
          exact no m2
        · exfalso
          rw [z2, e1] at h4; cases h4
          obtain ⟨c, e2, m2, _⟩ := r.rs.own j d w1
          rw [h3] at e2; cases e2
          exact no m2
        · exact r.rs.dist j l d e b w1 w2 h3 h4
      · rcases List.mem_cons.mp z with z | z
        · rcases hb with hb | hb
          · rw [z] at hb; exact r.sepA a m hb
          · exact hb.2 z
        · rcases hb with hb | hb
          · exact r.rs.sep b (.inl hb) z
          · exact r.rs.sep b (.inr hb.1) z
    · cases h
  · cases h
end
section
variable {X : Cx} {g : Gx} {fs : List FS} {ms : List FM} {a b : Expr} {ia ib : E} {xa xb : XE} {pos : Pos} {st : Stmt}
theorem PostM.sm {A A' : List Addr} {Bn : Addr → Prop} {Ow Ow' : List Addr} {H H' : Hp} {M : List D} {Dn : Ends} {o : Out} (h : PostM g Dn A Bn Ow H o M) (s : Sm A Ow H A' Ow' H') : PostM g Dn A' Bn Ow' H' o M := h.step s
/-! ### turns over a list of the store -/
end
end DV
namespace DV
open PySem L2
section
variable {X : Cx} {g : Gx} {fs : List FS} {ms : List FM} {a : Expr} {ia : E}
end
end DV

namespace DV
open PySem L2

/-! ### a method of an object of the store, called with keywords alone -/
structure MtdMK (P : Program) (w : World) (mg : Str → Option Value) (base : Heap) (g : Gx) (k : Nat) (c : Nat) (x : Str) (ks : List Str) (p : List Nat) (F : FM) : Prop where
  ex : ∃ f fd ps gg gV, Cls g.K (g.cl c) ∧ Meth g.K (g.cl c) x f ∧ KBn g.K fd ps 1 ks gg gV ∧ (∀ (s : V) (zs : List V), zs.length = ks.length → gV [s] zs = s :: permL p zs) ∧ FnOk P w g.K mg base CX0 k f fd ps (spM g (p.length + 1) F)
section
variable {P : Program} {w : World} {mg : Str → Option Value} {base : Heap} {g : Gx}
theorem MtdMK.mono {j k c : Nat} {x : Str} {ks : List Str} {p : List Nat} {F : FM} (h : MtdMK P w mg base g j c x ks p F) (l : j ≤ k) : MtdMK P w mg base g k c x ks p F := by
  obtain ⟨f, fd, ps, gg, gV, h1, h2, h3, h5, h4⟩ := h.ex
  exact ⟨f, fd, ps, gg, gV, h1, h2, h3, h5, h4.mono l⟩
end
section
variable {X : Cx} {g : Gx} {fs : List FS} {ms : List FM} {a b e o : Expr} {es : List Expr} {io : E} {xa xb : XE} {xs : List XE} {x m : Str} {q pos apos kpos : Pos} {c k i n : Nat} {kws : List Keyword} {ks : List Str} {p : List Nat}
theorem PK.weak {t t' : TA} (h : PK X kws t) (k : ∀ σ H Q, t' σ H Q → t σ H Q) : PK X kws t' := ⟨fun pos pins s σ H Q I q => h.run pos pins s σ H Q I (k σ H Q q)⟩
/-! ### == of objects of the store, looked at -/
end
end DV

namespace DV
open PySem L2 PySem.Spec
section
variable {X : Cx} {g : Gx} {fs : List FS} {ms : List FM} {pos : Pos}
end
end DV

namespace DV
open PySem L2

/-! ### further expressions beside a store -/
section
variable {X : Cx} {g : Gx} {fs : List FS} {ms : List FM} {a e : Expr} {es : List Expr} {xa : XE} {xs : List XE} {p pos : Pos} {k i n : Nat} {x : Str}
theorem CallR.exA {α : Type} {f : Value} {r : α → List V → Hp → VK → Prop} (h : ∀ A, CallR X f (r A)) : CallR X f (fun xs H Q => ∃ A, r A xs H Q) := fun pins s σ H xs us Q I vs ⟨A, q⟩ => h A pins s σ H xs us Q I vs q
end
/-! ### an item of a local list is set to a value of the store's language -/
section
variable {X : Cx} {g : Gx} {fs : List FS} {ms : List FM} {xa : XE} {pos : Pos}
end
end DV

namespace DV
open PySem L2

/-! ### a value picked from a written dict of texts -/
section
variable {X : Cx} {g : Gx} {fs : List FS} {b : Expr} {ib : E} {pos dpos q1 q2 q3 q4 : Pos} {j1 j2 j3 j4 : Nat} {k1 k2 v1 v2 : Str}
end
end DV

namespace DV
open PySem L2

/-! ### a comprehension whose items are made with the store -/
def compLoopX (own : List Nat) (tg : Tg) (el : Ct → List D → Option (RV × Ct × List D)) : List D → List D → Ct → List D → Option (List D × Ct × List D)
  | [], acc, Γ, M => some (acc, Γ, M)
  | d :: ds, acc, Γ, M => (asgT tg d Γ).bind fun Γ1 => (el Γ1 M).bind fun (y, Γ2, M2) => (fre Γ2 y).bind fun (e, Γ3) => if plainIx Γ3 own then compLoopX own tg el ds (acc ++ [e]) (wipeG Γ3 own) M2 else none
def compXo (fs : List FS) (ms : List FM) (own : List Nat) (tg : Tg) (it : XIt) (elt : XE) (Γ : Ct) (M : List D) : Option (RV × Ct × List D) := (itM fs ms it Γ M).bind fun (ds, Γ2, M2) =>
  if plainIx Γ2 own && decide (ds.length ≤ sizeLine) && (tgIx tg).all (fun i => own.contains i) then (compLoopX own tg (evX fs ms elt) ds [] (wipeG Γ2 own) M2).map fun (acc, Γ3, M3) => (.nw (.lst acc), restG Γ2 Γ3 own, M3) else none
def XE.compX (own : List Nat) (tg : Tg) (it : XIt) (elt : XE) : XE := .sem fun fs ms Γ M => compXo fs ms own tg it elt Γ M
section
variable {g : Gx} {A A' : List Addr} {Bn : Addr → Prop} {Ow Ow' : List Addr} {H H' : Hp} {σ σ' : St} {Γ Γ' : Ct} {M M' : List D} {p : Addr}
theorem SS.wipe (own : List Nat) (r : SS g A Bn Ow H σ Γ M) : SS g A Bn Ow H (L2.wipe σ own) (wipeG Γ own) M := ⟨r.rs.wipe own, r.len, r.nd, r.sepA, r.cell⟩
theorem orB_bx : orB (Bx Bn A) p = Bx (orB Bn p) A := by
  funext a
  simp only [orB, Bx, eq_iff_iff]
  constructor
  · rintro ((h | h) | h)
    · exact .inl (.inl h)
    · exact .inr h
    · exact .inl (.inr h)
  · rintro ((h | h) | h)
    · exact .inl (.inl h)
    · exact .inr h
    · exact .inl (.inr h)
theorem SS.addB (r : SS g A Bn Ow H σ Γ M) (s : Same H H') (np : H p = none) (hp : LI H' p) (hk : g.K.lookup p = none) : SS g A (orB Bn p) Ow H' σ Γ M := by
  have r2 := r.step ⟨fun a o h _ _ => s a o h, fun a h => by
    rcases List.mem_cons.mp h with h | h
    · rw [h]; exact .inr (nw_none np)
    · exact .inl h⟩ (r.rs.add s np hp hk)
  have av : ∀ a, Av (Bx (orB Bn p) A) Ow a → Av (Bx Bn A) (p :: Ow) a := fun a h => by
    rcases h with ((h | h) | h) | h
    · exact .inl (.inl h)
    · exact .inr (by rw [h]; exact List.mem_cons_self)
    · exact .inl (.inr h)
    · exact .inr (List.mem_cons_of_mem _ h)
  refine ⟨?_, r.len, r.nd, fun a m z => ?_, fun k d a h1 h2 => own_less av (r2.cell k d a h1 h2)⟩
  · have := r.rs.addB s np hp hk
    rw [orB_bx] at this
    exact this
  · rcases z with z | z
    · exact r.sepA a m z
    · rw [z] at m
      exact r.rs.trk p (.inl (.inr m)) np
theorem SS.updB {o : HO} (r : SS g A (orB Bn p) Ow H σ Γ M) (ho : LI (upd H p o) p) : SS g A (orB Bn p) Ow (upd H p o) σ Γ M := by
  have v := ban_vst (g := g.w A) (H := H) (o := o) (A := Av (Bx (orB Bn p) A) Ow) (p := p) (.inl (.inl (.inr rfl)))
  refine ⟨r.rs.updB (.inl (.inr rfl)) ho, r.len, r.nd, r.sepA, fun k d a h1 h2 => ?_⟩
  have ne : a ≠ p := fun z => r.sepA a (r.ad h2).1 (.inr z)
  have q := r.cell k d a h1 h2
  cases d with
  | lst ds => obtain ⟨ws, z1, z2⟩ := q; exact ⟨ws, by rw [upd_ne ne]; exact z1, reps_mono v _ _ z2⟩
  | obj c ks ds => obtain ⟨dx, ws, l, z1, z2⟩ := q; exact ⟨dx, ws, l, by rw [upd_ne ne]; exact z1, reps_mono v _ _ z2⟩
  | _ => exact q
theorem SS.unP (r : SS g A (orB Bn p) Ow H σ Γ M) (nb : ¬ Bn p) (nA : p ∉ A) : SS g A Bn (p :: Ow) H σ Γ M := by
  have av : ∀ a, Av (Bx Bn A) (p :: Ow) a → Av (Bx (orB Bn p) A) Ow a := fun a h => by
    rcases h with (h | h) | h
    · exact .inl (.inl (.inl h))
    · exact .inl (.inr h)
    · rcases List.mem_cons.mp h with h | h
      · exact .inl (.inl (.inr h))
      · exact .inr h
  have q := r.rs
  rw [← orB_bx] at q
  exact ⟨q.unB fun z => z.elim nb nA, r.len, r.nd, fun a m z => r.sepA a m (.inl z), fun k d a h1 h2 => own_less av (r.cell k d a h1 h2)⟩
theorem SS.rest {own : List Nat} (r0 : SS g A Bn Ow H σ Γ M) (hp : plainIx Γ own = true) (np : H p = none) (hk : g.K.lookup p = none) (s : Sm A Ow H A' Ow' H') (r : SS g A' (orB Bn p) Ow' H' (L2.wipe σ own) Γ' M') : SS g A' (orB Bn p) Ow' H' σ (restG Γ Γ' own) M' := by
  have rs := r.rs
  have hl : σ.length = Γ'.length := by rw [← rs.len, wipe_length]
  have pl : ∀ i, i ∈ own → ∀ d, Γ[i]? ≠ some (some (d, true)) := fun i hi d z => by
    unfold plainIx at hp
    have q := List.all_eq_true.mp hp i hi
    rw [z] at q
    cases q
  have inn : ∀ {i : Nat} {q : D × Bool}, i ∈ own → (restG Γ Γ' own)[i]? = some (some q) → Γ[i]? = some (some q) := fun {i q} hi h => by
    have hlt : i < Γ'.length := by
      rw [← restG_len Γ Γ' own]
      exact (List.getElem?_eq_some_iff.mp h).1
    rw [restG_in hi hlt] at h
    have hlt2 : i < Γ.length := by rw [← r0.rs.len, hl]; exact hlt
    rw [List.getD_eq_getElem?_getD, List.getElem?_eq_getElem hlt2] at h
    rw [List.getElem?_eq_getElem hlt2]
    simpa using h
  have vst : ∀ a, Vst (g.w A) (Av (Bx Bn A) Ow) H a → (∀ o, H a = some o → nT o → H' a = some o) ∧ ¬ Av (Bx (orB Bn p) A') Ow' a := fun a h => by
    have q := sm_vst (g := g) (Bn := Bn) s (fun a z => rs.kf a (z.elim .inr fun z => .inl (.inr z))) a h
    refine ⟨q.1, fun z => ?_⟩
    rcases z with ((z | z) | z) | z
    · exact q.2 (.inl (.inl z))
    · obtain ⟨_, t⟩ := h
      rw [z] at t
      rcases t with ⟨o, t, _⟩ | ⟨o, t⟩
      · rw [np] at t; cases t
      · have t : g.K.lookup p = some o := t
        rw [hk] at t; cases t
    · exact q.2 (.inl (.inr z))
    · exact q.2 (.inr z)
  refine ⟨⟨by rw [restG_len]; exact hl, fun i d h => ?_, fun i d h => ?_, fun i j d e a h1 h2 h3 h4 => ?_, rs.trl, rs.sep, rs.kf, rs.tabs⟩, r.len, r.nd, r.sepA, r.cell⟩
  · by_cases hi : i ∈ own
    · obtain ⟨v, e, q⟩ := r0.rs.slot i d (inn hi h)
      exact ⟨v, e, rep_w s.pre _ _ (rep_mono (g := g.w A) vst _ _ q)⟩
    · rw [restG_out hi] at h
      obtain ⟨v, e, q⟩ := rs.slot i d h
      rw [wipe_nout hi] at e
      exact ⟨v, e, q⟩
  · by_cases hi : i ∈ own
    · exact absurd (inn hi h) (pl i hi d)
    · rw [restG_out hi] at h
      obtain ⟨v, e, q⟩ := rs.own i d h
      rw [wipe_nout hi] at e
      exact ⟨v, e, q⟩
  · have n1 : i ∉ own := fun z => pl i z d (inn z h1)
    have n2 : j ∉ own := fun z => pl j z e (inn z h2)
    rw [restG_out n1] at h1
    rw [restG_out n2] at h2
    exact rs.dist i j _ _ _ h1 h2 (by rw [wipe_nout n1]; exact h3) (by rw [wipe_nout n2]; exact h4)
end
section
variable {g : Gx} {fs : List FS} {ms : List FM}
theorem comp_coreX {own : List Nat} {tg : Tg} {it : XIt} {elt : XE} {σ : St} {H : Hp} {Q : VK} (h : tX g fs ms (.compX own tg it elt) σ H Q) :
    tLc (tIM g fs ms it) (tgK g.K tg) tYes (tX g fs ms elt) own σ H (fun v H' => kfs g.K H' → Q v H') := by
  obtain ⟨A, Bn, Ow, Γ, M, r, Γ', M', ss, he, hQ⟩ := h
  simp only [XE.compX, evX, compXo] at he
  obtain ⟨⟨ds, Γ2, M2⟩, e1, he⟩ := Option.bind_eq_some_iff.mp he
  simp only [Option.ite_none_right_eq_some, Bool.and_eq_true, decide_eq_true_eq] at he
  obtain ⟨⟨⟨hp, hz⟩, htg⟩, he⟩ := he
  obtain ⟨⟨acc, Γ3, M3⟩, e3, he⟩ := Option.map_eq_some_iff.mp he
  simp only [Prod.mk.injEq] at he
  obtain ⟨rfl, rfl, rfl⟩ := he
  refine ⟨A, Bn, Ow, Γ, M, ds, Γ2, M2, ss, e1, fun J H1 A1 O1 s1 r1 wk Dl hD => ?_⟩
  have nbD : ¬ Bn Dl := fun z => r1.rs.trk Dl (.inl (.inl z)) hD
  have nAD : Dl ∉ A1 := fun z => r1.rs.trk Dl (.inl (.inr z)) hD
  have nOD : Dl ∉ O1 := fun z => r1.rs.trk Dl (.inr z) hD
  have tgO : ∀ i, i ∉ own → i ∉ tgIx tg := fun i hi z => by
    have := List.all_eq_true.mp htg i z
    simp only [List.contains_eq_mem, decide_eq_true_eq] at this
    exact hi this
  let Cn : Nat → Hp → Prop := fun i H => g.K.lookup Dl = none → ∃ A O Γi Mi acci vs, Sm A1 O1 H1 A O H ∧ SS g A (orB Bn Dl) O H (L2.wipe σ own) Γi Mi ∧ H Dl = some (.lst vs) ∧ vs.length ≤ i ∧ Reps (g.w A) (Av (Bx (orB Bn Dl) A) O) H acci vs ∧ compLoopX own tg (evX fs ms elt) (ds.drop i) acci Γi Mi = some (acc, Γ3, M3)
  let U : Nat → Hp → Prop := fun i H => (∀ a o, H1 a = some o → nT o → a ∉ O1 → a ∉ A1 → H a = some o) ∧ ∃ vs, H Dl = some (.lst vs)
  have kp : ∀ {H : Hp}, (∀ a o, H1 a = some o → nT o → a ∉ O1 → a ∉ A1 → H a = some o) → ∀ a o, H1 a = some o → nT o → ¬ Av (Bx Bn A1) O1 a → H a = some o := fun k a o h t n => k a o h t (fun z => n (.inr z)) fun z => n (.inl (.inr z))
  have smN : ∀ {A O : List Addr} {H : Hp} {o : HO}, Sm A1 O1 H1 A O H → Sm A1 O1 H1 A O (upd H Dl o) := fun s => ⟨s.pre, fun a x h t n1 n2 => by
    rw [upd_ne (ne_of_none h hD)]
    exact s.keep0 a x h t n1 n2, s.grow⟩
  refine ⟨fun i m H => m = ds.length - i ∧ i ≤ ds.length ∧ U i H ∧ Cn i H, ⟨ds.length, by simp, Nat.zero_le _, ⟨fun a o h _ _ _ => by rw [upd_ne (ne_of_none h hD)]; exact h, [], upd_same⟩, fun hk => ?_⟩, ?_⟩
  · exact ⟨A1, O1, _, _, [], [], smN (Sm.refl A1 O1 H1), (r1.wipe own).addB (same_new hD) hD (.inl ⟨_, upd_same⟩) hk, upd_same, Nat.le_refl _, by simp only [Reps], e3⟩
  rintro i m H ⟨rfl, hi, ⟨hU1, vs0, hU2⟩, hC⟩
  by_cases hlt : i < ds.length
  · refine .inr ⟨wk.goW i H hlt (kp hU1), fun H' => U (i + 1) H' ∧ Cn (i + 1) H', fun H' q => ⟨ds.length - (i + 1), by omega, rfl, hlt, q.1, q.2⟩, fun x H' y kf => ?_⟩
    have sm := wk.same i H x H' y
    have hk : g.K.lookup Dl = none := kf_new kf (sm _ _ hU2)
    obtain ⟨A2, O, Γi, Mi, acci, vs, st, r2, hDl, hvl, rp, lp⟩ := hC hk
    have ed : ds[i]? = some ds[i] := List.getElem?_eq_getElem hlt
    have edr : ds.drop i = ds[i] :: ds.drop (i + 1) := List.drop_eq_getElem_cons hlt
    rw [edr] at lp
    simp only [compLoopX] at lp
    obtain ⟨G1, a1, lp⟩ := Option.bind_eq_some_iff.mp lp
    have vst : ∀ a, Vst (g.w A1) (Av (Bx Bn A1) O1) H1 a → (∀ o, H1 a = some o → nT o → H a = some o) ∧ ¬ Av (Bx (orB Bn Dl) A2) O a := fun a h => by
      have q := sm_vst (g := g) (Bn := Bn) st (fun a z => r2.rs.kf a (z.elim .inr fun z => .inl (.inr z))) a h
      refine ⟨q.1, fun z => ?_⟩
      rcases z with ((z | z) | z) | z
      · exact q.2 (.inl (.inl z))
      · obtain ⟨_, t⟩ := h
        rw [z] at t
        rcases t with ⟨o, t, _⟩ | ⟨o, t⟩
        · rw [hD] at t; cases t
        · have t : g.K.lookup Dl = some o := t
          rw [hk] at t; cases t
      · exact q.2 (.inl (.inr z))
      · exact q.2 (.inr z)
    obtain ⟨_, rx⟩ := wk.yldW i _ (Av (Bx (orB Bn Dl) A2) O) H x H' ed vst (fun a z => r2.rs.trk a z) y
    have r2' := r2.same sm
    refine asgT_ok (g := g.w A2) tg r2'.rs (rep_w st.pre _ _ rx) a1 fun σ2 q1 q2 q3 => ?_
    have hw : L2.wipe σ2 own = L2.wipe σ own := by
      rw [← wipe_wipe σ own]
      exact wipe_same q2 fun j hj => q3 j (tgO j hj)
    refine ⟨hw, ?_⟩
    show tYes σ2 H' _
    simp only [tYes, if_true]
    obtain ⟨⟨ye, G3, M4⟩, a3, lp⟩ := Option.bind_eq_some_iff.mp lp
    obtain ⟨⟨e, G4⟩, a4, lp⟩ := Option.bind_eq_some_iff.mp lp
    simp only [Option.ite_none_right_eq_some] at lp
    obtain ⟨_, lp⟩ := lp
    have dO : Dl ∉ O := r2.rs.sep Dl (.inl (.inr rfl))
    have dA : Dl ∉ A2 := fun z => r2.sepA Dl z (.inr rfl)
    refine ⟨A2, orB Bn Dl, O, G1, Mi, ye, G3, M4, r2'.frm q1, a3, fun y4 H4 A4 O4 s4 r4 v4 => ?_⟩
    obtain ⟨O5, s5, r5, p5⟩ := r4.fre v4 a4
    have hDl4 : H4 Dl = some (.lst vs) := s4.keep0 _ _ (sm _ _ hDl) nofun dO dA
    have st5 : Sm A1 O1 H1 A4 O5 H4 := ((st.trans (Sm.of (Stp.same sm))).trans s4).trans s5
    have rp5 : Reps (g.w A4) (Av (Bx (orB Bn Dl) A4) O5) H4 acci vs := ((rp.same sm).sm s4 r4).sm s5 r5
    have st6 : Sm A1 O1 H1 A4 O5 (upd H4 Dl (.lst (vs ++ [y4]))) := smN st5
    refine ⟨vs, hDl4, by omega, ⟨fun a o h t n1 n2 => st6.keep0 a o h t n1 n2, vs ++ [y4], upd_same⟩, fun _ => ⟨A4, O5, _, _, acci ++ [e], vs ++ [y4], st6, ?_, upd_same, by rw [List.length_append, List.length_singleton]; omega, ?_, lp⟩⟩
    · have := r5.wipe own
      rw [hw] at this
      exact this.updB (.inl ⟨_, upd_same⟩)
    · exact reps_mono (ban_vst (.inl (.inl (.inr rfl)))) _ _ (rp5.app (Reps.one p5))
  · have e : i = ds.length := by omega
    subst e
    refine .inl ⟨wk.stopW H (kp hU1), fun kf => ?_⟩
    have hk : g.K.lookup Dl = none := kf_new kf hU2
    obtain ⟨A2, O, Γi, Mi, acci, vs, st, r2, hDl, hvl, rp, lp⟩ := hC hk
    rw [List.drop_length] at lp
    simp only [compLoopX, Option.some.injEq, Prod.mk.injEq] at lp
    obtain ⟨rfl, rfl, rfl⟩ := lp
    have r3 := r1.rest hp hD hk st r2
    have dA : Dl ∉ A2 := fun z => r2.sepA Dl z (.inr rfl)
    have r4 := r3.unP nbD dA
    refine hQ _ H A2 (Dl :: O) (s1.trans ⟨st.pre, st.keep0, fun a h => ?_⟩) r4 ⟨Dl, rfl, List.mem_cons_self, ⟨vs, hDl, ?_⟩, fun j e h1 h2 => ?_⟩
    · rcases h with h | h
      · rcases List.mem_cons.mp h with h | h
        · rw [h]; exact .inr (.inr (nw_none hD))
        · exact st.grow a (.inl h)
      · exact st.grow a (.inr h)
    · refine reps_less (fun a z => ?_) rp
      rcases z with (z | z) | z
      · exact .inl (.inl (.inl z))
      · exact .inl (.inr z)
      · rcases List.mem_cons.mp z with z | z
        · exact .inl (.inl (.inr z))
        · exact .inr z
    · obtain ⟨a, e2, m2, _⟩ := r3.rs.own j e h1
      rw [h2] at e2; cases e2
      exact r2.rs.sep Dl (.inl (.inr rfl)) m2
end
section
variable {X : Cx} {g : Gx} {fs : List FS} {ms : List FM}
end
end DV

namespace DV
open PySem L2

/-! ### an item of a list of the store -/
section
variable {X : Cx} {g : Gx} {fs : List FS} {ms : List FM} {a b : Expr} {xa : XE} {ib : E} {pos : Pos}
end
/-! ### a comprehension over a list of the store -/
section
variable {g : Gx} {fs : List FS} {ms : List FM}
end
section
variable {X : Cx} {g : Gx} {fs : List FS} {ms : List FM}
end
end DV

namespace DV
open PySem PySem.SeqAt
open AutoSeq1 (wpAny_loadPart')
open MeetsSeq MeetsSeq2 MeetsSeq3 SeqRoads2
section
variable {prog : Program} {w : World} {A : Around} {R : Result → Shared → Prop}
end
section
variable {prog : Program} {w : World} {A : Around} {E : Value → Shared → Prop} {s : Shared}
end
open L2
section
/-- all stays but tables, which stay in order -/
structure Ex (g : Gx) (H H' : Hp) : Prop where
  k : LamX.ExtN H H'
  t : Tb g.T H → Tb g.T H'
theorem Ex.refl (g : Gx) (H : Hp) : Ex g H H := ⟨LamX.ExtN.refl H, id⟩
theorem Ex.trans {g : Gx} {H H1 H2 : Hp} (a : Ex g H H1) (b : Ex g H1 H2) : Ex g H H2 := ⟨a.k.trans b.k, fun t => b.t (a.t t)⟩
variable {X : Cx} {g : Gx} {n m : Nat} {E E' : Eqv}
def MonN (g : Gx) (E : Eqv) : Prop := ∀ x y H H', Ex g H H' → E x y H → E x y H'
def EqN (X : Cx) (g : Gx) (n : Nat) (E : Eqv) : Prop :=
  ∀ (A : Around) (pins : List (Addr × Obj)) (s : Shared) (σ : St) (H : Hp) (x y : V) (u v : Value), L2.Sub X n A → Inv X pins σ H s → RelV x u → RelV y v → E x y H →
    wpAny (model X.prog X.w) A (eqBool u v) (fun r s' => r = true ∧ ∃ H', Inv X pins σ H' s' ∧ Ex g H H') X.xe s
theorem EqN.mono (h : EqN X g n E) (hn : n ≤ m) : EqN X g m E := fun A pins s σ H x y u v sb => h A pins s σ H x y u v (sb.mono hn)
theorem EqN.or (h : EqN X g n E) (h' : EqN X g n E') : EqN X g n (fun x y H => E x y H ∨ E' x y H) := fun A pins s σ H x y u v sb I rx ry d => by
  rcases d with d | d
  · exact h A pins s σ H x y u v sb I rx ry d
  · exact h' A pins s σ H x y u v sb I rx ry d
theorem MonN.or (h : MonN g E) (h' : MonN g E') : MonN g (fun x y H => E x y H ∨ E' x y H) := fun x y H H' e d => d.elim (fun d => .inl (h x y H H' e d)) fun d => .inr (h' x y H H' e d)
end
/-! ### data that are equal, objects by their own == -/
section
variable {X : Cx} {g : Gx} {n k c : Nat} {F : FS}
end
section
variable {g : Gx} {c : Nat} {F : FS} {H : Hp}
end
section
variable {X : Cx} {g : Gx} {fs : List FS} {ms : List FM} {a b : Expr} {xa xb : XE} {pos : Pos} {c k i : Nat} {F : FS}
end
end DV

namespace DV
open PySem L2

/-! ### the own == of a class, asked with an object of another class, too -/
section
variable {X : Cx} {g : Gx} {fs : List FS} {a b : Expr} {ia ib : E} {pos : Pos} {c c2 k i : Nat} {F : FS}
end
end DV

namespace DV
open PySem L2

/-! ### a name gets a comprehension whose variable is a name of the function, too -/
section
variable {X : Cx} {g : Gx} {fs : List FS} {ms : List FM}
theorem m_setLc {i : Nat} {y : Str} {py : Pos} {elt tg iter : Expr} {scope : Scope} {own : List (Str × Nat)} {pos spos : Pos} {itg : Tg} {it : XIt} {ielt : XE} (C : Cok g X) (hy : X.N[i]? = some y) (hyl : X.env.scope.names.lookup y = some .local)
    (hsw : swapsWith (.ListComp elt [⟨tg, iter, [], 0⟩] scope pos) (some (.Name y py)) spos.line X.env = pure true) (hi : PI X tg iter (tIM g fs ms it)) (ok : BlkOk X.N X.env.scope scope own)
    (hg : ∀ (s : Shared) (H : Hp) (C : Addr) (cl : List (Str × Addr)) (fp : List Addr), PG (X.blk s H scope (compEnvC scope cl C X.env) fp) tg (tgT g.K itg))
    (he : ∀ (s : Shared) (H : Hp) (C : Addr) (cl : List (Str × Addr)) (fp : List Addr), PE (X.blk s H scope (compEnvC scope cl C X.env) fp) elt (tX g fs ms ielt)) (hs : ∀ x, foldedSetIterable iter X.env x = pure x) :
    PS X (.Assign [.Name y py] (.ListComp elt [⟨tg, iter, [], 0⟩] scope pos) spos) (tMt g fs ms (.asgO i (.compX (own.map (·.2)) itg it ielt))) := by
  refine PS.weak (PS.kf (ps_setLc (g := tgK g.K itg) C.calm C.nd hy hyl hsw hi ok (fun s H Ca cl fp => ?_) (fun _ _ _ _ _ => pts_nil) he hs)) ?_
  · have := PG.kf (hg s H Ca cl fp)
    exact ⟨fun pins s σ H v u Q I r q => this.run pins s σ H v u Q I r fun kf => q fun a o e => kf a o (by show X.K.lookup a = some o; rw [C.K]; exact e)⟩
  · rintro Dn σ H ⟨A, Bn, Ow, Γ, M, o, M', ss, h, po⟩
    simp only [exM] at h
    obtain ⟨⟨x, Γ1, M1⟩, e1, h⟩ := Option.bind_eq_some_iff.mp h
    have q : tX g fs ms (.compX (own.map (·.2)) itg it ielt) σ H (fun v H1 => gName i v σ H1 Dn.nx) := by
      refine ⟨A, Bn, Ow, Γ, M, x, Γ1, M1, ss, e1, fun v H1 A1 O1 s1 r1 vl => ?_⟩
      have plain : ∀ {o : Out} {M' : List D}, ((fre Γ1 x).bind fun (p : D × Ct) => if i < p.2.length then some (Out.nx (p.2.set i (some (p.1, false))), M1) else none) = some (o, M') → PostM g Dn A Bn Ow H o M' → gName i v σ H1 Dn.nx := fun {o M'} he po => by
        obtain ⟨⟨d, Γ2⟩, e2, he⟩ := Option.bind_eq_some_iff.mp he
        simp only [Option.ite_none_right_eq_some, Option.some.injEq, Prod.mk.injEq] at he
        obtain ⟨hi, rfl, rfl⟩ := he
        obtain ⟨O2, s2, r2, p2⟩ := r1.fre vl e2
        exact po _ H1 A1 O2 (s1.trans s2) (r2.setv p2 hi)
      cases x with
      | nw d =>
        simp only [Option.ite_none_right_eq_some, Option.some.injEq, Prod.mk.injEq] at h
        obtain ⟨hi, rfl, rfl⟩ := h
        exact po _ H1 A1 O1 s1 (r1.frm (r1.rs.setO vl hi))
      | fz d => exact plain h po
      | sl j => exact plain h po
    have q2 := comp_coreX q
    rw [C.K]
    exact q2
end
end DV

namespace DV
open PySem L2
theorem noXc_s : (∀ Γ, noXc (.nx Γ) = true) ∧ (∀ r Γ, noXc (.rt r Γ) = true) ∧ (∀ Γ, noXc (.bk Γ) = true) ∧ (∀ Γ, noXc (.ct Γ) = true) := ⟨fun _ => rfl, fun _ _ => rfl, fun _ => rfl, fun _ => rfl⟩
theorem noSl_s : (∀ d, noSl (.fz d) = true) ∧ (∀ d, noSl (.nw d) = true) := ⟨fun _ => rfl, fun _ => rfl⟩
theorem plG_s : plG [] = [] ∧ ∀ d ds, plG (d :: ds) = some (d, false) :: plG ds := ⟨rfl, fun _ _ => rfl⟩
theorem safe_s : safe .non = true ∧ (∀ b, safe (.bl b) = true) ∧ (∀ i, safe (.int i) = true) ∧ (∀ s, safe (.str s) = true) ∧ (∀ ds, safe (.tup ds) = safes ds) := ⟨by simp [safe], fun _ => by simp [safe], fun _ => by simp [safe], fun _ => by simp [safe], fun _ => by simp [safe]⟩
theorem notSl_s : (∀ i d, notSl i (.fz d) = true) ∧ (∀ i d, notSl i (.nw d) = true) := ⟨fun _ _ => rfl, fun _ _ => rfl⟩
/-- the equations of the language beside a store -/
def XC := (And.intro (And.intro (And.intro (And.intro (And.intro (And.intro (@DV.evX.eq_2) (@DV.evX.eq_3)) (And.intro (@DV.evX.eq_4) (@DV.evX.eq_5))) (And.intro (And.intro (@DV.evX.eq_6) (@DV.evX.eq_7)) (And.intro (@DV.evX.eq_8) (@DV.evX.eq_9)))) (And.intro (And.intro (And.intro (@DV.evX.eq_10) (@DV.evX.eq_11)) (And.intro (@DV.evX.eq_12) (@DV.evX.eq_13))) (And.intro (And.intro (@DV.evX.eq_14) (@DV.evX.eq_15)) (And.intro (@DV.evX.eq_16) (And.intro (@DV.evX.eq_17) (@DV.evX.eq_18)))))) (And.intro (And.intro (And.intro (And.intro (@DV.evX.eq_19) (@DV.evXs.eq_1)) (And.intro (@DV.evXs.eq_2) (@DV.exM.eq_2))) (And.intro (And.intro (@DV.exM.eq_3) (@DV.exM.eq_4)) (And.intro (@DV.exM.eq_5) (@DV.exM.eq_6)))) (And.intro (And.intro (And.intro (@DV.exM.eq_7) (@DV.exM.eq_8)) (And.intro (@DV.exM.eq_11) (@DV.exM.eq_12))) (And.intro (And.intro (@DV.exM.eq_13) (@DV.exM.eq_14)) (And.intro (@DV.exM.eq_15) (And.intro (@DV.exM.eq_16) (@DV.exMs.eq_1))))))) (And.intro (And.intro (And.intro (And.intro (And.intro (@DV.exMs.eq_2) (@DV.finM.eq_1)) (And.intro (@DV.finM.eq_2) (@DV.finM.eq_3))) (And.intro (And.intro (@DV.finM.eq_4) (@DV.runM.eq_1)) (And.intro (@DV.evnX.eq_1) (@DV.evnX.eq_2)))) (And.intro (And.intro (And.intro (@DV.putM.eq_1) (@DV.appM.eq_1)) (And.intro (@DV.setM.eq_1) (@DV.isLM.eq_1))) (And.intro (And.intro (@DV.asgX.eq_1) (@DV.asgX.eq_2)) (And.intro (@DV.asgX.eq_3) (And.intro (@DV.itM.eq_1) (@DV.itM.eq_2)))))) (And.intro (And.intro (And.intro (And.intro (@DV.seqD.eq_1) (@DV.seqD.eq_2)) (And.intro (@DV.noXc_s) (@DV.rfldD.eq_1))) (And.intro (And.intro (@DV.refO.eq_1) (@DV.noSl_s)) (And.intro (@DV.plG_s) (@DV.safeR.eq_1)))) (And.intro (And.intro (And.intro (@DV.safeR.eq_2) (@DV.safe_s)) (And.intro (@DV.safes.eq_1) (@DV.safes.eq_2))) (And.intro (And.intro (@DV.borG.eq_1) (@DV.bakG.eq_1)) (And.intro (@DV.notSl.eq_1) (And.intro (@DV.notSl_s) (@DV.bakO.eq_1))))))))

section
variable {fs : List FS} {ms : List FM} {Γ Γ1 Γ2 : Ct} {M M1 M2 : List D}
theorem exMs_nx {s : MS} {ss : List MS} (h : exM fs ms s Γ M = some (.nx Γ1, M1)) : exMs fs ms (s :: ss) Γ M = exMs fs ms ss Γ1 M1 := by simp only [exMs, h, Option.bind_some]
theorem exMs_rt {s : MS} {ss : List MS} {r : RV} (h : exM fs ms s Γ M = some (.rt r Γ1, M1)) : exMs fs ms (s :: ss) Γ M = some (.rt r Γ1, M1) := by simp only [exMs, h, Option.bind_some]
theorem exM_old {s : S} (h : ex fs [] s Γ = some (.nx Γ1)) : exM fs ms (.old s) Γ M = some (.nx Γ1, M) := by simp only [exM, h, Option.bind_some, noXc, if_true]
theorem exM_oldR {s : S} {r : RV} (h : ex fs [] s Γ = some (.rt r Γ1)) : exM fs ms (.old s) Γ M = some (.rt r Γ1, M) := by simp only [exM, h, Option.bind_some, noXc, if_true]
theorem exM_ite {c : XE} {a b : List MS} {x : RV} {t : Bool} {o : Out × List D} (h1 : evX fs ms c Γ M = some (x, Γ1, M1)) (h2 : testD Γ1 x = some t) (h3 : exMs fs ms (if t then a else b) Γ1 M1 = some o) : exM fs ms (.ite c a b) Γ M = some o := by
  simp only [exM, h1, Option.bind_some, h2]
  cases t <;> simpa using h3
theorem exM_ite0 {c : XE} {a : List MS} {x : RV} (h1 : evX fs ms c Γ M = some (x, Γ1, M1)) (h2 : testD Γ1 x = some false) : exM fs ms (.ite c a []) Γ M = some (.nx Γ1, M1) := exM_ite h1 h2 (by simp only [Bool.false_eq_true, if_false, exMs])
theorem exM_for {tg : Tg} {it : XIt} {b : List MS} {ds : List D} {o : Out × List D} (h1 : itM fs ms it Γ M = some (ds, Γ2, M1)) (h2 : forLoopM tg (exMs fs ms b) ds Γ2 M1 = some o) : exM fs ms (.for_ tg it b) Γ M = some o := by
  simp only [exM, h1, Option.bind_some, h2]
theorem forLoopM_step {tg : Tg} {body : Ct → List D → Option (Out × List D)} {d : D} {ds : List D} (h1 : asgT tg d Γ = some Γ1) (h2 : body Γ1 M = some (.nx Γ2, M2)) : forLoopM tg body (d :: ds) Γ M = forLoopM tg body ds Γ2 M2 := by
  simp only [forLoopM, h1, h2, Option.bind_some]
theorem runM_by {np n : Nat} {body : List MS} {G0 : Ct} {o : Out × List D} {r : RV × List D} (hl : G0.length = np) (e : exMs fs ms body (G0 ++ List.replicate (n - np) none) M = some o) (f : finM o = some r) : runM fs ms np n body G0 M = some r := by
  simp only [runM, hl, if_true, e, Option.bind_some, f]
theorem evX_raw {e : E} {x : RV} (h : ev fs e Γ = some (x, Γ1)) : evX fs ms (.raw e) Γ M = some (x, Γ1, M) := by simp only [evX, h, Option.map_some]
theorem evX_snp {is : List (Nat × Nat × Bool)} {e : E} {x : RV} (h : ev fs e (lookG M is Γ) = some (x, Γ1)) (hs : safeR x = true) : evX fs ms (.snp is e) Γ M = some (x, Γ, M) := by simp only [evX, h, Option.bind_some, hs, if_true]
end
end DV

namespace L
open PySem L2 DV
def F__law_cell_at : FS := runF [] 2 2 [.ite (.cmp .lt (.var 1) (.bi .len [.var 0])) [.ret (.ix (.var 0) (.var 1))] [],
  .ret (.cst (.int 0))]
def F__law_source_of : FS := runF [] 1 1 [.ret (.lst [.bin .mul (.var 0) (.bi .int1 [.cmp .ge (.var 0) (.bin .pow (.cst (.int 10)) (.cst (.int 18)))]), .bin .mod (.bi .int1 [.var 0]) (.cst (.int 2147483647)), .cst (.int 0)])]
def F__law_next : FS := runF [] 2 5 [.ite (.cmp .gt (.ix (.var 0) (.cst (.int 0))) (.cst (.int 0))) [.asgO 4 (.bin .mod (.bi .int1 [.ix (.var 0) (.cst (.int 0))]) (.var 1)),
  .seti 0 (.cst (.int 0)) (.bin .fdiv (.ix (.var 0) (.cst (.int 0))) (.var 1)),
  .ret (.var 4)] [],
  .seti 0 (.cst (.int 2)) (.bin .add (.ix (.var 0) (.cst (.int 2))) (.cst (.int 1))),
  .asg (.nm 2) (.ix (.lst [.cst (.int 2147483647), .cst (.int 2147483629), .cst (.int 2147483587), .cst (.int 2147483579), .cst (.int 2147483563), .cst (.int 2147483549), .cst (.int 2147483543)]) (.bin .mod (.bi .int1 [.ix (.var 0) (.cst (.int 2))]) (.cst (.int 7)))),
  .asgO 3 (.bin .mod (.bi .int1 [.bin .pow (.bin .add (.bin .add (.ix (.var 0) (.cst (.int 1))) (.bin .mul (.cst (.int 7919)) (.ix (.var 0) (.cst (.int 2))))) (.cst (.int 1))) (.cst (.int 5))]) (.var 2)),
  .asgO 3 (.bin .mod (.bi .int1 [.bin .mul (.bin .add (.var 3) (.ix (.var 0) (.cst (.int 2)))) (.bin .add (.bin .fdiv (.var 3) (.cst (.int 1009))) (.cst (.int 69621)))]) (.var 2)),
  .ret (.bin .mod (.bi .int1 [.bin .fdiv (.var 3) (.cst (.int 7))]) (.var 1))]
def F__law_one : FS := runF [F__law_next] 2 2 [.ret (.ix (.var 1) (.call 0 [.var 0, .bi .len [.var 1]]))]
def B__law_specs_1 : List S := [.asg (.nm 6) (.bin .add (.cst (.int 1)) (.call 0 [.var 0, .call 1 [.var 0, .lst [.cst (.int 3), .var 2]]])),
  .asg (.nm 7) (.bin .add (.cst (.int 1)) (.call 0 [.var 0, .call 1 [.var 0, .lst [.cst (.int 2), .var 3]]])),
  .app 4 (.tup [.var 7, .var 6, .bin .add (.cst (.int 1)) (.call 0 [.var 0, .call 1 [.var 0, .lst [.cst (.int 2), .var 3]]])])]
def F__law_specs : FS := runF [F__law_next, F__law_one] 4 8 [.asgO 4 (.lst []),
  .for_ (.nm 5) .rng [.call 0 [.var 0, .bin .add (.var 1) (.cst (.int 1))]] B__law_specs_1,
  .ret (.var 4)]
def F_is_integer : FS := runF [] 1 1 [.ret (.and (.bi (.isi .int) [.var 0]) (.not (.bi (.isi .bool) [.var 0])))]
def F_is_between : FS := runF [F_is_integer] 3 3 [.ret (.and (.call 0 [.var 0]) (.chain .le .le (.var 1) (.var 0) (.var 2)))]
def F_is_breaker : FS := runF [F_is_between] 1 1 [.ite (.or (.not (.bi (.isi .tuple) [.var 0])) (.cmp .ne (.bi .len [.var 0]) (.cst (.int 3)))) [.ret (.cst (.bl false))] [],
  .ite (.or (.not (.call 0 [.ix (.var 0) (.cst (.int 0)), .cst (.int 1), .cst (.int 1000000000000)])) (.not (.call 0 [.ix (.var 0) (.cst (.int 1)), .cst (.int 1), .cst (.int 1000000000000000000000000000000)]))) [.ret (.cst (.bl false))] [],
  .ret (.call 0 [.ix (.var 0) (.cst (.int 2)), .cst (.int 1), .cst (.int 1000000000000)])]
def B_check_breakers_1 : List S := [.ite (.not (.call 0 [.var 2])) [.stuck] []]
def F_check_breakers : FS := runF [F_is_breaker] 1 3 [.ite (.or (.not (.bi (.isi .list) [.var 0])) (.cmp .gt (.bi .len [.var 0]) (.cst (.int 12)))) [.stuck] [],
  .for_ (.tp [.nm 1, .nm 2]) .enum [.var 0] B_check_breakers_1]
def F_Row___init__ : FS := runF [F_check_breakers, F_is_between] 4 4 [.expr (.call 0 [.var 1]),
  .ite (.not (.call 1 [.var 2, .cst (.int 1), .cst (.int 1000000000000000000000000000000)])) [.stuck] [],
  .ite (.not (.call 1 [.var 3, .cst (.int 0), .cst (.int 1000000000000000000000000000000)])) [.stuck] [],
  .setf 1 0 "specs" (.bi .list [.var 1]),
  .setf 1 0 "pace" (.var 2),
  .setf 1 0 "shift" (.var 3)]
def F_request_time : FS := runF [F_is_integer] 2 2 [.ite (.or (.not (.call 0 [.var 1])) (.cmp .lt (.var 1) (.cst (.int 0)))) [.stuck] [],
  .ret (.bin .add (.fld [1] (.var 0) "shift") (.bin .mul (.var 1) (.fld [1] (.var 0) "pace")))]
def F__law_note : FM := runM [] [] 4 4 [.ite (.snp [(1, 1, false)] (.and (.cmp .eq (.ix (.var 1) (.cst (.int 0))) (.cst (.str "half"))) (.not (.var 3)))) [.seti (.raw (.var 1)) (.cst (.int 0)) (.raw (.cst (.str "open"))),
  .seti (.raw (.var 1)) (.cst (.int 1)) (.raw (.var 2))] [.ite (.snp [(1, 1, false)] (.cmp .eq (.ix (.var 1) (.cst (.int 0))) (.cst (.str "half")))) [.seti (.raw (.var 1)) (.cst (.int 1)) (.snp [(1, 1, false)] (.bin .add (.ix (.var 1) (.cst (.int 1))) (.cst (.int 1)))),
  .ite (.snp [(1, 1, false)] (.cmp .eq (.ix (.var 1) (.cst (.int 1))) (.ix (.var 0) (.cst (.int 2))))) [.seti (.raw (.var 1)) (.cst (.int 0)) (.raw (.cst (.str "closed"))),
  .seti (.raw (.var 1)) (.cst (.int 1)) (.raw (.cst (.int 0)))] []] [.ite (.raw (.var 3)) [.seti (.raw (.var 1)) (.cst (.int 1)) (.raw (.cst (.int 0)))] [.seti (.raw (.var 1)) (.cst (.int 1)) (.snp [(1, 1, false)] (.bin .add (.ix (.var 1) (.cst (.int 1))) (.cst (.int 1)))),
  .ite (.snp [(1, 1, false)] (.cmp .eq (.ix (.var 1) (.cst (.int 1))) (.ix (.var 0) (.cst (.int 0))))) [.seti (.raw (.var 1)) (.cst (.int 0)) (.raw (.cst (.str "open"))),
  .seti (.raw (.var 1)) (.cst (.int 1)) (.raw (.var 2))] []]]]]
def MB__law_send_1 : List MS := [.ite (.snp [(8, 1, false)] (.and (.cmp .eq (.ix (.var 8) (.cst (.int 0))) (.cst (.str "open"))) (.cmp .ge (.bin .sub (.var 2) (.ix (.var 8) (.cst (.int 1)))) (.ix (.var 7) (.cst (.int 1)))))) [.seti (.raw (.var 8)) (.cst (.int 0)) (.raw (.cst (.str "half"))),
  .seti (.raw (.var 8)) (.cst (.int 1)) (.raw (.cst (.int 0)))] [],
  .ite (.snp [(8, 1, false)] (.cmp .eq (.ix (.var 8) (.cst (.int 0))) (.cst (.str "open")))) [.old (.brk)] [],
  .old (.asgO 4 (.bin .add (.var 4) (.cst (.int 1))))]
def MB__law_send_2 : List MS := [.expr (.callM 0 [.raw (.ix (.var 0) (.var 6)), .raw (.ix (.var 1) (.var 6)), .raw (.var 2), .raw (.var 5)])]
def F__law_send : FM := runM [] [F__law_note] 4 9 [.old (.asgO 4 (.cst (.int 0))),
  .for_ (.tp [.nm 7, .nm 8]) (.raw .zip [.var 0, .var 1]) MB__law_send_1,
  .old (.asgO 5 (.and (.var 3) (.cmp .eq (.var 4) (.bi .len [.var 0])))),
  .for_ (.nm 6) (.raw .rng [.var 4]) MB__law_send_2,
  .old (.ret (.tup [.var 5, .var 4]))]
def F_round_up : FS := runF [] 2 2 [.ret (.bin .mul (.bin .fdiv (.bin .sub (.bin .add (.var 0) (.var 1)) (.cst (.int 1))) (.var 1)) (.var 1))]
def B_periods_1 : List S := [.app 1 (.call 0 [.var 3, .ix (.var 1) (.neg (.cst (.int 1)))])]
def F_periods : FS := runF [F_round_up] 1 5 [.asgO 1 (.lst [.fld [1] (.var 0) "pace"]),
  .for_ (.tp [.nm 2, .nm 3, .nm 4]) .seq [.fld [1] (.var 0) "specs"] B_periods_1,
  .ret (.var 1)]
def F_row_period : FS := runF [F_periods] 1 1 [.ret (.ix (.call 0 [.var 0]) (.neg (.cst (.int 1))))]
def MB_law_1 : List MS := [.ite (.raw (.var 9)) [.app (.raw (.ix (.var 6) (.var 10))) (.raw (.var 8))] []]
def MB_law_2 : List MS := [.old (.asg (.nm 8) (.call 5 [.var 4, .var 7])),
  .asg (.nm 9) (.snp [(5, 1, true)] (.cmp .eq (.comp [15] (.nm 15) .seq [.var 5] [.cmp .eq (.ix (.var 15) (.cst (.int 0))) (.cst (.str "closed"))] (.cst (.str "closed"))) (.lst []))),
  .asg (.tp [.nm 13, .nm 14]) (.callM 0 [.raw (.var 3), .raw (.var 5), .raw (.var 8), .raw (.cst (.bl false))]),
  .for_ (.nm 10) (.raw .rng [.bin .add (.var 14) (.cst (.int 1))]) MB_law_1,
  .old (.asgO 7 (.bin .add (.var 7) (.cst (.int 1))))]
def MC_law_3 : XE := .snp [(6, 1, true)] (.and (.cmp .lt (.var 7) (.cst (.int 900))) (.cmp .lt (.bi .minl [.comp [16] (.nm 16) .seq [.var 6] [] (.bi .len [.var 16])]) (.cst (.int 3))))
def MB_law_4 : List MS := [.ite (.snp [(6, 1, true)] (.cmp .ne (.comp [17, 18] (.tp [.nm 17, .nm 18]) .zip [.ix (.var 6) (.var 10), .slc (.ix (.var 6) (.var 10)) [.cst (.int 1)] []] [] (.bin .sub (.var 18) (.var 17))) (.bin .mul (.lst [.ix (.var 11) (.var 10)]) (.bin .sub (.bi .len [.ix (.var 6) (.var 10)]) (.cst (.int 1)))))) [.old (.ret (.cst (.bl false)))] []]
def MB_law_5 : List MS := [.old (.asgO 2 (.call 1 [.var 1])),
  .old (.asg (.nm 3) (.call 2 [.var 2, .cst (.int 4), .cst (.int 9), .cst (.int 3)])),
  .old (.asg (.nm 4) (.mkp 1 3 [0, 1, 2] ([.var 3, .bin .add (.cst (.int 1)) (.call 4 [.var 2, .cst (.int 3)])] ++ ([.call 4 [.var 2, .cst (.int 5)]] ++ dfl [])))),
  .asgO 5 (.compX [12] (.nm 12) (.raw .seq [.var 3]) (.alc (.raw (.lst [.cst (.str "closed"), .cst (.int 0)])))),
  .asgO 6 (.compX [10] (.nm 10) (.raw .rng [.bin .add (.bi .len [.var 3]) (.cst (.int 1))]) (.alc (.raw (.lst [])))),
  .old (.asgO 7 (.cst (.int 0))),
  .whl MC_law_3 MB_law_2,
  .ite (.raw (.cmp .lt (.var 7) (.cst (.int 900)))) [.old (.asg (.nm 11) (.call 6 [.var 4])),
  .for_ (.nm 10) (.raw .rng [.bi .len [.var 6]]) MB_law_4,
  .old (.ite (.or (.cmp .ne (.call 7 [.var 4]) (.ix (.var 11) (.neg (.cst (.int 1))))) (.or (.cmp .ne (.callp 7 [0] [.var 4]) (.ix (.var 11) (.neg (.cst (.int 1))))) (.cmp .ne (.bi .len [.var 11]) (.bin .add (.bi .len [.var 3]) (.cst (.int 1)))))) [.ret (.cst (.bl false))] []),
  .old (.xapp (.callp 6 [0] [.var 4]) (.int 0)),
  .old (.ite (.cmp .ne (.call 6 [.var 4]) (.var 11)) [.ret (.cst (.bl false))] [])] []]
def F_law : FM := runM [F__law_cell_at, F__law_source_of, F__law_specs, F_Row___init__, F__law_next, F_request_time, F_periods, F_row_period] [F__law_send] 1 19 [.for_ (.nm 1) (.raw .seq [.bin .add (.lst [.call 0 [.var 0, .cst (.int 0)]]) (.slc (.var 0) [.cst (.int 1)] [.cst (.int 4)])]) MB_law_5,
  .old (.ret (.cst (.bl true)))]
end L
namespace L
open PySem L2 DV
def topS (i : Nat) : Stmt := PySem.Challenge.pw_breakerrow_k01_periods_by_sending_reques.main.body.getD i (.Pass ⟨0, 0, 0, 0⟩)
structure Txt (g : Gx) (mg : Str → Option Value) : Prop where
  tt : g.ea = none
  z_bool : mg "bool" = none
  z_enumerate : mg "enumerate" = none
  z_int : mg "int" = none
  z_isinstance : mg "isinstance" = none
  z_len : mg "len" = none
  z_list : mg "list" = none
  z_min : mg "min" = none
  z_range : mg "range" = none
  z_tuple : mg "tuple" = none
  z_zip : mg "zip" = none
  g_MOST_BREAKERS : GInt mg "MOST_BREAKERS" 12
  g_MOST_COUNT : GInt mg "MOST_COUNT" 1000000000000
  g_MOST_WAIT : GInt mg "MOST_WAIT" 1000000000000000000000000000000
  x_Row : ClsX g 1
  na_Row_specs : NoAttr g.K (g.cl 1) "specs"
  na_Row_pace : NoAttr g.K (g.cl 1) "pace"
  na_Row_shift : NoAttr g.K (g.cl 1) "shift"
section
variable {P : Program} {w : World} {mg : Str → Option Value} {base : Heap} {g : Gx}
abbrev s__law_cell_at : Stmt := topS 23
theorem sc__law_cell_at : FnScope ["_law_script", "_law_k"] ["_law_script", "_law_k"] (defScope s__law_cell_at) := ⟨rfl, rfl, rfl, by decide +kernel, rfl, by decide +kernel, by decide +kernel⟩
theorem ok__law_cell_at {k : Nat} {f : Addr} {fd : FuncData} (T : Txt g mg) (F : Fun g.K "_law_cell_at" "_law_cell_at" s__law_cell_at f fd)  : FnOk P w g.K mg base CX0 (k + 1) f fd ["_law_script", "_law_k"] (spF g 2 F__law_cell_at) := by
  refine def_fn (fs := []) F sc__law_cell_at rfl rfl T.tt fun cdv A outer s H E hr C => ?_
  exact (ss_cons (s_ite (t_cmp (op := .lt) C (k_var 1 rfl (by first | exact .inl rfl | exact .inr (.inl rfl) | exact .inr (.inr rfl)) rfl rfl) (k_len C (a_cons (k_var 0 rfl (by first | exact .inl rfl | exact .inr (.inl rfl) | exact .inr (.inr rfl)) rfl rfl) a_nil rfl) rfl rfl (T.z_len) rfl) rfl) (ss_cons (s_ret (p_ix C (k_var 0 rfl (by first | exact .inl rfl | exact .inr (.inl rfl) | exact .inr (.inr rfl)) rfl rfl) (k_var 1 rfl (by first | exact .inl rfl | exact .inr (.inl rfl) | exact .inr (.inr rfl)) rfl rfl) (fun _ _ => rfl)))
  ss_nil) ss_nil)
  (ss_cons (s_ret (k_int C))
  ss_nil))
abbrev s__law_source_of : Stmt := topS 20
theorem sc__law_source_of : FnScope ["_law_cell"] ["_law_cell"] (defScope s__law_source_of) := ⟨rfl, rfl, rfl, by decide +kernel, rfl, by decide +kernel, by decide +kernel⟩
theorem ok__law_source_of {k : Nat} {f : Addr} {fd : FuncData} (T : Txt g mg) (F : Fun g.K "_law_source_of" "_law_source_of" s__law_source_of f fd)  : FnOk P w g.K mg base CX0 (k + 1) f fd ["_law_cell"] (spF g 1 F__law_source_of) := by
  refine def_fn (fs := []) F sc__law_source_of rfl rfl T.tt fun cdv A outer s H E hr C => ?_
  exact (ss_cons (s_ret (p_lst C (a_cons (p_bin (op := .mul) C (k_var 0 rfl (by first | exact .inl rfl | exact .inr (.inl rfl) | exact .inr (.inr rfl)) rfl rfl) (k_int1 C (a_cons (p_cmp (op := .ge) C (k_var 0 rfl (by first | exact .inl rfl | exact .inr (.inl rfl) | exact .inr (.inr rfl)) rfl rfl) (p_bin (op := .pow) C (k_int C) (k_int C)) rfl) a_nil rfl) rfl rfl (T.z_int) rfl)) (a_cons (p_bin (op := .mod) C (k_int1 C (a_cons (k_var 0 rfl (by first | exact .inl rfl | exact .inr (.inl rfl) | exact .inr (.inr rfl)) rfl rfl) a_nil rfl) rfl rfl (T.z_int) rfl) (k_int C)) (a_cons (k_int C) a_nil rfl) rfl) rfl)))
  ss_nil)
abbrev s__law_next : Stmt := topS 21
theorem sc__law_next : FnScope ["_law_source", "_law_many", "_law_prime", "_law_figure", "_law_found"] ["_law_source", "_law_many"] (defScope s__law_next) := ⟨rfl, rfl, rfl, by decide +kernel, rfl, by decide +kernel, by decide +kernel⟩
theorem ok__law_next {k : Nat} {f : Addr} {fd : FuncData} (T : Txt g mg) (F : Fun g.K "_law_next" "_law_next" s__law_next f fd)  : FnOk P w g.K mg base CX0 (k + 1) f fd ["_law_source", "_law_many"] (spF g 2 F__law_next) := by
  refine def_fn (fs := []) F sc__law_next rfl rfl T.tt fun cdv A outer s H E hr C => ?_
  exact (ss_cons (s_ite (t_cmp (op := .gt) C (p_ix C (k_var 0 rfl (by first | exact .inl rfl | exact .inr (.inl rfl) | exact .inr (.inr rfl)) rfl rfl) (k_int C) (fun _ _ => rfl)) (k_int C) rfl) (ss_cons (s_asgO (i := 4) C rfl (by first | exact .inl rfl | exact .inr rfl) (p_bin (op := .mod) C (k_int1 C (a_cons (p_ix C (k_var 0 rfl (by first | exact .inl rfl | exact .inr (.inl rfl) | exact .inr (.inr rfl)) rfl rfl) (k_int C) (fun _ _ => rfl)) a_nil rfl) rfl rfl (T.z_int) rfl) (k_var 1 rfl (by first | exact .inl rfl | exact .inr (.inl rfl) | exact .inr (.inr rfl)) rfl rfl)) rfl (by first | exact .inr rfl | exact .inl rfl))
  (ss_cons (s_seti C (pe_var (i := 0) rfl (by first | exact .inl rfl | exact .inr (.inl rfl) | exact .inr (.inr rfl)) rfl rfl) (k_int C) (p_bin (op := .fdiv) C (p_ix C (k_var 0 rfl (by first | exact .inl rfl | exact .inr (.inl rfl) | exact .inr (.inr rfl)) rfl rfl) (k_int C) (fun _ _ => rfl)) (k_var 1 rfl (by first | exact .inl rfl | exact .inr (.inl rfl) | exact .inr (.inr rfl)) rfl rfl)) rfl rfl rfl (fun _ => rfl))
  (ss_cons (s_ret (k_var 4 rfl (by first | exact .inl rfl | exact .inr (.inl rfl) | exact .inr (.inr rfl)) rfl rfl))
  ss_nil))) ss_nil)
  (ss_cons (s_seti C (pe_var (i := 0) rfl (by first | exact .inl rfl | exact .inr (.inl rfl) | exact .inr (.inr rfl)) rfl rfl) (k_int C) (p_bin (op := .add) C (p_ix C (k_var 0 rfl (by first | exact .inl rfl | exact .inr (.inl rfl) | exact .inr (.inr rfl)) rfl rfl) (k_int C) (fun _ _ => rfl)) (k_int C)) rfl rfl rfl (fun _ => rfl))
  (ss_cons (s_asg (p_ix C (p_lst C (a_cons (k_int C) (a_cons (k_int C) (a_cons (k_int C) (a_cons (k_int C) (a_cons (k_int C) (a_cons (k_int C) (a_cons (k_int C) a_nil rfl) rfl) rfl) rfl) rfl) rfl) rfl)) (p_bin (op := .mod) C (k_int1 C (a_cons (p_ix C (k_var 0 rfl (by first | exact .inl rfl | exact .inr (.inl rfl) | exact .inr (.inr rfl)) rfl rfl) (k_int C) (fun _ _ => rfl)) a_nil rfl) rfl rfl (T.z_int) rfl) (k_int C)) (fun _ _ => rfl)) (tg_nm (pg_name (i := 2) C.nd rfl (by first | exact .inl rfl | exact .inr rfl) (by first | exact .inr rfl | exact .inl rfl))) rfl rfl rfl)
  (ss_cons (s_asgO (i := 3) C rfl (by first | exact .inl rfl | exact .inr rfl) (p_bin (op := .mod) C (k_int1 C (a_cons (p_bin (op := .pow) C (p_bin (op := .add) C (p_bin (op := .add) C (p_ix C (k_var 0 rfl (by first | exact .inl rfl | exact .inr (.inl rfl) | exact .inr (.inr rfl)) rfl rfl) (k_int C) (fun _ _ => rfl)) (p_bin (op := .mul) C (k_int C) (p_ix C (k_var 0 rfl (by first | exact .inl rfl | exact .inr (.inl rfl) | exact .inr (.inr rfl)) rfl rfl) (k_int C) (fun _ _ => rfl)))) (k_int C)) (k_int C)) a_nil rfl) rfl rfl (T.z_int) rfl) (k_var 2 rfl (by first | exact .inl rfl | exact .inr (.inl rfl) | exact .inr (.inr rfl)) rfl rfl)) rfl (by first | exact .inr rfl | exact .inl rfl))
  (ss_cons (s_asgO (i := 3) C rfl (by first | exact .inl rfl | exact .inr rfl) (p_bin (op := .mod) C (k_int1 C (a_cons (p_bin (op := .mul) C (p_bin (op := .add) C (k_var 3 rfl (by first | exact .inl rfl | exact .inr (.inl rfl) | exact .inr (.inr rfl)) rfl rfl) (p_ix C (k_var 0 rfl (by first | exact .inl rfl | exact .inr (.inl rfl) | exact .inr (.inr rfl)) rfl rfl) (k_int C) (fun _ _ => rfl))) (p_bin (op := .add) C (p_bin (op := .fdiv) C (k_var 3 rfl (by first | exact .inl rfl | exact .inr (.inl rfl) | exact .inr (.inr rfl)) rfl rfl) (k_int C)) (k_int C))) a_nil rfl) rfl rfl (T.z_int) rfl) (k_var 2 rfl (by first | exact .inl rfl | exact .inr (.inl rfl) | exact .inr (.inr rfl)) rfl rfl)) rfl (by first | exact .inr rfl | exact .inl rfl))
  (ss_cons (s_ret (p_bin (op := .mod) C (k_int1 C (a_cons (p_bin (op := .fdiv) C (k_var 3 rfl (by first | exact .inl rfl | exact .inr (.inl rfl) | exact .inr (.inr rfl)) rfl rfl) (k_int C)) a_nil rfl) rfl rfl (T.z_int) rfl) (k_var 1 rfl (by first | exact .inl rfl | exact .inr (.inl rfl) | exact .inr (.inr rfl)) rfl rfl)))
  ss_nil))))))
abbrev s__law_one : Stmt := topS 22
theorem sc__law_one : FnScope ["_law_source", "_law_options"] ["_law_source", "_law_options"] (defScope s__law_one) := ⟨rfl, rfl, rfl, by decide +kernel, rfl, by decide +kernel, by decide +kernel⟩
theorem ok__law_one {k : Nat} {f : Addr} {fd : FuncData} (T : Txt g mg) (F : Fun g.K "_law_one" "_law_one" s__law_one f fd) (c__law_next : Cal P w mg base g k "_law_next" 2 F__law_next) : FnOk P w g.K mg base CX0 (k + 1) f fd ["_law_source", "_law_options"] (spF g 2 F__law_one) := by
  refine def_fn (fs := [F__law_next]) F sc__law_one rfl rfl T.tt fun cdv A outer s H E hr C => ?_
  exact (ss_cons (s_ret (p_ix C (k_var 1 rfl (by first | exact .inl rfl | exact .inr (.inl rfl) | exact .inr (.inr rfl)) rfl rfl) (c_call c__law_next C rfl rfl hr rfl (aw_cons (k_var 0 rfl (by first | exact .inl rfl | exact .inr (.inl rfl) | exact .inr (.inr rfl)) rfl rfl) (aw_cons (k_len C (a_cons (k_var 1 rfl (by first | exact .inl rfl | exact .inr (.inl rfl) | exact .inr (.inr rfl)) rfl rfl) a_nil rfl) rfl rfl (T.z_len) rfl) aw_nil rfl) rfl) rfl rfl rfl) (fun _ _ => rfl)))
  ss_nil)
abbrev s__law_specs : Stmt := topS 24
theorem sc__law_specs : FnScope ["_law_source", "_law_most", "_law_wide", "_law_many", "_law_found", "_law_k", "_law_wait", "_law_fails"] ["_law_source", "_law_most", "_law_wide", "_law_many"] (defScope s__law_specs) := ⟨rfl, rfl, rfl, by decide +kernel, rfl, by decide +kernel, by decide +kernel⟩
theorem ok__law_specs {k : Nat} {f : Addr} {fd : FuncData} (T : Txt g mg) (F : Fun g.K "_law_specs" "_law_specs" s__law_specs f fd) (c__law_next : Cal P w mg base g k "_law_next" 2 F__law_next) (c__law_one : Cal P w mg base g k "_law_one" 2 F__law_one) : FnOk P w g.K mg base CX0 (k + 1) f fd ["_law_source", "_law_most", "_law_wide", "_law_many"] (spF g 4 F__law_specs) := by
  refine def_fn (fs := [F__law_next, F__law_one]) F sc__law_specs rfl rfl T.tt fun cdv A outer s H E hr C => ?_
  exact (ss_cons (s_asgO (i := 4) C rfl (by first | exact .inl rfl | exact .inr rfl) (p_lst C a_nil) rfl (by first | exact .inr rfl | exact .inl rfl))
  (ss_cons (s_for C PassesOwn.never (i_rng1 C rfl (T.z_range) (a_cons (c_call c__law_next C rfl rfl hr rfl (aw_cons (k_var 0 rfl (by first | exact .inl rfl | exact .inr (.inl rfl) | exact .inr (.inr rfl)) rfl rfl) (aw_cons (p_bin (op := .add) C (k_var 1 rfl (by first | exact .inl rfl | exact .inr (.inl rfl) | exact .inr (.inr rfl)) rfl rfl) (k_int C)) aw_nil rfl) rfl) rfl rfl rfl) a_nil rfl) rfl) (tg_nm (pg_name (i := 5) C.nd rfl (by first | exact .inl rfl | exact .inr rfl) (by first | exact .inr rfl | exact .inl rfl))) (ss_cons (s_asg (p_bin (op := .add) C (k_int C) (c_call c__law_next C rfl rfl hr rfl (aw_cons (k_var 0 rfl (by first | exact .inl rfl | exact .inr (.inl rfl) | exact .inr (.inr rfl)) rfl rfl) (aw_cons (c_call c__law_one C rfl rfl hr rfl (aw_cons (k_var 0 rfl (by first | exact .inl rfl | exact .inr (.inl rfl) | exact .inr (.inr rfl)) rfl rfl) (aw_cons (p_lst C (a_cons (k_int C) (a_cons (k_var 2 rfl (by first | exact .inl rfl | exact .inr (.inl rfl) | exact .inr (.inr rfl)) rfl rfl) a_nil rfl) rfl)) aw_nil rfl) rfl) rfl rfl rfl) aw_nil rfl) rfl) rfl rfl rfl)) (tg_nm (pg_name (i := 6) C.nd rfl (by first | exact .inl rfl | exact .inr rfl) (by first | exact .inr rfl | exact .inl rfl))) rfl rfl rfl)
  (ss_cons (s_asg (p_bin (op := .add) C (k_int C) (c_call c__law_next C rfl rfl hr rfl (aw_cons (k_var 0 rfl (by first | exact .inl rfl | exact .inr (.inl rfl) | exact .inr (.inr rfl)) rfl rfl) (aw_cons (c_call c__law_one C rfl rfl hr rfl (aw_cons (k_var 0 rfl (by first | exact .inl rfl | exact .inr (.inl rfl) | exact .inr (.inr rfl)) rfl rfl) (aw_cons (p_lst C (a_cons (k_int C) (a_cons (k_var 3 rfl (by first | exact .inl rfl | exact .inr (.inl rfl) | exact .inr (.inr rfl)) rfl rfl) a_nil rfl) rfl)) aw_nil rfl) rfl) rfl rfl rfl) aw_nil rfl) rfl) rfl rfl rfl)) (tg_nm (pg_name (i := 7) C.nd rfl (by first | exact .inl rfl | exact .inr rfl) (by first | exact .inr rfl | exact .inl rfl))) rfl rfl rfl)
  (ss_cons (s_app C (pe_var (i := 4) rfl (by first | exact .inl rfl | exact .inr (.inl rfl) | exact .inr (.inr rfl)) rfl rfl) (p_tup C (a_cons (k_var 7 rfl (by first | exact .inl rfl | exact .inr (.inl rfl) | exact .inr (.inr rfl)) rfl rfl) (a_cons (k_var 6 rfl (by first | exact .inl rfl | exact .inr (.inl rfl) | exact .inr (.inr rfl)) rfl rfl) (a_cons (p_bin (op := .add) C (k_int C) (c_call c__law_next C rfl rfl hr rfl (aw_cons (k_var 0 rfl (by first | exact .inl rfl | exact .inr (.inl rfl) | exact .inr (.inr rfl)) rfl rfl) (aw_cons (c_call c__law_one C rfl rfl hr rfl (aw_cons (k_var 0 rfl (by first | exact .inl rfl | exact .inr (.inl rfl) | exact .inr (.inr rfl)) rfl rfl) (aw_cons (p_lst C (a_cons (k_int C) (a_cons (k_var 3 rfl (by first | exact .inl rfl | exact .inr (.inl rfl) | exact .inr (.inr rfl)) rfl rfl) a_nil rfl) rfl)) aw_nil rfl) rfl) rfl rfl rfl) aw_nil rfl) rfl) rfl rfl rfl)) a_nil rfl) rfl) rfl)) rfl rfl rfl rfl)
  ss_nil))) (fun _ => rfl))
  (ss_cons (s_ret (k_var 4 rfl (by first | exact .inl rfl | exact .inr (.inl rfl) | exact .inr (.inr rfl)) rfl rfl))
  ss_nil)))
abbrev s_is_integer : Stmt := topS 6
theorem sc_is_integer : FnScope ["value"] ["value"] (defScope s_is_integer) := ⟨rfl, rfl, rfl, by decide +kernel, rfl, by decide +kernel, by decide +kernel⟩
theorem ok_is_integer {k : Nat} {f : Addr} {fd : FuncData} (T : Txt g mg) (F : Fun g.K "is_integer" "is_integer" s_is_integer f fd)  : FnOk P w g.K mg base CX0 (k + 1) f fd ["value"] (spF g 1 F_is_integer) := by
  refine def_fn (fs := []) F sc_is_integer rfl rfl T.tt fun cdv A outer s H E hr C => ?_
  exact (ss_cons (s_ret (p_and C (p_isi (t := .int) C (k_var 0 rfl (by first | exact .inl rfl | exact .inr (.inl rfl) | exact .inr (.inr rfl)) rfl rfl) (ty_int (T.z_int) rfl) rfl (T.z_isinstance) rfl rfl) (p_one (p_not C (p_isi (t := .bool) C (k_var 0 rfl (by first | exact .inl rfl | exact .inr (.inl rfl) | exact .inr (.inr rfl)) rfl rfl) (ty_bool (T.z_bool) rfl) rfl (T.z_isinstance) rfl rfl)))))
  ss_nil)
abbrev s_is_between : Stmt := topS 7
theorem sc_is_between : FnScope ["value", "low", "high"] ["value", "low", "high"] (defScope s_is_between) := ⟨rfl, rfl, rfl, by decide +kernel, rfl, by decide +kernel, by decide +kernel⟩
theorem ok_is_between {k : Nat} {f : Addr} {fd : FuncData} (T : Txt g mg) (F : Fun g.K "is_between" "is_between" s_is_between f fd) (c_is_integer : Cal P w mg base g k "is_integer" 1 F_is_integer) : FnOk P w g.K mg base CX0 (k + 1) f fd ["value", "low", "high"] (spF g 3 F_is_between) := by
  refine def_fn (fs := [F_is_integer]) F sc_is_between rfl rfl T.tt fun cdv A outer s H E hr C => ?_
  exact (ss_cons (s_ret (p_and C (c_call c_is_integer C rfl rfl hr rfl (aw_cons (k_var 0 rfl (by first | exact .inl rfl | exact .inr (.inl rfl) | exact .inr (.inr rfl)) rfl rfl) aw_nil rfl) rfl rfl rfl) (p_one (p_chain (o1 := .le) (o2 := .le) C (k_var 1 rfl (by first | exact .inl rfl | exact .inr (.inl rfl) | exact .inr (.inr rfl)) rfl rfl) (k_var 0 rfl (by first | exact .inl rfl | exact .inr (.inl rfl) | exact .inr (.inr rfl)) rfl rfl) (k_var 2 rfl (by first | exact .inl rfl | exact .inr (.inl rfl) | exact .inr (.inr rfl)) rfl rfl) rfl))))
  ss_nil)
abbrev s_is_breaker : Stmt := topS 13
theorem sc_is_breaker : FnScope ["value"] ["value"] (defScope s_is_breaker) := ⟨rfl, rfl, rfl, by decide +kernel, rfl, by decide +kernel, by decide +kernel⟩
theorem ok_is_breaker {k : Nat} {f : Addr} {fd : FuncData} (T : Txt g mg) (F : Fun g.K "is_breaker" "is_breaker" s_is_breaker f fd) (c_is_between : Cal P w mg base g k "is_between" 3 F_is_between) : FnOk P w g.K mg base CX0 (k + 1) f fd ["value"] (spF g 1 F_is_breaker) := by
  refine def_fn (fs := [F_is_between]) F sc_is_breaker rfl rfl T.tt fun cdv A outer s H E hr C => ?_
  exact (ss_cons (s_ite (PW.pt (w_or (t_not (t_val C (p_isi (t := .tuple) C (k_var 0 rfl (by first | exact .inl rfl | exact .inr (.inl rfl) | exact .inr (.inr rfl)) rfl rfl) (ty_tuple (T.z_tuple) rfl) rfl (T.z_isinstance) rfl rfl) (fun _ => rfl))) (w_or1 (t_cmp (op := .ne) C (k_len C (a_cons (k_var 0 rfl (by first | exact .inl rfl | exact .inr (.inl rfl) | exact .inr (.inr rfl)) rfl rfl) a_nil rfl) rfl rfl (T.z_len) rfl) (k_int C) rfl)))) (ss_cons (s_ret (k_bl C))
  ss_nil) ss_nil)
  (ss_cons (s_ite (PW.pt (w_or (t_not (t_val C (c_call c_is_between C rfl rfl hr rfl (aw_cons (p_ix C (k_var 0 rfl (by first | exact .inl rfl | exact .inr (.inl rfl) | exact .inr (.inr rfl)) rfl rfl) (k_int C) (fun _ _ => rfl)) (aw_cons (k_int C) (aw_cons (k_gint C T.g_MOST_COUNT rfl rfl) aw_nil rfl) rfl) rfl) rfl rfl rfl) (fun _ => rfl))) (w_or1 (t_not (t_val C (c_call c_is_between C rfl rfl hr rfl (aw_cons (p_ix C (k_var 0 rfl (by first | exact .inl rfl | exact .inr (.inl rfl) | exact .inr (.inr rfl)) rfl rfl) (k_int C) (fun _ _ => rfl)) (aw_cons (k_int C) (aw_cons (k_gint C T.g_MOST_WAIT rfl rfl) aw_nil rfl) rfl) rfl) rfl rfl rfl) (fun _ => rfl)))))) (ss_cons (s_ret (k_bl C))
  ss_nil) ss_nil)
  (ss_cons (s_ret (c_call c_is_between C rfl rfl hr rfl (aw_cons (p_ix C (k_var 0 rfl (by first | exact .inl rfl | exact .inr (.inl rfl) | exact .inr (.inr rfl)) rfl rfl) (k_int C) (fun _ _ => rfl)) (aw_cons (k_int C) (aw_cons (k_gint C T.g_MOST_COUNT rfl rfl) aw_nil rfl) rfl) rfl) rfl rfl rfl))
  ss_nil)))
abbrev s_check_breakers : Stmt := topS 14
theorem sc_check_breakers : FnScope ["breakers", "at", "breaker"] ["breakers"] (defScope s_check_breakers) := ⟨rfl, rfl, rfl, by decide +kernel, rfl, by decide +kernel, by decide +kernel⟩
theorem ok_check_breakers {k : Nat} {f : Addr} {fd : FuncData} (T : Txt g mg) (F : Fun g.K "check_breakers" "check_breakers" s_check_breakers f fd) (c_is_breaker : Cal P w mg base g k "is_breaker" 1 F_is_breaker) : FnOk P w g.K mg base CX0 (k + 1) f fd ["breakers"] (spF g 1 F_check_breakers) := by
  refine def_fn (fs := [F_is_breaker]) F sc_check_breakers rfl rfl T.tt fun cdv A outer s H E hr C => ?_
  exact (ss_cons (s_ite (PW.pt (w_or (t_not (t_val C (p_isi (t := .list) C (k_var 0 rfl (by first | exact .inl rfl | exact .inr (.inl rfl) | exact .inr (.inr rfl)) rfl rfl) (ty_list (T.z_list) rfl) rfl (T.z_isinstance) rfl rfl) (fun _ => rfl))) (w_or1 (t_cmp (op := .gt) C (k_len C (a_cons (k_var 0 rfl (by first | exact .inl rfl | exact .inr (.inl rfl) | exact .inr (.inr rfl)) rfl rfl) a_nil rfl) rfl rfl (T.z_len) rfl) (k_gint C T.g_MOST_BREAKERS rfl rfl) rfl)))) (ss_cons s_stuck
  ss_nil) ss_nil)
  (ss_cons (s_for C PassesOwn.never (i_enum C rfl (T.z_enumerate) (a_cons (k_var 0 rfl (by first | exact .inl rfl | exact .inr (.inl rfl) | exact .inr (.inr rfl)) rfl rfl) a_nil rfl) rfl) (tgp C (tgs_cons (tg_nm (pg_name (i := 1) C.nd rfl (by first | exact .inl rfl | exact .inr rfl) (by first | exact .inr rfl | exact .inl rfl))) (tgs_cons (tg_nm (pg_name (i := 2) C.nd rfl (by first | exact .inl rfl | exact .inr rfl) (by first | exact .inr rfl | exact .inl rfl))) tgs_nil rfl) rfl) rfl rfl) (ss_cons (s_ite (t_not (t_val C (c_call c_is_breaker C rfl rfl hr rfl (aw_cons (k_var 2 rfl (by first | exact .inl rfl | exact .inr (.inl rfl) | exact .inr (.inr rfl)) rfl rfl) aw_nil rfl) rfl rfl rfl) (fun _ => rfl))) (ss_cons s_stuck
  ss_nil) ss_nil)
  ss_nil) (fun _ => rfl))
  ss_nil))
abbrev s_Row___init__ : Stmt := inClass (topS 15) 0
theorem sc_Row___init__ : FnScope ["self", "breakers", "step", "phase"] ["self", "breakers", "step", "phase"] (defScope s_Row___init__) := ⟨rfl, rfl, rfl, by decide +kernel, rfl, by decide +kernel, by decide +kernel⟩
theorem ok_Row___init__ {k : Nat} {f : Addr} {fd : FuncData} (T : Txt g mg) (F : FunD g.K "__init__" "Row.__init__" (defArgs s_Row___init__) (defBody s_Row___init__) (defScope s_Row___init__) [] [("phase", V.int 0)] f fd) (c_check_breakers : Cal P w mg base g k "check_breakers" 1 F_check_breakers) (c_is_between : Cal P w mg base g k "is_between" 3 F_is_between) : FnOk P w g.K mg base CX0 (k + 1) f fd ["self", "breakers", "step", "phase"] (spF g 4 F_Row___init__) := by
  refine def_fnD (Wx := fun _ _ _ => False) (fs := [F_check_breakers, F_is_between]) F sc_Row___init__ rfl rfl T.tt fun cdv A outer s H E hr C => ?_
  exact (ss_cons (s_expr (c_call c_check_breakers C rfl rfl hr rfl (aw_cons (k_var 1 rfl (by first | exact .inl rfl | exact .inr (.inl rfl) | exact .inr (.inr rfl)) rfl rfl) aw_nil rfl) rfl rfl rfl) rfl)
  (ss_cons (s_ite (t_not (t_val C (c_call c_is_between C rfl rfl hr rfl (aw_cons (k_var 2 rfl (by first | exact .inl rfl | exact .inr (.inl rfl) | exact .inr (.inr rfl)) rfl rfl) (aw_cons (k_int C) (aw_cons (k_gint C T.g_MOST_WAIT rfl rfl) aw_nil rfl) rfl) rfl) rfl rfl rfl) (fun _ => rfl))) (ss_cons s_stuck
  ss_nil) ss_nil)
  (ss_cons (s_ite (t_not (t_val C (c_call c_is_between C rfl rfl hr rfl (aw_cons (k_var 3 rfl (by first | exact .inl rfl | exact .inr (.inl rfl) | exact .inr (.inr rfl)) rfl rfl) (aw_cons (k_int C) (aw_cons (k_gint C T.g_MOST_WAIT rfl rfl) aw_nil rfl) rfl) rfl) rfl rfl rfl) (fun _ => rfl))) (ss_cons s_stuck
  ss_nil) ss_nil)
  (ss_cons (s_setf (c := 1) (i := 0) C (pe_var (i := 0) rfl (by first | exact .inl rfl | exact .inr (.inl rfl) | exact .inr (.inr rfl)) rfl rfl) (k_list C (a_cons (k_var 1 rfl (by first | exact .inl rfl | exact .inr (.inl rfl) | exact .inr (.inr rfl)) rfl rfl) a_nil rfl) rfl rfl (T.z_list) rfl) ⟨T.x_Row.cl, T.na_Row_specs⟩ rfl)
  (ss_cons (s_setf (c := 1) (i := 0) C (pe_var (i := 0) rfl (by first | exact .inl rfl | exact .inr (.inl rfl) | exact .inr (.inr rfl)) rfl rfl) (k_var 2 rfl (by first | exact .inl rfl | exact .inr (.inl rfl) | exact .inr (.inr rfl)) rfl rfl) ⟨T.x_Row.cl, T.na_Row_pace⟩ rfl)
  (ss_cons (s_setf (c := 1) (i := 0) C (pe_var (i := 0) rfl (by first | exact .inl rfl | exact .inr (.inl rfl) | exact .inr (.inr rfl)) rfl rfl) (k_var 3 rfl (by first | exact .inl rfl | exact .inr (.inl rfl) | exact .inr (.inr rfl)) rfl rfl) ⟨T.x_Row.cl, T.na_Row_shift⟩ rfl)
  ss_nil))))))
abbrev s_request_time : Stmt := topS 16
theorem sc_request_time : FnScope ["row", "number"] ["row", "number"] (defScope s_request_time) := ⟨rfl, rfl, rfl, by decide +kernel, rfl, by decide +kernel, by decide +kernel⟩
theorem ok_request_time {k : Nat} {f : Addr} {fd : FuncData} (T : Txt g mg) (F : Fun g.K "request_time" "request_time" s_request_time f fd) (c_is_integer : Cal P w mg base g k "is_integer" 1 F_is_integer) : FnOk P w g.K mg base CX0 (k + 1) f fd ["row", "number"] (spF g 2 F_request_time) := by
  refine def_fn (fs := [F_is_integer]) F sc_request_time rfl rfl T.tt fun cdv A outer s H E hr C => ?_
  exact (ss_cons (s_ite (PW.pt (w_or (t_not (t_val C (c_call c_is_integer C rfl rfl hr rfl (aw_cons (k_var 1 rfl (by first | exact .inl rfl | exact .inr (.inl rfl) | exact .inr (.inr rfl)) rfl rfl) aw_nil rfl) rfl rfl rfl) (fun _ => rfl))) (w_or1 (t_cmp (op := .lt) C (k_var 1 rfl (by first | exact .inl rfl | exact .inr (.inl rfl) | exact .inr (.inr rfl)) rfl rfl) (k_int C) rfl)))) (ss_cons s_stuck
  ss_nil) ss_nil)
  (ss_cons (s_ret (p_bin (op := .add) C (p_fld C (k_var 0 rfl (by first | exact .inl rfl | exact .inr (.inl rfl) | exact .inr (.inr rfl)) rfl rfl) (all_cons ⟨T.x_Row.cl, T.na_Row_shift⟩ (all_nil _)) rfl) (p_bin (op := .mul) C (k_var 1 rfl (by first | exact .inl rfl | exact .inr (.inl rfl) | exact .inr (.inr rfl)) rfl rfl) (p_fld C (k_var 0 rfl (by first | exact .inl rfl | exact .inr (.inl rfl) | exact .inr (.inr rfl)) rfl rfl) (all_cons ⟨T.x_Row.cl, T.na_Row_pace⟩ (all_nil _)) rfl))))
  ss_nil))
abbrev s__law_note : Stmt := topS 26
theorem sc__law_note : FnScope ["_law_spec", "_law_state", "_law_time", "_law_good"] ["_law_spec", "_law_state", "_law_time", "_law_good"] (defScope s__law_note) := ⟨rfl, rfl, rfl, by decide +kernel, rfl, by decide +kernel, by decide +kernel⟩
theorem ok__law_note {k : Nat} {f : Addr} {fd : FuncData} (T : ∀ A, Txt (g.w A) mg) (F : Fun g.K "_law_note" "_law_note" s__law_note f fd)  : FnOk P w g.K mg base CX0 (k + 1) f fd ["_law_spec", "_law_state", "_law_time", "_law_good"] (spM g 4 F__law_note) := by
  refine def_fnM (fs := []) (ms := []) F sc__law_note rfl rfl (T []).tt fun cdv A outer s H E hr C => ?_
  exact (ms_cons (m_ite (xt_snp (fun A => have C := C.w A; (PW.pt (w_and (t_cmp (op := .eq) C (p_ix C (k_var 1 rfl (by first | exact .inl rfl | exact .inr (.inl rfl) | exact .inr (.inr rfl)) rfl rfl) (k_int C) (fun _ _ => rfl)) (k_str C) rfl) (w_and1 (t_not (t_val C (k_var 3 rfl (by first | exact .inl rfl | exact .inr (.inl rfl) | exact .inr (.inr rfl)) rfl rfl) (fun _ => rfl)))))))) (ms_cons (m_seti C (x_raw (fun A => have C := C.w A; (k_var 1 rfl (by first | exact .inl rfl | exact .inr (.inl rfl) | exact .inr (.inr rfl)) rfl rfl))) (fun A => have C := C.w A; (k_int C)) (x_raw (fun A => have C := C.w A; (k_str C))) rfl rfl rfl (fun _ => rfl))
  (ms_cons (m_seti C (x_raw (fun A => have C := C.w A; (k_var 1 rfl (by first | exact .inl rfl | exact .inr (.inl rfl) | exact .inr (.inr rfl)) rfl rfl))) (fun A => have C := C.w A; (k_int C)) (x_raw (fun A => have C := C.w A; (k_var 2 rfl (by first | exact .inl rfl | exact .inr (.inl rfl) | exact .inr (.inr rfl)) rfl rfl))) rfl rfl rfl (fun _ => rfl))
  ms_nil)) (ms_cons (m_ite (xt_snp (fun A => have C := C.w A; (t_cmp (op := .eq) C (p_ix C (k_var 1 rfl (by first | exact .inl rfl | exact .inr (.inl rfl) | exact .inr (.inr rfl)) rfl rfl) (k_int C) (fun _ _ => rfl)) (k_str C) rfl))) (ms_cons (m_seti C (x_raw (fun A => have C := C.w A; (k_var 1 rfl (by first | exact .inl rfl | exact .inr (.inl rfl) | exact .inr (.inr rfl)) rfl rfl))) (fun A => have C := C.w A; (k_int C)) (x_snp (fun A => have C := C.w A; (p_bin (op := .add) C (p_ix C (k_var 1 rfl (by first | exact .inl rfl | exact .inr (.inl rfl) | exact .inr (.inr rfl)) rfl rfl) (k_int C) (fun _ _ => rfl)) (k_int C)))) rfl rfl rfl (fun _ => rfl))
  (ms_cons (m_ite (xt_snp (fun A => have C := C.w A; (t_cmp (op := .eq) C (p_ix C (k_var 1 rfl (by first | exact .inl rfl | exact .inr (.inl rfl) | exact .inr (.inr rfl)) rfl rfl) (k_int C) (fun _ _ => rfl)) (p_ix C (k_var 0 rfl (by first | exact .inl rfl | exact .inr (.inl rfl) | exact .inr (.inr rfl)) rfl rfl) (k_int C) (fun _ _ => rfl)) rfl))) (ms_cons (m_seti C (x_raw (fun A => have C := C.w A; (k_var 1 rfl (by first | exact .inl rfl | exact .inr (.inl rfl) | exact .inr (.inr rfl)) rfl rfl))) (fun A => have C := C.w A; (k_int C)) (x_raw (fun A => have C := C.w A; (k_str C))) rfl rfl rfl (fun _ => rfl))
  (ms_cons (m_seti C (x_raw (fun A => have C := C.w A; (k_var 1 rfl (by first | exact .inl rfl | exact .inr (.inl rfl) | exact .inr (.inr rfl)) rfl rfl))) (fun A => have C := C.w A; (k_int C)) (x_raw (fun A => have C := C.w A; (k_int C))) rfl rfl rfl (fun _ => rfl))
  ms_nil)) ms_nil)
  ms_nil)) (ms_cons (m_ite (xt_raw (fun A => have C := C.w A; (t_val C (k_var 3 rfl (by first | exact .inl rfl | exact .inr (.inl rfl) | exact .inr (.inr rfl)) rfl rfl) (fun _ => rfl)))) (ms_cons (m_seti C (x_raw (fun A => have C := C.w A; (k_var 1 rfl (by first | exact .inl rfl | exact .inr (.inl rfl) | exact .inr (.inr rfl)) rfl rfl))) (fun A => have C := C.w A; (k_int C)) (x_raw (fun A => have C := C.w A; (k_int C))) rfl rfl rfl (fun _ => rfl))
  ms_nil) (ms_cons (m_seti C (x_raw (fun A => have C := C.w A; (k_var 1 rfl (by first | exact .inl rfl | exact .inr (.inl rfl) | exact .inr (.inr rfl)) rfl rfl))) (fun A => have C := C.w A; (k_int C)) (x_snp (fun A => have C := C.w A; (p_bin (op := .add) C (p_ix C (k_var 1 rfl (by first | exact .inl rfl | exact .inr (.inl rfl) | exact .inr (.inr rfl)) rfl rfl) (k_int C) (fun _ _ => rfl)) (k_int C)))) rfl rfl rfl (fun _ => rfl))
  (ms_cons (m_ite (xt_snp (fun A => have C := C.w A; (t_cmp (op := .eq) C (p_ix C (k_var 1 rfl (by first | exact .inl rfl | exact .inr (.inl rfl) | exact .inr (.inr rfl)) rfl rfl) (k_int C) (fun _ _ => rfl)) (p_ix C (k_var 0 rfl (by first | exact .inl rfl | exact .inr (.inl rfl) | exact .inr (.inr rfl)) rfl rfl) (k_int C) (fun _ _ => rfl)) rfl))) (ms_cons (m_seti C (x_raw (fun A => have C := C.w A; (k_var 1 rfl (by first | exact .inl rfl | exact .inr (.inl rfl) | exact .inr (.inr rfl)) rfl rfl))) (fun A => have C := C.w A; (k_int C)) (x_raw (fun A => have C := C.w A; (k_str C))) rfl rfl rfl (fun _ => rfl))
  (ms_cons (m_seti C (x_raw (fun A => have C := C.w A; (k_var 1 rfl (by first | exact .inl rfl | exact .inr (.inl rfl) | exact .inr (.inr rfl)) rfl rfl))) (fun A => have C := C.w A; (k_int C)) (x_raw (fun A => have C := C.w A; (k_var 2 rfl (by first | exact .inl rfl | exact .inr (.inl rfl) | exact .inr (.inr rfl)) rfl rfl))) rfl rfl rfl (fun _ => rfl))
  ms_nil)) ms_nil)
  ms_nil)))
  ms_nil))
  ms_nil))
  ms_nil)
abbrev s__law_send : Stmt := topS 25
theorem sc__law_send : FnScope ["_law_specs_here", "_law_states", "_law_time", "_law_upright", "_law_gone", "_law_good", "_law_k", "_law_spec", "_law_state"] ["_law_specs_here", "_law_states", "_law_time", "_law_upright"] (defScope s__law_send) := ⟨rfl, rfl, rfl, by decide +kernel, rfl, by decide +kernel, by decide +kernel⟩
theorem ok__law_send {k : Nat} {f : Addr} {fd : FuncData} (T : ∀ A, Txt (g.w A) mg) (F : Fun g.K "_law_send" "_law_send" s__law_send f fd) (cm__law_note : CalM P w mg base g k "_law_note" 4 F__law_note) : FnOk P w g.K mg base CX0 (k + 1) f fd ["_law_specs_here", "_law_states", "_law_time", "_law_upright"] (spM g 4 F__law_send) := by
  refine def_fnM (fs := []) (ms := [F__law_note]) F sc__law_send rfl rfl (T []).tt fun cdv A outer s H E hr C => ?_
  exact (ms_cons (m_old (fun A => have C := C.w A; (s_asgO (i := 4) C rfl (by first | exact .inl rfl | exact .inr rfl) (k_int C) rfl (by first | exact .inr rfl | exact .inl rfl))))
  (ms_cons (m_for C PassesOwn.never (im_raw (fun A => have C := C.w A; (i_zip C rfl ((T A).z_zip) (a_cons (k_var 0 rfl (by first | exact .inl rfl | exact .inr (.inl rfl) | exact .inr (.inr rfl)) rfl rfl) (a_cons (k_var 1 rfl (by first | exact .inl rfl | exact .inr (.inl rfl) | exact .inr (.inr rfl)) rfl rfl) a_nil rfl) rfl) rfl rfl))) (tgp C (tgs_cons (tg_nm (pg_name (i := 7) C.nd rfl (by first | exact .inl rfl | exact .inr rfl) (by first | exact .inr rfl | exact .inl rfl))) (tgs_cons (tg_nm (pg_name (i := 8) C.nd rfl (by first | exact .inl rfl | exact .inr rfl) (by first | exact .inr rfl | exact .inl rfl))) tgs_nil rfl) rfl) rfl rfl) (ms_cons (m_ite (xt_snp (fun A => have C := C.w A; (PW.pt (w_and (t_cmp (op := .eq) C (p_ix C (k_var 8 rfl (by first | exact .inl rfl | exact .inr (.inl rfl) | exact .inr (.inr rfl)) rfl rfl) (k_int C) (fun _ _ => rfl)) (k_str C) rfl) (w_and1 (t_cmp (op := .ge) C (p_bin (op := .sub) C (k_var 2 rfl (by first | exact .inl rfl | exact .inr (.inl rfl) | exact .inr (.inr rfl)) rfl rfl) (p_ix C (k_var 8 rfl (by first | exact .inl rfl | exact .inr (.inl rfl) | exact .inr (.inr rfl)) rfl rfl) (k_int C) (fun _ _ => rfl))) (p_ix C (k_var 7 rfl (by first | exact .inl rfl | exact .inr (.inl rfl) | exact .inr (.inr rfl)) rfl rfl) (k_int C) (fun _ _ => rfl)) rfl)))))) (ms_cons (m_seti C (x_raw (fun A => have C := C.w A; (k_var 8 rfl (by first | exact .inl rfl | exact .inr (.inl rfl) | exact .inr (.inr rfl)) rfl rfl))) (fun A => have C := C.w A; (k_int C)) (x_raw (fun A => have C := C.w A; (k_str C))) rfl rfl rfl (fun _ => rfl))
  (ms_cons (m_seti C (x_raw (fun A => have C := C.w A; (k_var 8 rfl (by first | exact .inl rfl | exact .inr (.inl rfl) | exact .inr (.inr rfl)) rfl rfl))) (fun A => have C := C.w A; (k_int C)) (x_raw (fun A => have C := C.w A; (k_int C))) rfl rfl rfl (fun _ => rfl))
  ms_nil)) ms_nil)
  (ms_cons (m_ite (xt_snp (fun A => have C := C.w A; (t_cmp (op := .eq) C (p_ix C (k_var 8 rfl (by first | exact .inl rfl | exact .inr (.inl rfl) | exact .inr (.inr rfl)) rfl rfl) (k_int C) (fun _ _ => rfl)) (k_str C) rfl))) (ms_cons (m_old (fun A => have C := C.w A; s_brk))
  ms_nil) ms_nil)
  (ms_cons (m_old (fun A => have C := C.w A; (s_asgO (i := 4) C rfl (by first | exact .inl rfl | exact .inr rfl) (p_bin (op := .add) C (k_var 4 rfl (by first | exact .inl rfl | exact .inr (.inl rfl) | exact .inr (.inr rfl)) rfl rfl) (k_int C)) rfl (by first | exact .inr rfl | exact .inl rfl))))
  ms_nil))) (fun _ => rfl))
  (ms_cons (m_old (fun A => have C := C.w A; (s_asgO (i := 5) C rfl (by first | exact .inl rfl | exact .inr rfl) (p_and C (k_var 3 rfl (by first | exact .inl rfl | exact .inr (.inl rfl) | exact .inr (.inr rfl)) rfl rfl) (p_one (p_cmp (op := .eq) C (k_var 4 rfl (by first | exact .inl rfl | exact .inr (.inl rfl) | exact .inr (.inr rfl)) rfl rfl) (k_len C (a_cons (k_var 0 rfl (by first | exact .inl rfl | exact .inr (.inl rfl) | exact .inr (.inr rfl)) rfl rfl) a_nil rfl) rfl rfl ((T A).z_len) rfl) rfl))) rfl (by first | exact .inr rfl | exact .inl rfl))))
  (ms_cons (m_for C PassesOwn.never (im_raw (fun A => have C := C.w A; (i_rng1 C rfl ((T A).z_range) (a_cons (k_var 4 rfl (by first | exact .inl rfl | exact .inr (.inl rfl) | exact .inr (.inr rfl)) rfl rfl) a_nil rfl) rfl))) (tg_nm (pg_name (i := 6) C.nd rfl (by first | exact .inl rfl | exact .inr rfl) (by first | exact .inr rfl | exact .inl rfl))) (ms_cons (m_expr (x_callM cm__law_note C rfl rfl hr rfl (xs_cons (x_raw (fun A => have C := C.w A; (p_ix C (k_var 0 rfl (by first | exact .inl rfl | exact .inr (.inl rfl) | exact .inr (.inr rfl)) rfl rfl) (k_var 6 rfl (by first | exact .inl rfl | exact .inr (.inl rfl) | exact .inr (.inr rfl)) rfl rfl) (fun _ _ => rfl)))) (xs_cons (x_raw (fun A => have C := C.w A; (p_ix C (k_var 1 rfl (by first | exact .inl rfl | exact .inr (.inl rfl) | exact .inr (.inr rfl)) rfl rfl) (k_var 6 rfl (by first | exact .inl rfl | exact .inr (.inl rfl) | exact .inr (.inr rfl)) rfl rfl) (fun _ _ => rfl)))) (xs_cons (x_raw (fun A => have C := C.w A; (k_var 2 rfl (by first | exact .inl rfl | exact .inr (.inl rfl) | exact .inr (.inr rfl)) rfl rfl))) (xs_cons (x_raw (fun A => have C := C.w A; (k_var 5 rfl (by first | exact .inl rfl | exact .inr (.inl rfl) | exact .inr (.inr rfl)) rfl rfl))) xs_nil rfl) rfl) rfl) rfl) rfl rfl rfl) rfl)
  ms_nil) (fun _ => rfl))
  (ms_cons (m_old (fun A => have C := C.w A; (s_ret (p_tup C (a_cons (k_var 5 rfl (by first | exact .inl rfl | exact .inr (.inl rfl) | exact .inr (.inr rfl)) rfl rfl) (a_cons (k_var 4 rfl (by first | exact .inl rfl | exact .inr (.inl rfl) | exact .inr (.inr rfl)) rfl rfl) a_nil rfl) rfl)))))
  ms_nil)))))
abbrev s_round_up : Stmt := topS 8
theorem sc_round_up : FnScope ["value", "unit"] ["value", "unit"] (defScope s_round_up) := ⟨rfl, rfl, rfl, by decide +kernel, rfl, by decide +kernel, by decide +kernel⟩
theorem ok_round_up {k : Nat} {f : Addr} {fd : FuncData} (T : Txt g mg) (F : Fun g.K "round_up" "round_up" s_round_up f fd)  : FnOk P w g.K mg base CX0 (k + 1) f fd ["value", "unit"] (spF g 2 F_round_up) := by
  refine def_fn (fs := []) F sc_round_up rfl rfl T.tt fun cdv A outer s H E hr C => ?_
  exact (ss_cons (s_ret (p_bin (op := .mul) C (p_bin (op := .fdiv) C (p_bin (op := .sub) C (p_bin (op := .add) C (k_var 0 rfl (by first | exact .inl rfl | exact .inr (.inl rfl) | exact .inr (.inr rfl)) rfl rfl) (k_var 1 rfl (by first | exact .inl rfl | exact .inr (.inl rfl) | exact .inr (.inr rfl)) rfl rfl)) (k_int C)) (k_var 1 rfl (by first | exact .inl rfl | exact .inr (.inl rfl) | exact .inr (.inr rfl)) rfl rfl)) (k_var 1 rfl (by first | exact .inl rfl | exact .inr (.inl rfl) | exact .inr (.inr rfl)) rfl rfl)))
  ss_nil)
abbrev s_periods : Stmt := topS 17
theorem sc_periods : FnScope ["row", "found", "failures", "wait", "successes"] ["row"] (defScope s_periods) := ⟨rfl, rfl, rfl, by decide +kernel, rfl, by decide +kernel, by decide +kernel⟩
theorem ok_periods {k : Nat} {f : Addr} {fd : FuncData} (T : Txt g mg) (F : Fun g.K "periods" "periods" s_periods f fd) (c_round_up : Cal P w mg base g k "round_up" 2 F_round_up) : FnOk P w g.K mg base CX0 (k + 1) f fd ["row"] (spF g 1 F_periods) := by
  refine def_fn (fs := [F_round_up]) F sc_periods rfl rfl T.tt fun cdv A outer s H E hr C => ?_
  exact (ss_cons (s_asgO (i := 1) C rfl (by first | exact .inl rfl | exact .inr rfl) (p_lst C (a_cons (p_fld C (k_var 0 rfl (by first | exact .inl rfl | exact .inr (.inl rfl) | exact .inr (.inr rfl)) rfl rfl) (all_cons ⟨T.x_Row.cl, T.na_Row_pace⟩ (all_nil _)) rfl) a_nil rfl)) rfl (by first | exact .inr rfl | exact .inl rfl))
  (ss_cons (s_for C PassesOwn.never (i_seq C (p_fld C (k_var 0 rfl (by first | exact .inl rfl | exact .inr (.inl rfl) | exact .inr (.inr rfl)) rfl rfl) (all_cons ⟨T.x_Row.cl, T.na_Row_specs⟩ (all_nil _)) rfl)) (tgp C (tgs_cons (tg_nm (pg_name (i := 2) C.nd rfl (by first | exact .inl rfl | exact .inr rfl) (by first | exact .inr rfl | exact .inl rfl))) (tgs_cons (tg_nm (pg_name (i := 3) C.nd rfl (by first | exact .inl rfl | exact .inr rfl) (by first | exact .inr rfl | exact .inl rfl))) (tgs_cons (tg_nm (pg_name (i := 4) C.nd rfl (by first | exact .inl rfl | exact .inr rfl) (by first | exact .inr rfl | exact .inl rfl))) tgs_nil rfl) rfl) rfl) rfl rfl) (ss_cons (s_app C (pe_var (i := 1) rfl (by first | exact .inl rfl | exact .inr (.inl rfl) | exact .inr (.inr rfl)) rfl rfl) (c_call c_round_up C rfl rfl hr rfl (aw_cons (k_var 3 rfl (by first | exact .inl rfl | exact .inr (.inl rfl) | exact .inr (.inr rfl)) rfl rfl) (aw_cons (p_ix C (k_var 1 rfl (by first | exact .inl rfl | exact .inr (.inl rfl) | exact .inr (.inr rfl)) rfl rfl) (p_neg (k_int C)) (fun _ _ => rfl)) aw_nil rfl) rfl) rfl rfl rfl) rfl rfl rfl rfl)
  ss_nil) (fun _ => rfl))
  (ss_cons (s_ret (k_var 1 rfl (by first | exact .inl rfl | exact .inr (.inl rfl) | exact .inr (.inr rfl)) rfl rfl))
  ss_nil)))
abbrev s_row_period : Stmt := topS 18
theorem sc_row_period : FnScope ["row"] ["row"] (defScope s_row_period) := ⟨rfl, rfl, rfl, by decide +kernel, rfl, by decide +kernel, by decide +kernel⟩
theorem ok_row_period {k : Nat} {f : Addr} {fd : FuncData} (T : Txt g mg) (F : Fun g.K "row_period" "row_period" s_row_period f fd) (c_periods : Cal P w mg base g k "periods" 1 F_periods) : FnOk P w g.K mg base CX0 (k + 1) f fd ["row"] (spF g 1 F_row_period) := by
  refine def_fn (fs := [F_periods]) F sc_row_period rfl rfl T.tt fun cdv A outer s H E hr C => ?_
  exact (ss_cons (s_ret (p_ix C (c_call c_periods C rfl rfl hr rfl (aw_cons (k_var 0 rfl (by first | exact .inl rfl | exact .inr (.inl rfl) | exact .inr (.inr rfl)) rfl rfl) aw_nil rfl) rfl rfl rfl) (p_neg (k_int C)) (fun _ _ => rfl)))
  ss_nil)
abbrev s_law : Stmt := topS 27
theorem sc_law : FnScope ["_law_script", "_law_cell", "_law_source", "_law_specs_here", "_law_lane", "_law_states", "_law_passes", "_law_number", "_law_time", "_law_is_open", "_law_k", "_law_found", "_law_spec", "_law_result", "_law_gone", "_law_state", "_law_some", "_law_early", "_law_late"] ["_law_script"] (defScope s_law) := ⟨rfl, rfl, rfl, by decide +kernel, rfl, by decide +kernel, by decide +kernel⟩
theorem ok_law {k : Nat} {f : Addr} {fd : FuncData} (T : ∀ A, Txt (g.w A) mg) (F : Fun g.K "law" "law" s_law f fd) (c__law_cell_at : ∀ A, Cal P w mg base (g.w A) k "_law_cell_at" 2 F__law_cell_at) (c__law_source_of : ∀ A, Cal P w mg base (g.w A) k "_law_source_of" 1 F__law_source_of) (c__law_specs : ∀ A, Cal P w mg base (g.w A) k "_law_specs" 4 F__law_specs) (c__law_next : ∀ A, Cal P w mg base (g.w A) k "_law_next" 2 F__law_next) (ik_Row_2_phase : ∀ A, MkdK P w mg base (g.w A) k 1 "Row" 2 ["phase"] [0, 1, 2] [] F_Row___init__) (c_request_time : ∀ A, Cal P w mg base (g.w A) k "request_time" 2 F_request_time) (cm__law_send : CalM P w mg base g k "_law_send" 4 F__law_send) (c_periods : ∀ A, Cal P w mg base (g.w A) k "periods" 1 F_periods) (c_row_period : ∀ A, Cal P w mg base (g.w A) k "row_period" 1 F_row_period) (ck_row_period_0_row : ∀ A, CalK P w mg base (g.w A) k "row_period" 0 ["row"] [0] F_row_period) (ck_periods_0_row : ∀ A, CalK P w mg base (g.w A) k "periods" 0 ["row"] [0] F_periods) : FnOk P w g.K mg base CX0 (k + 2) f fd ["_law_script"] (spM g 1 F_law) := by
  refine def_fnM (fs := [F__law_cell_at, F__law_source_of, F__law_specs, F_Row___init__, F__law_next, F_request_time, F_periods, F_row_period]) (ms := [F__law_send]) F sc_law rfl rfl (T []).tt fun cdv A outer s H E hr1 C => ?_
  have hr := hr1.mono (Nat.le_succ k)
  exact (ms_cons (m_for C PassesOwn.never (im_raw (fun A => have C := C.w A; (i_seq C (p_bin (op := .add) C (p_lst C (a_cons (c_call (c__law_cell_at A) C rfl rfl hr rfl (aw_cons (k_var 0 rfl (by first | exact .inl rfl | exact .inr (.inl rfl) | exact .inr (.inr rfl)) rfl rfl) (aw_cons (k_int C) aw_nil rfl) rfl) rfl rfl rfl) a_nil rfl)) (p_slc C (k_var 0 rfl (by first | exact .inl rfl | exact .inr (.inl rfl) | exact .inr (.inr rfl)) rfl rfl) (part1 (k_int C)) (part1 (k_int C))))))) (tg_nm (pg_name (i := 1) C.nd rfl (by first | exact .inl rfl | exact .inr rfl) (by first | exact .inr rfl | exact .inl rfl))) (ms_cons (m_old (fun A => have C := C.w A; (s_asgO (i := 2) C rfl (by first | exact .inl rfl | exact .inr rfl) (c_call (c__law_source_of A) C rfl rfl hr rfl (aw_cons (k_var 1 rfl (by first | exact .inl rfl | exact .inr (.inl rfl) | exact .inr (.inr rfl)) rfl rfl) aw_nil rfl) rfl rfl rfl) rfl (by first | exact .inr rfl | exact .inl rfl))))
  (ms_cons (m_old (fun A => have C := C.w A; (s_asg (c_call (c__law_specs A) C rfl rfl hr rfl (aw_cons (k_var 2 rfl (by first | exact .inl rfl | exact .inr (.inl rfl) | exact .inr (.inr rfl)) rfl rfl) (aw_cons (k_int C) (aw_cons (k_int C) (aw_cons (k_int C) aw_nil rfl) rfl) rfl) rfl) rfl rfl rfl) (tg_nm (pg_name (i := 3) C.nd rfl (by first | exact .inl rfl | exact .inr rfl) (by first | exact .inr rfl | exact .inl rfl))) rfl rfl rfl)))
  (ms_cons (m_old (fun A => have C := C.w A; (s_asg (p_mkK (ik_Row_2_phase A) C rfl rfl rfl hr1 rfl (pf_cons (k_var 3 rfl (by first | exact .inl rfl | exact .inr (.inl rfl) | exact .inr (.inr rfl)) rfl rfl) (pf_cons (p_bin (op := .add) C (k_int C) (c_call (c__law_next A) C rfl rfl hr rfl (aw_cons (k_var 2 rfl (by first | exact .inl rfl | exact .inr (.inl rfl) | exact .inr (.inr rfl)) rfl rfl) (aw_cons (k_int C) aw_nil rfl) rfl) rfl rfl rfl)) pf_nil rfl) rfl) (kf_cons (c_call (c__law_next A) C rfl rfl hr rfl (aw_cons (k_var 2 rfl (by first | exact .inl rfl | exact .inr (.inl rfl) | exact .inr (.inr rfl)) rfl rfl) (aw_cons (k_int C) aw_nil rfl) rfl) rfl rfl rfl) kf_nil) rfl rfl rfl rfl rfl) (tg_nm (pg_name (i := 4) C.nd rfl (by first | exact .inl rfl | exact .inr rfl) (by first | exact .inr rfl | exact .inl rfl))) rfl rfl rfl)))
  (ms_cons (m_setLc (i := 5) C rfl rfl (sw_true rfl rfl rfl rfl) (im_raw (fun A => have C := C.w A; (i_seq C (k_var 3 rfl (by first | exact .inl rfl | exact .inr (.inl rfl) | exact .inr (.inr rfl)) rfl rfl)))) (blkOk_by (own := [("_law_spec", 12)]) rfl) (fun _ _ _ _ _ => (tg_nm (pg_name (i := 12) (C.blk _ _ _ _ _).nd rfl (by first | exact .inl rfl | exact .inr rfl) (by first | exact .inr rfl | exact .inl rfl)))) (fun _ _ _ _ _ => (x_alc (x_raw (fun A => have C := C.w A; (p_lst (by first | exact ((C.blk _ _ _ _ _)).c0 | exact (C.blk _ _ _ _ _)) (a_cons (k_str (by first | exact ((C.blk _ _ _ _ _)).c0 | exact (C.blk _ _ _ _ _))) (a_cons (k_int (by first | exact ((C.blk _ _ _ _ _)).c0 | exact (C.blk _ _ _ _ _))) a_nil rfl) rfl)))))) (fun _ => rfl))
  (ms_cons (m_setLc (i := 6) C rfl rfl (sw_true rfl rfl rfl rfl) (im_raw (fun A => have C := C.w A; (i_rng1 C rfl ((T A).z_range) (a_cons (p_bin (op := .add) C (k_len C (a_cons (k_var 3 rfl (by first | exact .inl rfl | exact .inr (.inl rfl) | exact .inr (.inr rfl)) rfl rfl) a_nil rfl) rfl rfl ((T A).z_len) rfl) (k_int C)) a_nil rfl) rfl))) (blkOk_by (own := [("_law_k", 10)]) rfl) (fun _ _ _ _ _ => (tg_nm (pg_name (i := 10) (C.blk _ _ _ _ _).nd rfl (by first | exact .inl rfl | exact .inr rfl) (by first | exact .inr rfl | exact .inl rfl)))) (fun _ _ _ _ _ => (x_alc (x_raw (fun A => have C := C.w A; (p_lst (by first | exact ((C.blk _ _ _ _ _)).c0 | exact (C.blk _ _ _ _ _)) a_nil))))) (fun _ => rfl))
  (ms_cons (m_old (fun A => have C := C.w A; (s_asgO (i := 7) C rfl (by first | exact .inl rfl | exact .inr rfl) (k_int C) rfl (by first | exact .inr rfl | exact .inl rfl))))
  (ms_cons (m_whl PassesOwn.never (xt_snp (fun A => have C := C.w A; (PW.pt (w_and (t_cmp (op := .lt) C (k_var 7 rfl (by first | exact .inl rfl | exact .inr (.inl rfl) | exact .inr (.inr rfl)) rfl rfl) (k_int C) rfl) (w_and1 (t_cmp (op := .lt) C (k_minl C (a_cons (p_comp C (i_seq C (k_var 6 rfl (by first | exact .inl rfl | exact .inr (.inl rfl) | exact .inr (.inr rfl)) rfl rfl)) (blkOk_by (own := [("_law_some", 16)]) rfl) (fun _ _ _ _ _ => (tg_nm (pg_name (i := 16) (C.blk _ _ _ _ _).nd rfl (by first | exact .inl rfl | exact .inr rfl) (by first | exact .inr rfl | exact .inl rfl)))) (fun _ _ _ _ _ => c_nil) (fun _ _ _ _ _ => (k_len (by first | exact ((C.blk _ _ _ _ _)).c0 | exact (C.blk _ _ _ _ _)) (a_cons (k_var 16 rfl (by first | exact .inl rfl | exact .inr (.inl rfl) | exact .inr (.inr rfl)) rfl rfl) a_nil rfl) rfl rfl ((T A).z_len) rfl)) (fun _ => rfl)) a_nil rfl) rfl rfl ((T A).z_min) rfl) (k_int C) rfl)))))) (ms_cons (m_old (fun A => have C := C.w A; (s_asg (c_call (c_request_time A) C rfl rfl hr rfl (aw_cons (k_var 4 rfl (by first | exact .inl rfl | exact .inr (.inl rfl) | exact .inr (.inr rfl)) rfl rfl) (aw_cons (k_var 7 rfl (by first | exact .inl rfl | exact .inr (.inl rfl) | exact .inr (.inr rfl)) rfl rfl) aw_nil rfl) rfl) rfl rfl rfl) (tg_nm (pg_name (i := 8) C.nd rfl (by first | exact .inl rfl | exact .inr rfl) (by first | exact .inr rfl | exact .inl rfl))) rfl rfl rfl)))
  (ms_cons (m_asg (x_snp (fun A => have C := C.w A; (p_cmp (op := .eq) C (p_comp C (i_seq C (k_var 5 rfl (by first | exact .inl rfl | exact .inr (.inl rfl) | exact .inr (.inr rfl)) rfl rfl)) (blkOk_by (own := [("_law_state", 15)]) rfl) (fun _ _ _ _ _ => (tg_nm (pg_name (i := 15) (C.blk _ _ _ _ _).nd rfl (by first | exact .inl rfl | exact .inr rfl) (by first | exact .inr rfl | exact .inl rfl)))) (fun _ _ _ _ _ => (c_one (t_cmp (op := .eq) (by first | exact ((C.blk _ _ _ _ _)).c0 | exact (C.blk _ _ _ _ _)) (p_ix (by first | exact ((C.blk _ _ _ _ _)).c0 | exact (C.blk _ _ _ _ _)) (k_var 15 rfl (by first | exact .inl rfl | exact .inr (.inl rfl) | exact .inr (.inr rfl)) rfl rfl) (k_int (by first | exact ((C.blk _ _ _ _ _)).c0 | exact (C.blk _ _ _ _ _))) (fun _ _ => rfl)) (k_str (by first | exact ((C.blk _ _ _ _ _)).c0 | exact (C.blk _ _ _ _ _))) rfl))) (fun _ _ _ _ _ => (k_str (by first | exact ((C.blk _ _ _ _ _)).c0 | exact (C.blk _ _ _ _ _)))) (fun _ => rfl)) (p_lst C a_nil) rfl))) (tg_nm (pg_name (i := 9) C.nd rfl (by first | exact .inl rfl | exact .inr rfl) (by first | exact .inr rfl | exact .inl rfl))) rfl rfl rfl)
  (ms_cons (m_asg (x_callM cm__law_send C rfl rfl hr rfl (xs_cons (x_raw (fun A => have C := C.w A; (k_var 3 rfl (by first | exact .inl rfl | exact .inr (.inl rfl) | exact .inr (.inr rfl)) rfl rfl))) (xs_cons (x_raw (fun A => have C := C.w A; (k_var 5 rfl (by first | exact .inl rfl | exact .inr (.inl rfl) | exact .inr (.inr rfl)) rfl rfl))) (xs_cons (x_raw (fun A => have C := C.w A; (k_var 8 rfl (by first | exact .inl rfl | exact .inr (.inl rfl) | exact .inr (.inr rfl)) rfl rfl))) (xs_cons (x_raw (fun A => have C := C.w A; (k_bl C))) xs_nil rfl) rfl) rfl) rfl) rfl rfl rfl) (tgp C (tgs_cons (tg_nm (pg_name (i := 13) C.nd rfl (by first | exact .inl rfl | exact .inr rfl) (by first | exact .inr rfl | exact .inl rfl))) (tgs_cons (tg_nm (pg_name (i := 14) C.nd rfl (by first | exact .inl rfl | exact .inr rfl) (by first | exact .inr rfl | exact .inl rfl))) tgs_nil rfl) rfl) rfl rfl) rfl rfl rfl)
  (ms_cons (m_for C PassesOwn.never (im_raw (fun A => have C := C.w A; (i_rng1 C rfl ((T A).z_range) (a_cons (p_bin (op := .add) C (k_var 14 rfl (by first | exact .inl rfl | exact .inr (.inl rfl) | exact .inr (.inr rfl)) rfl rfl) (k_int C)) a_nil rfl) rfl))) (tg_nm (pg_name (i := 10) C.nd rfl (by first | exact .inl rfl | exact .inr rfl) (by first | exact .inr rfl | exact .inl rfl))) (ms_cons (m_ite (xt_raw (fun A => have C := C.w A; (t_val C (k_var 9 rfl (by first | exact .inl rfl | exact .inr (.inl rfl) | exact .inr (.inr rfl)) rfl rfl) (fun _ => rfl)))) (ms_cons (m_app C (x_raw (fun A => have C := C.w A; (p_ix C (k_var 6 rfl (by first | exact .inl rfl | exact .inr (.inl rfl) | exact .inr (.inr rfl)) rfl rfl) (k_var 10 rfl (by first | exact .inl rfl | exact .inr (.inl rfl) | exact .inr (.inr rfl)) rfl rfl) (fun _ _ => rfl)))) (x_raw (fun A => have C := C.w A; (k_var 8 rfl (by first | exact .inl rfl | exact .inr (.inl rfl) | exact .inr (.inr rfl)) rfl rfl))) rfl rfl rfl rfl)
  ms_nil) ms_nil)
  ms_nil) (fun _ => rfl))
  (ms_cons (m_old (fun A => have C := C.w A; (s_asgO (i := 7) C rfl (by first | exact .inl rfl | exact .inr rfl) (p_bin (op := .add) C (k_var 7 rfl (by first | exact .inl rfl | exact .inr (.inl rfl) | exact .inr (.inr rfl)) rfl rfl) (k_int C)) rfl (by first | exact .inr rfl | exact .inl rfl))))
  ms_nil))))))
  (ms_cons (m_ite (xt_raw (fun A => have C := C.w A; (t_cmp (op := .lt) C (k_var 7 rfl (by first | exact .inl rfl | exact .inr (.inl rfl) | exact .inr (.inr rfl)) rfl rfl) (k_int C) rfl))) (ms_cons (m_old (fun A => have C := C.w A; (s_asg (c_call (c_periods A) C rfl rfl hr rfl (aw_cons (k_var 4 rfl (by first | exact .inl rfl | exact .inr (.inl rfl) | exact .inr (.inr rfl)) rfl rfl) aw_nil rfl) rfl rfl rfl) (tg_nm (pg_name (i := 11) C.nd rfl (by first | exact .inl rfl | exact .inr rfl) (by first | exact .inr rfl | exact .inl rfl))) rfl rfl rfl)))
  (ms_cons (m_for C PassesOwn.never (im_raw (fun A => have C := C.w A; (i_rng1 C rfl ((T A).z_range) (a_cons (k_len C (a_cons (k_var 6 rfl (by first | exact .inl rfl | exact .inr (.inl rfl) | exact .inr (.inr rfl)) rfl rfl) a_nil rfl) rfl rfl ((T A).z_len) rfl) a_nil rfl) rfl))) (tg_nm (pg_name (i := 10) C.nd rfl (by first | exact .inl rfl | exact .inr rfl) (by first | exact .inr rfl | exact .inl rfl))) (ms_cons (m_ite (xt_snp (fun A => have C := C.w A; (t_cmp (op := .ne) C (p_comp C (i_zip C rfl ((T A).z_zip) (a_cons (p_ix C (k_var 6 rfl (by first | exact .inl rfl | exact .inr (.inl rfl) | exact .inr (.inr rfl)) rfl rfl) (k_var 10 rfl (by first | exact .inl rfl | exact .inr (.inl rfl) | exact .inr (.inr rfl)) rfl rfl) (fun _ _ => rfl)) (a_cons (p_slc C (p_ix C (k_var 6 rfl (by first | exact .inl rfl | exact .inr (.inl rfl) | exact .inr (.inr rfl)) rfl rfl) (k_var 10 rfl (by first | exact .inl rfl | exact .inr (.inl rfl) | exact .inr (.inr rfl)) rfl rfl) (fun _ _ => rfl)) (part1 (k_int C)) part0) a_nil rfl) rfl) rfl rfl) (blkOk_by (own := [("_law_early", 17), ("_law_late", 18)]) rfl) (fun _ _ _ _ _ => (tgp (by first | exact ((C.blk _ _ _ _ _)).c0 | exact (C.blk _ _ _ _ _)) (tgs_cons (tg_nm (pg_name (i := 17) (C.blk _ _ _ _ _).nd rfl (by first | exact .inl rfl | exact .inr rfl) (by first | exact .inr rfl | exact .inl rfl))) (tgs_cons (tg_nm (pg_name (i := 18) (C.blk _ _ _ _ _).nd rfl (by first | exact .inl rfl | exact .inr rfl) (by first | exact .inr rfl | exact .inl rfl))) tgs_nil rfl) rfl) rfl rfl)) (fun _ _ _ _ _ => c_nil) (fun _ _ _ _ _ => (p_bin (op := .sub) (by first | exact ((C.blk _ _ _ _ _)).c0 | exact (C.blk _ _ _ _ _)) (k_var 18 rfl (by first | exact .inl rfl | exact .inr (.inl rfl) | exact .inr (.inr rfl)) rfl rfl) (k_var 17 rfl (by first | exact .inl rfl | exact .inr (.inl rfl) | exact .inr (.inr rfl)) rfl rfl))) (fun _ => rfl)) (p_bin (op := .mul) C (p_lst C (a_cons (p_ix C (k_var 11 rfl (by first | exact .inl rfl | exact .inr (.inl rfl) | exact .inr (.inr rfl)) rfl rfl) (k_var 10 rfl (by first | exact .inl rfl | exact .inr (.inl rfl) | exact .inr (.inr rfl)) rfl rfl) (fun _ _ => rfl)) a_nil rfl)) (p_bin (op := .sub) C (k_len C (a_cons (p_ix C (k_var 6 rfl (by first | exact .inl rfl | exact .inr (.inl rfl) | exact .inr (.inr rfl)) rfl rfl) (k_var 10 rfl (by first | exact .inl rfl | exact .inr (.inl rfl) | exact .inr (.inr rfl)) rfl rfl) (fun _ _ => rfl)) a_nil rfl) rfl rfl ((T A).z_len) rfl) (k_int C))) rfl))) (ms_cons (m_old (fun A => have C := C.w A; (s_ret (k_bl C))))
  ms_nil) ms_nil)
  ms_nil) (fun _ => rfl))
  (ms_cons (m_old (fun A => have C := C.w A; (s_ite (PW.pt (w_or (t_cmp (op := .ne) C (c_call (c_row_period A) C rfl rfl hr rfl (aw_cons (k_var 4 rfl (by first | exact .inl rfl | exact .inr (.inl rfl) | exact .inr (.inr rfl)) rfl rfl) aw_nil rfl) rfl rfl rfl) (p_ix C (k_var 11 rfl (by first | exact .inl rfl | exact .inr (.inl rfl) | exact .inr (.inr rfl)) rfl rfl) (p_neg (k_int C)) (fun _ _ => rfl)) rfl) (w_or (t_cmp (op := .ne) C (c_callK0 (ck_row_period_0_row A) C rfl rfl hr rfl (kf_cons (k_var 4 rfl (by first | exact .inl rfl | exact .inr (.inl rfl) | exact .inr (.inr rfl)) rfl rfl) kf_nil) rfl rfl rfl rfl) (p_ix C (k_var 11 rfl (by first | exact .inl rfl | exact .inr (.inl rfl) | exact .inr (.inr rfl)) rfl rfl) (p_neg (k_int C)) (fun _ _ => rfl)) rfl) (w_or1 (t_cmp (op := .ne) C (k_len C (a_cons (k_var 11 rfl (by first | exact .inl rfl | exact .inr (.inl rfl) | exact .inr (.inr rfl)) rfl rfl) a_nil rfl) rfl rfl ((T A).z_len) rfl) (p_bin (op := .add) C (k_len C (a_cons (k_var 3 rfl (by first | exact .inl rfl | exact .inr (.inl rfl) | exact .inr (.inr rfl)) rfl rfl) a_nil rfl) rfl rfl ((T A).z_len) rfl) (k_int C)) rfl))))) (ss_cons (s_ret (k_bl C))
  ss_nil) ss_nil)))
  (ms_cons (m_old (fun A => have C := C.w A; (s_xapp C (c_callK0 (ck_periods_0_row A) C rfl rfl hr rfl (kf_cons (k_var 4 rfl (by first | exact .inl rfl | exact .inr (.inl rfl) | exact .inr (.inr rfl)) rfl rfl) kf_nil) rfl rfl rfl rfl) pe_int rfl rfl rfl rfl)))
  (ms_cons (m_old (fun A => have C := C.w A; (s_ite (t_cmp (op := .ne) C (c_call (c_periods A) C rfl rfl hr rfl (aw_cons (k_var 4 rfl (by first | exact .inl rfl | exact .inr (.inl rfl) | exact .inr (.inr rfl)) rfl rfl) aw_nil rfl) rfl rfl rfl) (k_var 11 rfl (by first | exact .inl rfl | exact .inr (.inl rfl) | exact .inr (.inr rfl)) rfl rfl) rfl) (ss_cons (s_ret (k_bl C))
  ss_nil) ss_nil)))
  ms_nil))))) ms_nil)
  ms_nil)))))))) (fun _ => rfl))
  (ms_cons (m_old (fun A => have C := C.w A; (s_ret (k_bl C))))
  ms_nil))
end
theorem all_mk {l : PySem.W.OpenLaw} {w : World} {K : PySem.W.Frag} {h : Heap} {mg : Str → Option Value} {fa C1 : Addr} (X : K.In h) (G : h.Ns mainGlobals mg) (hfa : mg "law" = some (.ref fa))
    {f0 : Addr} {od0 an0 : Option Addr} {sl0 : Array (Option Value)} {oc0 kV0 dc0 pm0 cd0 ct0 : Value}
    {f1 : Addr} {od1 an1 : Option Addr} {sl1 : Array (Option Value)} {oc1 kV1 dc1 pm1 cd1 ct1 : Value}
    {f2 : Addr} {od2 an2 : Option Addr} {sl2 : Array (Option Value)} {oc2 kV2 dc2 pm2 cd2 ct2 : Value}
    {f3 : Addr} {od3 an3 : Option Addr} {sl3 : Array (Option Value)} {oc3 kV3 dc3 pm3 cd3 ct3 : Value}
    {f4 : Addr} {od4 an4 : Option Addr} {sl4 : Array (Option Value)} {oc4 kV4 dc4 pm4 cd4 ct4 : Value}
    {f5 : Addr} {od5 an5 : Option Addr} {sl5 : Array (Option Value)} {oc5 kV5 dc5 pm5 cd5 ct5 : Value}
    {f6 : Addr} {od6 an6 : Option Addr} {sl6 : Array (Option Value)} {oc6 kV6 dc6 pm6 cd6 ct6 : Value}
    {f7 : Addr} {od7 an7 : Option Addr} {sl7 : Array (Option Value)} {oc7 kV7 dc7 pm7 cd7 ct7 : Value}
    {f8 : Addr} {od8 an8 : Option Addr} {sl8 : Array (Option Value)} {oc8 kV8 dc8 pm8 cd8 ct8 : Value}
    {f9 D9 : Addr} {od9 an9 : Option Addr} {sl9 : Array (Option Value)} {oc9 dc9 pm9 cd9 ct9 : Value}
    {t9 : Tok}
    {f10 : Addr} {od10 an10 : Option Addr} {sl10 : Array (Option Value)} {oc10 kV10 dc10 pm10 cd10 ct10 : Value}
    {f11 : Addr} {od11 an11 : Option Addr} {sl11 : Array (Option Value)} {oc11 kV11 dc11 pm11 cd11 ct11 : Value}
    {f12 : Addr} {od12 an12 : Option Addr} {sl12 : Array (Option Value)} {oc12 kV12 dc12 pm12 cd12 ct12 : Value}
    {f13 : Addr} {od13 an13 : Option Addr} {sl13 : Array (Option Value)} {oc13 kV13 dc13 pm13 cd13 ct13 : Value}
    {f14 : Addr} {od14 an14 : Option Addr} {sl14 : Array (Option Value)} {oc14 kV14 dc14 pm14 cd14 ct14 : Value}
    {f15 : Addr} {od15 an15 : Option Addr} {sl15 : Array (Option Value)} {oc15 kV15 dc15 pm15 cd15 ct15 : Value}
    {f16 : Addr} {od16 an16 : Option Addr} {sl16 : Array (Option Value)} {oc16 kV16 dc16 pm16 cd16 ct16 : Value}
    {t_MOST_BREAKERS : _}
    {t_MOST_COUNT : _}
    {t_MOST_WAIT : _}
    (aC1 : PySem.W.nsIn K mainGlobals "Row" = some (some (.ref C1)))
    (a0 : PySem.W.nsIn K mainGlobals "_law_cell_at" = some (some (.ref f0)))
    (l0 : K.lookup f0 = some ⟨oc0, od0, .func (PySem.W.fnOf "_law_cell_at" "_law_cell_at" (defArgs s__law_cell_at) (defBody s__law_cell_at) (defScope s__law_cell_at) .none (kV0) dc0 pm0 an0 cd0 ct0), sl0⟩)
    (e0 : PySem.W.codeIn K cd0 "_law_cell_at" = true)
    (k0 : PySem.W.keepIn K (.ref f0) = true)
    (a1 : PySem.W.nsIn K mainGlobals "_law_source_of" = some (some (.ref f1)))
    (l1 : K.lookup f1 = some ⟨oc1, od1, .func (PySem.W.fnOf "_law_source_of" "_law_source_of" (defArgs s__law_source_of) (defBody s__law_source_of) (defScope s__law_source_of) .none (kV1) dc1 pm1 an1 cd1 ct1), sl1⟩)
    (e1 : PySem.W.codeIn K cd1 "_law_source_of" = true)
    (k1 : PySem.W.keepIn K (.ref f1) = true)
    (a2 : PySem.W.nsIn K mainGlobals "_law_next" = some (some (.ref f2)))
    (l2 : K.lookup f2 = some ⟨oc2, od2, .func (PySem.W.fnOf "_law_next" "_law_next" (defArgs s__law_next) (defBody s__law_next) (defScope s__law_next) .none (kV2) dc2 pm2 an2 cd2 ct2), sl2⟩)
    (e2 : PySem.W.codeIn K cd2 "_law_next" = true)
    (k2 : PySem.W.keepIn K (.ref f2) = true)
    (a3 : PySem.W.nsIn K mainGlobals "_law_one" = some (some (.ref f3)))
    (l3 : K.lookup f3 = some ⟨oc3, od3, .func (PySem.W.fnOf "_law_one" "_law_one" (defArgs s__law_one) (defBody s__law_one) (defScope s__law_one) .none (kV3) dc3 pm3 an3 cd3 ct3), sl3⟩)
    (e3 : PySem.W.codeIn K cd3 "_law_one" = true)
    (k3 : PySem.W.keepIn K (.ref f3) = true)
    (a4 : PySem.W.nsIn K mainGlobals "_law_specs" = some (some (.ref f4)))
    (l4 : K.lookup f4 = some ⟨oc4, od4, .func (PySem.W.fnOf "_law_specs" "_law_specs" (defArgs s__law_specs) (defBody s__law_specs) (defScope s__law_specs) .none (kV4) dc4 pm4 an4 cd4 ct4), sl4⟩)
    (e4 : PySem.W.codeIn K cd4 "_law_specs" = true)
    (k4 : PySem.W.keepIn K (.ref f4) = true)
    (a5 : PySem.W.nsIn K mainGlobals "is_integer" = some (some (.ref f5)))
    (l5 : K.lookup f5 = some ⟨oc5, od5, .func (PySem.W.fnOf "is_integer" "is_integer" (defArgs s_is_integer) (defBody s_is_integer) (defScope s_is_integer) .none (kV5) dc5 pm5 an5 cd5 ct5), sl5⟩)
    (e5 : PySem.W.codeIn K cd5 "is_integer" = true)
    (k5 : PySem.W.keepIn K (.ref f5) = true)
    (a6 : PySem.W.nsIn K mainGlobals "is_between" = some (some (.ref f6)))
    (l6 : K.lookup f6 = some ⟨oc6, od6, .func (PySem.W.fnOf "is_between" "is_between" (defArgs s_is_between) (defBody s_is_between) (defScope s_is_between) .none (kV6) dc6 pm6 an6 cd6 ct6), sl6⟩)
    (e6 : PySem.W.codeIn K cd6 "is_between" = true)
    (k6 : PySem.W.keepIn K (.ref f6) = true)
    (a7 : PySem.W.nsIn K mainGlobals "is_breaker" = some (some (.ref f7)))
    (l7 : K.lookup f7 = some ⟨oc7, od7, .func (PySem.W.fnOf "is_breaker" "is_breaker" (defArgs s_is_breaker) (defBody s_is_breaker) (defScope s_is_breaker) .none (kV7) dc7 pm7 an7 cd7 ct7), sl7⟩)
    (e7 : PySem.W.codeIn K cd7 "is_breaker" = true)
    (k7 : PySem.W.keepIn K (.ref f7) = true)
    (a8 : PySem.W.nsIn K mainGlobals "check_breakers" = some (some (.ref f8)))
    (l8 : K.lookup f8 = some ⟨oc8, od8, .func (PySem.W.fnOf "check_breakers" "check_breakers" (defArgs s_check_breakers) (defBody s_check_breakers) (defScope s_check_breakers) .none (kV8) dc8 pm8 an8 cd8 ct8), sl8⟩)
    (e8 : PySem.W.codeIn K cd8 "check_breakers" = true)
    (k8 : PySem.W.keepIn K (.ref f8) = true)
    (a9 : PySem.W.findIn K (.ref C1) "__init__" = some (some (.ref f9)))
    (i9 : PySem.W.isFn K (.ref f9) = true)
    (l9 : K.lookup f9 = some ⟨oc9, od9, .func (PySem.W.fnOf "__init__" "Row.__init__" (defArgs s_Row___init__) (defBody s_Row___init__) (defScope s_Row___init__) .none (.ref D9) dc9 pm9 an9 cd9 ct9), sl9⟩)
    (e9 : PySem.W.codeIn K cd9 "Row.__init__" = true)
    (k9 : PySem.W.keepIn K (.ref f9) = true)
    (d9 : PySem.W.nsIn K D9 "phase" = some (some (.int 0 t9)))
    (a10 : PySem.W.nsIn K mainGlobals "request_time" = some (some (.ref f10)))
    (l10 : K.lookup f10 = some ⟨oc10, od10, .func (PySem.W.fnOf "request_time" "request_time" (defArgs s_request_time) (defBody s_request_time) (defScope s_request_time) .none (kV10) dc10 pm10 an10 cd10 ct10), sl10⟩)
    (e10 : PySem.W.codeIn K cd10 "request_time" = true)
    (k10 : PySem.W.keepIn K (.ref f10) = true)
    (a11 : PySem.W.nsIn K mainGlobals "_law_note" = some (some (.ref f11)))
    (l11 : K.lookup f11 = some ⟨oc11, od11, .func (PySem.W.fnOf "_law_note" "_law_note" (defArgs s__law_note) (defBody s__law_note) (defScope s__law_note) .none (kV11) dc11 pm11 an11 cd11 ct11), sl11⟩)
    (e11 : PySem.W.codeIn K cd11 "_law_note" = true)
    (k11 : PySem.W.keepIn K (.ref f11) = true)
    (a12 : PySem.W.nsIn K mainGlobals "_law_send" = some (some (.ref f12)))
    (l12 : K.lookup f12 = some ⟨oc12, od12, .func (PySem.W.fnOf "_law_send" "_law_send" (defArgs s__law_send) (defBody s__law_send) (defScope s__law_send) .none (kV12) dc12 pm12 an12 cd12 ct12), sl12⟩)
    (e12 : PySem.W.codeIn K cd12 "_law_send" = true)
    (k12 : PySem.W.keepIn K (.ref f12) = true)
    (a13 : PySem.W.nsIn K mainGlobals "round_up" = some (some (.ref f13)))
    (l13 : K.lookup f13 = some ⟨oc13, od13, .func (PySem.W.fnOf "round_up" "round_up" (defArgs s_round_up) (defBody s_round_up) (defScope s_round_up) .none (kV13) dc13 pm13 an13 cd13 ct13), sl13⟩)
    (e13 : PySem.W.codeIn K cd13 "round_up" = true)
    (k13 : PySem.W.keepIn K (.ref f13) = true)
    (a14 : PySem.W.nsIn K mainGlobals "periods" = some (some (.ref f14)))
    (l14 : K.lookup f14 = some ⟨oc14, od14, .func (PySem.W.fnOf "periods" "periods" (defArgs s_periods) (defBody s_periods) (defScope s_periods) .none (kV14) dc14 pm14 an14 cd14 ct14), sl14⟩)
    (e14 : PySem.W.codeIn K cd14 "periods" = true)
    (k14 : PySem.W.keepIn K (.ref f14) = true)
    (a15 : PySem.W.nsIn K mainGlobals "row_period" = some (some (.ref f15)))
    (l15 : K.lookup f15 = some ⟨oc15, od15, .func (PySem.W.fnOf "row_period" "row_period" (defArgs s_row_period) (defBody s_row_period) (defScope s_row_period) .none (kV15) dc15 pm15 an15 cd15 ct15), sl15⟩)
    (e15 : PySem.W.codeIn K cd15 "row_period" = true)
    (k15 : PySem.W.keepIn K (.ref f15) = true)
    (a16 : PySem.W.nsIn K mainGlobals "law" = some (some (.ref f16)))
    (l16 : K.lookup f16 = some ⟨oc16, od16, .func (PySem.W.fnOf "law" "law" (defArgs s_law) (defBody s_law) (defScope s_law) .none (kV16) dc16 pm16 an16 cd16 ct16), sl16⟩)
    (e16 : PySem.W.codeIn K cd16 "law" = true)
    (k16 : PySem.W.keepIn K (.ref f16) = true)
    (z_bool : PySem.W.nsIn K mainGlobals "bool" = some none)
    (z_enumerate : PySem.W.nsIn K mainGlobals "enumerate" = some none)
    (z_int : PySem.W.nsIn K mainGlobals "int" = some none)
    (z_isinstance : PySem.W.nsIn K mainGlobals "isinstance" = some none)
    (z_len : PySem.W.nsIn K mainGlobals "len" = some none)
    (z_list : PySem.W.nsIn K mainGlobals "list" = some none)
    (z_min : PySem.W.nsIn K mainGlobals "min" = some none)
    (z_range : PySem.W.nsIn K mainGlobals "range" = some none)
    (z_tuple : PySem.W.nsIn K mainGlobals "tuple" = some none)
    (z_zip : PySem.W.nsIn K mainGlobals "zip" = some none)
    (g_MOST_BREAKERS : PySem.W.nsIn K mainGlobals "MOST_BREAKERS" = some (some (.int 12 t_MOST_BREAKERS)))
    (g_MOST_COUNT : PySem.W.nsIn K mainGlobals "MOST_COUNT" = some (some (.int 1000000000000 t_MOST_COUNT)))
    (g_MOST_WAIT : PySem.W.nsIn K mainGlobals "MOST_WAIT" = some (some (.int 1000000000000000000000000000000 t_MOST_WAIT)))
    (pg1 : PySem.W.plainGet K C1 Str.empty = true)
    (hd1 : PySem.W.hasDictIn K C1 = true)
    (po1 : PySem.W.plainOver K C1 = true)
    (sa1 : PySem.W.findIn K (.ref C1) "__setattr__" = some (some (.builtin "object.__setattr__")))
    (ha1 : PySem.W.findIn K (.ref C1) "__class__" = some (some (.builtin "object.__class__")))
    (hn1 : PySem.W.specialIn K (.builtin "object.__class__") "__get__" = some (some (.builtin "getset_descriptor.__get__")))
    (ht1 : PySem.W.takesIn K (.builtin "object.__class__") = some true)
    (hm1 : PySem.W.mroIn K C1 (.type "object") = some true)
    (nf1_NoneType : PySem.W.subIn K (.type "NoneType") (.ref C1) = some false)
    (nf1_bool : PySem.W.subIn K (.type "bool") (.ref C1) = some false)
    (nf1_int : PySem.W.subIn K (.type "int") (.ref C1) = some false)
    (nf1_str : PySem.W.subIn K (.type "str") (.ref C1) = some false)
    (nf1_list : PySem.W.subIn K (.type "list") (.ref C1) = some false)
    (nf1_tuple : PySem.W.subIn K (.type "tuple") (.ref C1) = some false)
    (na_Row_specs : PySem.W.findIn K (.ref C1) "specs" = some none)
    (na_Row_pace : PySem.W.findIn K (.ref C1) "pace" = some none)
    (na_Row_shift : PySem.W.findIn K (.ref C1) "shift" = some none)
    (mk1 : PySem.W.makesIn K C1 = true)
    (kc1 : PySem.W.keepIn K (.ref C1) = true)
    : ∃ fd : FuncData, (∀ (s : Shared) (v : Value), BindsTo s fd ⟨[v], []⟩ [("_law_script", v)]) ∧ ∀ base : Heap, K.In base → base.Ns mainGlobals mg → FnOk l.prog w K mg base CX0 7 fa fd ["_law_script"] (spNM K F_law) := by
  have e := hfa.symm.trans (PySem.W.mg_of X G a16)
  cases e
  have T : ∀ A, Txt ⟨K, clOf [0, C1, 0, 0, 0, 0, 0, 0, 0, 0, 0, 0, 0, 0, 0, 0, 0, 0, 0], [], none, A⟩ mg := fun A => ⟨rfl, PySem.W.mg_none_of X G z_bool, PySem.W.mg_none_of X G z_enumerate, PySem.W.mg_none_of X G z_int, PySem.W.mg_none_of X G z_isinstance, PySem.W.mg_none_of X G z_len, PySem.W.mg_none_of X G z_list, PySem.W.mg_none_of X G z_min, PySem.W.mg_none_of X G z_range, PySem.W.mg_none_of X G z_tuple, PySem.W.mg_none_of X G z_zip, ⟨t_MOST_BREAKERS, PySem.W.mg_of X G g_MOST_BREAKERS⟩, ⟨t_MOST_COUNT, PySem.W.mg_of X G g_MOST_COUNT⟩, ⟨t_MOST_WAIT, PySem.W.mg_of X G g_MOST_WAIT⟩, ⟨⟨pg1, hd1, po1, sa1⟩, ha1, hn1, ht1, hm1, (all_cons nf1_NoneType (all_cons nf1_bool (all_cons nf1_int (all_cons nf1_str (all_cons nf1_list (all_cons nf1_tuple (all_nil _)))))))⟩, na_Row_specs, na_Row_pace, na_Row_shift⟩
  refine ⟨PySem.W.fnOf "law" "law" (defArgs s_law) (defBody s_law) (defScope s_law) .none kV16 dc16 pm16 an16 cd16 ct16, fun s v => .of_eq rfl, fun base _ _ => ?_⟩
  have F0 := fun_mk (st := s__law_cell_at) l0 e0 k0
  have G0 := fun A => ok__law_cell_at (P := l.prog) (w := w) (base := base) (g := ⟨K, clOf [0, C1, 0, 0, 0, 0, 0, 0, 0, 0, 0, 0, 0, 0, 0, 0, 0, 0, 0], [], none, A⟩) (k := 0) (T A) F0 
  have F1 := fun_mk (st := s__law_source_of) l1 e1 k1
  have G1 := fun A => ok__law_source_of (P := l.prog) (w := w) (base := base) (g := ⟨K, clOf [0, C1, 0, 0, 0, 0, 0, 0, 0, 0, 0, 0, 0, 0, 0, 0, 0, 0, 0], [], none, A⟩) (k := 0) (T A) F1 
  have F2 := fun_mk (st := s__law_next) l2 e2 k2
  have G2 := fun A => ok__law_next (P := l.prog) (w := w) (base := base) (g := ⟨K, clOf [0, C1, 0, 0, 0, 0, 0, 0, 0, 0, 0, 0, 0, 0, 0, 0, 0, 0, 0], [], none, A⟩) (k := 0) (T A) F2 
  have h_c__law_next : ∀ A, Cal l.prog w mg base ⟨K, clOf [0, C1, 0, 0, 0, 0, 0, 0, 0, 0, 0, 0, 0, 0, 0, 0, 0, 0, 0], [], none, A⟩ 1 "_law_next" 2 F__law_next := fun A => ⟨_, _, _, PySem.W.mg_of X G a2, k2, (F2.binds (ps := ["_law_source", "_law_many"]) fun _ _ _ _ _ _ us hl => match us, hl with | [_, _], _ => rfl), (G2 A)⟩
  have F3 := fun_mk (st := s__law_one) l3 e3 k3
  have G3 := fun A => ok__law_one (P := l.prog) (w := w) (base := base) (g := ⟨K, clOf [0, C1, 0, 0, 0, 0, 0, 0, 0, 0, 0, 0, 0, 0, 0, 0, 0, 0, 0], [], none, A⟩) (k := 1) (T A) F3 ((h_c__law_next A).mono (by decide))
  have h_c__law_one : ∀ A, Cal l.prog w mg base ⟨K, clOf [0, C1, 0, 0, 0, 0, 0, 0, 0, 0, 0, 0, 0, 0, 0, 0, 0, 0, 0], [], none, A⟩ 2 "_law_one" 2 F__law_one := fun A => ⟨_, _, _, PySem.W.mg_of X G a3, k3, (F3.binds (ps := ["_law_source", "_law_options"]) fun _ _ _ _ _ _ us hl => match us, hl with | [_, _], _ => rfl), (G3 A)⟩
  have F4 := fun_mk (st := s__law_specs) l4 e4 k4
  have G4 := fun A => ok__law_specs (P := l.prog) (w := w) (base := base) (g := ⟨K, clOf [0, C1, 0, 0, 0, 0, 0, 0, 0, 0, 0, 0, 0, 0, 0, 0, 0, 0, 0], [], none, A⟩) (k := 2) (T A) F4 ((h_c__law_next A).mono (by decide)) ((h_c__law_one A).mono (by decide))
  have F5 := fun_mk (st := s_is_integer) l5 e5 k5
  have G5 := fun A => ok_is_integer (P := l.prog) (w := w) (base := base) (g := ⟨K, clOf [0, C1, 0, 0, 0, 0, 0, 0, 0, 0, 0, 0, 0, 0, 0, 0, 0, 0, 0], [], none, A⟩) (k := 0) (T A) F5 
  have h_c_is_integer : ∀ A, Cal l.prog w mg base ⟨K, clOf [0, C1, 0, 0, 0, 0, 0, 0, 0, 0, 0, 0, 0, 0, 0, 0, 0, 0, 0], [], none, A⟩ 1 "is_integer" 1 F_is_integer := fun A => ⟨_, _, _, PySem.W.mg_of X G a5, k5, (F5.binds (ps := ["value"]) fun _ _ _ _ _ _ us hl => match us, hl with | [_], _ => rfl), (G5 A)⟩
  have F6 := fun_mk (st := s_is_between) l6 e6 k6
  have G6 := fun A => ok_is_between (P := l.prog) (w := w) (base := base) (g := ⟨K, clOf [0, C1, 0, 0, 0, 0, 0, 0, 0, 0, 0, 0, 0, 0, 0, 0, 0, 0, 0], [], none, A⟩) (k := 1) (T A) F6 ((h_c_is_integer A).mono (by decide))
  have h_c_is_between : ∀ A, Cal l.prog w mg base ⟨K, clOf [0, C1, 0, 0, 0, 0, 0, 0, 0, 0, 0, 0, 0, 0, 0, 0, 0, 0, 0], [], none, A⟩ 2 "is_between" 3 F_is_between := fun A => ⟨_, _, _, PySem.W.mg_of X G a6, k6, (F6.binds (ps := ["value", "low", "high"]) fun _ _ _ _ _ _ us hl => match us, hl with | [_, _, _], _ => rfl), (G6 A)⟩
  have F7 := fun_mk (st := s_is_breaker) l7 e7 k7
  have G7 := fun A => ok_is_breaker (P := l.prog) (w := w) (base := base) (g := ⟨K, clOf [0, C1, 0, 0, 0, 0, 0, 0, 0, 0, 0, 0, 0, 0, 0, 0, 0, 0, 0], [], none, A⟩) (k := 2) (T A) F7 ((h_c_is_between A).mono (by decide))
  have h_c_is_breaker : ∀ A, Cal l.prog w mg base ⟨K, clOf [0, C1, 0, 0, 0, 0, 0, 0, 0, 0, 0, 0, 0, 0, 0, 0, 0, 0, 0], [], none, A⟩ 3 "is_breaker" 1 F_is_breaker := fun A => ⟨_, _, _, PySem.W.mg_of X G a7, k7, (F7.binds (ps := ["value"]) fun _ _ _ _ _ _ us hl => match us, hl with | [_], _ => rfl), (G7 A)⟩
  have F8 := fun_mk (st := s_check_breakers) l8 e8 k8
  have G8 := fun A => ok_check_breakers (P := l.prog) (w := w) (base := base) (g := ⟨K, clOf [0, C1, 0, 0, 0, 0, 0, 0, 0, 0, 0, 0, 0, 0, 0, 0, 0, 0, 0], [], none, A⟩) (k := 3) (T A) F8 ((h_c_is_breaker A).mono (by decide))
  have h_c_check_breakers : ∀ A, Cal l.prog w mg base ⟨K, clOf [0, C1, 0, 0, 0, 0, 0, 0, 0, 0, 0, 0, 0, 0, 0, 0, 0, 0, 0], [], none, A⟩ 4 "check_breakers" 1 F_check_breakers := fun A => ⟨_, _, _, PySem.W.mg_of X G a8, k8, (F8.binds (ps := ["breakers"]) fun _ _ _ _ _ _ us hl => match us, hl with | [_], _ => rfl), (G8 A)⟩
  have F9 := fund_mk (st := s_Row___init__) l9 e9 k9 d9
  have G9 := fun A => ok_Row___init__ (P := l.prog) (w := w) (base := base) (g := ⟨K, clOf [0, C1, 0, 0, 0, 0, 0, 0, 0, 0, 0, 0, 0, 0, 0, 0, 0, 0, 0], [], none, A⟩) (k := 4) (T A) F9 ((h_c_check_breakers A).mono (by decide)) ((h_c_is_between A).mono (by decide))
  have F10 := fun_mk (st := s_request_time) l10 e10 k10
  have G10 := fun A => ok_request_time (P := l.prog) (w := w) (base := base) (g := ⟨K, clOf [0, C1, 0, 0, 0, 0, 0, 0, 0, 0, 0, 0, 0, 0, 0, 0, 0, 0, 0], [], none, A⟩) (k := 1) (T A) F10 ((h_c_is_integer A).mono (by decide))
  have F11 := fun_mk (st := s__law_note) l11 e11 k11
  have G11 := ok__law_note (P := l.prog) (w := w) (base := base) (g := ⟨K, clOf [0, C1, 0, 0, 0, 0, 0, 0, 0, 0, 0, 0, 0, 0, 0, 0, 0, 0, 0], [], none, []⟩) (k := 0) T F11 
  have h_cm__law_note : CalM l.prog w mg base ⟨K, clOf [0, C1, 0, 0, 0, 0, 0, 0, 0, 0, 0, 0, 0, 0, 0, 0, 0, 0, 0], [], none, []⟩ 1 "_law_note" 4 F__law_note := ⟨_, _, _, PySem.W.mg_of X G a11, k11, (F11.binds (ps := ["_law_spec", "_law_state", "_law_time", "_law_good"]) fun _ _ _ _ _ _ us hl => match us, hl with | [_, _, _, _], _ => rfl), G11⟩
  have F12 := fun_mk (st := s__law_send) l12 e12 k12
  have G12 := ok__law_send (P := l.prog) (w := w) (base := base) (g := ⟨K, clOf [0, C1, 0, 0, 0, 0, 0, 0, 0, 0, 0, 0, 0, 0, 0, 0, 0, 0, 0], [], none, []⟩) (k := 1) T F12 (h_cm__law_note.mono (by decide))
  have F13 := fun_mk (st := s_round_up) l13 e13 k13
  have G13 := fun A => ok_round_up (P := l.prog) (w := w) (base := base) (g := ⟨K, clOf [0, C1, 0, 0, 0, 0, 0, 0, 0, 0, 0, 0, 0, 0, 0, 0, 0, 0, 0], [], none, A⟩) (k := 0) (T A) F13 
  have h_c_round_up : ∀ A, Cal l.prog w mg base ⟨K, clOf [0, C1, 0, 0, 0, 0, 0, 0, 0, 0, 0, 0, 0, 0, 0, 0, 0, 0, 0], [], none, A⟩ 1 "round_up" 2 F_round_up := fun A => ⟨_, _, _, PySem.W.mg_of X G a13, k13, (F13.binds (ps := ["value", "unit"]) fun _ _ _ _ _ _ us hl => match us, hl with | [_, _], _ => rfl), (G13 A)⟩
  have F14 := fun_mk (st := s_periods) l14 e14 k14
  have G14 := fun A => ok_periods (P := l.prog) (w := w) (base := base) (g := ⟨K, clOf [0, C1, 0, 0, 0, 0, 0, 0, 0, 0, 0, 0, 0, 0, 0, 0, 0, 0, 0], [], none, A⟩) (k := 1) (T A) F14 ((h_c_round_up A).mono (by decide))
  have h_c_periods : ∀ A, Cal l.prog w mg base ⟨K, clOf [0, C1, 0, 0, 0, 0, 0, 0, 0, 0, 0, 0, 0, 0, 0, 0, 0, 0, 0], [], none, A⟩ 2 "periods" 1 F_periods := fun A => ⟨_, _, _, PySem.W.mg_of X G a14, k14, (F14.binds (ps := ["row"]) fun _ _ _ _ _ _ us hl => match us, hl with | [_], _ => rfl), (G14 A)⟩
  have F15 := fun_mk (st := s_row_period) l15 e15 k15
  have G15 := fun A => ok_row_period (P := l.prog) (w := w) (base := base) (g := ⟨K, clOf [0, C1, 0, 0, 0, 0, 0, 0, 0, 0, 0, 0, 0, 0, 0, 0, 0, 0, 0], [], none, A⟩) (k := 2) (T A) F15 ((h_c_periods A).mono (by decide))
  have h_c__law_cell_at : ∀ A, Cal l.prog w mg base ⟨K, clOf [0, C1, 0, 0, 0, 0, 0, 0, 0, 0, 0, 0, 0, 0, 0, 0, 0, 0, 0], [], none, A⟩ 1 "_law_cell_at" 2 F__law_cell_at := fun A => ⟨_, _, _, PySem.W.mg_of X G a0, k0, (F0.binds (ps := ["_law_script", "_law_k"]) fun _ _ _ _ _ _ us hl => match us, hl with | [_, _], _ => rfl), (G0 A)⟩
  have h_c__law_source_of : ∀ A, Cal l.prog w mg base ⟨K, clOf [0, C1, 0, 0, 0, 0, 0, 0, 0, 0, 0, 0, 0, 0, 0, 0, 0, 0, 0], [], none, A⟩ 1 "_law_source_of" 1 F__law_source_of := fun A => ⟨_, _, _, PySem.W.mg_of X G a1, k1, (F1.binds (ps := ["_law_cell"]) fun _ _ _ _ _ _ us hl => match us, hl with | [_], _ => rfl), (G1 A)⟩
  have h_c__law_specs : ∀ A, Cal l.prog w mg base ⟨K, clOf [0, C1, 0, 0, 0, 0, 0, 0, 0, 0, 0, 0, 0, 0, 0, 0, 0, 0, 0], [], none, A⟩ 3 "_law_specs" 4 F__law_specs := fun A => ⟨_, _, _, PySem.W.mg_of X G a4, k4, (F4.binds (ps := ["_law_source", "_law_most", "_law_wide", "_law_many"]) fun _ _ _ _ _ _ us hl => match us, hl with | [_, _, _, _], _ => rfl), (G4 A)⟩
  have h_ik_Row_2_phase : ∀ A, MkdK l.prog w mg base ⟨K, clOf [0, C1, 0, 0, 0, 0, 0, 0, 0, 0, 0, 0, 0, 0, 0, 0, 0, 0, 0], [], none, A⟩ 5 1 "Row" 2 ["phase"] [0, 1, 2] [] F_Row___init__ := fun A => mkdk_of (ms := []) F9 (by simp) (by simp) rfl (PySem.W.mg_of X G aC1) ⟨mk1, a9, i9, kc1⟩ rfl rfl (G9 A) (fun _ _ _ _ _ _ us mv ws h1 h2 h3 => match us, mv, ws, h1, h2, h3 with | [_, _, _], [], [_], _, _, _ => rfl)
  have h_c_request_time : ∀ A, Cal l.prog w mg base ⟨K, clOf [0, C1, 0, 0, 0, 0, 0, 0, 0, 0, 0, 0, 0, 0, 0, 0, 0, 0, 0], [], none, A⟩ 2 "request_time" 2 F_request_time := fun A => ⟨_, _, _, PySem.W.mg_of X G a10, k10, (F10.binds (ps := ["row", "number"]) fun _ _ _ _ _ _ us hl => match us, hl with | [_, _], _ => rfl), (G10 A)⟩
  have h_cm__law_send : CalM l.prog w mg base ⟨K, clOf [0, C1, 0, 0, 0, 0, 0, 0, 0, 0, 0, 0, 0, 0, 0, 0, 0, 0, 0], [], none, []⟩ 2 "_law_send" 4 F__law_send := ⟨_, _, _, PySem.W.mg_of X G a12, k12, (F12.binds (ps := ["_law_specs_here", "_law_states", "_law_time", "_law_upright"]) fun _ _ _ _ _ _ us hl => match us, hl with | [_, _, _, _], _ => rfl), G12⟩
  have h_c_row_period : ∀ A, Cal l.prog w mg base ⟨K, clOf [0, C1, 0, 0, 0, 0, 0, 0, 0, 0, 0, 0, 0, 0, 0, 0, 0, 0, 0], [], none, A⟩ 3 "row_period" 1 F_row_period := fun A => ⟨_, _, _, PySem.W.mg_of X G a15, k15, (F15.binds (ps := ["row"]) fun _ _ _ _ _ _ us hl => match us, hl with | [_], _ => rfl), (G15 A)⟩
  have h_ck_row_period_0_row : ∀ A, CalK l.prog w mg base ⟨K, clOf [0, C1, 0, 0, 0, 0, 0, 0, 0, 0, 0, 0, 0, 0, 0, 0, 0, 0, 0], [], none, A⟩ 3 "row_period" 0 ["row"] [0] F_row_period := fun A => calk_of F15 (PySem.W.mg_of X G a15) rfl (G15 A) (fun _ _ _ _ _ _ us ws h1 h2 => match us, ws, h1, h2 with | [], [_], _, _ => rfl)
  have h_ck_periods_0_row : ∀ A, CalK l.prog w mg base ⟨K, clOf [0, C1, 0, 0, 0, 0, 0, 0, 0, 0, 0, 0, 0, 0, 0, 0, 0, 0, 0], [], none, A⟩ 2 "periods" 0 ["row"] [0] F_periods := fun A => calk_of F14 (PySem.W.mg_of X G a14) rfl (G14 A) (fun _ _ _ _ _ _ us ws h1 h2 => match us, ws, h1, h2 with | [], [_], _, _ => rfl)
  exact spNM_of (ok_law (P := l.prog) (w := w) (base := base) (g := ⟨K, clOf [0, C1, 0, 0, 0, 0, 0, 0, 0, 0, 0, 0, 0, 0, 0, 0, 0, 0, 0], [], none, []⟩) (k := 5) T (fun_mk (st := s_law) l16 e16 k16) (fun A => ((h_c__law_cell_at A).mono (by decide))) (fun A => ((h_c__law_source_of A).mono (by decide))) (fun A => ((h_c__law_specs A).mono (by decide))) (fun A => ((h_c__law_next A).mono (by decide))) (fun A => ((h_ik_Row_2_phase A).mono (by decide))) (fun A => ((h_c_request_time A).mono (by decide))) (h_cm__law_send.mono (by decide)) (fun A => ((h_c_periods A).mono (by decide))) (fun A => ((h_c_row_period A).mono (by decide))) (fun A => ((h_ck_row_period_0_row A).mono (by decide))) (fun A => ((h_ck_periods_0_row A).mono (by decide))))
end L
namespace L
open PySem L2 DV
/-! ### great numbers -/
@[irreducible] def BB : Int := 2 ^ 3000
theorem BB_big : 10 ^ 600 < BB := by unfold BB; decide +kernel
theorem log_bb {a : Int} (h1 : -(1000 * BB) < a) (h2 : a < 1000 * BB) : a.natAbs.log2 < 4000 := by
  by_cases z : a.natAbs = 0
  · rw [z]; decide
  · rw [Nat.log2_lt z]
    have e : (1000 : Int) * BB < 2 ^ 4000 := by unfold BB; decide +kernel
    have : (a.natAbs : Int) < 2 ^ 4000 := by omega
    exact Int.ofNat_lt.mp (by simpa using this)
theorem mul_bb {a b : Int} (h1 : -(1000 * BB) < a) (h2 : a < 1000 * BB) (h3 : -(1000 * BB) < b) (h4 : b < 1000 * BB) : mulOk a b = true := by
  have := log_bb h1 h2
  have := log_bb h3 h4
  unfold mulOk
  rw [decide_eq_true (p := a.natAbs.log2 + b.natAbs.log2 < 1000000) (by omega)]
  simp only [Bool.or_true]
theorem div_bb {b : Int} (h1 : 0 < b) (h2 : b < 1000 * BB) : b.natAbs.log2 < 9000 := by
  have := log_bb (a := b) (by have := BB_big; omega) h2
  omega
/-! ### small reads -/
theorem i3_0 (x y z : D) : atI [x, y, z] 0 = some x := rfl
theorem i3_1 (x y z : D) : atI [x, y, z] 1 = some y := rfl
theorem i3_2 (x y z : D) : atI [x, y, z] 2 = some z := rfl
theorem is_int_i (i : Int) (b : Bool) : F_is_integer [some (.int i, b)] = some (.fz (.bl true), [some (.int i, b)]) := by
  cases b <;> simp [F_is_integer, DV.SC, DV.SE, DV.SX]

/-! ### the law's source -/
abbrev wl (a c k : Int) : D := .lst [.int a, .int c, .int k]
abbrev primes : List D := [.int 2147483647, .int 2147483629, .int 2147483587, .int 2147483579, .int 2147483563, .int 2147483549, .int 2147483543]
theorem prime_ok (k : Int) : ∃ p : Int, atI primes (k % 7) = some (.int p) ∧ 0 < p ∧ p < 2 ^ 31 := by
  have h0 := Int.emod_nonneg k (show (7 : Int) ≠ 0 by decide)
  have h1 := Int.emod_lt_of_pos k (show (0 : Int) < 7 by decide)
  generalize k % 7 = q at *
  obtain ⟨n, rfl⟩ : ∃ n : Nat, q = n := ⟨q.toNat, by omega⟩
  have hn : n = 0 ∨ n = 1 ∨ n = 2 ∨ n = 3 ∨ n = 4 ∨ n = 5 ∨ n = 6 := by omega
  rcases hn with rfl | rfl | rfl | rfl | rfl | rfl | rfl <;> exact ⟨_, rfl, by decide, by decide⟩
theorem jx0 : ixN 3 0 = some 0 := rfl
theorem jx2 : ixN 3 2 = some 2 := rfl
/-- a source in good order -/
structure Wl (c k : Int) (N : Nat) : Prop where
  c0 : 0 ≤ c
  c1 : c < 2147483647
  k0 : 0 ≤ k
  k1 : k + 120 * N < 2 ^ 40
theorem source_ok (cell : Int) : ∃ a c, F__law_source_of [some (.int cell, false)] = some (.nw (wl a c 0), [some (.int cell, false)]) ∧ 0 ≤ c ∧ c < 2147483647 := by
  have c0 := Int.emod_nonneg cell (show (2147483647 : Int) ≠ 0 by decide)
  have c1 := Int.emod_lt_of_pos cell (show (0 : Int) < 2147483647 by decide)
  by_cases h : 1000000000000000000 ≤ cell
  · have m : mulOk cell 1 = true := mulOk_r (by decide) (by decide)
    exact ⟨cell, cell % 2147483647, by simp [F__law_source_of, DV.SC, DV.SE, DV.SX, h, m, sizeLine], c0, c1⟩
  · have m : mulOk cell 0 = true := mulOk_r (by decide) (by decide)
    exact ⟨0, cell % 2147483647, by simp [F__law_source_of, DV.SC, DV.SE, DV.SX, h, m, sizeLine], c0, c1⟩
theorem cell_at_ok (ns : List Int) : ∃ c, F__law_cell_at [some (.scr ns, false), some (.int 0, false)] = some (.fz (.int c), [some (.scr ns, false), some (.int 0, false)]) := by
  cases ns with
  | nil => exact ⟨0, by simp [F__law_cell_at, DV.SC, DV.SE, DV.SX]⟩
  | cons n ns =>
    have i0 : atI (n :: ns) 0 = some n := atI_nat (j := 0) rfl
    refine ⟨n, ?_⟩
    simp [F__law_cell_at, DV.SC, DV.SE, DV.SX, i0]

theorem Wl.le {c k : Int} {N M : Nat} (w : Wl c k N) (h : M ≤ N) : Wl c k M := ⟨w.c0, w.c1, w.k0, by have := w.k1; omega⟩
/-! ### drawn numbers -/
theorem next_ok (a : Int) {c k m : Int} {N : Nat} (w : Wl c k (N + 1)) (m0 : 0 < m) (m1 : m ≤ 4 * BB) : ∃ r a' k', F__law_next [some (wl a c k, true), some (.int m, false)] = some (.fz (.int r), [some (wl a' c k', true), some (.int m, false)]) ∧ 0 ≤ r ∧ r < m ∧ Wl c k' N := by
  have bb := BB_big
  have lg := div_bb m0 (by omega)
  have w1 := w.k1
  have w0 := w.k0
  by_cases ha : 0 < a
  · refine ⟨a % m, a / m, k, ?_, Int.emod_nonneg _ (by omega), Int.emod_lt_of_pos _ m0, w.c0, w.c1, w.k0, by omega⟩
    simp [F__law_next, DV.SC, DV.SE, DV.SX, ha, i3_0, i3_1, i3_2, jx0, lg, m0]
  · obtain ⟨p, ep, p0, p1⟩ := prime_ok (k + 1)
    have c0 := w.c0
    have c1 := w.c1
    have b : (c + 7919 * (k + 1) + 1).natAbs < 2 ^ 64 := by omega
    have q1 : mulOk 7919 (k + 1) = true := mulOk_l (by decide) (by decide)
    generalize hx : (c + 7919 * (k + 1) + 1) = x at b
    have q3 : ∀ y z : Int, mulOk (y % p + (k + 1)) z = true := fun y z => mulOk_l (by have := Int.emod_nonneg y (show p ≠ 0 by omega); omega) (by have := Int.emod_lt_of_pos y p0; omega)
    have g1 : Nat.log2 1009 < 9000 := by decide +kernel
    have g2 : Nat.log2 7 < 9000 := by decide +kernel
    refine ⟨((x ^ 5 % p + (k + 1)) * (x ^ 5 % p / 1009 + 69621) % p / 7) % m, a, k + 1, ?_, Int.emod_nonneg _ (by omega), Int.emod_lt_of_pos _ m0, c0, c1, by omega, by omega⟩
    simp [F__law_next, DV.SC, DV.SE, DV.SX, ha, i3_0, i3_1, i3_2, jx2, ep, p0, m0, q1, hx, b, q3, g1, g2, sizeLine]
theorem one_ok (a : Int) {c k : Int} {N : Nat} (w : Wl c k (N + 1)) (ds : List D) (fl : Bool) (m0 : 0 < ds.length) (m1 : ds.length < 1000) : ∃ d a' k', F__law_one [some (wl a c k, true), some (.lst ds, fl)] = some (.fz d, [some (wl a' c k', true), some (.lst ds, fl)]) ∧ d ∈ ds ∧ Wl c k' N := by
  have bb := BB_big
  obtain ⟨r, a', k', e, r0, r1, w'⟩ := next_ok a w (m := ds.length) (by omega) (by omega)
  obtain ⟨j, rfl⟩ : ∃ j : Nat, r = j := ⟨r.toNat, by omega⟩
  have hj : j < ds.length := by omega
  refine ⟨ds[j], a', k', ?_, List.getElem_mem hj, w'⟩
  have i1 : atI ds (j : Int) = some ds[j] := atI_nat (List.getElem?_eq_getElem hj)
  cases fl <;> simp [F__law_one, DV.SC, DV.SE, DV.SX, e, i1]
/-- a drawn number, below one of some bounds -/
theorem pick1_ok (a : Int) {c k : Int} {N : Nat} (w : Wl c k (N + 2)) (bs : List Int) (M : Int) (l0 : 0 < bs.length) (l1 : bs.length < 1000) (hb : ∀ b ∈ bs, 0 < b ∧ b ≤ M) (hM : M ≤ 4 * BB) :
    ∃ d r a1 k1 a2 k2, F__law_one [some (wl a c k, true), some (.lst (bs.map D.int), true)] = some (.fz (.int d), [some (wl a1 c k1, true), some (.lst (bs.map D.int), true)]) ∧ F__law_next [some (wl a1 c k1, true), some (.int d, false)] = some (.fz (.int r), [some (wl a2 c k2, true), some (.int d, false)]) ∧ 0 ≤ r ∧ r < M ∧ Wl c k2 N := by
  obtain ⟨d, a1, k1, e1, m1, w1⟩ := one_ok a w (bs.map D.int) true (by simpa using l0) (by simpa using l1)
  obtain ⟨b, mb, rfl⟩ := List.mem_map.mp m1
  obtain ⟨b0, b1⟩ := hb b mb
  obtain ⟨r, a2, k2, e2, r0, r1, w2⟩ := next_ok a1 w1 b0 (by omega)
  exact ⟨b, r, a1, k1, a2, k2, e1, e2, r0, by omega, w2⟩

/-! ### rows, as data -/
structure Sp where
  f : Int
  w : Int
  c : Int
abbrev sD (s : Sp) : D := .tup [.int s.f, .int s.w, .int s.c]
abbrev spD (r : List Sp) : D := .lst (r.map sD)
abbrev RO (r : List Sp) (p h : Int) : D := .obj 1 ["specs", "pace", "shift"] [spD r, .int p, .int h]
structure okS (s : Sp) : Prop where
  f0 : 1 ≤ s.f
  f1 : s.f ≤ 1000000000000
  w0 : 1 ≤ s.w
  w1 : s.w ≤ 1000000000000000000000000000000
  c0 : 1 ≤ s.c
  c1 : s.c ≤ 1000000000000
theorem between_ok (v lo hi : Int) : F_is_between [some (.int v, false), some (.int lo, false), some (.int hi, false)] = some (.fz (.bl (decide (lo ≤ v ∧ v ≤ hi))), [some (.int v, false), some (.int lo, false), some (.int hi, false)]) := by
  by_cases h1 : lo ≤ v
  · by_cases h2 : v ≤ hi
    · simp [F_is_between, DV.SC, DV.SE, DV.SX, is_int_i, h1, h2]
    · simp [F_is_between, DV.SC, DV.SE, DV.SX, is_int_i, h1, h2]
  · simp [F_is_between, DV.SC, DV.SE, DV.SX, is_int_i, h1]
theorem breaker_ok {s : Sp} (h : okS s) : F_is_breaker [some (sD s, false)] = some (.fz (.bl true), [some (sD s, false)]) := by
  obtain ⟨f, w, c⟩ := s
  obtain ⟨f0, f1, w0, w1, c0, c1⟩ := h
  simp only at f0 f1 w0 w1 c0 c1
  have e1 := between_ok f 1 1000000000000
  have e2 := between_ok w 1 1000000000000000000000000000000
  have e3 := between_ok c 1 1000000000000
  rw [decide_eq_true ⟨f0, f1⟩] at e1
  rw [decide_eq_true ⟨w0, w1⟩] at e2
  rw [decide_eq_true ⟨c0, c1⟩] at e3
  simp [F_is_breaker, DV.SC, DV.SE, DV.SX, i3_0, i3_1, i3_2, e1, e2, e3]
theorem chk_loop (pn : List Nat) (R : D) : ∀ (r : List Sp) (n : Nat) (x1 x2 : Sl), (∀ s ∈ r, okS s) → ∃ y1 y2, forLoop (.tp [.nm 1, .nm 2]) (exs [F_is_breaker] pn B_check_breakers_1) (enumD n (r.map sD)) [some (R, false), x1, x2] = some (.nx [some (R, false), y1, y2])
  | [], n, x1, x2, _ => ⟨x1, x2, by simp [enumD, forLoop]⟩
  | s :: r, n, x1, x2, h => by
    obtain ⟨y1, y2, ih⟩ := chk_loop pn R r (n + 1) (some (.int (n : Int), false)) (some (sD s, false)) fun u m => h u (List.mem_cons_of_mem _ m)
    refine ⟨y1, y2, ?_⟩
    rw [List.map_cons, enumD, ← ih]
    have b := breaker_ok (h s List.mem_cons_self)
    refine forLoop_step (Γ1 := [some (R, false), some (.int (n : Int), false), some (sD s, false)]) (by simp [DV.SC, DV.SE, DV.SX]) ?_
    generalize sD s = S at *
    simp [B_check_breakers_1, DV.SC, DV.SE, DV.SX, b]

theorem check_breakers_ok {r : List Sp} (h : ∀ s ∈ r, okS s) (hl : r.length ≤ 12) (fl : Bool) : F_check_breakers [some (spD r, fl)] = some (.fz .non, [some (spD r, false)]) := by
  have hl2 : ¬ (12 : Int) < (r.length : Int) := by omega
  obtain ⟨y1, y2, e⟩ := chk_loop [] (spD r) r 0 none none h
  refine runF_pn (pn := []) (o := .nx [some (spD r, false), y1, y2]) rfl (by cases fl <;> rfl) (?_ : exs _ [] _ [some (spD r, fl), none, none] = _) (by cases fl <;> rfl)
  refine (exs_nx (Γ1 := [some (spD r, fl), none, none]) (by cases fl <;> simp [DV.SC, DV.SE, DV.SX, hl2])).trans ?_
  exact (exs_nx (ex_for (Γ2 := [some (spD r, false), none, none]) (ds := enumD 0 (r.map sD)) (by cases fl <;> simp [DV.SC, DV.SE, DV.SX]) (by simp [DV.SC, DV.SE, DV.SX]) e)).trans (by simp only [DV.exs.eq_1])
structure okR (r : List Sp) (p h : Int) : Prop where
  sp : ∀ s ∈ r, okS s
  len : r.length ≤ 12
  p0 : 1 ≤ p
  p1 : p ≤ 1000000000000000000000000000000
  h0 : 0 ≤ h
  h1 : h ≤ 1000000000000000000000000000000
theorem nm_1 : ¬ (("specs" : Str) = ("pace" : Str)) := by decide +kernel
theorem nm_2 : ¬ (("specs" : Str) = ("shift" : Str)) := by decide +kernel
theorem nm_3 : ¬ (("pace" : Str) = ("shift" : Str)) := by decide +kernel
theorem nm_4 : ¬ (("pace" : Str) = ("specs" : Str)) := by decide +kernel
theorem nm_5 : ¬ (("shift" : Str) = ("specs" : Str)) := by decide +kernel
theorem nm_6 : ¬ (("shift" : Str) = ("pace" : Str)) := by decide +kernel
theorem row_ok {r : List Sp} {p h : Int} (k : okR r p h) (fl : Bool) : F_Row___init__ [some (.obj 1 [] [], true), some (spD r, fl), some (.int p, false), some (.int h, false)] = some (.fz .non, [some (RO r p h, true), some (spD r, false), some (.int p, false), some (.int h, false)]) := by
  have e1 := check_breakers_ok k.sp k.len fl
  have e2 := between_ok p 1 1000000000000000000000000000000
  have e3 := between_ok h 0 1000000000000000000000000000000
  rw [decide_eq_true ⟨k.p0, k.p1⟩] at e2
  rw [decide_eq_true ⟨k.h0, k.h1⟩] at e3
  cases fl <;> simp [F_Row___init__, DV.SC, DV.SE, DV.SX, e1, e2, e3, nm_1, nm_2, nm_3]
theorem fld_specs (r : List Sp) (p h : Int) : fldD [1] (RO r p h) "specs" = some (spD r) := by simp [DV.SC, DV.SE, DV.SX]
theorem fld_pace (r : List Sp) (p h : Int) : fldD [1] (RO r p h) "pace" = some (.int p) := by simp [DV.SC, DV.SE, DV.SX, nm_4]
theorem fld_shift (r : List Sp) (p h : Int) : fldD [1] (RO r p h) "shift" = some (.int h) := by simp [DV.SC, DV.SE, DV.SX, nm_5, nm_6]

/-! ### periods -/
def ru (w p : Int) : Int := (w + p - 1) / p * p
theorem ru_spec {w p : Int} (hw : 1 ≤ w) (hp : 1 ≤ p) : w ≤ ru w p ∧ ru w p < w + p ∧ p ∣ ru w p ∧ p ≤ ru w p := by
  unfold ru
  have e := Int.mul_ediv_add_emod (w + p - 1) p
  have e0 := Int.emod_nonneg (w + p - 1) (show p ≠ 0 by omega)
  have e1 := Int.emod_lt_of_pos (w + p - 1) (show 0 < p by omega)
  have c := Int.mul_comm p ((w + p - 1) / p)
  have q : 1 ≤ (w + p - 1) / p := by rw [Int.le_ediv_iff_mul_le (by omega)]; omega
  have := Int.mul_le_mul_of_nonneg_right q (show 0 ≤ p by omega)
  exact ⟨by omega, by omega, ⟨_, c.symm⟩, by omega⟩
theorem ru_uniq {w p x : Int} (hw : 1 ≤ w) (hp : 1 ≤ p) (h1 : w ≤ x) (h2 : x < w + p) (h3 : p ∣ x) : ru w p = x := by
  obtain ⟨q1, q2, ⟨a, ha⟩, _⟩ := ru_spec hw hp
  obtain ⟨b, hb⟩ := h3
  rw [ha] at q1 q2 ⊢
  rw [hb] at h1 h2 ⊢
  have l1 : a < b + 1 := Int.lt_of_mul_lt_mul_left (a := p) (by rw [Int.mul_add, Int.mul_one]; omega) (by omega)
  have l2 : b < a + 1 := Int.lt_of_mul_lt_mul_left (a := p) (by rw [Int.mul_add, Int.mul_one]; omega) (by omega)
  rw [show a = b by omega]
theorem round_up_ok {w p : Int} (h0 : 0 < p) (h1 : p < 500 * BB) (w0 : -(400 * BB) < w) (w1 : w < 400 * BB) : F_round_up [some (.int w, false), some (.int p, false)] = some (.fz (.int (ru w p)), [some (.int w, false), some (.int p, false)]) := by
  have bb := BB_big
  have d := div_bb h0 (by omega)
  have q1 : (w + p - 1) / p ≤ 900 * BB := by
    have : (w + p - 1) / p < 900 * BB + 1 := by
      rw [Int.ediv_lt_iff_lt_mul h0]
      have := Int.mul_le_mul_of_nonneg_left (show 1 ≤ p by omega) (show 0 ≤ 900 * BB + 1 by omega)
      omega
    omega
  have q0 : -(500 * BB) ≤ (w + p - 1) / p := by
    rw [Int.le_ediv_iff_mul_le h0]
    have := Int.mul_le_mul_of_nonneg_left (show 1 ≤ p by omega) (show 0 ≤ 500 * BB by omega)
    have e : -(500 * BB) * p = -(500 * BB * p) := Int.neg_mul _ _
    omega
  have m : mulOk ((w + p - 1) / p) p = true := mul_bb (by omega) (by omega) (by omega) (by omega)
  simp [F_round_up, DV.SC, DV.SE, DV.SX, h0, d, m, ru]

def perL : Int → List Sp → List Int
  | p, [] => [p]
  | p, s :: r => p :: perL (ru s.w p) r
theorem perL_len : ∀ (p : Int) (r : List Sp), (perL p r).length = r.length + 1
  | p, [] => rfl
  | p, s :: r => by rw [perL, List.length_cons, perL_len, List.length_cons]
theorem per_loop (O : D) (fl : Bool) (pn : List Nat) : ∀ (r : List Sp) (acc : List Int) (p M : Int) (x2 x3 x4 : Sl), (∀ s ∈ r, okS s) → 1 ≤ p → p + 1000000000000000000000000000000 * r.length ≤ M → M < 100 * BB → acc.length + r.length ≤ 1000 →
    ∃ y2 y3 y4, forLoop (.tp [.nm 2, .nm 3, .nm 4]) (exs [F_round_up] pn B_periods_1) (r.map sD) [some (O, fl), some (.lst ((acc ++ [p]).map D.int), true), x2, x3, x4] = some (.nx [some (O, fl), some (.lst ((acc ++ perL p r).map D.int), true), y2, y3, y4])
  | [], acc, p, M, x2, x3, x4, _, _, _, _, _ => ⟨x2, x3, x4, by simp [forLoop, perL]⟩
  | s :: r, acc, p, M, x2, x3, x4, h, hp, hM, hB, hl => by
    have bb := BB_big
    have os := h s List.mem_cons_self
    have w0 := os.w0
    have w1 := os.w1
    obtain ⟨q1, q2, q3, q4⟩ := ru_spec w0 hp
    rw [List.length_cons] at hM hl
    have hM' : p + 1000000000000000000000000000000 * (r.length : Int) + 1000000000000000000000000000000 ≤ M := by
      have : ((r.length + 1 : Nat) : Int) = (r.length : Int) + 1 := by omega
      rw [this] at hM
      omega
    obtain ⟨y2, y3, y4, ih⟩ := per_loop O fl pn r (acc ++ [p]) (ru s.w p) M (some (.int s.f, false)) (some (.int s.w, false)) (some (.int s.c, false)) (fun u m => h u (List.mem_cons_of_mem _ m)) (by omega) (by omega) hB (by simp; omega)
    refine ⟨y2, y3, y4, ?_⟩
    rw [List.map_cons, perL, show acc ++ p :: perL (ru s.w p) r = (acc ++ [p]) ++ perL (ru s.w p) r by simp, ← ih]
    have e := round_up_ok (w := s.w) (p := p) (by omega) (by omega) (by omega) (by omega)
    have ia := atI_last (acc.map D.int) (.int p)
    have hz : acc.length + 1 < 16777216 := by omega
    refine forLoop_step (Γ1 := [some (O, fl), some (.lst ((acc ++ [p]).map D.int), true), some (.int s.f, false), some (.int s.w, false), some (.int s.c, false)]) (by simp [DV.SC, DV.SE, DV.SX]) ?_
    have em : (acc ++ [p]).map D.int = acc.map D.int ++ [.int p] := by simp
    have em2 : ((acc ++ [p]) ++ [ru s.w p]).map D.int = (acc.map D.int ++ [.int p]) ++ [.int (ru s.w p)] := by simp
    rw [em, em2]
    have hz2 : (acc.map D.int).length + 1 < 16777216 := by simpa using hz
    generalize acc.map D.int = AD at *
    simp [B_periods_1, DV.SC, DV.SE, DV.SX, ia, e, hz2, sizeLine]
theorem periods_ok {r : List Sp} {p h : Int} (k : okR r p h) (fl : Bool) : F_periods [some (RO r p h, fl)] = some (.nw (.lst ((perL p r).map D.int)), [some (RO r p h, fl)]) := by
  have bb := BB_big
  have kl := k.len
  have p1 := k.p1
  obtain ⟨y2, y3, y4, e⟩ := per_loop (RO r p h) fl [] r [] p (20 * 1000000000000000000000000000000) none none none k.sp k.p0 (by omega) (by omega) (by simp; omega)
  refine runF_pn (pn := []) (o := .rt (.sl 1) [some (RO r p h, fl), some (.lst ((perL p r).map D.int), true), y2, y3, y4]) rfl (by cases fl <;> rfl) (?_ : exs _ [] _ [some (RO r p h, fl), none, none, none, none] = _) (by cases fl <;> rfl)
  have f1 := fld_pace r p h
  have f2 := fld_specs r p h
  simp only [List.nil_append, List.map_cons, List.map_nil] at e
  generalize hO : RO r p h = O at *
  refine (exs_nx (Γ1 := [some (O, fl), some (.lst [.int p], true), none, none, none]) (by simp [DV.SC, DV.SE, DV.SX, f1, sizeLine])).trans ?_
  refine (exs_nx (ex_for (Γ2 := [some (O, fl), some (.lst [.int p], true), none, none, none]) (ds := r.map sD) (by simp [DV.SC, DV.SE, DV.SX, f2]) (by simp [DV.SC, DV.SE, DV.SX]) e)).trans ?_
  simp [DV.SC, DV.SE, DV.SX]

/-! ### comprehensions over pairs -/
theorem comp_pairs (fs : List FS) (u v : Nat) (ik : IK) (its : List DV.E) (elt : DV.E) (ps : List (D × D)) (f : D → D → D) (Γ0 Γ : Ct) (e1 : (evs fs its Γ0).bind (fun p => iterD ik p.1 p.2) = some (ps.map (fun p => .tup [p.1, p.2]), Γ)) (hu : Γ[u]? = some none) (hv : Γ[v]? = some none) (huv : u ≠ v) (hl : ps.length ≤ 16777216)
    (he : ∀ p ∈ ps, ev fs elt ((Γ.set u (some (p.1, false))).set v (some (p.2, false))) = some (.fz (f p.1 p.2), (Γ.set u (some (p.1, false))).set v (some (p.2, false)))) : ev fs (.comp [u, v] (.tp [.nm u, .nm v]) ik its [] elt) Γ0 = some (.nw (.lst (ps.map fun p => f p.1 p.2)), Γ) := by
  have hul : u < Γ.length := (List.getElem?_eq_some_iff.mp hu).1
  have hvl : v < Γ.length := (List.getElem?_eq_some_iff.mp hv).1
  have sn : ∀ {i : Nat}, Γ[i]? = some none → Γ.set i none = Γ := by
    intro i hi
    apply List.ext_getElem?
    intro j
    by_cases q : i = j
    · subst q; rw [List.getElem?_set_self (List.getElem?_eq_some_iff.mp hi).1, hi]
    · rw [List.getElem?_set_ne q]
  have hct : ∀ G, evc fs [] G = some (true, G) := fun _ => by simp only [evc]
  have wp : ∀ p : D × D, wipeG ((Γ.set u (some (p.1, false))).set v (some (p.2, false))) [u, v] = Γ := by
    intro p
    simp only [wipeG]
    rw [List.set_set, List.set_comm _ _ huv, List.set_set, sn hv, sn hu]
  have pl : ∀ p : D × D, plainIx ((Γ.set u (some (p.1, false))).set v (some (p.2, false))) [u, v] = true := by
    intro p
    have g1 : ((Γ.set u (some (p.1, false))).set v (some (p.2, false)))[u]? = some (some (p.1, false)) := by
      rw [List.getElem?_set_ne (show v ≠ u from fun z => huv z.symm), List.getElem?_set_self hul]
    have g2 : ((Γ.set u (some (p.1, false))).set v (some (p.2, false)))[v]? = some (some (p.2, false)) := List.getElem?_set_self (by rw [List.length_set]; exact hvl)
    simp only [plainIx, List.all_cons, List.all_nil, g1, g2, Bool.and_self]
  have key : ∀ (ps : List (D × D)) (acc : List D), (∀ p ∈ ps, ev fs elt ((Γ.set u (some (p.1, false))).set v (some (p.2, false))) = some (.fz (f p.1 p.2), (Γ.set u (some (p.1, false))).set v (some (p.2, false)))) → compLoop [u, v] (.tp [.nm u, .nm v]) (evc fs []) (ev fs elt) (ps.map fun p => .tup [p.1, p.2]) acc Γ = some (acc ++ ps.map (fun p => f p.1 p.2), Γ) := by
    intro ps
    induction ps with
    | nil => intro acc _; simp [compLoop]
    | cons p ps ih =>
      intro acc h
      have q := h p List.mem_cons_self
      have a1 : asgT (.tp [.nm u, .nm v]) (.tup [p.1, p.2]) Γ = some ((Γ.set u (some (p.1, false))).set v (some (p.2, false))) := by
        simp [asgT, asgT.asgTs, hul, hvl]
      rw [List.map_cons]
      simp only [compLoop, a1, Option.bind_some, hct, if_true, q, fre]
      rw [if_pos (pl p), wp p, ih _ fun p' m => h p' (List.mem_cons_of_mem _ m)]
      simp
  obtain ⟨⟨xs, Γ1⟩, a1, a2⟩ := Option.bind_eq_some_iff.mp e1
  have pl0 : plainIx Γ [u, v] = true := by simp [plainIx, hu, hv]
  have wp0 : wipeG Γ [u, v] = Γ := by simp only [wipeG]; rw [sn hv, sn hu]
  have rg : restG Γ Γ [u, v] = Γ := by
    simp only [restG, List.getD_eq_getElem?_getD, hv, hu, Option.getD_some]
    rw [sn hv, sn hu]
  rw [DV.ev.eq_18]
  simp only [a1, Option.bind_some, a2]
  rw [if_pos (by simp [pl0, tgIx, tgIx.tgIxs, sizeLine, hl]), wp0, key ps [] he]
  simp only [Option.map_some, rg, List.nil_append]
theorem zipD_eq : ∀ (as bs : List D), zipD as bs = (as.zip bs).map fun p => .tup [p.1, p.2]
  | [], bs => by cases bs <;> rfl
  | a :: as, [] => rfl
  | a :: as, b :: bs => by rw [zipD, zipD_eq as bs]; rfl
theorem cut_from (xs : List D) (k : Nat) : cutD xs (some (k : Int)) none = xs.drop k := by
  unfold cutD
  rw [HT.sIx_none, HT.sIx_nat]
  by_cases h : k ≤ xs.length
  · rw [Nat.min_eq_left h, List.take_of_length_le (by rw [List.length_drop]; omega)]
  · rw [Nat.min_eq_right (by omega), List.drop_of_length_le (Nat.le_refl _), List.drop_of_length_le (by omega)]
    simp
/-! ### what is told of a row -/

/-! ### the period of a row, as data -/
def perE : Int → List Sp → Int
  | p, [] => p
  | p, s :: r => perE (ru s.w p) r
theorem perL_head (p : Int) (r : List Sp) : ∃ t, perL p r = p :: t := by cases r <;> exact ⟨_, rfl⟩
theorem perL_get : ∀ (l t : List Sp) (p : Int), (perL p (l ++ t))[l.length]? = some (perE p l)
  | [], t, p => by obtain ⟨u, e⟩ := perL_head p t; simp [e, perE]
  | s :: l, t, p => by
    rw [List.cons_append, perL, List.length_cons, List.getElem?_cons_succ, perE]
    exact perL_get l t (ru s.w p)
theorem perL_last (p : Int) (r : List Sp) : (perL p r).getLast? = some (perE p r) := by
  have h := perL_get r [] p
  rw [List.append_nil] at h
  rw [List.getLast?_eq_getElem?, perL_len]
  exact h
theorem row_period_ok {r : List Sp} {p h : Int} (k : okR r p h) (fl : Bool) : F_row_period [some (RO r p h, fl)] = some (.fz (.int (perE p r)), [some (RO r p h, fl)]) := by
  have e1 := periods_ok k fl
  have la := perL_last p r
  obtain ⟨l, el⟩ := List.getLast?_eq_some_iff.mp la
  have em : (perL p r).map D.int = l.map D.int ++ [.int (perE p r)] := by rw [el]; simp
  rw [em] at e1
  have ia := atI_last (l.map D.int) (.int (perE p r))
  generalize RO r p h = O at *
  cases fl <;> simp [F_row_period, DV.SC, DV.SE, DV.SX, e1, ia]

/-! ### drawn breakers -/
abbrev spG (W : D) (most wide many : Int) (F : List Sp) (x5 x6 x7 : Sl) : Ct := [some (W, true), some (.int most, false), some (.int wide, false), some (.int many, false), some (spD F, true), x5, x6, x7]
theorem specs_body (a : Int) {c k : Int} {N : Nat} (w : Wl c k (N + 6)) (most wide many : Int) (w0 : 0 < wide) (w1 : wide ≤ 1000000000000000000000000000000) (m0 : 0 < many) (m1 : many ≤ 1000000000000) (F : List Sp) (hl : F.length < 1000) (x5 x6 x7 : Sl) :
    ∃ s a' k' y6 y7, exs [F__law_next, F__law_one] [0] B__law_specs_1 (spG (wl a c k) most wide many F x5 x6 x7) = some (.nx (spG (wl a' c k') most wide many (F ++ [s]) x5 y6 y7)) ∧ Wl c k' N ∧ okS s ∧ s.w ≤ max 3 wide ∧ s.f ≤ max 2 many ∧ s.c ≤ max 2 many := by
  have bb := BB_big
  obtain ⟨d1, r1, a1, k1, a2, k2, e1, e2, p0, p1, v1⟩ := pick1_ok a (N := N + 4) (by exact w) [3, wide] (max 3 wide) (by simp) (by simp) (by simp; omega) (by omega)
  obtain ⟨d2, r2, a3, k3, a4, k4, e3, e4, p2, p3, v2⟩ := pick1_ok a2 (N := N + 2) (by exact v1) [2, many] (max 2 many) (by simp) (by simp) (by simp; omega) (by omega)
  obtain ⟨d3, r3, a5, k5, a6, k6, e5, e6, p4, p5, v3⟩ := pick1_ok a4 (N := N) (by exact v2) [2, many] (max 2 many) (by simp) (by simp) (by simp; omega) (by omega)
  simp only [List.map_cons, List.map_nil] at e1 e3 e5
  refine ⟨⟨1 + r2, 1 + r1, 1 + r3⟩, a6, k6, some (.int (1 + r1), false), some (.int (1 + r2), false), ?_, v3, ⟨by simp only; omega, by simp only; omega, by simp only; omega, by simp only; omega, by simp only; omega, by simp only; omega⟩, by simp only; omega, by simp only; omega, by simp only; omega⟩
  have el : spD (F ++ [⟨1 + r2, 1 + r1, 1 + r3⟩]) = .lst (F.map sD ++ [.tup [.int (1 + r2), .int (1 + r1), .int (1 + r3)]]) := by simp [spD, sD]
  have hz : F.length < 16777216 := by omega
  simp only [spG]
  rw [el]
  simp [B__law_specs_1, DV.SC, DV.SE, DV.SX, e1, e2, e3, e4, e5, e6, sizeLine, hz]
theorem specs_loop {c : Int} (most wide many : Int) (w0 : 0 < wide) (w1 : wide ≤ 1000000000000000000000000000000) (m0 : 0 < many) (m1 : many ≤ 1000000000000) : ∀ (n : Nat) (lo a k : Int) (N : Nat) (F : List Sp) (x5 x6 x7 : Sl), Wl c k (N + 6 * n) → F.length + n ≤ 900 → (∀ s ∈ F, okS s ∧ s.w ≤ max 3 wide ∧ s.f ≤ max 2 many ∧ s.c ≤ max 2 many) →
    ∃ F' a' k' y5 y6 y7, forLoop (.nm 5) (exs [F__law_next, F__law_one] [0] B__law_specs_1) (rngD lo 1 n) (spG (wl a c k) most wide many F x5 x6 x7) = some (.nx (spG (wl a' c k') most wide many F' y5 y6 y7)) ∧ Wl c k' N ∧ F'.length = F.length + n ∧ (∀ s ∈ F', okS s ∧ s.w ≤ max 3 wide ∧ s.f ≤ max 2 many ∧ s.c ≤ max 2 many)
  | 0, lo, a, k, N, F, x5, x6, x7, w, _, h => ⟨F, a, k, x5, x6, x7, by simp [rngD, forLoop], w, by simp, h⟩
  | n + 1, lo, a, k, N, F, x5, x6, x7, w, hl, h => by
    obtain ⟨s, a1, k1, y6, y7, e1, v1, o1⟩ := specs_body a (N := N + 6 * n) (by exact (show N + 6 * (n + 1) = N + 6 * n + 6 by omega) ▸ w) most wide many w0 w1 m0 m1 F (by omega) (some (.int lo, false)) x6 x7
    obtain ⟨F', a2, k2, z5, z6, z7, e2, v2, l2, h2⟩ := specs_loop most wide many w0 w1 m0 m1 n (lo + 1) a1 k1 N (F ++ [s]) (some (.int lo, false)) y6 y7 v1 (by simp; omega) (fun u m => by
      rcases List.mem_append.mp m with m | m
      · exact h u m
      · simp at m; subst m; exact o1)
    refine ⟨F', a2, k2, z5, z6, z7, ?_, v2, by rw [l2]; simp; omega, h2⟩
    rw [rngD, ← e2]
    exact forLoop_step (Γ1 := spG (wl a c k) most wide many F (some (.int lo, false)) x6 x7) (by simp [DV.SC, DV.SE, DV.SX]) e1
theorem specs_ok (a : Int) {c k : Int} {N : Nat} (most : Nat) (wide many : Int) (w : Wl c k (N + 6 * most + 1)) (w0 : 0 < wide) (w1 : wide ≤ 1000000000000000000000000000000) (m0 : 0 < many) (m1 : many ≤ 1000000000000) (hm : most ≤ 100) :
    ∃ r a' k', F__law_specs [some (wl a c k, true), some (.int (most : Int), false), some (.int wide, false), some (.int many, false)] = some (.nw (spD r), [some (wl a' c k', true), some (.int (most : Int), false), some (.int wide, false), some (.int many, false)]) ∧ Wl c k' N ∧ r.length ≤ most ∧ (∀ s ∈ r, okS s ∧ s.w ≤ max 3 wide ∧ s.f ≤ max 2 many ∧ s.c ≤ max 2 many) := by
  have bb := BB_big
  obtain ⟨q, a1, k1, e1, q0, q1, v1⟩ := next_ok a (N := N + 6 * most) w (m := (most : Int) + 1) (by omega) (by omega)
  obtain ⟨n, rfl⟩ : ∃ n : Nat, q = n := ⟨q.toNat, by omega⟩
  obtain ⟨F, a2, k2, y5, y6, y7, e2, v2, l2, h2⟩ := specs_loop (most : Int) wide many w0 w1 m0 m1 n 0 a1 k1 N [] none none none (v1.le (by omega)) (by simp; omega) (fun _ m => nomatch m)
  have hn := fun Γ => rngN1 Γ n (by omega)
  refine ⟨F, a2, k2, ?_, v2, by simp at l2; omega, h2⟩
  refine runF_by (o := .rt (.sl 4) (spG (wl a2 c k2) most wide many F y5 y6 y7)) rfl (?_ : exs _ [0] _ [some (wl a c k, true), some (.int (most : Int), false), some (.int wide, false), some (.int many, false), none, none, none, none] = _) rfl
  refine (exs_nx (Γ1 := spG (wl a c k) most wide many [] none none none) (by simp [DV.SC, DV.SE, DV.SX, sizeLine])).trans ?_
  refine (exs_nx (ex_for (Γ2 := spG (wl a1 c k1) most wide many [] none none none) (ds := rngD 0 1 n) (by simp [DV.SC, DV.SE, DV.SX, e1, hn]) rfl e2)).trans (by simp [DV.SC, DV.SE, DV.SX])

/-! ### the store, in general -/
theorem evXs_c {fs : List FS} {ms : List FM} {x : XE} {xs : List XE} {Γ Γ1 Γ2 Γ3 : Ct} {M M1 M2 : List D} {r : RV} {d : D} {ds : List D} (h : evX fs ms x Γ M = some (r, Γ1, M1)) (hf : fre Γ1 r = some (d, Γ2)) (hr : evXs fs ms xs Γ2 M1 = some (ds, Γ3, M2)) : evXs fs ms (x :: xs) Γ M = some (d :: ds, Γ3, M2) := by
  simp only [evXs, h, Option.bind_some, hf, hr, Option.map_some]
theorem evXs_n {fs : List FS} {ms : List FM} {Γ : Ct} {M : List D} : evXs fs ms [] Γ M = some ([], Γ, M) := by simp only [evXs]
theorem look1 {M : List D} {Γ : Ct} {i n : Nat} {d : D} (h : (DV.flat Γ)[i]? = some (some (d, false))) : lookG M [(i, n, false)] Γ = (DV.flat Γ).set i (some (snap M n d, false)) := by
  simp [lookG, snapG, h, snapT]
section
variable {fs : List FS} {ms : List FM} {Γ Γ1 Γ2 : Ct} {M M1 M2 : List D} {i s k n : Nat} {L L' ds : List D} {tg : Tg} {en : Bool} {body : Ct → List D → Option (Out × List D)}
theorem evX_callM {c : Nat} {xs : List XE} {es : List D} {F : FM} {r : RV} (h4 : evXs fs ms xs Γ M = some (es, Γ1, M1)) (h5 : ms[c]? = some F) (h6 : F (plG es) M1 = some (r, M2)) (h7 : noSl r = true) : evX fs ms (.callM c xs) Γ M = some (r, Γ1, M2) := by
  simp only [evX, h4, Option.bind_some, h5, h6, h7, if_true]
theorem evX_alc' {x : XE} {d : D} (h : evX fs ms x Γ M = some (.nw d, Γ1, M1)) : evX fs ms (.alc x) Γ M = some (.fz (.ref M1.length), Γ1, M1 ++ [d]) := by
  simp only [evX, h, Option.bind_some]
theorem exM_asg {x : XE} {r : RV} {d : D} {Γ3 : Ct} (h1 : evX fs ms x Γ M = some (r, Γ1, M1)) (h2 : fre Γ1 r = some (d, Γ2)) (h3 : asgT tg d Γ2 = some Γ3) : exM fs ms (.asg tg x) Γ M = some (.nx Γ3, M1) := by
  simp only [exM, h1, Option.bind_some, h2, h3, Option.map_some]
theorem exM_expr {x : XE} {r : RV} (h1 : evX fs ms x Γ M = some (r, Γ1, M1)) : exM fs ms (.expr x) Γ M = some (.nx Γ1, M1) := by
  simp only [exM, h1, Option.map_some]
theorem exM_asgN {x : XE} {d : D} (h1 : evX fs ms x Γ M = some (.nw d, Γ1, M1)) (hi : i < Γ1.length) : exM fs ms (.asgO i x) Γ M = some (.nx (Γ1.set i (some (d, true))), M1) := by
  simp only [exM, h1, Option.bind_some, hi, if_true]
theorem exM_iteT {c : XE} {a b : List MS} {x : RV} {o : Out × List D} (h1 : evX fs ms c Γ M = some (x, Γ1, M1)) (h2 : testD Γ1 x = some true) (h3 : exMs fs ms a Γ1 M1 = some o) : exM fs ms (.ite c a b) Γ M = some o := exM_ite h1 h2 (by simpa using h3)
end
section
variable {fs : List FS} {ms : List FM} {Γ Γ1 Γ2 Γ3 : Ct} {M M1 M2 : List D}
end
theorem compLoopX_step {own : List Nat} {tg : Tg} {el : Ct → List D → Option (RV × Ct × List D)} {d e : D} {ds acc : List D} {Γ Γ1 Γ2 Γ3 Γ4 : Ct} {M M2 : List D} {y : RV} (h1 : asgT tg d Γ = some Γ1) (h2 : el Γ1 M = some (y, Γ2, M2)) (h3 : fre Γ2 y = some (e, Γ3)) (h4 : plainIx Γ3 own = true) (h5 : wipeG Γ3 own = Γ4) :
    compLoopX own tg el (d :: ds) acc Γ M = compLoopX own tg el ds (acc ++ [e]) Γ4 M2 := by
  simp only [compLoopX, h1, h2, h3, Option.bind_some, h4, if_true, h5]
theorem exM_seti {fs : List FS} {ms : List FM} {Γ Γ1 Γ2 Γ3 Γ4 : Ct} {M M1 M2 : List D} {o x : XE} {k : DV.E} {r y z : RV} {d : D} {l : Nat} {ds : List D} {j : Nat} (h1 : evX fs ms x Γ M = some (r, Γ1, M1)) (h2 : fre Γ1 r = some (d, Γ2)) (h3 : evX fs ms o Γ2 M1 = some (y, Γ3, M2)) (h4 : datum Γ3 y = some (.ref l)) (h5 : M2[l]? = some (.lst ds)) (h6 : ev fs k Γ3 = some (z, Γ4)) (h7 : datum Γ4 z = some (.int (j : Nat))) (hj : j < ds.length) :
    exM fs ms (.seti o k x) Γ M = some (.nx Γ4, M2.set l (.lst (ds.set j d))) := by
  have i1 : isLM M2 (.ref l) = true := by simp only [isLM, h5]
  have ix : ixN ds.length (j : Int) = some j := by
    simp [ixN]
    omega
  simp only [exM, h1, Option.bind_some, h2, h3, h4, i1, if_true, h6, h7, setM, h5, setD, ix, Option.map_some]
theorem exM_app {fs : List FS} {ms : List FM} {Γ Γ1 Γ2 Γ3 : Ct} {M M1 M2 : List D} {o x : XE} {r y : RV} {d : D} {l : Nat} {ds : List D} (h1 : evX fs ms o Γ M = some (r, Γ1, M1)) (h2 : datum Γ1 r = some (.ref l)) (h0 : M1[l]? = some (.lst ds)) (h3 : evX fs ms x Γ1 M1 = some (y, Γ2, M2)) (h4 : fre Γ2 y = some (d, Γ3)) (h5 : M2[l]? = some (.lst ds)) (hz : ds.length < 100000) :
    exM fs ms (.app o x) Γ M = some (.nx Γ3, M2.set l (.lst (ds ++ [d]))) := by
  have i1 : isLM M1 (.ref l) = true := by simp only [isLM, h0]
  have hz' : ds.length < sizeLine := Nat.lt_trans hz (by decide)
  simp only [exM, h1, Option.bind_some, h2, i1, if_true, h3, h4, appM, h5, appD, hz', Option.map_some]
theorem set_self {M : List D} {s : Nat} {d : D} (h : s < M.length) : (M.set s d)[s]? = some d := List.getElem?_set_self h
theorem whlM_step {c : Ct → List D → Option (Bool × Ct × List D)} {body : Ct → List D → Option (Out × List D)} {n : Nat} {Γ Γ1 Γ2 : Ct} {M M1 M2 : List D} (h1 : c Γ M = some (true, Γ1, M1)) (h2 : body Γ1 M1 = some (.nx Γ2, M2)) : whlLoopM c body (n + 1) Γ M = whlLoopM c body n Γ2 M2 := by
  simp only [whlLoopM, h1, Option.bind_some, if_true, h2]
theorem whlM_done {c : Ct → List D → Option (Bool × Ct × List D)} {body : Ct → List D → Option (Out × List D)} {n : Nat} {Γ Γ1 : Ct} {M M1 : List D} (h1 : c Γ M = some (false, Γ1, M1)) : whlLoopM c body (n + 1) Γ M = some (.nx Γ1, M1) := by
  simp only [whlLoopM, h1, Option.bind_some, Bool.false_eq_true, if_false]
theorem atI_get {ds : List D} {i : Nat} {d : D} (h : ds[i]? = some d) : atI ds (i : Int) = some d := atI_nat h
theorem exMs_last {fs : List FS} {ms : List FM} {s : MS} {Γ Γ1 : Ct} {M M1 : List D} (h : exM fs ms s Γ M = some (.nx Γ1, M1)) : exMs fs ms [s] Γ M = some (.nx Γ1, M1) := (exMs_nx h).trans (by simp only [exMs])

/-! ### a request sent, states as lists of the store -/
inductive Q2
  | cl (n : Int)
  | op (t : Int)
  | hf
def q2s : Q2 → Str
  | .cl _ => "closed"
  | .op _ => "open"
  | .hf => "half"
def q2n : Q2 → Int
  | .cl n => n
  | .op t => t
  | .hf => 0
abbrev qL2 (q : Q2) : D := .lst [.str (q2s q), .int (q2n q)]
theorem so_cl : PyData.strOk "closed" = true := by decide +kernel
theorem so_hf : PyData.strOk "half" = true := by decide +kernel
theorem so_op : PyData.strOk "open" = true := by decide +kernel
theorem n_co : (("closed" : Str) == ("open" : Str)) = false := by decide +kernel
theorem n_ho : (("half" : Str) == ("open" : Str)) = false := by decide +kernel
theorem n_ch : (("closed" : Str) == ("half" : Str)) = false := by decide +kernel
theorem n_hc : (("half" : Str) == ("closed" : Str)) = false := by decide +kernel
theorem n_oc : (("open" : Str) == ("closed" : Str)) = false := by decide +kernel
theorem c_co : cmpD .eq (.str "closed") (.str "open") = some false := by simp [cmpD, okB, so_cl, so_op, eqd, n_co]
theorem c_ho : cmpD .eq (.str "half") (.str "open") = some false := by simp [cmpD, okB, so_hf, so_op, eqd, n_ho]
theorem c_oo : cmpD .eq (.str "open") (.str "open") = some true := by simp [cmpD, okB, so_op, eqd]
theorem c_ch : cmpD .eq (.str "closed") (.str "half") = some false := by simp [cmpD, okB, so_cl, so_hf, eqd, n_ch]
theorem c_hh : cmpD .eq (.str "half") (.str "half") = some true := by simp [cmpD, okB, so_hf, eqd]
theorem c_cc : cmpD .eq (.str "closed") (.str "closed") = some true := by simp [cmpD, okB, so_cl, eqd]
theorem c_oc : cmpD .eq (.str "open") (.str "closed") = some false := by simp [cmpD, okB, so_op, so_cl, eqd, n_oc]
theorem snap_l {M : List D} {k n : Nat} {s : Str} {i : Int} (hM : M[k]? = some (.lst [.str s, .int i])) : snap M (n + 1) (.ref k) = .lst [.str s, .int i] := by
  simp only [snap, hM, List.map_cons, List.map_nil]
theorem ei (x y : Int) : cmpD .eq (.int x) (.int y) = some (decide (x = y)) := by
  simp only [cmpD, okB, Bool.and_self, if_true, eqd, Option.some.injEq]
  by_cases c : x = y <;> simp [c]
/-! a failure noted -/
def fnote (u : Sp) (t : Int) : Q2 → Q2
  | .cl n => if n + 1 = u.f then .op t else .cl (n + 1)
  | .op _ => .op t
  | .hf => .op t
abbrev nG (u : Sp) (a : Nat) (t : Int) : Ct := [some (sD u, false), some (.ref a, false), some (.int t, false), some (.bl false, false)]
abbrev nL (u : Sp) (s : Str) (i : Int) (t : Int) : Ct := [some (sD u, false), some (.lst [.str s, .int i], false), some (.int t, false), some (.bl false, false)]
theorem n_look {M : List D} {a : Nat} {s : Str} {i : Int} (h : M[a]? = some (.lst [.str s, .int i])) (u : Sp) (t : Int) : lookG M [(1, 1, false)] (nG u a t) = nL u s i t :=
  (look1 (d := .ref a) rfl).trans (by rw [snap_l (n := 0) h]; rfl)
theorem n_set0 {M : List D} {a : Nat} {s : Str} {i : Int} (h : M[a]? = some (.lst [.str s, .int i])) (u : Sp) (t : Int) (w : Str) : exM [] [] (.seti (.raw (.var 1)) (.cst (.int 0)) (.raw (.cst (.str w)))) (nG u a t) M = some (.nx (nG u a t), M.set a (.lst [.str w, .int i])) :=
  exM_seti (j := 0) (y := .sl 1) (z := .fz (.int 0)) (evX_raw rfl) rfl (evX_raw rfl) rfl h rfl rfl (by simp)
theorem n_set1 {M : List D} {a : Nat} {s : Str} {i : Int} (h : M[a]? = some (.lst [.str s, .int i])) (u : Sp) (t : Int) {x : XE} {r : RV} {v : Int} (e : evX [] [] x (nG u a t) M = some (r, nG u a t, M)) (hr : fre (nG u a t) r = some (.int v, nG u a t)) : exM [] [] (.seti (.raw (.var 1)) (.cst (.int 1)) x) (nG u a t) M = some (.nx (nG u a t), M.set a (.lst [.str s, .int v])) :=
  exM_seti (j := 1) (y := .sl 1) (z := .fz (.int 1)) e hr (evX_raw rfl) rfl h rfl rfl (by simp)
theorem n_opn {M : List D} {a : Nat} {s : Str} {i : Int} (h : M[a]? = some (.lst [.str s, .int i])) (u : Sp) (t : Int) : exMs [] [] [.seti (.raw (.var 1)) (.cst (.int 0)) (.raw (.cst (.str "open"))), .seti (.raw (.var 1)) (.cst (.int 1)) (.raw (.var 2))] (nG u a t) M = some (.nx (nG u a t), M.set a (.lst [.str "open", .int t])) := by
  have ha : a < M.length := (List.getElem?_eq_some_iff.mp h).1
  have s1 := n_set0 h u t "open"
  have s2 := n_set1 (M := M.set a (.lst [.str "open", .int i])) (set_self ha) u t (x := .raw (.var 2)) (r := .sl 2) (evX_raw rfl) rfl
  rw [List.set_set] at s2
  exact (exMs_nx s1).trans ((exMs_nx s2).trans (by simp only [exMs]))
theorem n_test (u : Sp) (s : Str) (i t : Int) (b : Bool) (h : cmpD .eq (.str s) (.str "half") = some b) : ev [] (.and (.cmp .eq (.ix (.var 1) (.cst (.int 0))) (.cst (.str "half"))) (.not (.var 3))) (nL u s i t) = some (.fz (.bl b), nL u s i t) := by
  have i0 : ∀ x y : D, atI [x, y] 0 = some x := fun _ _ => rfl
  generalize hD : D.str "half" = hh at *
  cases b <;> simp [DV.SC, DV.SX, i0, h]
theorem n_test2 (u : Sp) (s : Str) (i t : Int) (b : Bool) (h : cmpD .eq (.str s) (.str "half") = some b) : ev [] (.cmp .eq (.ix (.var 1) (.cst (.int 0))) (.cst (.str "half"))) (nL u s i t) = some (.fz (.bl b), nL u s i t) := by
  have i0 : ∀ x y : D, atI [x, y] 0 = some x := fun _ _ => rfl
  generalize hD : D.str "half" = hh at *
  simp [DV.SC, DV.SX, i0, h]
theorem n_inc (u : Sp) (s : Str) (i t : Int) : ev [] (.bin .add (.ix (.var 1) (.cst (.int 1))) (.cst (.int 1))) (nL u s i t) = some (.fz (.int (i + 1)), nL u s i t) := by
  have i1 : ∀ x y : D, atI [x, y] 1 = some y := fun _ _ => rfl
  simp [DV.SC, DV.SX, i1]
theorem n_full (u : Sp) (s : Str) (i t : Int) : ev [] (.cmp .eq (.ix (.var 1) (.cst (.int 1))) (.ix (.var 0) (.cst (.int 0)))) (nL u s i t) = some (.fz (.bl (decide (i = u.f))), nL u s i t) := by
  have i1 : ∀ x y : D, atI [x, y] 1 = some y := fun _ _ => rfl
  have e := ei i u.f
  simp [DV.SC, DV.SX, i1, i3_0, e]
theorem note_ok {M : List D} {a : Nat} {q : Q2} (h : M[a]? = some (qL2 q)) (ho : ∀ v, q ≠ .op v) (u : Sp) (t : Int) : F__law_note (plG [sD u, .ref a, .int t, .bl false]) M = some (.fz .non, M.set a (qL2 (fnote u t q))) := by
  have ha : a < M.length := (List.getElem?_eq_some_iff.mp h).1
  cases q with
  | op v => exact absurd rfl (ho v)
  | hf =>
    have t1 : evX [] [] (.snp [(1, 1, false)] (.and (.cmp .eq (.ix (.var 1) (.cst (.int 0))) (.cst (.str "half"))) (.not (.var 3)))) (nG u a t) M = some (.fz (.bl true), nG u a t, M) := evX_snp (by rw [n_look h]; exact n_test _ _ _ _ true c_hh) rfl
    exact runM_by (o := (.nx (nG u a t), M.set a (.lst [.str "open", .int t]))) rfl (exMs_last (exM_iteT t1 rfl (n_opn h u t)) : exMs [] [] _ (nG u a t) M = _) rfl
  | cl n =>
    have t1 : evX [] [] (.snp [(1, 1, false)] (.and (.cmp .eq (.ix (.var 1) (.cst (.int 0))) (.cst (.str "half"))) (.not (.var 3)))) (nG u a t) M = some (.fz (.bl false), nG u a t, M) := evX_snp (by rw [n_look h]; exact n_test _ _ _ _ false c_ch) rfl
    have t2 : evX [] [] (.snp [(1, 1, false)] (.cmp .eq (.ix (.var 1) (.cst (.int 0))) (.cst (.str "half")))) (nG u a t) M = some (.fz (.bl false), nG u a t, M) := evX_snp (by rw [n_look h]; exact n_test2 _ _ _ _ false c_ch) rfl
    have t3 : evX [] [] (.raw (.var 3)) (nG u a t) M = some (.sl 3, nG u a t, M) := evX_raw rfl
    have s1 := n_set1 h u t (x := .snp [(1, 1, false)] (.bin .add (.ix (.var 1) (.cst (.int 1))) (.cst (.int 1)))) (r := .fz (.int (n + 1))) (evX_snp (by rw [n_look h]; exact n_inc _ _ _ _) rfl) rfl
    have h1 : (M.set a (.lst [.str "closed", .int (n + 1)]))[a]? = some (.lst [.str "closed", .int (n + 1)]) := set_self ha
    have t4 : evX [] [] (.snp [(1, 1, false)] (.cmp .eq (.ix (.var 1) (.cst (.int 1))) (.ix (.var 0) (.cst (.int 0))))) (nG u a t) (M.set a (.lst [.str "closed", .int (n + 1)])) = some (.fz (.bl (decide (n + 1 = u.f))), nG u a t, M.set a (.lst [.str "closed", .int (n + 1)])) := evX_snp (by rw [n_look h1]; exact n_full _ _ _ _) rfl
    by_cases c : n + 1 = u.f
    · rw [decide_eq_true c] at t4
      have o := n_opn h1 u t
      rw [List.set_set] at o
      have e : qL2 (fnote u t (.cl n)) = .lst [.str "open", .int t] := by simp only [fnote, if_pos c, qL2, q2s, q2n]
      rw [e]
      exact runM_by (o := (.nx (nG u a t), M.set a (.lst [.str "open", .int t]))) rfl (exMs_last (exM_ite t1 rfl (exMs_last (exM_ite t2 rfl (exMs_last (exM_ite t3 rfl ((exMs_nx s1).trans (exMs_last (exM_iteT t4 rfl o)))))))) : exMs [] [] _ (nG u a t) M = _) rfl
    · rw [decide_eq_false c] at t4
      have e : qL2 (fnote u t (.cl n)) = .lst [.str "closed", .int (n + 1)] := by simp only [fnote, if_neg c, qL2, q2s, q2n]
      rw [e]
      exact runM_by (o := (.nx (nG u a t), M.set a (.lst [.str "closed", .int (n + 1)]))) rfl (exMs_last (exM_ite t1 rfl (exMs_last (exM_ite t2 rfl (exMs_last (exM_ite t3 rfl ((exMs_nx s1).trans (exMs_last (exM_ite0 t4 rfl)))))))) : exMs [] [] _ (nG u a t) M = _) rfl

/-! ### comprehensions and loops, in general -/
theorem comp_gen {fs : List FS} {own : List Nat} {tg : Tg} {ik : IK} {its cs : List DV.E} {elt : DV.E} {ds : List D} {Γ0 Γ : Ct} (g : D → Bool) (f : D → D)
    (e1 : (evs fs its Γ0).bind (fun p => iterD ik p.1 p.2) = some (ds, Γ)) (hp : plainIx Γ own = true) (hw : wipeG Γ own = Γ) (hr : restG Γ Γ own = Γ) (ht : (tgIx tg).all (fun i => own.contains i) = true) (hl : ds.length ≤ 16777216)
    (he : ∀ d ∈ ds, ∃ Γd, asgT tg d Γ = some Γd ∧ evc fs cs Γd = some (g d, Γd) ∧ plainIx Γd own = true ∧ wipeG Γd own = Γ ∧ (g d = true → ∃ x, ev fs elt Γd = some (x, Γd) ∧ fre Γd x = some (f d, Γd))) :
    ev fs (.comp own tg ik its cs elt) Γ0 = some (.nw (.lst ((ds.filter g).map f)), Γ) := by
  have key : ∀ (ds acc : List D), (∀ d ∈ ds, ∃ Γd, asgT tg d Γ = some Γd ∧ evc fs cs Γd = some (g d, Γd) ∧ plainIx Γd own = true ∧ wipeG Γd own = Γ ∧ (g d = true → ∃ x, ev fs elt Γd = some (x, Γd) ∧ fre Γd x = some (f d, Γd))) → compLoop own tg (evc fs cs) (ev fs elt) ds acc Γ = some (acc ++ (ds.filter g).map f, Γ) := by
    intro ds
    induction ds with
    | nil => intro acc _; simp [compLoop]
    | cons d ds ih =>
      intro acc h
      obtain ⟨Γd, a1, a2, a3, a4, a5⟩ := h d List.mem_cons_self
      have ih' := fun a => ih a fun e m => h e (List.mem_cons_of_mem _ m)
      simp only [compLoop, a1, Option.bind_some, a2]
      cases hg : g d with
      | true =>
        obtain ⟨x, ex, fx⟩ := a5 hg
        simp only [if_true, ex, Option.bind_some, fx]
        rw [if_pos a3, a4, ih', List.filter_cons, if_pos hg]
        simp
      | false =>
        simp only [Bool.false_eq_true, if_false]
        rw [if_pos a3, a4, ih', List.filter_cons, if_neg (by rw [hg]; simp)]
  obtain ⟨⟨xs, Γ1⟩, b1, b2⟩ := Option.bind_eq_some_iff.mp e1
  rw [DV.ev.eq_18]
  simp only [b1, Option.bind_some, b2]
  rw [if_pos (by rw [hp, ht, decide_eq_true (show ds.length ≤ sizeLine from hl)]; rfl), hw, key ds [] he]
  simp only [Option.map_some, hr, List.nil_append]

/-! ### a request sent -/
def ri (r : List Sp) (i : Nat) : Sp := r.getD i ⟨1, 1, 1⟩
theorem ri_get {r : List Sp} {i : Nat} (h : i < r.length) : ri r i = r[i] := by
  unfold ri
  rw [List.getD_eq_getElem?_getD, List.getElem?_eq_getElem h]
  rfl
def rj (u : Sp) (t : Int) : Q2 → Bool
  | .op v => decide (t - v < u.w)
  | _ => false
def hv : Q2 → Q2
  | .op _ => .hf
  | q => q
/-- the first breaker that rejects -/
def sf (r : List Sp) (g : Nat → Q2) (t : Int) : Nat → Nat → Nat
  | 0, j => j
  | m + 1, j => if rj (ri r j) t (g j) = true then j else sf r g t m (j + 1)
theorem sf_ge (r : List Sp) (g : Nat → Q2) (t : Int) : ∀ m j, j ≤ sf r g t m j
  | 0, j => Nat.le_refl _
  | m + 1, j => by
    rw [sf]
    split
    · exact Nat.le_refl _
    · exact Nat.le_trans (Nat.le_succ j) (sf_ge r g t m (j + 1))
theorem sf_le (r : List Sp) (g : Nat → Q2) (t : Int) : ∀ m j, sf r g t m j ≤ j + m
  | 0, j => by rw [sf]; omega
  | m + 1, j => by
    rw [sf]
    split
    · omega
    · have := sf_le r g t m (j + 1); omega
theorem sf_lt (r : List Sp) (g : Nat → Q2) (t : Int) : ∀ m j i, j ≤ i → i < sf r g t m j → rj (ri r i) t (g i) = false
  | 0, j, i, h1, h2 => by rw [sf] at h2; omega
  | m + 1, j, i, h1, h2 => by
    rw [sf] at h2
    split at h2
    · omega
    · rename_i c
      by_cases e : i = j
      · subst e; simpa using c
      · exact sf_lt r g t m (j + 1) i (by omega) h2
theorem sf_at (r : List Sp) (g : Nat → Q2) (t : Int) : ∀ m j, sf r g t m j < j + m → rj (ri r (sf r g t m j)) t (g (sf r g t m j)) = true
  | 0, j, h => by rw [sf] at h; omega
  | m + 1, j, h => by
    rw [sf] at h ⊢
    split
    · assumption
    · rename_i c
      rw [if_neg c] at h
      exact sf_at r g t m (j + 1) (by omega)
/-- the states stand at m .. m + n - 1 -/
def St (M : List D) (m n : Nat) (g : Nat → Q2) : Prop := ∀ i, i < n → M[m + i]? = some (qL2 (g i))
/-- all but them stays -/
structure Fm (m n : Nat) (M M' : List D) : Prop where
  len : M'.length = M.length
  old : ∀ a, a < m ∨ m + n ≤ a → M'[a]? = M[a]?
theorem Fm.refl (m n : Nat) (M : List D) : Fm m n M M := ⟨rfl, fun _ _ => rfl⟩
theorem Fm.trans {m n : Nat} {M1 M2 M3 : List D} (a : Fm m n M1 M2) (b : Fm m n M2 M3) : Fm m n M1 M3 := ⟨b.len.trans a.len, fun x h => (b.old x h).trans (a.old x h)⟩
theorem Fm.set {m n i : Nat} (hi : i < n) (M : List D) (d : D) : Fm m n M (M.set (m + i) d) := ⟨List.length_set, fun a h => List.getElem?_set_ne (by omega)⟩
theorem St.set {M : List D} {m n j : Nat} {g : Nat → Q2} (S : St M m n g) (hj : j < n) (q : Q2) : St (M.set (m + j) (qL2 q)) m n (fun i => if i = j then q else g i) := fun i hi => by
  by_cases c : i = j
  · subst c
    show _ = some (qL2 (if i = i then q else g i))
    rw [if_pos rfl]
    exact set_self (List.getElem?_eq_some_iff.mp (S i hi)).1
  · show _ = some (qL2 (if i = j then q else g i))
    rw [if_neg c, List.getElem?_set_ne (by omega)]
    exact S i hi
theorem St.congr {M : List D} {m n : Nat} {g g' : Nat → Q2} (S : St M m n g) (h : ∀ i, i < n → g i = g' i) : St M m n g' := fun i hi => by rw [← h i hi]; exact S i hi
def refsL (m n : Nat) : List D := (List.range n).map fun i => D.ref (m + i)
theorem refs_get (m n i : Nat) (h : i < n) : (refsL m n)[i]? = some (.ref (m + i)) := by
  unfold refsL
  rw [List.getElem?_map, List.getElem?_range h]
  rfl
theorem refs_len (m n : Nat) : (refsL m n).length = n := by simp [refsL]
abbrev seG (SD AD : List D) (t : Int) (x4 x5 x6 x7 x8 : Sl) : Ct := [some (.lst SD, false), some (.lst AD, false), some (.int t, false), some (.bl false, false), x4, x5, x6, x7, x8]
theorem s_tst (SD AD : List D) (t : Int) (x4 x5 x6 : Sl) (u : Sp) (q : Q2) : ev [] (.and (.cmp .eq (.ix (.var 8) (.cst (.int 0))) (.cst (.str "open"))) (.cmp .ge (.bin .sub (.var 2) (.ix (.var 8) (.cst (.int 1)))) (.ix (.var 7) (.cst (.int 1))))) (seG SD AD t x4 x5 x6 (some (sD u, false)) (some (qL2 q, false))) = some (.fz (.bl (match q with | .op v => decide (u.w ≤ t - v) | _ => false)), seG SD AD t x4 x5 x6 (some (sD u, false)) (some (qL2 q, false))) := by
  have i0 : ∀ x y : D, atI [x, y] 0 = some x := fun _ _ => rfl
  have i1 : ∀ x y : D, atI [x, y] 1 = some y := fun _ _ => rfl
  have a := c_co
  have b := c_ho
  have c := c_oo
  cases q <;> (simp only [qL2, q2s, q2n]; generalize hO : D.str "open" = oo at *; simp [DV.SC, DV.SX, i0, i1, i3_1, a, b, c])
theorem s_tst2 (SD AD : List D) (t : Int) (x4 x5 x6 x7 : Sl) (q : Q2) : ev [] (.cmp .eq (.ix (.var 8) (.cst (.int 0))) (.cst (.str "open"))) (seG SD AD t x4 x5 x6 x7 (some (qL2 q, false))) = some (.fz (.bl (match q with | .op _ => true | _ => false)), seG SD AD t x4 x5 x6 x7 (some (qL2 q, false))) := by
  have i0 : ∀ x y : D, atI [x, y] 0 = some x := fun _ _ => rfl
  have a := c_co
  have b := c_ho
  have c := c_oo
  cases q <;> (simp only [qL2, q2s, q2n]; generalize hO : D.str "open" = oo at *; simp [DV.SC, DV.SX, i0, a, b, c])
theorem s_gone (SD AD : List D) (t : Int) (x5 x6 x7 x8 : Sl) (j : Nat) : ex [] [] (.asgO 4 (.bin .add (.var 4) (.cst (.int 1)))) (seG SD AD t (some (.int (j : Nat), false)) x5 x6 x7 x8) = some (.nx (seG SD AD t (some (.int ((j + 1 : Nat) : Int), false)) x5 x6 x7 x8)) := by
  simp [DV.SC, DV.SX]
theorem s_look {M : List D} {a : Nat} {q : Q2} (h : M[a]? = some (qL2 q)) (SD AD : List D) (t : Int) (x4 x5 x6 : Sl) (u : Sp) : ∃ y4 y5 y6, lookG M [(8, 1, false)] (seG SD AD t x4 x5 x6 (some (sD u, false)) (some (.ref a, false))) = seG SD AD t y4 y5 y6 (some (sD u, false)) (some (qL2 q, false)) :=
  ⟨_, _, _, (look1 (d := .ref a) rfl).trans (by rw [snap_l (n := 0) h]; rfl)⟩
/-- a turn: rejected, or passed -/
theorem s_rej {M : List D} {a : Nat} {q : Q2} (h : M[a]? = some (qL2 q)) (SD AD : List D) (t : Int) (j : Nat) (u : Sp) (hr : rj u t q = true) :
    exMs [] [F__law_note] MB__law_send_1 (seG SD AD t (some (.int (j : Nat), false)) none none (some (sD u, false)) (some (.ref a, false))) M = some (.bk (seG SD AD t (some (.int (j : Nat), false)) none none (some (sD u, false)) (some (.ref a, false))), M) := by
  cases q with
  | cl n => simp [rj] at hr
  | hf => simp [rj] at hr
  | op v =>
    simp only [rj, decide_eq_true_eq] at hr
    obtain ⟨y4, y5, y6, lk⟩ := s_look h SD AD t (some (.int (j : Nat), false)) none none u
    have t1 := s_tst SD AD t y4 y5 y6 u (.op v)
    have c : ¬ u.w ≤ t - v := by omega
    simp only [decide_eq_false c] at t1
    have t2 := s_tst2 SD AD t y4 y5 y6 (some (sD u, false)) (.op v)
    simp only at t2
    have e0 : exM [] [F__law_note] (.ite (.snp [(8, 1, false)] (.and (.cmp .eq (.ix (.var 8) (.cst (.int 0))) (.cst (.str "open"))) (.cmp .ge (.bin .sub (.var 2) (.ix (.var 8) (.cst (.int 1)))) (.ix (.var 7) (.cst (.int 1)))))) [.seti (.raw (.var 8)) (.cst (.int 0)) (.raw (.cst (.str "half"))),
  .seti (.raw (.var 8)) (.cst (.int 1)) (.raw (.cst (.int 0)))] []) (seG SD AD t (some (.int (j : Nat), false)) none none (some (sD u, false)) (some (.ref a, false))) M = some (.nx (seG SD AD t (some (.int (j : Nat), false)) none none (some (sD u, false)) (some (.ref a, false))), M) :=
      exM_ite0 (x := .fz (.bl false)) (evX_snp (by rw [lk]; exact t1) rfl) rfl
    have e1 : exM [] [F__law_note] (.ite (.snp [(8, 1, false)] (.cmp .eq (.ix (.var 8) (.cst (.int 0))) (.cst (.str "open")))) [.old (.brk)] []) (seG SD AD t (some (.int (j : Nat), false)) none none (some (sD u, false)) (some (.ref a, false))) M = some (.bk (seG SD AD t (some (.int (j : Nat), false)) none none (some (sD u, false)) (some (.ref a, false))), M) := by
      refine exM_iteT (x := .fz (.bl true)) (evX_snp (by rw [lk]; exact t2) rfl) rfl ?_
      have b : ex [] [] .brk (seG SD AD t (some (.int (j : Nat), false)) none none (some (sD u, false)) (some (.ref a, false))) = some (.bk (seG SD AD t (some (.int (j : Nat), false)) none none (some (sD u, false)) (some (.ref a, false)))) := by simp [DV.SC, DV.SX]
      simp only [exMs, exM, b, Option.bind_some, noXc, if_true]
    refine (exMs_nx e0).trans ?_
    simp only [exMs, e1, Option.bind_some]
theorem s_pass {M : List D} {a : Nat} {q : Q2} (h : M[a]? = some (qL2 q)) (SD AD : List D) (t : Int) (j : Nat) (u : Sp) (hr : rj u t q = false) :
    ∃ M', exMs [] [F__law_note] MB__law_send_1 (seG SD AD t (some (.int (j : Nat), false)) none none (some (sD u, false)) (some (.ref a, false))) M = some (.nx (seG SD AD t (some (.int ((j + 1 : Nat) : Int), false)) none none (some (sD u, false)) (some (.ref a, false))), M') ∧ (M' = M.set a (qL2 (hv q))) := by
  have ha : a < M.length := (List.getElem?_eq_some_iff.mp h).1
  obtain ⟨y4, y5, y6, lk⟩ := s_look h SD AD t (some (.int (j : Nat), false)) none none u
  have t1 := s_tst SD AD t y4 y5 y6 u q
  have same : ∀ {q : Q2}, M[a]? = some (qL2 q) → M.set a (qL2 q) = M := fun {q} h => by
    apply List.ext_getElem?
    intro i
    by_cases c : i = a
    · subst c; rw [set_self ha]; exact h.symm
    · rw [List.getElem?_set_ne fun z => c z.symm]
  have e2 := fun M => exM_old (fs := []) (ms := [F__law_note]) (M := M) (s_gone SD AD t none none (some (sD u, false)) (some (.ref a, false)) j)
  have key : ∀ (q' : Q2) (M1 : List D), M1[a]? = some (qL2 q') → (∀ v, q' ≠ .op v) → exM [] [F__law_note] (.ite (.snp [(8, 1, false)] (.cmp .eq (.ix (.var 8) (.cst (.int 0))) (.cst (.str "open")))) [.old (.brk)] []) (seG SD AD t (some (.int (j : Nat), false)) none none (some (sD u, false)) (some (.ref a, false))) M1 = some (.nx (seG SD AD t (some (.int (j : Nat), false)) none none (some (sD u, false)) (some (.ref a, false))), M1) := fun q' M1 h1 ho => by
    obtain ⟨y4, y5, y6, lk⟩ := s_look h1 SD AD t (some (.int (j : Nat), false)) none none u
    have t2 := s_tst2 SD AD t y4 y5 y6 (some (sD u, false)) q'
    have t2 : ev [] (.cmp .eq (.ix (.var 8) (.cst (.int 0))) (.cst (.str "open"))) (seG SD AD t y4 y5 y6 (some (sD u, false)) (some (qL2 q', false))) = some (.fz (.bl false), seG SD AD t y4 y5 y6 (some (sD u, false)) (some (qL2 q', false))) := by
      cases q' with
      | op v => exact absurd rfl (ho v)
      | _ => exact t2
    exact exM_ite0 (x := .fz (.bl false)) (evX_snp (by rw [lk]; exact t2) rfl) rfl
  cases q with
  | op v =>
    simp only [rj, decide_eq_false_iff_not] at hr
    have c : u.w ≤ t - v := by omega
    simp only [decide_eq_true c] at t1
    have s0 : exM [] [F__law_note] (.seti (.raw (.var 8)) (.cst (.int 0)) (.raw (.cst (.str "half")))) (seG SD AD t (some (.int (j : Nat), false)) none none (some (sD u, false)) (some (.ref a, false))) M = some (.nx (seG SD AD t (some (.int (j : Nat), false)) none none (some (sD u, false)) (some (.ref a, false))), M.set a (.lst [.str "half", .int v])) :=
      exM_seti (j := 0) (y := .sl 8) (z := .fz (.int 0)) (ds := [.str "open", .int v]) (evX_raw rfl) rfl (evX_raw rfl) rfl h rfl rfl (by simp)
    have s1 : exM [] [F__law_note] (.seti (.raw (.var 8)) (.cst (.int 1)) (.raw (.cst (.int 0)))) (seG SD AD t (some (.int (j : Nat), false)) none none (some (sD u, false)) (some (.ref a, false))) (M.set a (.lst [.str "half", .int v])) = some (.nx (seG SD AD t (some (.int (j : Nat), false)) none none (some (sD u, false)) (some (.ref a, false))), (M.set a (.lst [.str "half", .int v])).set a (.lst [.str "half", .int 0])) :=
      exM_seti (j := 1) (y := .sl 8) (z := .fz (.int 1)) (ds := [.str "half", .int v]) (evX_raw rfl) rfl (evX_raw rfl) rfl (set_self ha) rfl rfl (by simp)
    rw [List.set_set] at s1
    have e0 : exM [] [F__law_note] (.ite (.snp [(8, 1, false)] (.and (.cmp .eq (.ix (.var 8) (.cst (.int 0))) (.cst (.str "open"))) (.cmp .ge (.bin .sub (.var 2) (.ix (.var 8) (.cst (.int 1)))) (.ix (.var 7) (.cst (.int 1)))))) [.seti (.raw (.var 8)) (.cst (.int 0)) (.raw (.cst (.str "half"))),
  .seti (.raw (.var 8)) (.cst (.int 1)) (.raw (.cst (.int 0)))] []) (seG SD AD t (some (.int (j : Nat), false)) none none (some (sD u, false)) (some (.ref a, false))) M = some (.nx (seG SD AD t (some (.int (j : Nat), false)) none none (some (sD u, false)) (some (.ref a, false))), M.set a (qL2 .hf)) :=
      exM_iteT (x := .fz (.bl true)) (evX_snp (by rw [lk]; exact t1) rfl) rfl ((exMs_nx s0).trans (exMs_last s1))
    exact ⟨_, (exMs_nx e0).trans ((exMs_nx (key .hf _ (set_self ha) nofun)).trans (exMs_last (e2 _))), rfl⟩
  | cl n =>
    simp only at t1
    have e0 : exM [] [F__law_note] (.ite (.snp [(8, 1, false)] (.and (.cmp .eq (.ix (.var 8) (.cst (.int 0))) (.cst (.str "open"))) (.cmp .ge (.bin .sub (.var 2) (.ix (.var 8) (.cst (.int 1)))) (.ix (.var 7) (.cst (.int 1)))))) [.seti (.raw (.var 8)) (.cst (.int 0)) (.raw (.cst (.str "half"))),
  .seti (.raw (.var 8)) (.cst (.int 1)) (.raw (.cst (.int 0)))] []) (seG SD AD t (some (.int (j : Nat), false)) none none (some (sD u, false)) (some (.ref a, false))) M = some (.nx (seG SD AD t (some (.int (j : Nat), false)) none none (some (sD u, false)) (some (.ref a, false))), M) :=
      exM_ite0 (x := .fz (.bl false)) (evX_snp (by rw [lk]; exact t1) rfl) rfl
    exact ⟨_, (exMs_nx e0).trans ((exMs_nx (key (.cl n) _ h nofun)).trans (exMs_last (e2 _))), (same h).symm⟩
  | hf =>
    simp only at t1
    have e0 : exM [] [F__law_note] (.ite (.snp [(8, 1, false)] (.and (.cmp .eq (.ix (.var 8) (.cst (.int 0))) (.cst (.str "open"))) (.cmp .ge (.bin .sub (.var 2) (.ix (.var 8) (.cst (.int 1)))) (.ix (.var 7) (.cst (.int 1)))))) [.seti (.raw (.var 8)) (.cst (.int 0)) (.raw (.cst (.str "half"))),
  .seti (.raw (.var 8)) (.cst (.int 1)) (.raw (.cst (.int 0)))] []) (seG SD AD t (some (.int (j : Nat), false)) none none (some (sD u, false)) (some (.ref a, false))) M = some (.nx (seG SD AD t (some (.int (j : Nat), false)) none none (some (sD u, false)) (some (.ref a, false))), M) :=
      exM_ite0 (x := .fz (.bl false)) (evX_snp (by rw [lk]; exact t1) rfl) rfl
    exact ⟨_, (exMs_nx e0).trans ((exMs_nx (key .hf _ h nofun)).trans (exMs_last (e2 _))), (same h).symm⟩

/-! ### a request sent, whole -/
theorem forM_brk {tg : Tg} {body : Ct → List D → Option (Out × List D)} {d : D} {ds : List D} {Γ Γ1 Γ2 : Ct} {M M2 : List D} (h1 : asgT tg d Γ = some Γ1) (h2 : body Γ1 M = some (.bk Γ2, M2)) : forLoopM tg body (d :: ds) Γ M = some (.nx Γ2, M2) := by
  simp only [forLoopM, h1, h2, Option.bind_some]
def zds (r : List Sp) (m n : Nat) : List D := (List.range n).map fun i => .tup [sD (ri r i), .ref (m + i)]
theorem zds_len (r : List Sp) (m n : Nat) : (zds r m n).length = n := by simp [zds]
theorem zds_get (r : List Sp) (m n i : Nat) (h : i < n) : (zds r m n)[i]? = some (.tup [sD (ri r i), .ref (m + i)]) := by
  unfold zds
  rw [List.getElem?_map, List.getElem?_range h]
  rfl
theorem zds_drop (r : List Sp) (m n i : Nat) (h : i < n) : (zds r m n).drop i = .tup [sD (ri r i), .ref (m + i)] :: (zds r m n).drop (i + 1) := by
  have hl : i < (zds r m n).length := by rw [zds_len]; exact h
  rw [List.drop_eq_getElem_cons hl]
  congr 1
  have := zds_get r m n i h
  rw [List.getElem?_eq_getElem hl] at this
  exact Option.some.inj this
theorem zip_zds (r : List Sp) (m : Nat) : zipD (r.map sD) (refsL m r.length) = zds r m r.length := by
  rw [zipD_eq]
  apply List.ext_getElem?
  intro i
  by_cases h : i < r.length
  · rw [zds_get _ _ _ _ h, List.getElem?_map]
    have e1 : (r.map sD)[i]? = some (sD (ri r i)) := by rw [List.getElem?_map, List.getElem?_eq_getElem h, ri_get h]; rfl
    have e2 := refs_get m r.length i h
    have : ((r.map sD).zip (refsL m r.length))[i]? = some (sD (ri r i), .ref (m + i)) := by rw [List.getElem?_zip_eq_some]; exact ⟨e1, e2⟩
    rw [this]
    rfl
  · have n1 : (zds r m r.length)[i]? = none := List.getElem?_eq_none (by rw [zds_len]; omega)
    have n2 : (((r.map sD).zip (refsL m r.length)).map fun p => D.tup [p.1, p.2])[i]? = none := List.getElem?_eq_none (by rw [List.length_map, List.length_zip, refs_len, List.length_map]; omega)
    rw [n1, n2]
section
variable {m n : Nat} {r : List Sp} {t : Int}
theorem send_for (SD AD : List D) : ∀ (k j : Nat) (M : List D) (g : Nat → Q2) (x7 x8 : Sl), j + k = n → St M m n g →
    ∃ M' y7 y8, forLoopM (.tp [.nm 7, .nm 8]) (exMs [] [F__law_note] MB__law_send_1) ((zds r m n).drop j) (seG SD AD t (some (.int (j : Nat), false)) none none x7 x8) M = some (.nx (seG SD AD t (some (.int ((sf r g t k j : Nat) : Int), false)) none none y7 y8), M') ∧ St M' m n (fun i => if j ≤ i ∧ i < sf r g t k j then hv (g i) else g i) ∧ Fm m n M M'
  | 0, j, M, g, x7, x8, hj, S => ⟨M, x7, x8, by rw [List.drop_eq_nil_of_le (by rw [zds_len]; omega)]; simp [forLoopM, sf], S.congr fun i hi => by rw [sf, if_neg (by omega)], .refl _ _ _⟩
  | k + 1, j, M, g, x7, x8, hj, S => by
    have hjn : j < n := by omega
    rw [zds_drop _ _ _ _ hjn]
    cases hr : rj (ri r j) t (g j) with
    | true =>
      have e := s_rej (S j hjn) SD AD t j (ri r j) hr
      have es : sf r g t (k + 1) j = j := by rw [sf, if_pos hr]
      refine ⟨M, some (sD (ri r j), false), some (.ref (m + j), false), ?_, S.congr fun i hi => by rw [es, if_neg (by omega)], .refl _ _ _⟩
      rw [es]
      exact forM_brk (Γ1 := seG SD AD t (some (.int (j : Nat), false)) none none (some (sD (ri r j), false)) (some (.ref (m + j), false))) rfl e
    | false =>
      obtain ⟨M1, e, hM1⟩ := s_pass (S j hjn) SD AD t j (ri r j) hr
      have es : sf r g t (k + 1) j = sf r g t k (j + 1) := by rw [sf, if_neg (by rw [hr]; simp)]
      have S1 := S.set hjn (hv (g j))
      rw [← hM1] at S1
      have eg : ∀ mm, sf r (fun i => if i = j then hv (g j) else g i) t mm (j + 1) = sf r g t mm (j + 1) := by
        have key : ∀ mm jj, j < jj → sf r (fun i => if i = j then hv (g j) else g i) t mm jj = sf r g t mm jj := fun mm => by
          induction mm with
          | zero => intro jj _; rfl
          | succ mm ih =>
            intro jj h
            rw [sf, sf, if_neg (show ¬ jj = j by omega), ih (jj + 1) (by omega)]
        exact fun mm => key mm _ (Nat.lt_succ_self _)
      obtain ⟨M2, y7, y8, l, S2, F2⟩ := send_for SD AD k (j + 1) M1 _ (some (sD (ri r j), false)) (some (.ref (m + j), false)) (by omega) S1
      rw [eg] at l
      have ge := sf_ge r g t k (j + 1)
      refine ⟨M2, y7, y8, ?_, S2.congr fun i hi => ?_, ?_⟩
      · rw [es]
        exact (forLoopM_step (Γ1 := seG SD AD t (some (.int (j : Nat), false)) none none (some (sD (ri r j), false)) (some (.ref (m + j), false))) rfl e).trans l
      · simp only [eg, es]
        by_cases c : i = j
        · subst c
          rw [if_neg (by omega), if_pos rfl, if_pos ⟨Nat.le_refl _, by omega⟩]
        · rw [if_neg c]
          by_cases d : j + 1 ≤ i ∧ i < sf r g t k (j + 1)
          · rw [if_pos d, if_pos ⟨by omega, d.2⟩]
          · rw [if_neg d, if_neg (by omega)]
      · rw [hM1] at F2
        exact (Fm.set hjn M _).trans F2
theorem hv_no (q : Q2) : ∀ v, hv q ≠ .op v := fun v => by cases q <;> nofun
theorem s_ixs (SD AD : List D) (x4 x5 x7 x8 : Sl) (i : Int) (d e : D) (h1 : atI SD i = some d) (h2 : atI AD i = some e) : ev [] (.ix (.var 0) (.var 6)) (seG SD AD t x4 x5 (some (.int i, false)) x7 x8) = some (.fz d, seG SD AD t x4 x5 (some (.int i, false)) x7 x8) ∧ ev [] (.ix (.var 1) (.var 6)) (seG SD AD t x4 x5 (some (.int i, false)) x7 x8) = some (.fz e, seG SD AD t x4 x5 (some (.int i, false)) x7 x8) := by
  constructor
  · simp [DV.SC, DV.SX, h1]
  · simp [DV.SC, DV.SX, h2]
theorem send_notes (hn : r.length = n) (x4 x7 x8 : Sl) : ∀ (k j : Nat) (M : List D) (g : Nat → Q2) (x6 : Sl), j + k ≤ n → St M m n g → (∀ i, j ≤ i → i < j + k → ∀ v, g i ≠ .op v) →
    ∃ M' y6, forLoopM (.nm 6) (exMs [] [F__law_note] MB__law_send_2) (rngD (j : Nat) 1 k) (seG (r.map sD) (refsL m n) t x4 (some (.bl false, false)) x6 x7 x8) M = some (.nx (seG (r.map sD) (refsL m n) t x4 (some (.bl false, false)) y6 x7 x8), M') ∧ St M' m n (fun i => if j ≤ i ∧ i < j + k then fnote (ri r i) t (g i) else g i) ∧ Fm m n M M'
  | 0, j, M, g, x6, hj, S, _ => ⟨M, x6, by simp [rngD, forLoopM], S.congr fun i hi => by rw [if_neg (by omega)], .refl _ _ _⟩
  | k + 1, j, M, g, x6, hj, S, ho => by
    have hjn : j < n := by omega
    have e := note_ok (S j hjn) (ho j (Nat.le_refl _) (by omega)) (ri r j) t
    have h1 : atI (r.map sD) (j : Int) = some (sD (ri r j)) := atI_get (by rw [List.getElem?_map, List.getElem?_eq_getElem (by omega), ri_get (by omega)]; rfl)
    have h2 : atI (refsL m n) (j : Int) = some (.ref (m + j)) := atI_get (refs_get m n j hjn)
    obtain ⟨i1, i2⟩ := s_ixs (t := t) (r.map sD) (refsL m n) x4 (some (.bl false, false)) x7 x8 (j : Int) _ _ h1 h2
    have b : exMs [] [F__law_note] MB__law_send_2 (seG (r.map sD) (refsL m n) t x4 (some (.bl false, false)) (some (.int (j : Nat), false)) x7 x8) M = some (.nx (seG (r.map sD) (refsL m n) t x4 (some (.bl false, false)) (some (.int (j : Nat), false)) x7 x8), M.set (m + j) (qL2 (fnote (ri r j) t (g j)))) :=
      exMs_last (exM_expr (evX_callM (evXs_c (evX_raw i1) rfl (evXs_c (evX_raw i2) rfl (evXs_c (r := .sl 2) (evX_raw rfl) rfl (evXs_c (r := .sl 5) (evX_raw rfl) rfl evXs_n)))) rfl e rfl))
    have S1 := S.set hjn (fnote (ri r j) t (g j))
    obtain ⟨M2, y6, l, S2, F2⟩ := send_notes hn x4 x7 x8 k (j + 1) _ _ (some (.int (j : Nat), false)) (by omega) S1 (fun i h1 h2 v => by
      rw [if_neg (by omega)]
      exact ho i (by omega) (by omega) v)
    refine ⟨M2, y6, ?_, S2.congr fun i hi => ?_, (Fm.set hjn M _).trans F2⟩
    · rw [rngD]
      have ec : (j : Int) + 1 = ((j + 1 : Nat) : Int) := by omega
      rw [ec]
      exact (forLoopM_step (Γ1 := seG (r.map sD) (refsL m n) t x4 (some (.bl false, false)) (some (.int (j : Nat), false)) x7 x8) rfl b).trans l
    · by_cases c : i = j
      · subst c
        have e1 : ¬ (i + 1 ≤ i ∧ i < i + 1 + k) := by omega
        have e2 : i ≤ i ∧ i < i + (k + 1) := by omega
        simp only [if_neg e1, if_pos e2, if_true]
      · rw [if_neg c]
        by_cases d : j + 1 ≤ i ∧ i < j + 1 + k
        · rw [if_pos d, if_pos (by omega)]
        · rw [if_neg d, if_neg (by omega)]
/-- the states behind a failing request -/
def fnx (r : List Sp) (g : Nat → Q2) (t : Int) (n : Nat) : Nat → Q2 := fun i => if i < sf r g t n 0 then fnote (ri r i) t (hv (g i)) else g i
theorem s_rng (SD AD : List D) (x5 x6 x7 x8 : Sl) (s : Nat) (hs : s < 1000) (M : List D) : itM [] [F__law_note] (.raw .rng [.var 4]) (seG SD AD t (some (.int (s : Nat), false)) x5 x6 x7 x8) M = some (rngD 0 1 s, seG SD AD t (some (.int (s : Nat), false)) x5 x6 x7 x8, M) := by
  have := rngN1 (seG SD AD t (some (.int (s : Nat), false)) x5 x6 x7 x8) s (by omega)
  simp [DV.XC, DV.SC, DV.SX, this]
theorem s_zip (SD AD : List D) (x4 x5 x6 x7 x8 : Sl) (M : List D) : itM [] [F__law_note] (.raw .zip [.var 0, .var 1]) (seG SD AD t x4 x5 x6 x7 x8) M = some (zipD SD AD, seG SD AD t x4 x5 x6 x7 x8, M) := by
  simp [DV.XC, DV.SC, DV.SX]
theorem send_ok {M : List D} {g : Nat → Q2} (hn : r.length = n) (kl : n ≤ 900) (S : St M m n g) :
    ∃ M', F__law_send (plG [spD r, .lst (refsL m n), .int t, .bl false]) M = some (.fz (.tup [.bl false, .int ((sf r g t n 0 : Nat) : Int)]), M') ∧ St M' m n (fnx r g t n) ∧ Fm m n M M' := by
  have le := sf_le r g t n 0
  have e0 : exM [] [F__law_note] (.old (.asgO 4 (.cst (.int 0)))) (seG (r.map sD) (refsL m n) t none none none none none) M = some (.nx (seG (r.map sD) (refsL m n) t (some (.int ((0 : Nat) : Int), false)) none none none none), M) := exM_old (by simp [DV.SC, DV.SX])
  obtain ⟨M1, y7, y8, l1, S1, F1⟩ := send_for (m := m) (n := n) (r := r) (t := t) (r.map sD) (refsL m n) n 0 M g none none (by omega) S
  have e1 : exM [] [F__law_note] (.for_ (.tp [.nm 7, .nm 8]) (.raw .zip [.var 0, .var 1]) MB__law_send_1) (seG (r.map sD) (refsL m n) t (some (.int ((0 : Nat) : Int), false)) none none none none) M = some (.nx (seG (r.map sD) (refsL m n) t (some (.int ((sf r g t n 0 : Nat) : Int), false)) none none y7 y8), M1) := by
    refine exM_for (s_zip _ _ _ _ _ _ _ _) ?_
    have z := zip_zds r m
    rw [hn] at z
    rw [z]
    rw [List.drop_zero] at l1
    exact l1
  have e2 : exM [] [F__law_note] (.old (.asgO 5 (.and (.var 3) (.cmp .eq (.var 4) (.bi .len [.var 0]))))) (seG (r.map sD) (refsL m n) t (some (.int ((sf r g t n 0 : Nat) : Int), false)) none none y7 y8) M1 = some (.nx (seG (r.map sD) (refsL m n) t (some (.int ((sf r g t n 0 : Nat) : Int), false)) (some (.bl false, false)) none y7 y8), M1) := by
    generalize r.map sD = SD
    generalize refsL m n = AD
    exact exM_old (by simp [DV.SC, DV.SX])
  obtain ⟨M2, y6, l2, S2, F2⟩ := send_notes (m := m) (n := n) (r := r) (t := t) hn (some (.int ((sf r g t n 0 : Nat) : Int), false)) y7 y8 (sf r g t n 0) 0 M1 _ none (by omega) S1 (fun i h1 h2 v => by
    rw [if_pos ⟨h1, by omega⟩]
    exact hv_no _ v)
  have e3 : exM [] [F__law_note] (.for_ (.nm 6) (.raw .rng [.var 4]) MB__law_send_2) (seG (r.map sD) (refsL m n) t (some (.int ((sf r g t n 0 : Nat) : Int), false)) (some (.bl false, false)) none y7 y8) M1 = some (.nx (seG (r.map sD) (refsL m n) t (some (.int ((sf r g t n 0 : Nat) : Int), false)) (some (.bl false, false)) y6 y7 y8), M2) :=
    exM_for (s_rng _ _ _ _ _ _ _ (by omega) _) l2
  have e4 : exM [] [F__law_note] (.old (.ret (.tup [.var 5, .var 4]))) (seG (r.map sD) (refsL m n) t (some (.int ((sf r g t n 0 : Nat) : Int), false)) (some (.bl false, false)) y6 y7 y8) M2 = some (.rt (.fz (.tup [.bl false, .int ((sf r g t n 0 : Nat) : Int)])) (seG (r.map sD) (refsL m n) t (some (.int ((sf r g t n 0 : Nat) : Int), false)) (some (.bl false, false)) y6 y7 y8), M2) := by
    generalize r.map sD = SD
    generalize refsL m n = AD
    exact exM_oldR (by simp [DV.SC, DV.SX, sizeLine])
  refine ⟨M2, ?_, S2.congr fun i hi => ?_, F1.trans F2⟩
  · refine runM_by (o := (.rt (.fz (.tup [.bl false, .int ((sf r g t n 0 : Nat) : Int)])) (seG (r.map sD) (refsL m n) t (some (.int ((sf r g t n 0 : Nat) : Int), false)) (some (.bl false, false)) y6 y7 y8), M2)) rfl (?_ : exMs [] [F__law_note] _ (seG (r.map sD) (refsL m n) t none none none none none) M = _) rfl
    exact (exMs_nx e0).trans ((exMs_nx e1).trans ((exMs_nx e2).trans ((exMs_nx e3).trans (exMs_rt e4))))
  · unfold fnx
    simp only [Nat.zero_le, true_and, Nat.zero_add]
    by_cases c : i < sf r g t n 0
    · rw [if_pos c, if_pos c, if_pos c]
    · rw [if_neg c, if_neg c, if_neg c]
end

/-! ### periods of requests that pass -/
def per (r : List Sp) (p : Int) : Nat → Int
  | 0 => p
  | k + 1 => ru (ri r k).w (per r p k)
theorem ri_cons (s : Sp) (r : List Sp) (k : Nat) : ri (s :: r) (k + 1) = ri r k := by simp [ri]
theorem per_cons (s : Sp) (r : List Sp) (p : Int) : ∀ k, per (s :: r) p (k + 1) = per r (ru s.w p) k
  | 0 => by simp [per, ri]
  | k + 1 => by rw [per, per_cons s r p k, ri_cons, per]
theorem perL_at : ∀ (r : List Sp) (p : Int) (k : Nat), k ≤ r.length → (perL p r)[k]? = some (per r p k)
  | [], p, k, h => by
    have : k = 0 := by simpa using h
    subst this
    rfl
  | s :: r, p, 0, h => rfl
  | s :: r, p, k + 1, h => by
    rw [per_cons]
    show (perL (ru s.w p) r)[k]? = _
    exact perL_at r _ k (by simpa using h)
theorem per_pos {r : List Sp} {p : Int} (ok : ∀ s ∈ r, okS s) (p0 : 1 ≤ p) : ∀ k, k ≤ r.length → 1 ≤ per r p k
  | 0, _ => p0
  | k + 1, h => by
    have ih := per_pos ok p0 k (by omega)
    have w0 := (ok _ (List.getElem_mem (show k < r.length by omega))).w0
    rw [per, ri_get (show k < r.length by omega)]
    have := (ru_spec (w := r[k].w) (p := per r p k) w0 ih).2.2.2
    omega
def Steps (d : Int) : List Int → Prop
  | [] => True
  | [_] => True
  | a :: b :: l => b - a = d ∧ Steps d (b :: l)
theorem steps_app (d t : Int) : ∀ l : List Int, Steps d l → (∀ x, l.getLast? = some x → t - x = d) → Steps d (l ++ [t])
  | [], _, _ => trivial
  | [a], _, h => ⟨h a rfl, trivial⟩
  | a :: b :: l, s, h => ⟨s.1, steps_app d t (b :: l) s.2 fun x e => h x (by rw [← e]; simp [List.getLast?_cons_cons])⟩
theorem last_app (l : List Int) (t : Int) : (l ++ [t]).getLast? = some t := by simp
/-- no breaker is closed -/
def isO (g : Nat → Q2) (n : Nat) : Bool := (List.range n).all fun i => match g i with
  | .cl _ => false
  | _ => true
theorem isO_get {g : Nat → Q2} {n : Nat} (h : isO g n = true) {i : Nat} (hi : i < n) : ∀ m, g i ≠ .cl m := fun m e => by
  have := List.all_eq_true.mp h i (List.mem_range.mpr hi)
  rw [e] at this
  cases this
theorem isO_of {g : Nat → Q2} {n : Nat} (h : ∀ i, i < n → ∀ m, g i ≠ .cl m) : isO g n = true := by
  refine List.all_eq_true.mpr fun i hi => ?_
  have := h i (List.mem_range.mp hi)
  cases e : g i with
  | cl m => exact absurd e (this m)
  | _ => rfl
structure Iv (r : List Sp) (p : Int) (g : Nat → Q2) (P : Nat → List Int) (tl : Int) : Prop where
  nh : ∀ i, i < r.length → g i ≠ .hf
  em : isO g r.length = false → ∀ k, k ≤ r.length → P k = []
  df : ∀ k, k ≤ r.length → Steps (per r p k) (P k)
  l0 : ∀ x, (P 0).getLast? = some x → x = tl
  ch : isO g r.length = true → ∀ k, k < r.length → ∀ L, (P (k + 1)).getLast? = some L → g k = .op L ∧ ∃ c : Nat, (P k).getLast? = some (L + (c : Int) * per r p k) ∧ (c : Int) * per r p k < (ri r k).w
def addP (P : Nat → List Int) (s : Nat) (t : Int) : Nat → List Int := fun k => if k ≤ s then P k ++ [t] else P k
theorem fnote_nh (u : Sp) (t : Int) (q : Q2) : fnote u t q ≠ .hf := by
  cases q with
  | cl n =>
    by_cases c : n + 1 = u.f
    · simp only [fnote, if_pos c]; intro h; cases h
    · simp only [fnote, if_neg c]; intro h; cases h
  | op v =>
    show Q2.op t ≠ .hf
    nofun
  | hf =>
    show Q2.op t ≠ .hf
    nofun
theorem iv_next {r : List Sp} {p : Int} (ok : ∀ s ∈ r, okS s) (p0 : 1 ≤ p) {g : Nat → Q2} {P : Nat → List Int} {tl t : Int} (I : Iv r p g P tl) (ht : t = tl + p) :
    Iv r p (fnx r g t r.length) (if isO g r.length = true then addP P (sf r g t r.length 0) t else P) t := by
  have le := sf_le r g t r.length 0
  have nh : ∀ i, i < r.length → fnx r g t r.length i ≠ .hf := fun i hi => by
    unfold fnx
    split
    · exact fnote_nh _ _ _
    · exact I.nh i hi
  cases ho : isO g r.length with
  | false =>
    have em := I.em ho
    rw [if_neg (by simp)]
    refine ⟨nh, fun _ => em, I.df, fun x e => ?_, fun _ k hk L e => ?_⟩
    · rw [em 0 (Nat.zero_le _)] at e; cases e
    · rw [em (k + 1) hk] at e; cases e
  | true =>
    rw [if_pos rfl]
    have op : ∀ i, i < r.length → ∃ v, g i = .op v := fun i hi => by
      cases e : g i with
      | cl m => exact absurd e (isO_get ho hi m)
      | op v => exact ⟨v, rfl⟩
      | hf => exact absurd e (I.nh i hi)
    generalize hs : sf r g t r.length 0 = s at *
    have g1 : ∀ i, i < s → i < r.length → fnx r g t r.length i = .op t := fun i h hi => by
      obtain ⟨v, e⟩ := op i hi
      unfold fnx
      rw [hs, if_pos h, e]
      rfl
    have g2 : ∀ i, s ≤ i → fnx r g t r.length i = g i := fun i h => by
      unfold fnx
      rw [hs, if_neg (by omega)]
    have o' : isO (fnx r g t r.length) r.length = true := isO_of fun i hi m => by
      by_cases c : i < s
      · rw [g1 i c hi]; nofun
      · rw [g2 i (by omega)]; exact isO_get ho hi m
    have rjf : ∀ i, i < s → rj (ri r i) t (g i) = false := fun i h => sf_lt r g t r.length 0 i (Nat.zero_le _) (by rw [hs]; exact h)
    have D : ∀ k, k ≤ s → ∀ x, (P k).getLast? = some x → t - x = per r p k := fun k => by
      induction k with
      | zero =>
        intro _ x e
        have := I.l0 x e
        rw [per]
        omega
      | succ k ih =>
        intro hk L e
        have hkn : k < r.length := by omega
        obtain ⟨e1, c, e2, e3⟩ := I.ch ho k hkn L e
        have d := ih (by omega) _ e2
        have nr := rjf k (by omega)
        rw [e1] at nr
        simp only [rj, decide_eq_false_iff_not] at nr
        have q := per_pos ok p0 k (by omega)
        have w0 := (ok _ (List.getElem_mem hkn)).w0
        rw [← ri_get hkn] at w0
        have ex : ((c + 1 : Nat) : Int) * per r p k = (c : Int) * per r p k + per r p k := by push_cast; rw [Int.add_mul, Int.one_mul]
        have := ru_uniq (w := (ri r k).w) (p := per r p k) (x := ((c + 1 : Nat) : Int) * per r p k) w0 q (by omega) (by omega) ⟨((c + 1 : Nat) : Int), Int.mul_comm _ _⟩
        rw [per, this]
        omega
    refine ⟨nh, fun z => by rw [o'] at z; (cases z), fun k hk => ?_, fun x e => ?_, fun _ k hk L e => ?_⟩
    · unfold addP
      by_cases c : k ≤ s
      · rw [if_pos c]; exact steps_app _ _ _ (I.df k hk) (D k c)
      · rw [if_neg c]; exact I.df k hk
    · unfold addP at e
      rw [if_pos (Nat.zero_le _), last_app] at e
      exact (Option.some.inj e).symm
    · unfold addP at e ⊢
      by_cases c : k + 1 ≤ s
      · rw [if_pos c, last_app] at e
        have := Option.some.inj e
        subst this
        have w0 := (ok _ (List.getElem_mem hk)).w0
        rw [← ri_get hk] at w0
        exact ⟨g1 k (by omega) hk, 0, by rw [if_pos (by omega), last_app]; simp, by simp; omega⟩
      · rw [if_neg c] at e
        obtain ⟨e1, z, e2, e3⟩ := I.ch ho k hk L e
        refine ⟨by rw [g2 k (by omega)]; exact e1, ?_⟩
        by_cases d : k = s
        · subst d
          have dd := D k (Nat.le_refl _) _ e2
          have rr := sf_at r g t r.length 0 (by rw [hs]; omega)
          rw [hs, e1] at rr
          simp only [rj, decide_eq_true_eq] at rr
          have ex : ((z + 1 : Nat) : Int) * per r p k = (z : Int) * per r p k + per r p k := by push_cast; rw [Int.add_mul, Int.one_mul]
          exact ⟨z + 1, by rw [if_pos (Nat.le_refl _), last_app, ex]; congr 1; omega, by omega⟩
        · rw [if_neg (by omega)]
          exact ⟨z, e2, e3⟩
theorem iv_init (r : List Sp) (p tl : Int) : Iv r p (fun _ => .cl 0) (fun _ => []) tl := ⟨fun _ _ => nofun, fun _ _ _ => rfl, fun _ _ => trivial, fun x e => (by cases e), fun _ k _ L e => (by cases e)⟩
/-- what the law lists -/
theorem steps_zip (d : Int) : ∀ l : List Int, Steps d l → (l.zip (l.drop 1)).map (fun q => q.2 - q.1) = List.replicate (l.length - 1) d
  | [], _ => rfl
  | [a], _ => rfl
  | a :: b :: l, h => by
    have ih := steps_zip d (b :: l) h.2
    simp only [List.drop_succ_cons, List.drop_zero, List.zip_cons_cons, List.map_cons, List.length_cons, Nat.add_sub_cancel] at ih ⊢
    rw [h.1, List.replicate_succ, ih]

/-! ### the law's frame -/
abbrev fsLw : List FS := [F__law_cell_at, F__law_source_of, F__law_specs, F_Row___init__, F__law_next, F_request_time, F_periods, F_row_period]
abbrev msLw : List FM := [F__law_send]
abbrev kG (x0 x1 x2 : Sl) (SD : List D) (R : D) (AS : List D) (f : Bool) (AP : List D) (x7 x8 x9 x10 x11 x13 x14 : Sl) : Ct := [x0, x1, x2, some (.lst SD, false), some (R, false), some (.lst AS, f), some (.lst AP, true), x7, x8, x9, x10, x11, none, x13, x14, none, none, none, none]
/-- looked at -/
abbrev kL (x0 x1 x2 : Sl) (SD : List D) (R : D) (AS AP : List D) (x7 x8 x9 x10 x11 x13 x14 : Sl) : Ct := [x0, x1, x2, some (.lst SD, false), some (R, false), some (.lst AS, false), some (.lst AP, false), x7, x8, x9, x10, x11, none, x13, x14, none, none, none, none]
abbrev fl1 (x : Sl) : Sl := x.map fun q => (q.1, false)
def rqt (h p n : Int) : Int := h + n * p
theorem request_time_ok {r : List Sp} {p h n : Int} (n0 : 0 ≤ n) (m : mulOk n p = true) : F_request_time [some (RO r p h, false), some (.int n, false)] = some (.fz (.int (rqt h p n)), [some (RO r p h, false), some (.int n, false)]) := by
  have e1 := is_int_i n false
  have f1 := fld_pace r p h
  have f2 := fld_shift r p h
  have nn : ¬ n < 0 := by omega
  generalize RO r p h = R at *
  simp [F_request_time, DV.SC, DV.SE, DV.SX, e1, f1, f2, m, nn, rqt]
/-! lists of the store looked at -/
def qsL (g : Nat → Q2) (n : Nat) : List D := (List.range n).map fun i => qL2 (g i)
def psL (P : Nat → List Int) (c : Nat) : List D := (List.range c).map fun k => .lst ((P k).map D.int)
def Pst (M : List D) (b c : Nat) (P : Nat → List Int) : Prop := ∀ k, k < c → M[b + k]? = some (.lst ((P k).map D.int))
theorem snap_ints {M : List D} {k n : Nat} {l : List Int} (hM : M[k]? = some (.lst (l.map D.int))) : snap M (n + 1) (.ref k) = .lst (l.map D.int) := by
  simp only [snap, hM]
  congr 1
  rw [List.map_map]
  exact List.map_congr_left fun b _ => by cases n <;> simp [snap]
theorem snaps_q {M : List D} {m n : Nat} {g : Nat → Q2} (S : St M m n g) : snapT M 1 true (.lst (refsL m n)) = .lst (qsL g n) := by
  show D.lst ((refsL m n).map (snap M 1)) = _
  unfold refsL qsL
  rw [List.map_map]
  congr 1
  exact List.map_congr_left fun i hi => snap_l (n := 0) (S i (List.mem_range.mp hi))
theorem snaps_p {M : List D} {b c : Nat} {P : Nat → List Int} (S : Pst M b c P) : snapT M 1 true (.lst (refsL b c)) = .lst (psL P c) := by
  show D.lst ((refsL b c).map (snap M 1)) = _
  unfold refsL psL
  rw [List.map_map]
  congr 1
  exact List.map_congr_left fun i hi => snap_ints (n := 0) (S i (List.mem_range.mp hi))
section
variable (x0 x1 x2 : Sl) (SD : List D) (R : D) (x7 x8 x9 x10 x11 x13 x14 : Sl)
theorem look5 {M : List D} {m n : Nat} {g : Nat → Q2} (S : St M m n g) (f : Bool) (AP : List D) : lookG M [(5, 1, true)] (kG x0 x1 x2 SD R (refsL m n) f AP x7 x8 x9 x10 x11 x13 x14) = kL (fl1 x0) (fl1 x1) (fl1 x2) SD R (qsL g n) AP (fl1 x7) (fl1 x8) (fl1 x9) (fl1 x10) (fl1 x11) (fl1 x13) (fl1 x14) := by
  have e := snaps_q S
  have h5 : (DV.flat (kG x0 x1 x2 SD R (refsL m n) f AP x7 x8 x9 x10 x11 x13 x14))[5]? = some (some (.lst (refsL m n), false)) := rfl
  simp only [lookG, snapG, h5, e]
  rfl
theorem look6 {M : List D} {b c : Nat} {P : Nat → List Int} (S : Pst M b c P) (f : Bool) (AS : List D) : lookG M [(6, 1, true)] (kG x0 x1 x2 SD R AS f (refsL b c) x7 x8 x9 x10 x11 x13 x14) = kL (fl1 x0) (fl1 x1) (fl1 x2) SD R AS (psL P c) (fl1 x7) (fl1 x8) (fl1 x9) (fl1 x10) (fl1 x11) (fl1 x13) (fl1 x14) := by
  have e := snaps_p S
  have h6 : (DV.flat (kG x0 x1 x2 SD R AS f (refsL b c) x7 x8 x9 x10 x11 x13 x14))[6]? = some (some (.lst (refsL b c), false)) := rfl
  simp only [lookG, snapG, h6, e]
  rfl
/-! are all open? -/
def gD : D → Bool
  | .lst [.str s, .int _] => s == ("closed" : Str)
  | _ => false
theorem gD_q (q : Q2) : gD (qL2 q) = (match q with | .cl _ => true | _ => false) := by
  cases q with
  | cl n => show (("closed" : Str) == ("closed" : Str)) = true; simp
  | op n => exact n_oc
  | hf => exact n_hc
theorem t_cond (q : Q2) (Γ : Ct) (h15 : Γ[15]? = some (some (qL2 q, false))) : evc fsLw [.cmp .eq (.ix (.var 15) (.cst (.int 0))) (.cst (.str "closed"))] Γ = some (gD (qL2 q), Γ) := by
  have i0 : ∀ x y : D, atI [x, y] 0 = some x := fun _ _ => rfl
  have v : ev fsLw (.var 15) Γ = some (.sl 15, Γ) := by simp only [ev, h15]
  have a := c_cc
  have b := c_oc
  have c : cmpD .eq (.str "half") (.str "closed") = some false := by simp [cmpD, okB, so_hf, so_cl, eqd, n_hc]
  have e : ev fsLw (.cmp .eq (.ix (.var 15) (.cst (.int 0))) (.cst (.str "closed"))) Γ = some (.fz (.bl (gD (qL2 q))), Γ) := by
    rw [gD_q]
    cases q <;> (simp only [qL2, q2s, q2n] at h15 ⊢; generalize hC : D.str "closed" = cc at *; simp only [ev, v, h15, Option.bind_some, datum, ixD, i0, Option.map_some, a, b, c])
  generalize DV.E.cmp .eq _ _ = EE at *
  simp only [evc, e, Option.bind_some]
  rfl
theorem cmp_rep (c : Nat) : cmpD .eq (.lst (List.replicate c (.str "closed"))) (.lst []) = some (decide (c = 0)) := by
  have o1 : okB 12 (.lst (List.replicate c (.str "closed"))) = true := by
    simp only [okB, List.all_eq_true]
    intro d m
    rw [List.eq_of_mem_replicate m]
    exact so_cl
  have o2 : okB 12 (.lst []) = true := rfl
  simp only [cmpD, o1, o2, Bool.and_self, if_true, Option.some.injEq]
  cases c with
  | zero => simp [eqd, eqds]
  | succ c => rw [List.replicate_succ]; simp [eqd, eqds]
theorem t_open (g : Nat → Q2) (n : Nat) (hn : n ≤ 900) (AP : List D) : ev fsLw (.cmp .eq (.comp [15] (.nm 15) .seq [.var 5] [.cmp .eq (.ix (.var 15) (.cst (.int 0))) (.cst (.str "closed"))] (.cst (.str "closed"))) (.lst [])) (kL x0 x1 x2 SD R (qsL g n) AP x7 x8 x9 x10 x11 x13 x14) = some (.fz (.bl (isO g n)), kL x0 x1 x2 SD R (qsL g n) AP x7 x8 x9 x10 x11 x13 x14) := by
  have it : (evs fsLw [.var 5] (kL x0 x1 x2 SD R (qsL g n) AP x7 x8 x9 x10 x11 x13 x14)).bind (fun p => iterD .seq p.1 p.2) = some (qsL g n, kL x0 x1 x2 SD R (qsL g n) AP x7 x8 x9 x10 x11 x13 x14) := by
    generalize qsL g n = Q
    simp [DV.SC, DV.SX]
  have cm := comp_gen (fs := fsLw) (own := [15]) (tg := .nm 15) (ik := .seq) (cs := [.cmp .eq (.ix (.var 15) (.cst (.int 0))) (.cst (.str "closed"))]) (elt := .cst (.str "closed")) gD (fun _ => .str "closed") it rfl rfl rfl rfl (by simp [qsL]; omega) (fun d m => by
    obtain ⟨i, _, rfl⟩ := List.mem_map.mp m
    exact ⟨(kL x0 x1 x2 SD R (qsL g n) AP x7 x8 x9 x10 x11 x13 x14).set 15 (some (qL2 (g i), false)), rfl, t_cond (g i) _ rfl, rfl, rfl, fun _ => ⟨.fz (.str "closed"), rfl, rfl⟩⟩)
  have er : ((qsL g n).filter gD).map (fun _ => D.str "closed") = List.replicate ((qsL g n).filter gD).length (.str "closed") := by rw [List.map_const']
  rw [er] at cm
  have cc := cmp_rep ((qsL g n).filter gD).length
  have eo : isO g n = decide (((qsL g n).filter gD).length = 0) := by
    have : isO g n = true ↔ ((qsL g n).filter gD).length = 0 := by
      rw [List.length_eq_zero_iff, List.filter_eq_nil_iff]
      constructor
      · intro h d m
        obtain ⟨i, hi, rfl⟩ := List.mem_map.mp m
        rw [gD_q]
        have := isO_get h (List.mem_range.mp hi)
        cases e : g i with
        | cl z => exact absurd e (this z)
        | _ => simp
      · intro h
        refine isO_of fun i hi z e => ?_
        have := h (qL2 (g i)) (List.mem_map.mpr ⟨i, List.mem_range.mpr hi, rfl⟩)
        rw [gD_q, e] at this
        exact this rfl
    by_cases c : ((qsL g n).filter gD).length = 0
    · rw [decide_eq_true c]; exact this.mpr c
    · rw [decide_eq_false c]
      cases h : isO g n with
      | true => exact absurd (this.mp h) c
      | false => rfl
  rw [eo]
  generalize ((qsL g n).filter gD).length = k at *
  generalize List.replicate k (D.str "closed") = L at *
  generalize DV.E.comp _ _ _ _ _ _ = EE at *
  simp [DV.SC, DV.SX, cm, sizeLine, cc]
/-! go on? -/
theorem ints_map : ∀ l : List Int, intsD (l.map D.int) = some l
  | [] => rfl
  | i :: l => by simp only [List.map_cons, intsD, ints_map l, Option.map_some]
theorem min_some : ∀ (a : Int) (l : List Int), ∃ m, minI (a :: l) = some m := fun a l => by
  simp [minI]
theorem lens_ok (P : Nat → List Int) (c : Nat) (hc : c ≤ 1000) (AS : List D) : ev fsLw (.comp [16] (.nm 16) .seq [.var 6] [] (.bi .len [.var 16])) (kL x0 x1 x2 SD R AS (psL P c) x7 x8 x9 x10 x11 x13 x14) = some (.nw (.lst (((List.range c).map fun k => ((P k).length : Int)).map D.int)), kL x0 x1 x2 SD R AS (psL P c) x7 x8 x9 x10 x11 x13 x14) := by
  have it : (evs fsLw [.var 6] (kL x0 x1 x2 SD R AS (psL P c) x7 x8 x9 x10 x11 x13 x14)).bind (fun p => iterD .seq p.1 p.2) = some (psL P c, kL x0 x1 x2 SD R AS (psL P c) x7 x8 x9 x10 x11 x13 x14) := by
    generalize psL P c = Q
    simp [DV.SC, DV.SX]
  have cm := comp_gen (fs := fsLw) (own := [16]) (tg := .nm 16) (ik := .seq) (cs := []) (elt := .bi .len [.var 16]) (fun _ => true) (fun d => match d with | .lst l => .int (l.length : Int) | d => d) it rfl rfl rfl rfl (by simp [psL]; omega) (fun d m => by
    obtain ⟨k, _, rfl⟩ := List.mem_map.mp m
    refine ⟨(kL x0 x1 x2 SD R AS (psL P c) x7 x8 x9 x10 x11 x13 x14).set 16 (some (.lst ((P k).map D.int), false)), rfl, by simp only [DV.evc.eq_1], rfl, rfl, fun _ => ⟨.fz (.int (((P k).map D.int).length : Int)), ?_, rfl⟩⟩
    generalize (P k).map D.int = L
    simp [DV.SC, DV.SX])
  rw [cm]
  congr 3
  rw [List.filter_eq_self.mpr fun _ _ => rfl]
  unfold psL
  rw [List.map_map, List.map_map]
  refine congrArg D.lst (List.map_congr_left fun k _ => ?_)
  simp
theorem t_while (P : Nat → List Int) (c : Nat) (hc : c < 1000) (AS : List D) (j : Int) : ∃ b, ev fsLw (.and (.cmp .lt (.var 7) (.cst (.int 900))) (.cmp .lt (.bi .minl [.comp [16] (.nm 16) .seq [.var 6] [] (.bi .len [.var 16])]) (.cst (.int 3)))) (kL x0 x1 x2 SD R AS (psL P (c + 1)) (some (.int j, false)) x8 x9 x10 x11 x13 x14) = some (.fz (.bl b), kL x0 x1 x2 SD R AS (psL P (c + 1)) (some (.int j, false)) x8 x9 x10 x11 x13 x14) ∧ (b = true → j < 900) := by
  have lo := lens_ok x0 x1 x2 SD R (some (.int j, false)) x8 x9 x10 x11 x13 x14 P (c + 1) (by omega) AS
  obtain ⟨mn, hm⟩ : ∃ mn, minI ((List.range (c + 1)).map fun k => ((P k).length : Int)) = some mn := by
    rw [List.range_succ_eq_map, List.map_cons]
    exact min_some _ _
  have hb : biD .minl [.lst (((List.range (c + 1)).map fun k => ((P k).length : Int)).map D.int)] = some (.fz (.int mn)) := by
    simp only [biD, ints_map, Option.bind_some, hm, Option.map_some]
  generalize ((List.range (c + 1)).map fun k => ((P k).length : Int)).map D.int = LL at *
  generalize psL P (c + 1) = PP at *
  generalize DV.E.comp _ _ _ _ _ _ = EE at *
  by_cases h : j < 900
  · refine ⟨decide (mn < 3), ?_, fun _ => h⟩
    simp only [ev, evs, lo, Option.bind_some, datums, datum, Option.map_some, List.getElem?_cons_succ, List.getElem?_cons_zero, hb, cmpD, testD, truthD, decide_eq_true h, if_true]
  · refine ⟨false, ?_, nofun⟩
    simp only [ev, Option.bind_some, datum, Option.map_some, List.getElem?_cons_succ, List.getElem?_cons_zero, cmpD, testD, truthD, decide_eq_false h, Bool.false_eq_true, if_false]
end

/-! ### requests one after another -/
theorem St.keep {M M' : List D} {m n b c : Nat} {g : Nat → Q2} (S : St M m n g) (F : Fm b c M M') (h : m + n ≤ b) : St M' m n g := fun i hi => (F.old _ (by omega)).trans (S i hi)
theorem Pst.keep {M M' : List D} {m n b c : Nat} {P : Nat → List Int} (S : Pst M b c P) (F : Fm m n M M') (h : m + n ≤ b) : Pst M' b c P := fun k hk => (F.old _ (by omega)).trans (S k hk)
theorem Pst.congr {M : List D} {b c : Nat} {P P' : Nat → List Int} (S : Pst M b c P) (h : ∀ k, k < c → P k = P' k) : Pst M b c P' := fun k hk => by rw [← h k hk]; exact S k hk
section
variable (x0 x1 x2 : Sl) (SD : List D) (R : D) (x7 x8 x9 x10 x11 x13 x14 : Sl)
theorem k_ix6 (AS AP : List D) (f : Bool) (k : Int) (d : D) (h : atI AP k = some d) : ev fsLw (.ix (.var 6) (.var 10)) (kG x0 x1 x2 SD R AS f AP x7 x8 x9 (some (.int k, false)) x11 x13 x14) = some (.fz d, kG x0 x1 x2 SD R AS f AP x7 x8 x9 (some (.int k, false)) x11 x13 x14) := by
  simp [DV.SC, DV.SX, h]
theorem k_time (AS AP : List D) (f : Bool) (j t : Int) (e : F_request_time [some (R, false), some (.int j, false)] = some (.fz (.int t), [some (R, false), some (.int j, false)])) : ex fsLw [] (.asg (.nm 8) (.call 5 [.var 4, .var 7])) (kG x0 x1 x2 SD R AS f AP (some (.int j, false)) x8 x9 x10 x11 x13 x14) = some (.nx (kG x0 x1 x2 SD R AS f AP (some (.int j, false)) (some (.int t, false)) x9 x10 x11 x13 x14)) := by
  simp [DV.SC, DV.SX, e]
theorem k_inc (AS AP : List D) (f : Bool) (j : Nat) : ex fsLw [] (.asgO 7 (.bin .add (.var 7) (.cst (.int 1)))) (kG x0 x1 x2 SD R AS f AP (some (.int (j : Nat), false)) x8 x9 x10 x11 x13 x14) = some (.nx (kG x0 x1 x2 SD R AS f AP (some (.int ((j + 1 : Nat) : Int), false)) x8 x9 x10 x11 x13 x14)) := by
  simp [DV.SC, DV.SX]
theorem k_rng (AS AP : List D) (f : Bool) (s : Nat) (hs : s < 1000) (M : List D) : itM fsLw msLw (.raw .rng [.bin .add (.var 14) (.cst (.int 1))]) (kG x0 x1 x2 SD R AS f AP x7 x8 x9 x10 x11 x13 (some (.int (s : Nat), false))) M = some (rngD 0 1 (s + 1), kG x0 x1 x2 SD R AS f AP x7 x8 x9 x10 x11 x13 (some (.int (s : Nat), false)), M) := by
  have : ∀ Γ : Ct, rngO Γ [D.int ((s : Int) + 1)] = some (rngD 0 1 (s + 1), Γ) := fun Γ => by
    have := rngN1 Γ (s + 1) (by omega)
    rwa [show ((s + 1 : Nat) : Int) = (s : Int) + 1 by omega] at this
  simp [DV.XC, DV.SC, DV.SX, this]
/-- times put down -/
def Nf (x : Sl) : Prop := ∀ d, x ≠ some (d, true)
theorem nf_int (i : Int) : Nf (some (.int i, false)) := fun d h => by cases h
theorem k_app (AS : List D) (f : Bool) (b c : Nat) (t : Int) : ∀ (z : Nat) (jj : Nat) (M : List D) (P : Nat → List Int) (x10 : Sl), Nf x10 → jj + z ≤ c → Pst M b c P → (∀ k, jj ≤ k → k < c → (P k).length < 10000) → ∃ M' y10, forLoopM (.nm 10) (exMs fsLw msLw MB_law_1) (rngD (jj : Nat) 1 z) (kG x0 x1 x2 SD R AS f (refsL b c) x7 (some (.int t, false)) (some (.bl true, false)) x10 x11 x13 x14) M = some (.nx (kG x0 x1 x2 SD R AS f (refsL b c) x7 (some (.int t, false)) (some (.bl true, false)) y10 x11 x13 x14), M') ∧ Pst M' b c (fun k => if jj ≤ k ∧ k < jj + z then P k ++ [t] else P k) ∧ Fm b c M M' ∧ Nf y10 := fun z => by
  induction z with
  | zero => exact fun jj M P x10 hx hj S _ => ⟨M, x10, by simp [rngD, forLoopM], S.congr fun k hk => by rw [if_neg (by omega)], .refl _ _ _, hx⟩
  | succ z ih =>
    intro jj M P x10 hx hj S hl
    have hjc : jj < c := by omega
    have h1 := atI_get (refs_get b c jj hjc)
    have i1 := k_ix6 x0 x1 x2 SD R x7 (some (.int t, false)) (some (.bl true, false)) x11 x13 x14 AS (refsL b c) f (jj : Int) _ h1
    have S0 := S jj hjc
    have a1 : exM fsLw msLw (.app (.raw (.ix (.var 6) (.var 10))) (.raw (.var 8))) (kG x0 x1 x2 SD R AS f (refsL b c) x7 (some (.int t, false)) (some (.bl true, false)) (some (.int (jj : Nat), false)) x11 x13 x14) M = some (.nx (kG x0 x1 x2 SD R AS f (refsL b c) x7 (some (.int t, false)) (some (.bl true, false)) (some (.int (jj : Nat), false)) x11 x13 x14), M.set (b + jj) (.lst ((P jj).map D.int ++ [.int t]))) :=
      exM_app (r := .fz (.ref (b + jj))) (y := .sl 8) (evX_raw i1) rfl S0 (evX_raw rfl) rfl S0 (by rw [List.length_map]; have := hl jj (Nat.le_refl _) hjc; omega)
    have bd : exMs fsLw msLw MB_law_1 (kG x0 x1 x2 SD R AS f (refsL b c) x7 (some (.int t, false)) (some (.bl true, false)) (some (.int (jj : Nat), false)) x11 x13 x14) M = some (.nx (kG x0 x1 x2 SD R AS f (refsL b c) x7 (some (.int t, false)) (some (.bl true, false)) (some (.int (jj : Nat), false)) x11 x13 x14), M.set (b + jj) (.lst ((P jj).map D.int ++ [.int t]))) :=
      exMs_last (exM_iteT (x := .sl 9) (evX_raw rfl) rfl (exMs_last a1))
    have S1 : Pst (M.set (b + jj) (.lst ((P jj).map D.int ++ [.int t]))) b c (fun k => if k = jj then P k ++ [t] else P k) := fun k hk => by
      by_cases e : k = jj
      · subst e
        show _ = some (D.lst ((if k = k then P k ++ [t] else P k).map D.int))
        rw [if_pos rfl, List.map_append]
        exact set_self (List.getElem?_eq_some_iff.mp S0).1
      · show _ = some (D.lst ((if k = jj then P k ++ [t] else P k).map D.int))
        rw [if_neg e, List.getElem?_set_ne (by omega)]
        exact S k hk
    obtain ⟨M2, y10, l, S2, F2, hy⟩ := ih (jj + 1) _ _ (some (.int (jj : Nat), false)) (nf_int _) (by omega) S1 (fun k h1 h2 => by
      show (if k = jj then P k ++ [t] else P k).length < 10000
      rw [if_neg (by omega)]
      exact hl k (by omega) h2)
    refine ⟨M2, y10, ?_, S2.congr fun k hk => ?_, (Fm.set hjc M _).trans F2, hy⟩
    · rw [rngD]
      have ec : (jj : Int) + 1 = ((jj + 1 : Nat) : Int) := by omega
      rw [ec]
      exact (forLoopM_step (Γ1 := kG x0 x1 x2 SD R AS f (refsL b c) x7 (some (.int t, false)) (some (.bl true, false)) (some (.int (jj : Nat), false)) x11 x13 x14) rfl bd).trans l
    · by_cases e : k = jj
      · subst e
        have e1 : ¬ (k + 1 ≤ k ∧ k < k + 1 + z) := by omega
        have e2 : k ≤ k ∧ k < k + (z + 1) := by omega
        simp only [if_neg e1, if_pos e2, if_true]
      · simp only [if_neg e]
        by_cases d : jj + 1 ≤ k ∧ k < jj + 1 + z
        · rw [if_pos d, if_pos (by omega)]
        · rw [if_neg d, if_neg (by omega)]
theorem k_skip (AS AP : List D) (f : Bool) : ∀ (z : Nat) (lo : Int) (M : List D) (x10 : Sl), Nf x10 → ∃ y10, forLoopM (.nm 10) (exMs fsLw msLw MB_law_1) (rngD lo 1 z) (kG x0 x1 x2 SD R AS f AP x7 x8 (some (.bl false, false)) x10 x11 x13 x14) M = some (.nx (kG x0 x1 x2 SD R AS f AP x7 x8 (some (.bl false, false)) y10 x11 x13 x14), M) ∧ Nf y10
  | 0, lo, M, x10, hx => ⟨x10, by simp [rngD, forLoopM], hx⟩
  | z + 1, lo, M, x10, hx => by
    have bd : exMs fsLw msLw MB_law_1 (kG x0 x1 x2 SD R AS f AP x7 x8 (some (.bl false, false)) (some (.int lo, false)) x11 x13 x14) M = some (.nx (kG x0 x1 x2 SD R AS f AP x7 x8 (some (.bl false, false)) (some (.int lo, false)) x11 x13 x14), M) :=
      exMs_last (exM_ite0 (x := .sl 9) (evX_raw rfl) rfl)
    obtain ⟨y10, l, hy⟩ := k_skip AS AP f z (lo + 1) M (some (.int lo, false)) (nf_int _)
    exact ⟨y10, by rw [rngD]; exact (forLoopM_step (Γ1 := kG x0 x1 x2 SD R AS f AP x7 x8 (some (.bl false, false)) (some (.int lo, false)) x11 x13 x14) rfl bd).trans l, hy⟩
end
section
variable {m : Nat} {r : List Sp} {p h : Int}
/-- one request -/
theorem k_body (x0 x1 x2 : Sl) (ok : okR r p h) (j : Nat) (hj : j < 900) {M : List D} {g : Nat → Q2} {P : Nat → List Int} (f : Bool) (x8 x9 x10 x11 x13 x14 : Sl) (hx : Nf x10) (S : St M m r.length g) (Q : Pst M (m + r.length) (r.length + 1) P) (I : Iv r p g P (rqt h p ((j : Int) - 1))) (hl : ∀ k, k ≤ r.length → (P k).length ≤ j) :
    ∃ M' g' P' y8 y9 y10 y13 y14, exMs fsLw msLw MB_law_2 (kG x0 x1 x2 (r.map sD) (RO r p h) (refsL m r.length) f (refsL (m + r.length) (r.length + 1)) (some (.int (j : Nat), false)) x8 x9 x10 x11 x13 x14) M = some (.nx (kG x0 x1 x2 (r.map sD) (RO r p h) (refsL m r.length) false (refsL (m + r.length) (r.length + 1)) (some (.int ((j + 1 : Nat) : Int), false)) y8 y9 y10 x11 y13 y14), M') ∧ St M' m r.length g' ∧ Pst M' (m + r.length) (r.length + 1) P' ∧ Iv r p g' P' (rqt h p (((j + 1 : Nat) : Int) - 1)) ∧ (∀ k, k ≤ r.length → (P' k).length ≤ j + 1) ∧ Nf y10 := by
  have kl : r.length ≤ 900 := by have := ok.len; omega
  have et := request_time_ok (r := r) (p := p) (h := h) (n := (j : Int)) (by omega) (mulOk_l (by omega) (by omega))
  have s0 : exM fsLw msLw (.old (.asg (.nm 8) (.call 5 [.var 4, .var 7]))) (kG x0 x1 x2 (r.map sD) (RO r p h) (refsL m r.length) f (refsL (m + r.length) (r.length + 1)) (some (.int (j : Nat), false)) x8 x9 x10 x11 x13 x14) M = some (.nx (kG x0 x1 x2 (r.map sD) (RO r p h) (refsL m r.length) f (refsL (m + r.length) (r.length + 1)) (some (.int (j : Nat), false)) (some (.int (rqt h p (j : Int)), false)) x9 x10 x11 x13 x14), M) :=
    exM_old (k_time _ _ _ _ _ _ _ _ _ _ _ _ _ _ _ _ et)
  generalize ht : rqt h p (j : Int) = t at *
  have s1 : exM fsLw msLw (.asg (.nm 9) (.snp [(5, 1, true)] (.cmp .eq (.comp [15] (.nm 15) .seq [.var 5] [.cmp .eq (.ix (.var 15) (.cst (.int 0))) (.cst (.str "closed"))] (.cst (.str "closed"))) (.lst [])))) (kG x0 x1 x2 (r.map sD) (RO r p h) (refsL m r.length) f (refsL (m + r.length) (r.length + 1)) (some (.int (j : Nat), false)) (some (.int t, false)) x9 x10 x11 x13 x14) M = some (.nx (kG x0 x1 x2 (r.map sD) (RO r p h) (refsL m r.length) f (refsL (m + r.length) (r.length + 1)) (some (.int (j : Nat), false)) (some (.int t, false)) (some (.bl (isO g r.length), false)) x10 x11 x13 x14), M) :=
    exM_asg (evX_snp (x := .fz (.bl (isO g r.length))) (by rw [look5 x0 x1 x2 (r.map sD) (RO r p h) (some (.int (j : Nat), false)) (some (.int t, false)) x9 x10 x11 x13 x14 S f]; exact t_open _ _ _ _ _ _ _ _ _ _ _ _ g r.length kl _) rfl) rfl rfl
  obtain ⟨M1, es, S1, F1⟩ := send_ok (m := m) (n := r.length) (r := r) (t := t) rfl kl S
  have le := sf_le r g t r.length 0
  have I2 := iv_next (fun s m => ok.sp s m) ok.p0 I (t := t) (by rw [← ht]; unfold rqt; rw [Int.sub_mul]; omega)
  generalize hs : sf r g t r.length 0 = s at *
  have s2 : exM fsLw msLw (.asg (.tp [.nm 13, .nm 14]) (.callM 0 [.raw (.var 3), .raw (.var 5), .raw (.var 8), .raw (.cst (.bl false))])) (kG x0 x1 x2 (r.map sD) (RO r p h) (refsL m r.length) f (refsL (m + r.length) (r.length + 1)) (some (.int (j : Nat), false)) (some (.int t, false)) (some (.bl (isO g r.length), false)) x10 x11 x13 x14) M = some (.nx (kG x0 x1 x2 (r.map sD) (RO r p h) (refsL m r.length) false (refsL (m + r.length) (r.length + 1)) (some (.int (j : Nat), false)) (some (.int t, false)) (some (.bl (isO g r.length), false)) x10 x11 (some (.bl false, false)) (some (.int (s : Nat), false))), M1) := by
    have fr : fre (kG x0 x1 x2 (r.map sD) (RO r p h) (refsL m r.length) f (refsL (m + r.length) (r.length + 1)) (some (.int (j : Nat), false)) (some (.int t, false)) (some (.bl (isO g r.length), false)) x10 x11 x13 x14) (.sl 5) = some (.lst (refsL m r.length), kG x0 x1 x2 (r.map sD) (RO r p h) (refsL m r.length) false (refsL (m + r.length) (r.length + 1)) (some (.int (j : Nat), false)) (some (.int t, false)) (some (.bl (isO g r.length), false)) x10 x11 x13 x14) := by cases f <;> rfl
    exact exM_asg (evX_callM (evXs_c (r := .sl 3) (evX_raw rfl) rfl (evXs_c (r := .sl 5) (evX_raw rfl) fr (evXs_c (r := .sl 8) (evX_raw rfl) rfl (evXs_c (r := .fz (.bl false)) (evX_raw rfl) rfl evXs_n)))) rfl es rfl) rfl rfl
  have Q1 := Q.keep F1 (Nat.le_refl _)
  have k3 := k_rng x0 x1 x2 (r.map sD) (RO r p h) (some (.int (j : Nat), false)) (some (.int t, false)) (some (.bl (isO g r.length), false)) x10 x11 (some (.bl false, false)) (refsL m r.length) (refsL (m + r.length) (r.length + 1)) false s (by omega) M1
  cases ho : isO g r.length with
  | true =>
    rw [ho] at s1 s2 k3
    rw [ho, if_pos rfl] at I2
    obtain ⟨M2, y10, l2, Q2, F2, hy⟩ := k_app x0 x1 x2 (r.map sD) (RO r p h) (some (.int (j : Nat), false)) x11 (some (.bl false, false)) (some (.int (s : Nat), false)) (refsL m r.length) false (m + r.length) (r.length + 1) t (s + 1) 0 M1 P x10 hx (by omega) Q1 (fun k _ hk => by have := hl k (by omega); omega)
    have s3 := exM_for (b := MB_law_1) (tg := .nm 10) k3 l2
    have s4 := exM_old (fs := fsLw) (ms := msLw) (M := M2) (k_inc x0 x1 x2 (r.map sD) (RO r p h) (some (.int t, false)) (some (.bl true, false)) y10 x11 (some (.bl false, false)) (some (.int (s : Nat), false)) (refsL m r.length) (refsL (m + r.length) (r.length + 1)) false j)
    refine ⟨M2, _, addP P s t, _, _, _, _, _, (exMs_nx s0).trans ((exMs_nx s1).trans ((exMs_nx s2).trans ((exMs_nx s3).trans (exMs_last s4)))), S1.keep F2 (Nat.le_refl _), Q2.congr fun k hk => ?_, ?_, fun k hk => ?_, hy⟩
    · unfold addP
      by_cases c : k ≤ s
      · rw [if_pos c, if_pos (by omega)]
      · rw [if_neg c, if_neg (by omega)]
    · rw [show (((j + 1 : Nat) : Int) - 1) = (j : Int) by omega, ht]
      exact I2
    · unfold addP
      have := hl k hk
      by_cases c : k ≤ s
      · rw [if_pos c, List.length_append, List.length_singleton]; omega
      · rw [if_neg c]; omega
  | false =>
    rw [ho] at s1 s2 k3
    rw [ho, if_neg (by simp)] at I2
    obtain ⟨y10, l2, hy⟩ := k_skip x0 x1 x2 (r.map sD) (RO r p h) (some (.int (j : Nat), false)) (some (.int t, false)) x11 (some (.bl false, false)) (some (.int (s : Nat), false)) (refsL m r.length) (refsL (m + r.length) (r.length + 1)) false (s + 1) 0 M1 x10 hx
    have s3 := exM_for (b := MB_law_1) (tg := .nm 10) k3 l2
    have s4 := exM_old (fs := fsLw) (ms := msLw) (M := M1) (k_inc x0 x1 x2 (r.map sD) (RO r p h) (some (.int t, false)) (some (.bl false, false)) y10 x11 (some (.bl false, false)) (some (.int (s : Nat), false)) (refsL m r.length) (refsL (m + r.length) (r.length + 1)) false j)
    refine ⟨M1, _, P, _, _, _, _, _, (exMs_nx s0).trans ((exMs_nx s1).trans ((exMs_nx s2).trans ((exMs_nx s3).trans (exMs_last s4)))), S1, Q1, ?_, fun k hk => by have := hl k hk; omega, hy⟩
    rw [show (((j + 1 : Nat) : Int) - 1) = (j : Int) by omega, ht]
    exact I2
/-- until enough have passed -/
theorem k_while (x0 x1 x2 : Sl) (ok : okR r p h) (x11 : Sl) : ∀ (d fu j : Nat) (M : List D) (g : Nat → Q2) (P : Nat → List Int) (f : Bool) (x8 x9 x10 x13 x14 : Sl), Nf x10 → j + d = 900 → d < fu → St M m r.length g → Pst M (m + r.length) (r.length + 1) P → Iv r p g P (rqt h p ((j : Int) - 1)) → (∀ k, k ≤ r.length → (P k).length ≤ j) →
    ∃ M' P' f' z y8 y9 y10 y13 y14 g' tl, whlLoopM (fun Γ M => (evX fsLw msLw MC_law_3 Γ M).bind fun (x, Γ1, M1) => (testD Γ1 x).map fun t => (t, Γ1, M1)) (exMs fsLw msLw MB_law_2) fu (kG x0 x1 x2 (r.map sD) (RO r p h) (refsL m r.length) f (refsL (m + r.length) (r.length + 1)) (some (.int (j : Nat), false)) x8 x9 x10 x11 x13 x14) M = some (.nx (kG x0 x1 x2 (r.map sD) (RO r p h) (refsL m r.length) f' (refsL (m + r.length) (r.length + 1)) (some (.int z, false)) y8 y9 y10 x11 y13 y14), M') ∧ Pst M' (m + r.length) (r.length + 1) P' ∧ Iv r p g' P' tl ∧ (∀ k, k ≤ r.length → (P' k).length ≤ 900) ∧ Nf y10 := fun d => by
  have kl : r.length ≤ 12 := ok.len
  have tst : ∀ (M : List D) (P : Nat → List Int) (f : Bool) (j : Int) (x8 x9 x10 x13 x14 : Sl), Pst M (m + r.length) (r.length + 1) P → ∃ b, (fun (Γ : Ct) (M : List D) => (evX fsLw msLw MC_law_3 Γ M).bind fun (x, Γ1, M1) => (testD Γ1 x).map fun t => (t, Γ1, M1)) (kG x0 x1 x2 (r.map sD) (RO r p h) (refsL m r.length) f (refsL (m + r.length) (r.length + 1)) (some (.int j, false)) x8 x9 x10 x11 x13 x14) M = some (b, kG x0 x1 x2 (r.map sD) (RO r p h) (refsL m r.length) f (refsL (m + r.length) (r.length + 1)) (some (.int j, false)) x8 x9 x10 x11 x13 x14, M) ∧ (b = true → j < 900) := fun M P f j x8 x9 x10 x13 x14 Q => by
    obtain ⟨b, e, hb⟩ := t_while (fl1 x0) (fl1 x1) (fl1 x2) (r.map sD) (RO r p h) (fl1 x8) (fl1 x9) (fl1 x10) (fl1 x11) (fl1 x13) (fl1 x14) P r.length (by omega) (refsL m r.length) j
    refine ⟨b, ?_, hb⟩
    have q : evX fsLw msLw MC_law_3 (kG x0 x1 x2 (r.map sD) (RO r p h) (refsL m r.length) f (refsL (m + r.length) (r.length + 1)) (some (.int j, false)) x8 x9 x10 x11 x13 x14) M = some (.fz (.bl b), kG x0 x1 x2 (r.map sD) (RO r p h) (refsL m r.length) f (refsL (m + r.length) (r.length + 1)) (some (.int j, false)) x8 x9 x10 x11 x13 x14, M) :=
      evX_snp (by rw [look6 x0 x1 x2 (r.map sD) (RO r p h) (some (.int j, false)) x8 x9 x10 x11 x13 x14 Q f]; exact e) rfl
    simp only [q, Option.bind_some]
    rfl
  induction d with
  | zero =>
    intro fu j M g P f x8 x9 x10 x13 x14 hx hj hf S Q I hl
    obtain ⟨fu, rfl⟩ : ∃ k, fu = k + 1 := ⟨fu - 1, by omega⟩
    obtain ⟨b, e, hb⟩ := tst M P f (j : Int) x8 x9 x10 x13 x14 Q
    have : b = false := by
      cases b with
      | false => rfl
      | true => have := hb rfl; omega
    subst this
    exact ⟨M, P, f, _, x8, x9, x10, x13, x14, g, _, whlM_done e, Q, I, fun k hk => by have := hl k hk; omega, hx⟩
  | succ d ih =>
    intro fu j M g P f x8 x9 x10 x13 x14 hx hj hf S Q I hl
    obtain ⟨fu, rfl⟩ : ∃ k, fu = k + 1 := ⟨fu - 1, by omega⟩
    obtain ⟨b, e, hb⟩ := tst M P f (j : Int) x8 x9 x10 x13 x14 Q
    cases b with
    | false => exact ⟨M, P, f, _, x8, x9, x10, x13, x14, g, _, whlM_done e, Q, I, fun k hk => by have := hl k hk; omega, hx⟩
    | true =>
      obtain ⟨M1, g1, P1, z8, z9, z10, z13, z14, e1, S1, Q1, I1, hl1, hz⟩ := k_body (m := m) x0 x1 x2 ok j (by omega) f x8 x9 x10 x11 x13 x14 hx S Q I hl
      obtain ⟨M2, P2, f2, z, y8, y9, y10, y13, y14, g2, tl, e2, Q2, I2, hl2, hy⟩ := ih fu (j + 1) M1 g1 P1 false z8 z9 z10 z13 z14 hz (by omega) (by omega) S1 Q1 I1 hl1
      exact ⟨M2, P2, f2, z, y8, y9, y10, y13, y14, g2, tl, (whlM_step e e1).trans e2, Q2, I2, hl2, hy⟩
end

/-! ### behind the requests -/
section
variable (x0 x1 x2 : Sl) (SD : List D) (R : D) (x7 x8 x9 x10 x11 x13 x14 : Sl)
theorem p_found (AS AP FL : List D) (f : Bool) (e : F_periods [some (R, false)] = some (.nw (.lst FL), [some (R, false)])) : ex fsLw [] (.asg (.nm 11) (.call 6 [.var 4])) (kG x0 x1 x2 SD R AS f AP x7 x8 x9 x10 x11 x13 x14) = some (.nx (kG x0 x1 x2 SD R AS f AP x7 x8 x9 x10 (some (.lst FL, false)) x13 x14)) := by
  simp [DV.SC, DV.SX, e]
theorem p_rng (AS AP : List D) (f : Bool) (c : Nat) (hc : c < 1000) (hl : AP.length = c) (M : List D) : itM fsLw msLw (.raw .rng [.bi .len [.var 6]]) (kG x0 x1 x2 SD R AS f AP x7 x8 x9 x10 x11 x13 x14) M = some (rngD 0 1 c, kG x0 x1 x2 SD R AS f AP x7 x8 x9 x10 x11 x13 x14, M) := by
  have : ∀ Γ : Ct, rngO Γ [D.int (c : Int)] = some (rngD 0 1 c, Γ) := fun Γ => rngN1 Γ c (by omega)
  simp [DV.XC, DV.SC, DV.SX, hl, this]
theorem zip_d (l : List Int) : zipD (l.map D.int) ((l.map D.int).drop 1) = ((l.zip (l.drop 1)).map fun q => (D.int q.1, D.int q.2)).map fun q => .tup [q.1, q.2] := by
  rw [zipD_eq, ← List.map_drop, List.zip_map, List.map_map, List.map_map]
  rfl
theorem p_diff (AS AP FL : List D) (l : List Int) (d : Int) (k : Int) (hl : l.length ≤ 1000) (h6 : atI AP k = some (.lst (l.map D.int))) (h11 : atI FL k = some (.int d)) (st : Steps d l) :
    ev fsLw (.cmp .ne (.comp [17, 18] (.tp [.nm 17, .nm 18]) .zip [.ix (.var 6) (.var 10), .slc (.ix (.var 6) (.var 10)) [.cst (.int 1)] []] [] (.bin .sub (.var 18) (.var 17))) (.bin .mul (.lst [.ix (.var 11) (.var 10)]) (.bin .sub (.bi .len [.ix (.var 6) (.var 10)]) (.cst (.int 1))))) (kL x0 x1 x2 SD R AS AP x7 x8 x9 (some (.int k, false)) (some (.lst FL, false)) x13 x14) = some (.fz (.bl false), kL x0 x1 x2 SD R AS AP x7 x8 x9 (some (.int k, false)) (some (.lst FL, false)) x13 x14) := by
  have a : ev fsLw (.ix (.var 6) (.var 10)) (kL x0 x1 x2 SD R AS AP x7 x8 x9 (some (.int k, false)) (some (.lst FL, false)) x13 x14) = some (.fz (.lst (l.map D.int)), kL x0 x1 x2 SD R AS AP x7 x8 x9 (some (.int k, false)) (some (.lst FL, false)) x13 x14) := by
    generalize l.map D.int = L at *
    simp [DV.SC, DV.SX, h6]
  have b : ev fsLw (.slc (.ix (.var 6) (.var 10)) [.cst (.int 1)] []) (kL x0 x1 x2 SD R AS AP x7 x8 x9 (some (.int k, false)) (some (.lst FL, false)) x13 x14) = some (.nw (.lst ((l.map D.int).drop 1)), kL x0 x1 x2 SD R AS AP x7 x8 x9 (some (.int k, false)) (some (.lst FL, false)) x13 x14) := by
    have cf := cut_from (l.map D.int) 1
    have cf : cutD (l.map D.int) (some 1) none = (l.map D.int).drop 1 := cf
    have q : evs fsLw [.cst (.int 1)] (kL x0 x1 x2 SD R AS AP x7 x8 x9 (some (.int k, false)) (some (.lst FL, false)) x13 x14) = some ([.fz (.int 1)], kL x0 x1 x2 SD R AS AP x7 x8 x9 (some (.int k, false)) (some (.lst FL, false)) x13 x14) := rfl
    have c : evs fsLw [] (kL x0 x1 x2 SD R AS AP x7 x8 x9 (some (.int k, false)) (some (.lst FL, false)) x13 x14) = some ([], kL x0 x1 x2 SD R AS AP x7 x8 x9 (some (.int k, false)) (some (.lst FL, false)) x13 x14) := by simp only [evs]
    rw [DV.ev.eq_15]
    simp only [a, q, c, Option.bind_some, datums, datum, Option.map_some, slO, slcD, cf]
  have it : (evs fsLw [.ix (.var 6) (.var 10), .slc (.ix (.var 6) (.var 10)) [.cst (.int 1)] []] (kL x0 x1 x2 SD R AS AP x7 x8 x9 (some (.int k, false)) (some (.lst FL, false)) x13 x14)).bind (fun p => iterD .zip p.1 p.2) = some (((l.zip (l.drop 1)).map fun q => (D.int q.1, D.int q.2)).map (fun q => .tup [q.1, q.2]), kL x0 x1 x2 SD R AS AP x7 x8 x9 (some (.int k, false)) (some (.lst FL, false)) x13 x14) := by
    rw [← zip_d]
    generalize l.map D.int = L at *
    generalize DV.E.slc _ _ _ = E2 at *
    generalize DV.E.ix (.var 6) (.var 10) = E1 at *
    simp [evs, a, b, iterD, DV.SC, DV.SX]
  have cm := comp_pairs fsLw 17 18 .zip [.ix (.var 6) (.var 10), .slc (.ix (.var 6) (.var 10)) [.cst (.int 1)] []] (.bin .sub (.var 18) (.var 17)) ((l.zip (l.drop 1)).map fun q => (D.int q.1, D.int q.2)) (fun a b => match a, b with | .int x, .int y => .int (y - x) | _, _ => .non) _ _ it rfl rfl (by decide) (by rw [List.length_map, List.length_zip]; omega) (fun q m => by
    obtain ⟨u, _, rfl⟩ := List.mem_map.mp m
    simp [DV.SC, DV.SX])
  have el : ((l.zip (l.drop 1)).map fun q => (D.int q.1, D.int q.2)).map (fun q => match q.1, q.2 with | .int x, .int y => D.int (y - x) | _, _ => .non) = (List.replicate (l.length - 1) d).map D.int := by
    rw [← steps_zip d l st, List.map_map, List.map_map]
    rfl
  rw [el] at cm
  have hm : binD .mul (.lst [.int d]) (.int ((l.length : Int) - 1)) = some (.nw (.lst ((List.replicate (l.length - 1) d).map D.int))) := by
    simp only [binD]
    rw [if_pos ⟨by omega, by omega, by simp only [List.length_singleton]; exact Nat.le_trans (show 1 * ((l.length : Int) - 1).toNat ≤ 1000 by omega) (by decide)⟩]
    rw [show ((l.length : Int) - 1).toNat = l.length - 1 by omega]
    congr 3
    induction l.length - 1 with
    | zero => rfl
    | succ z ih => rw [List.replicate_succ, List.flatten_cons, ih, List.replicate_succ, List.map_cons]; rfl
  have m1 : ev fsLw (.bin .mul (.lst [.ix (.var 11) (.var 10)]) (.bin .sub (.bi .len [.ix (.var 6) (.var 10)]) (.cst (.int 1)))) (kL x0 x1 x2 SD R AS AP x7 x8 x9 (some (.int k, false)) (some (.lst FL, false)) x13 x14) = some (.nw (.lst ((List.replicate (l.length - 1) d).map D.int)), kL x0 x1 x2 SD R AS AP x7 x8 x9 (some (.int k, false)) (some (.lst FL, false)) x13 x14) := by
    refine ev_bin (x := .nw (.lst [.int d])) (Γ1 := kL x0 x1 x2 SD R AS AP x7 x8 x9 (some (.int k, false)) (some (.lst FL, false)) x13 x14) (y := .fz (.int ((l.length : Int) - 1))) ?_ ?_ rfl rfl hm
    · simp [DV.SC, DV.SX, h11, sizeLine]
    · have hn : ((l.map D.int).length : Int) = (l.length : Int) := by rw [List.length_map]
      generalize l.map D.int = L at *
      generalize (l.length : Int) = n at *
      simp [DV.SC, DV.SX, h6, hn]
  have cc : cmpD .ne (.lst ((List.replicate (l.length - 1) d).map D.int)) (.lst ((List.replicate (l.length - 1) d).map D.int)) = some false := cmp_ne_self (by
    simp only [okB, List.all_eq_true, List.mem_map]
    rintro e ⟨i, _, rfl⟩
    rfl)
  generalize (List.replicate (l.length - 1) d).map D.int = LL at *
  generalize DV.E.comp _ _ _ _ _ _ = E1 at *
  generalize DV.E.bin .mul _ _ = E2 at *
  simp only [ev, cm, m1, Option.bind_some, datum, cc, Option.map_some]
theorem p_loop (AS FL : List D) (f : Bool) (b c : Nat) (P : Nat → List Int) (d : Nat → Int) (hc : c ≤ 1000) (hf : ∀ k, k < c → atI FL (k : Int) = some (.int (d k))) (hs : ∀ k, k < c → Steps (d k) (P k) ∧ (P k).length ≤ 1000) {M : List D} (Q : Pst M b c P) : ∀ (z j : Nat) (x10 : Sl), Nf x10 → j + z ≤ c →
    ∃ y10, forLoopM (.nm 10) (exMs fsLw msLw MB_law_4) (rngD (j : Nat) 1 z) (kG x0 x1 x2 SD R AS f (refsL b c) x7 x8 x9 x10 (some (.lst FL, false)) x13 x14) M = some (.nx (kG x0 x1 x2 SD R AS f (refsL b c) x7 x8 x9 y10 (some (.lst FL, false)) x13 x14), M) ∧ Nf y10
  | 0, j, x10, hx, _ => ⟨x10, by simp [rngD, forLoopM], hx⟩
  | z + 1, j, x10, hx, hj => by
    have hjc : j < c := by omega
    obtain ⟨h1, h2⟩ := hs j hjc
    have h6 : atI (psL P c) (j : Int) = some (.lst ((P j).map D.int)) := atI_get (by unfold psL; rw [List.getElem?_map, List.getElem?_range hjc]; rfl)
    have e := p_diff (fl1 x0) (fl1 x1) (fl1 x2) SD R (fl1 x7) (fl1 x8) (fl1 x9) (fl1 x13) (fl1 x14) AS (psL P c) FL (P j) (d j) (j : Int) h2 h6 (hf j hjc) h1
    have bd : exMs fsLw msLw MB_law_4 (kG x0 x1 x2 SD R AS f (refsL b c) x7 x8 x9 (some (.int (j : Nat), false)) (some (.lst FL, false)) x13 x14) M = some (.nx (kG x0 x1 x2 SD R AS f (refsL b c) x7 x8 x9 (some (.int (j : Nat), false)) (some (.lst FL, false)) x13 x14), M) :=
      exMs_last (exM_ite0 (x := .fz (.bl false)) (evX_snp (by rw [look6 x0 x1 x2 SD R x7 x8 x9 (some (.int (j : Nat), false)) (some (.lst FL, false)) x13 x14 Q f]; exact e) rfl) rfl)
    obtain ⟨y10, l, hy⟩ := p_loop AS FL f b c P d hc hf hs Q z (j + 1) (some (.int (j : Nat), false)) (nf_int _) (by omega)
    refine ⟨y10, ?_, hy⟩
    rw [rngD]
    have ec : (j : Int) + 1 = ((j + 1 : Nat) : Int) := by omega
    rw [ec]
    exact (forLoopM_step (Γ1 := kG x0 x1 x2 SD R AS f (refsL b c) x7 x8 x9 (some (.int (j : Nat), false)) (some (.lst FL, false)) x13 x14) rfl bd).trans l
theorem p_period (AS AP FL : List D) (f : Bool) (e n : Int) (h1 : F_row_period [some (R, false)] = some (.fz (.int e), [some (R, false)])) (h2 : atI FL (-1) = some (.int e)) (hn : (FL.length : Int) = n + 1) (hd : (SD.length : Int) = n) :
    ex fsLw [] (.ite (.or (.cmp .ne (.call 7 [.var 4]) (.ix (.var 11) (.neg (.cst (.int 1))))) (.or (.cmp .ne (.callp 7 [0] [.var 4]) (.ix (.var 11) (.neg (.cst (.int 1))))) (.cmp .ne (.bi .len [.var 11]) (.bin .add (.bi .len [.var 3]) (.cst (.int 1)))))) [.ret (.cst (.bl false))] []) (kG x0 x1 x2 SD R AS f AP x7 x8 x9 x10 (some (.lst FL, false)) x13 x14) = some (.nx (kG x0 x1 x2 SD R AS f AP x7 x8 x9 x10 (some (.lst FL, false)) x13 x14)) := by
  have n1 : cmpD .ne (.int e) (.int e) = some false := cmp_ne_self rfl
  have n2 : cmpD .ne (.int (n + 1)) (.int (n + 1)) = some false := cmp_ne_self rfl
  simp [DV.SC, DV.SX, h1, h2, hn, hd, n1, n2]
theorem p_xapp (AS AP FL : List D) (f : Bool) (h : F_periods [some (R, false)] = some (.nw (.lst FL), [some (R, false)])) (hl : FL.length ≤ 1000) (x11 : Sl) : ex fsLw [] (.xapp (.callp 6 [0] [.var 4]) (.int 0)) (kG x0 x1 x2 SD R AS f AP x7 x8 x9 x10 x11 x13 x14) = some (.nx (kG x0 x1 x2 SD R AS f AP x7 x8 x9 x10 x11 x13 x14)) := by
  have hl' : FL.length < 16777216 := by omega
  simp [DV.SC, DV.SX, h, hl', sizeLine, flatD]
theorem p_again (AS AP FL : List D) (f : Bool) (h : F_periods [some (R, false)] = some (.nw (.lst FL), [some (R, false)])) (cc : cmpD .ne (.lst FL) (.lst FL) = some false) : ex fsLw [] (.ite (.cmp .ne (.call 6 [.var 4]) (.var 11)) [.ret (.cst (.bl false))] []) (kG x0 x1 x2 SD R AS f AP x7 x8 x9 x10 (some (.lst FL, false)) x13 x14) = some (.nx (kG x0 x1 x2 SD R AS f AP x7 x8 x9 x10 (some (.lst FL, false)) x13 x14)) := by
  simp [DV.SC, DV.SX, h, cc]
theorem p_test (AS AP : List D) (f : Bool) (z : Int) : ev fsLw (.cmp .lt (.var 7) (.cst (.int 900))) (kG x0 x1 x2 SD R AS f AP (some (.int z, false)) x8 x9 x10 x11 x13 x14) = some (.fz (.bl (decide (z < 900))), kG x0 x1 x2 SD R AS f AP (some (.int z, false)) x8 x9 x10 x11 x13 x14) := by
  simp [DV.SC, DV.SX]
end
/-! ### lists made in the store -/
theorem compX_alc {fs : List FS} {ms : List FM} {own : List Nat} {tg : Tg} {elt : XE} {Γ : Ct} {v : D} : ∀ (ds acc : List D) (M : List D), (∀ d ∈ ds, ∃ Γ1, asgT tg d Γ = some Γ1 ∧ (∀ M, evX fs ms elt Γ1 M = some (.fz (.ref M.length), Γ1, M ++ [v])) ∧ plainIx Γ1 own = true ∧ wipeG Γ1 own = Γ) →
    compLoopX own tg (evX fs ms elt) ds acc Γ M = some (acc ++ refsL M.length ds.length, Γ, M ++ List.replicate ds.length v)
  | [], acc, M, _ => by simp [compLoopX, refsL]
  | d :: ds, acc, M, h => by
    obtain ⟨Γ1, a1, a2, a3, a4⟩ := h d List.mem_cons_self
    rw [compLoopX_step a1 (a2 M) rfl a3 a4, compX_alc ds _ _ fun e m => h e (List.mem_cons_of_mem _ m)]
    have e1 : acc ++ [D.ref M.length] ++ refsL (M ++ [v]).length ds.length = acc ++ refsL M.length (d :: ds).length := by
      rw [List.append_assoc]
      congr 1
      unfold refsL
      rw [List.length_cons, List.range_succ_eq_map, List.map_cons, List.map_map, List.length_append, List.length_singleton, List.singleton_append]
      congr 1
      refine List.map_congr_left fun i _ => ?_
      show D.ref _ = D.ref _
      congr 1
      omega
    have e2 : M ++ [v] ++ List.replicate ds.length v = M ++ List.replicate (d :: ds).length v := by
      rw [List.length_cons, List.replicate_succ, List.append_assoc]
      rfl
    rw [e1, e2]
theorem evX_compX {fs : List FS} {ms : List FM} {own : List Nat} {tg : Tg} {it : XIt} {elt : XE} {Γ0 Γ Γ1 Γ2 : Ct} {M M1 M2 : List D} {ds out : List D} (h1 : itM fs ms it Γ0 M = some (ds, Γ, M1)) (hp : plainIx Γ own = true) (hl : ds.length ≤ 1000) (ht : (tgIx tg).all (fun i => own.contains i) = true) (lp : compLoopX own tg (evX fs ms elt) ds [] (wipeG Γ own) M1 = some (out, Γ1, M2)) (hr : restG Γ Γ1 own = Γ2) :
    evX fs ms (.compX own tg it elt) Γ0 M = some (.nw (.lst out), Γ2, M2) := by
  have hz : ds.length ≤ sizeLine := Nat.le_trans hl (by decide)
  have e : evX fs ms (.compX own tg it elt) Γ0 M = compXo fs ms own tg it elt Γ0 M := by simp only [XE.compX, evX]
  rw [e]
  unfold compXo
  simp only [h1, Option.bind_some]
  rw [hp, ht, decide_eq_true hz, lp]
  simp only [Bool.and_self, if_true, Option.map_some, hr]

/-! ### the law -/
abbrev cG (x0 x1 x2 x3 x4 x5 x6 x7 x8 x9 x10 x11 x13 x14 : Sl) : Ct := [x0, x1, x2, x3, x4, x5, x6, x7, x8, x9, x10, x11, none, x13, x14, none, none, none, none]
section
variable (x0 x1 x2 x3 x4 x5 x6 x7 x8 x9 x10 x11 x13 x14 : Sl)
theorem c_src (cl : Int) (W : D) (e : F__law_source_of [some (.int cl, false)] = some (.nw W, [some (.int cl, false)])) : ex fsLw [] (.asgO 2 (.call 1 [.var 1])) (cG x0 (some (.int cl, false)) x2 x3 x4 x5 x6 x7 x8 x9 x10 x11 x13 x14) = some (.nx (cG x0 (some (.int cl, false)) (some (W, true)) x3 x4 x5 x6 x7 x8 x9 x10 x11 x13 x14)) := by
  simp [DV.SC, DV.SX, e]
theorem c_specs (W0 W1 SD : D) (e : F__law_specs [some (W0, true), some (.int 4, false), some (.int 9, false), some (.int 3, false)] = some (.nw SD, [some (W1, true), some (.int 4, false), some (.int 9, false), some (.int 3, false)])) : ex fsLw [] (.asg (.nm 3) (.call 2 [.var 2, .cst (.int 4), .cst (.int 9), .cst (.int 3)])) (cG x0 x1 (some (W0, true)) x3 x4 x5 x6 x7 x8 x9 x10 x11 x13 x14) = some (.nx (cG x0 x1 (some (W1, true)) (some (SD, false)) x4 x5 x6 x7 x8 x9 x10 x11 x13 x14)) := by
  simp [DV.SC, DV.SX, e]
theorem c_row (W0 W1 W2 SD R : D) (a h : Int) {ks : List Str} {es : List D} (hR : R = .obj 1 ks es) (e1 : F__law_next [some (W0, true), some (.int 3, false)] = some (.fz (.int a), [some (W1, true), some (.int 3, false)])) (e2 : F__law_next [some (W1, true), some (.int 5, false)] = some (.fz (.int h), [some (W2, true), some (.int 5, false)]))
    (er : F_Row___init__ [some (.obj 1 [] [], true), some (SD, false), some (.int (1 + a), false), some (.int h, false)] = some (.fz .non, [some (R, true), some (SD, false), some (.int (1 + a), false), some (.int h, false)])) : ex fsLw [] (.asg (.nm 4) (.mkp 1 3 [0, 1, 2] ([.var 3, .bin .add (.cst (.int 1)) (.call 4 [.var 2, .cst (.int 3)])] ++ ([.call 4 [.var 2, .cst (.int 5)]] ++ dfl [])))) (cG x0 x1 (some (W0, true)) (some (SD, false)) x4 x5 x6 x7 x8 x9 x10 x11 x13 x14) = some (.nx (cG x0 x1 (some (W2, true)) (some (SD, false)) (some (R, false)) x5 x6 x7 x8 x9 x10 x11 x13 x14)) := by
  subst hR
  simp [DV.SC, DV.SX, e1, e2, er]
theorem c_it3 (SD : List D) (M : List D) : itM fsLw msLw (.raw .seq [.var 3]) (cG x0 x1 x2 (some (.lst SD, false)) x4 x5 x6 x7 x8 x9 x10 x11 x13 x14) M = some (SD, cG x0 x1 x2 (some (.lst SD, false)) x4 x5 x6 x7 x8 x9 x10 x11 x13 x14, M) := by
  simp [DV.XC, DV.SC, DV.SX]
theorem c_it4 (SD : List D) (n : Nat) (hn : SD.length = n) (hz : n < 900) (M : List D) : itM fsLw msLw (.raw .rng [.bin .add (.bi .len [.var 3]) (.cst (.int 1))]) (cG x0 x1 x2 (some (.lst SD, false)) x4 x5 x6 x7 x8 x9 x10 x11 x13 x14) M = some (rngD 0 1 (n + 1), cG x0 x1 x2 (some (.lst SD, false)) x4 x5 x6 x7 x8 x9 x10 x11 x13 x14, M) := by
  have : ∀ Γ : Ct, rngO Γ [D.int ((n : Int) + 1)] = some (rngD 0 1 (n + 1), Γ) := fun Γ => by
    have := rngN1 Γ (n + 1) (by omega)
    rwa [show ((n + 1 : Nat) : Int) = (n : Int) + 1 by omega] at this
  simp [DV.XC, DV.SC, DV.SX, hn, this]
theorem c_states (SD : List D) (n : Nat) (hn : SD.length = n) (hz : n ≤ 900) (M : List D) : exM fsLw msLw (.asgO 5 (.compX [12] (.nm 12) (.raw .seq [.var 3]) (.alc (.raw (.lst [.cst (.str "closed"), .cst (.int 0)]))))) (cG x0 x1 x2 (some (.lst SD, false)) x4 x5 x6 x7 x8 x9 x10 x11 x13 x14) M = some (.nx (cG x0 x1 x2 (some (.lst SD, false)) x4 (some (.lst (refsL M.length n), true)) x6 x7 x8 x9 x10 x11 x13 x14), M ++ List.replicate n (qL2 (.cl 0))) := by
  have lp := compX_alc (fs := fsLw) (ms := msLw) (own := [12]) (tg := .nm 12) (elt := .alc (.raw (.lst [.cst (.str "closed"), .cst (.int 0)]))) (Γ := cG x0 x1 x2 (some (.lst SD, false)) x4 x5 x6 x7 x8 x9 x10 x11 x13 x14) (v := qL2 (.cl 0)) SD [] M (fun d _ => by
    refine ⟨(cG x0 x1 x2 (some (.lst SD, false)) x4 x5 x6 x7 x8 x9 x10 x11 x13 x14).set 12 (some (d, false)), rfl, fun M => ?_, rfl, rfl⟩
    refine evX_alc' (evX_raw ?_)
    generalize List.set _ _ _ = Γ
    simp [DV.SC, DV.SX, sizeLine, q2s, q2n])
  rw [List.nil_append, hn] at lp
  exact exM_asgN (evX_compX (c_it3 _ _ _ _ _ _ _ _ _ _ _ _ _ _ _) rfl (by omega) rfl lp rfl) (show 5 < 19 by decide)
theorem c_passes (hx : Nf x10) (SD : List D) (n : Nat) (hn : SD.length = n) (hz : n < 900) (M : List D) : exM fsLw msLw (.asgO 6 (.compX [10] (.nm 10) (.raw .rng [.bin .add (.bi .len [.var 3]) (.cst (.int 1))]) (.alc (.raw (.lst []))))) (cG x0 x1 x2 (some (.lst SD, false)) x4 x5 x6 x7 x8 x9 x10 x11 x13 x14) M = some (.nx (cG x0 x1 x2 (some (.lst SD, false)) x4 x5 (some (.lst (refsL M.length (n + 1)), true)) x7 x8 x9 x10 x11 x13 x14), M ++ List.replicate (n + 1) (.lst [])) := by
  have lp := compX_alc (fs := fsLw) (ms := msLw) (own := [10]) (tg := .nm 10) (elt := .alc (.raw (.lst []))) (Γ := cG x0 x1 x2 (some (.lst SD, false)) x4 x5 x6 x7 x8 x9 none x11 x13 x14) (v := .lst []) (rngD 0 1 (n + 1)) [] M (fun d _ => by
    refine ⟨(cG x0 x1 x2 (some (.lst SD, false)) x4 x5 x6 x7 x8 x9 none x11 x13 x14).set 10 (some (d, false)), rfl, fun M => ?_, rfl, rfl⟩
    refine evX_alc' (evX_raw ?_)
    generalize List.set _ _ _ = Γ
    simp [DV.SC, DV.SX, sizeLine])
  have ln : ∀ (n : Nat) (lo : Int), (rngD lo 1 n).length = n := fun n => by
    induction n with
    | zero => intro lo; rfl
    | succ n ih => intro lo; rw [rngD, List.length_cons, ih]
  rw [List.nil_append, ln] at lp
  have hp : plainIx (cG x0 x1 x2 (some (.lst SD, false)) x4 x5 x6 x7 x8 x9 x10 x11 x13 x14) [10] = true := by
    cases x10 with
    | none => rfl
    | some q =>
      obtain ⟨d, f⟩ := q
      cases f with
      | true => exact absurd rfl (hx d)
      | false => rfl
  exact exM_asgN (evX_compX (c_it4 _ _ _ _ _ _ _ _ _ _ _ _ _ SD n hn hz _) hp (by rw [ln]; omega) rfl lp rfl) (show 6 < 19 by decide)
theorem c_zero : ex fsLw [] (.asgO 7 (.cst (.int 0))) (cG x0 x1 x2 x3 x4 x5 x6 x7 x8 x9 x10 x11 x13 x14) = some (.nx (cG x0 x1 x2 x3 x4 x5 x6 (some (.int ((0 : Nat) : Int), false)) x8 x9 x10 x11 x13 x14)) := by
  simp [DV.SC, DV.SX]
end
theorem cell_ok (S : Sl) (cl : Int) (M : List D) (x2 x3 x4 x5 x6 x7 x8 x9 x10 x11 x13 x14 : Sl) (hx : Nf x10) :
    ∃ M' y2 y3 y4 y5 y6 y7 y8 y9 y10 y11 y13 y14, exMs fsLw msLw MB_law_5 (cG S (some (.int cl, false)) x2 x3 x4 x5 x6 x7 x8 x9 x10 x11 x13 x14) M = some (.nx (cG S (some (.int cl, false)) y2 y3 y4 y5 y6 y7 y8 y9 y10 y11 y13 y14), M') ∧ Nf y10 := by
  have bb := BB_big
  obtain ⟨a, c, es, s0, s1⟩ := source_ok cl
  obtain ⟨r, a1, k1, e1, v1, l1, q1⟩ := specs_ok a (c := c) (k := 0) (N := 2) 4 9 3 ⟨s0, s1, by decide, by decide⟩ (by decide) (by decide) (by decide) (by decide) (by decide)
  have e1 : F__law_specs [some (wl a c 0, true), some (.int 4, false), some (.int 9, false), some (.int 3, false)] = some (.nw (spD r), [some (wl a1 c k1, true), some (.int 4, false), some (.int 9, false), some (.int 3, false)]) := e1
  obtain ⟨p', a2, k2, e2, p0, p1, v2⟩ := next_ok a1 (N := 1) v1 (m := 3) (by decide) (by omega)
  obtain ⟨h, a3, k3, e3, h0, h1, v3⟩ := next_ok a2 (N := 0) v2 (m := 5) (by decide) (by omega)
  have ok : okR r (1 + p') h := ⟨fun s m => (q1 s m).1, by omega, by omega, by omega, by omega, by omega⟩
  have er := row_ok ok false
  have kl : r.length ≤ 12 := ok.len
  have t0 := exM_old (fs := fsLw) (ms := msLw) (M := M) (c_src S x2 x3 x4 x5 x6 x7 x8 x9 x10 x11 x13 x14 cl _ es)
  have t1 := exM_old (fs := fsLw) (ms := msLw) (M := M) (c_specs S (some (.int cl, false)) x3 x4 x5 x6 x7 x8 x9 x10 x11 x13 x14 _ _ _ e1)
  have t2 := exM_old (fs := fsLw) (ms := msLw) (M := M) (c_row S (some (.int cl, false)) x4 x5 x6 x7 x8 x9 x10 x11 x13 x14 _ _ _ (spD r) (RO r (1 + p') h) p' h (es := [_, _, _]) rfl e2 e3 er)
  generalize 1 + p' = p at *
  have ln : (r.map sD).length = r.length := List.length_map _
  have t3 := c_states S (some (.int cl, false)) (some (wl a3 c k3, true)) (some (RO r p h, false)) x5 x6 x7 x8 x9 x10 x11 x13 x14 (r.map sD) r.length ln (by omega) M
  have t4 := c_passes S (some (.int cl, false)) (some (wl a3 c k3, true)) (some (RO r p h, false)) (some (.lst (refsL M.length r.length), true)) x6 x7 x8 x9 x10 x11 x13 x14 hx (r.map sD) r.length ln (by omega) (M ++ List.replicate r.length (qL2 (.cl 0)))
  have lM : (M ++ List.replicate r.length (qL2 (.cl 0))).length = M.length + r.length := by simp
  rw [lM] at t4
  have S0 : St ((M ++ List.replicate r.length (qL2 (.cl 0))) ++ List.replicate (r.length + 1) (.lst [])) M.length r.length (fun _ => .cl 0) := fun i hi => by
    rw [List.getElem?_append_left (by omega), List.getElem?_append_right (by omega), Nat.add_sub_cancel_left, List.getElem?_replicate, if_pos hi]
  have Q0 : Pst ((M ++ List.replicate r.length (qL2 (.cl 0))) ++ List.replicate (r.length + 1) (.lst [])) (M.length + r.length) (r.length + 1) (fun _ => []) := fun k hk => by
    rw [List.getElem?_append_right (by omega), lM, Nat.add_sub_cancel_left, List.getElem?_replicate, if_pos hk]
    rfl
  generalize (M ++ List.replicate r.length (qL2 (.cl 0))) ++ List.replicate (r.length + 1) (D.lst []) = M1 at *
  generalize M ++ List.replicate r.length (qL2 (.cl 0)) = M0 at *
  have t5 := exM_old (fs := fsLw) (ms := msLw) (M := M1) (c_zero S (some (.int cl, false)) (some (wl a3 c k3, true)) (some (spD r, false)) (some (RO r p h, false)) (some (.lst (refsL M.length r.length), true)) (some (.lst (refsL (M.length + r.length) (r.length + 1)), true)) x7 x8 x9 x10 x11 x13 x14)
  generalize M.length = m at *
  obtain ⟨M2, P2, f2, z, y8, y9, y10, y13, y14, g2, tl, ew, Q2, I2, hl2, hy⟩ := k_while (m := m) S (some (.int cl, false)) (some (wl a3 c k3, true)) ok x11 900 fuel 0 M1 _ _ true x8 x9 x10 x13 x14 hx (by omega) (by unfold fuel; decide) S0 Q0 (iv_init r p _) (fun k hk => Nat.zero_le _)
  have t6 : exM fsLw msLw (.whl MC_law_3 MB_law_2) (kG S (some (.int cl, false)) (some (wl a3 c k3, true)) (r.map sD) (RO r p h) (refsL m r.length) true (refsL (m + r.length) (r.length + 1)) (some (.int ((0 : Nat) : Int), false)) x8 x9 x10 x11 x13 x14) M1 = some (.nx (kG S (some (.int cl, false)) (some (wl a3 c k3, true)) (r.map sD) (RO r p h) (refsL m r.length) f2 (refsL (m + r.length) (r.length + 1)) (some (.int z, false)) y8 y9 y10 x11 y13 y14), M2) := by
    simp only [exM]
    exact ew
  have pt := p_test S (some (.int cl, false)) (some (wl a3 c k3, true)) (r.map sD) (RO r p h) y8 y9 y10 x11 y13 y14 (refsL m r.length) (refsL (m + r.length) (r.length + 1)) f2 z
  have pre : ∀ {o : Out × List D}, exMs fsLw msLw [(.ite (.raw (.cmp .lt (.var 7) (.cst (.int 900)))) [.old (.asg (.nm 11) (.call 6 [.var 4])),
  .for_ (.nm 10) (.raw .rng [.bi .len [.var 6]]) MB_law_4,
  .old (.ite (.or (.cmp .ne (.call 7 [.var 4]) (.ix (.var 11) (.neg (.cst (.int 1))))) (.or (.cmp .ne (.callp 7 [0] [.var 4]) (.ix (.var 11) (.neg (.cst (.int 1))))) (.cmp .ne (.bi .len [.var 11]) (.bin .add (.bi .len [.var 3]) (.cst (.int 1)))))) [.ret (.cst (.bl false))] []),
  .old (.xapp (.callp 6 [0] [.var 4]) (.int 0)),
  .old (.ite (.cmp .ne (.call 6 [.var 4]) (.var 11)) [.ret (.cst (.bl false))] [])] [])] (kG S (some (.int cl, false)) (some (wl a3 c k3, true)) (r.map sD) (RO r p h) (refsL m r.length) f2 (refsL (m + r.length) (r.length + 1)) (some (.int z, false)) y8 y9 y10 x11 y13 y14) M2 = some o → exMs fsLw msLw MB_law_5 (cG S (some (.int cl, false)) x2 x3 x4 x5 x6 x7 x8 x9 x10 x11 x13 x14) M = some o := fun {o} e => (exMs_nx t0).trans ((exMs_nx t1).trans ((exMs_nx t2).trans ((exMs_nx t3).trans ((exMs_nx t4).trans ((exMs_nx t5).trans ((exMs_nx t6).trans e))))))
  by_cases cz : z < 900
  · rw [decide_eq_true cz] at pt
    have ep := periods_ok ok false
    have er2 := row_period_ok ok false
    have la := perL_last p r
    obtain ⟨l, el⟩ := List.getLast?_eq_some_iff.mp la
    have i1 : atI ((perL p r).map D.int) (-1) = some (.int (perE p r)) := by
      rw [el, List.map_append, List.map_singleton]
      exact atI_last _ _
    have fl : ((perL p r).map D.int).length = r.length + 1 := by rw [List.length_map, perL_len]
    have hf : ∀ k, k < r.length + 1 → atI ((perL p r).map D.int) (k : Int) = some (.int (per r p k)) := fun k hk => atI_get (by rw [List.getElem?_map, perL_at r p k (by omega)]; rfl)
    have cc : cmpD .ne (.lst ((perL p r).map D.int)) (.lst ((perL p r).map D.int)) = some false := cmp_ne_self (by
      simp only [okB, List.all_eq_true, List.mem_map]
      rintro e ⟨i, _, rfl⟩
      rfl)
    generalize (perL p r).map D.int = FL at *
    have u0 := exM_old (fs := fsLw) (ms := msLw) (M := M2) (p_found S (some (.int cl, false)) (some (wl a3 c k3, true)) (r.map sD) (RO r p h) (some (.int z, false)) y8 y9 y10 x11 y13 y14 (refsL m r.length) (refsL (m + r.length) (r.length + 1)) FL f2 ep)
    obtain ⟨w10, lp, hw⟩ := p_loop S (some (.int cl, false)) (some (wl a3 c k3, true)) (r.map sD) (RO r p h) (some (.int z, false)) y8 y9 y13 y14 (refsL m r.length) FL f2 (m + r.length) (r.length + 1) P2 (per r p) (by omega) hf (fun k hk => ⟨I2.df k (by omega), by have := hl2 k (by omega); omega⟩) Q2 (r.length + 1) 0 y10 hy (by omega)
    have u1 := exM_for (b := MB_law_4) (tg := .nm 10) (p_rng S (some (.int cl, false)) (some (wl a3 c k3, true)) (r.map sD) (RO r p h) (some (.int z, false)) y8 y9 y10 (some (.lst FL, false)) y13 y14 (refsL m r.length) (refsL (m + r.length) (r.length + 1)) f2 (r.length + 1) (by omega) (refs_len _ _) M2) lp
    have u2 := exM_old (fs := fsLw) (ms := msLw) (M := M2) (p_period S (some (.int cl, false)) (some (wl a3 c k3, true)) (r.map sD) (RO r p h) (some (.int z, false)) y8 y9 w10 y13 y14 (refsL m r.length) (refsL (m + r.length) (r.length + 1)) FL f2 (perE p r) (r.length : Int) er2 i1 (by rw [fl]; omega) (by rw [ln]))
    have u3 := exM_old (fs := fsLw) (ms := msLw) (M := M2) (p_xapp S (some (.int cl, false)) (some (wl a3 c k3, true)) (r.map sD) (RO r p h) (some (.int z, false)) y8 y9 w10 y13 y14 (refsL m r.length) (refsL (m + r.length) (r.length + 1)) FL f2 ep (by omega) (some (.lst FL, false)))
    have u4 := exM_old (fs := fsLw) (ms := msLw) (M := M2) (p_again S (some (.int cl, false)) (some (wl a3 c k3, true)) (r.map sD) (RO r p h) (some (.int z, false)) y8 y9 w10 y13 y14 (refsL m r.length) (refsL (m + r.length) (r.length + 1)) FL f2 ep cc)
    exact ⟨M2, _, _, _, _, _, _, _, _, _, _, _, _, pre (exMs_last (exM_iteT (evX_raw pt) rfl ((exMs_nx u0).trans ((exMs_nx u1).trans ((exMs_nx u2).trans ((exMs_nx u3).trans (exMs_last u4))))))), hw⟩
  · rw [decide_eq_false cz] at pt
    exact ⟨M2, _, _, _, _, _, _, _, _, _, _, _, _, pre (exMs_last (exM_ite0 (evX_raw pt) rfl)), hy⟩
theorem cells_ok (S : Sl) : ∀ (cs : List Int) (M : List D) (x1 x2 x3 x4 x5 x6 x7 x8 x9 x10 x11 x13 x14 : Sl), Nf x10 → ∃ M' y1 y2 y3 y4 y5 y6 y7 y8 y9 y10 y11 y13 y14, forLoopM (.nm 1) (exMs fsLw msLw MB_law_5) (cs.map D.int) (cG S x1 x2 x3 x4 x5 x6 x7 x8 x9 x10 x11 x13 x14) M = some (.nx (cG S y1 y2 y3 y4 y5 y6 y7 y8 y9 y10 y11 y13 y14), M')
  | [], M, x1, x2, x3, x4, x5, x6, x7, x8, x9, x10, x11, x13, x14, _ => ⟨M, x1, x2, x3, x4, x5, x6, x7, x8, x9, x10, x11, x13, x14, by simp [forLoopM]⟩
  | c :: cs, M, x1, x2, x3, x4, x5, x6, x7, x8, x9, x10, x11, x13, x14, hx => by
    obtain ⟨M1, z2, z3, z4, z5, z6, z7, z8, z9, z10, z11, z13, z14, e1, hz⟩ := cell_ok S c M x2 x3 x4 x5 x6 x7 x8 x9 x10 x11 x13 x14 hx
    obtain ⟨M2, y1, y2, y3, y4, y5, y6, y7, y8, y9, y10, y11, y13, y14, e2⟩ := cells_ok S cs M1 (some (.int c, false)) z2 z3 z4 z5 z6 z7 z8 z9 z10 z11 z13 z14 hz
    refine ⟨M2, y1, y2, y3, y4, y5, y6, y7, y8, y9, y10, y11, y13, y14, ?_⟩
    rw [List.map_cons, ← e2]
    exact forLoopM_step (Γ1 := cG S (some (.int c, false)) x2 x3 x4 x5 x6 x7 x8 x9 x10 x11 x13 x14) (by simp [DV.SC, DV.SX]) e1
theorem cut_scr (ns : List Int) (lo hi : Nat) : ∃ cs : List Int, cutD (ns.map D.int) (some (lo : Int)) (some (hi : Int)) = cs.map D.int ∧ cs.length ≤ hi := by
  unfold cutD
  rw [HT.sIx_nat, HT.sIx_nat, ← List.map_drop, ← List.map_take]
  exact ⟨_, rfl, by rw [List.length_take]; omega⟩
theorem law_true (ns : List Int) (hl : ns.length ≤ 63) (hb : ∀ z ∈ ns, Builtin.Int.intBits z ≤ 1048576) : ∃ M, F_law (plG [.scr ns]) [] = some (.fz (.bl true), M) := by
  obtain ⟨c0, e0⟩ := cell_at_ok ns
  obtain ⟨cs, e1, l1⟩ := cut_scr ns 1 4
  obtain ⟨M, y1, y2, y3, y4, y5, y6, y7, y8, y9, y10, y11, y13, y14, e⟩ := cells_ok (some (.scr ns, false)) (c0 :: cs) [] none none none none none none none none none none none none none nofun
  have f1 : exM fsLw msLw (.for_ (.nm 1) (.raw .seq [.bin .add (.lst [.call 0 [.var 0, .cst (.int 0)]]) (.slc (.var 0) [.cst (.int 1)] [.cst (.int 4)])]) MB_law_5) (cG (some (.scr ns, false)) none none none none none none none none none none none none none) [] = some (.nx (cG (some (.scr ns, false)) y1 y2 y3 y4 y5 y6 y7 y8 y9 y10 y11 y13 y14), M) := by
    refine exM_for (Γ2 := cG (some (.scr ns, false)) none none none none none none none none none none none none none) (M1 := []) (ds := (c0 :: cs).map D.int) ?_ e
    have e1 : cutD (ns.map D.int) (some 1) (some 4) = cs.map D.int := e1
    have hz : 1 + cs.length ≤ 16777216 := by omega
    have hz2 : cs.length + 1 ≤ 16777216 := by omega
    simp [DV.XC, DV.SC, DV.SX, e0, e1, hz, hz2, sizeLine, Nat.add_comm]
  refine ⟨M, ?_⟩
  refine runM_by (o := (.rt (.fz (.bl true)) (cG (some (.scr ns, false)) y1 y2 y3 y4 y5 y6 y7 y8 y9 y10 y11 y13 y14), M)) rfl (?_ : exMs fsLw msLw _ (cG (some (.scr ns, false)) none none none none none none none none none none none none none) [] = _) rfl
  refine (exMs_nx f1).trans (exMs_rt (exM_oldR ?_))
  simp [DV.SC, DV.SX]

end L
open PySem PySem.W PyProof.Rows
set_option maxHeartbeats 0 in
theorem PySem.Challenge.cw_breakerrow_k01_periods_by_sending_reques_holds : PySem.Challenge.rw_breakerrow_k01_periods_by_sending_reques.Holds := by
  refine L_top ?_
  k_fill
  refine L2.walk_ofB (l := PySem.Challenge.rw_breakerrow_k01_periods_by_sending_reques) (n := 63) (k := 7) (x := "_law_script") (CX := fun _ => L2.CX0) (sp := fun w => DV.spNM _ L.F_law) rfl (by decide) rfl ⟨rfl, by decide, by decide⟩ (fun w h Y => PySem.W.kIn_of Y) ?F (fun _ H a ns hl hb _ hS => DV.sp_lawM (L.law_true ns hl hb).choose_spec hS) (fun _ _ _ _ _ h => h)
  case F =>
    intro w mg fa h KX G hmg
    refine' L.all_mk KX G hmg ?aC1 ?a0 ?l0 ?e0 ?k0 ?a1 ?l1 ?e1 ?k1 ?a2 ?l2 ?e2 ?k2 ?a3 ?l3 ?e3 ?k3 ?a4 ?l4 ?e4 ?k4 ?a5 ?l5 ?e5 ?k5 ?a6 ?l6 ?e6 ?k6 ?a7 ?l7 ?e7 ?k7 ?a8 ?l8 ?e8 ?k8 ?a9 ?i9 ?l9 ?e9 ?k9 ?d9 ?a10 ?l10 ?e10 ?k10 ?a11 ?l11 ?e11 ?k11 ?a12 ?l12 ?e12 ?k12 ?a13 ?l13 ?e13 ?k13 ?a14 ?l14 ?e14 ?k14 ?a15 ?l15 ?e15 ?k15 ?a16 ?l16 ?e16 ?k16 ?z_bool ?z_enumerate ?z_int ?z_isinstance ?z_len ?z_list ?z_min ?z_range ?z_tuple ?z_zip ?g_MOST_BREAKERS ?g_MOST_COUNT ?g_MOST_WAIT ?pg1 ?hd1 ?po1 ?sa1 ?ha1 ?hn1 ?ht1 ?hm1 ?nf1_NoneType ?nf1_bool ?nf1_int ?nf1_str ?nf1_list ?nf1_tuple ?na_Row_specs ?na_Row_pace ?na_Row_shift ?mk1 ?kc1
    (case aC1 => k_is)
    (case a0 => k_is)
    (case l0 => k_is)
    (case e0 => k_is)
    (case k0 => k_is)
    (case a1 => k_is)
    (case l1 => k_is)
    (case e1 => k_is)
    (case k1 => k_is)
    (case a2 => k_is)
    (case l2 => k_is)
    (case e2 => k_is)
    (case k2 => k_is)
    (case a3 => k_is)
    (case l3 => k_is)
    (case e3 => k_is)
    (case k3 => k_is)
    (case a4 => k_is)
    (case l4 => k_is)
    (case e4 => k_is)
    (case k4 => k_is)
    (case a5 => k_is)
    (case l5 => k_is)
    (case e5 => k_is)
    (case k5 => k_is)
    (case a6 => k_is)
    (case l6 => k_is)
    (case e6 => k_is)
    (case k6 => k_is)
    (case a7 => k_is)
    (case l7 => k_is)
    (case e7 => k_is)
    (case k7 => k_is)
    (case a8 => k_is)
    (case l8 => k_is)
    (case e8 => k_is)
    (case k8 => k_is)
    (case a9 => k_is)
    (case i9 => k_is)
    (case l9 => k_is)
    (case e9 => k_is)
    (case k9 => k_is)
    (case d9 => k_is)
    (case a10 => k_is)
    (case l10 => k_is)
    (case e10 => k_is)
    (case k10 => k_is)
    (case a11 => k_is)
    (case l11 => k_is)
    (case e11 => k_is)
    (case k11 => k_is)
    (case a12 => k_is)
    (case l12 => k_is)
    (case e12 => k_is)
    (case k12 => k_is)
    (case a13 => k_is)
    (case l13 => k_is)
    (case e13 => k_is)
    (case k13 => k_is)
    (case a14 => k_is)
    (case l14 => k_is)
    (case e14 => k_is)
    (case k14 => k_is)
    (case a15 => k_is)
    (case l15 => k_is)
    (case e15 => k_is)
    (case k15 => k_is)
    (case a16 => k_is)
    (case l16 => k_is)
    (case e16 => k_is)
    (case k16 => k_is)
    (case z_bool => k_is)
    (case z_enumerate => k_is)
    (case z_int => k_is)
    (case z_isinstance => k_is)
    (case z_len => k_is)
    (case z_list => k_is)
    (case z_min => k_is)
    (case z_range => k_is)
    (case z_tuple => k_is)
    (case z_zip => k_is)
    (case g_MOST_BREAKERS => k_is)
    (case g_MOST_COUNT => k_is)
    (case g_MOST_WAIT => k_is)
    (case pg1 => k_is)
    (case hd1 => k_is)
    (case po1 => k_is)
    (case sa1 => k_is)
    (case ha1 => k_is)
    (case hn1 => k_is)
    (case ht1 => k_is)
    (case hm1 => k_is)
    (case nf1_NoneType => k_is)
    (case nf1_bool => k_is)
    (case nf1_int => k_is)
    (case nf1_str => k_is)
    (case nf1_list => k_is)
    (case nf1_tuple => k_is)
    (case na_Row_specs => k_is)
    (case na_Row_pace => k_is)
    (case na_Row_shift => k_is)
    (case mk1 => k_is)
    (case kc1 => k_is)
