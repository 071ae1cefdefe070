import PyProof.Rows.All
import Wide.All
import OpenK.AllK
import Wide.FinOn
import HandS.ForMost
import HandS.Wide
import HandS.Style
import HandS.Flow
import HandS.Zip
import HandS.EndBits
import HandS.IsInst
import HandS.Lambda
import HandS.EndTab
import KE.LtData
import HandS.TupLe
import PyProof.NeKinds
import PyProof.FactsAll.dict_2
import PyProof.FactsAll.subtypes_4
import KE.KEqDict
import PyProof.EqKinds
import PyProof.FactsAll.list_1
import PyProof.FactsAll.dict_1
import HandS.OwnEq
import PyProof.InstNe
import HandS.MakeKwOnly
import HandS.SortRule
import HandS.Conv
import HandS.SortKw
import HandS.SetFor
import KE.DataMinMax
import PyProof.Rows.CountFlat
import KE.DataFind
import KE.DatumOrd
import HandS.Dict
import KE.KDictPairs
import KE.SortData
import HandS.WordsExc
import HandS.TryMany
import HandS.ExcInit
import KE.KExcInit
import KE.KExcIs
import HandS.ExcField
import KE.KNest
import KE.KNestM
import HandS.SortInts
import HandS.Comp
import PyProof.ReprRoads
import HandS.ExcOwn
import KE.KDflt
import HandS.Strs
import HandS.FStr
import HandS.Text
import HandS.Replace
import HandS.Iter
import KE.OsRunLaw
import PySem.Challenge.RW_breakerrow_k63_texts_of_rows_and_outages
set_option exponentiation.threshold 100000
set_option Elab.async false
set_option linter.all false
set_option maxRecDepth 100000
set_option maxHeartbeats 4000000
theorem om3 {α β γ δ : Type} {x : Option α} {f : α → β} {g : α → γ} {h : α → δ} {a : β} {b : γ} {c : δ} (e1 : x.map f = some a) (e2 : x.map g = some b) (e3 : x.map h = some c) : x.map (fun s => (f s, g s, h s)) = some (a, b, c) := by
  cases x with
  | none => cases e1
  | some s =>
    cases e1; cases e2; cases e3
    rfl
section
open PySem PySem.W PySem.Calls PyProof.Rows HeadRun
noncomputable def HQ : Program := { PySem.Challenge.pw_breakerrow_k63_texts_of_rows_and_outages with main := { (PySem.Challenge.pw_breakerrow_k63_texts_of_rows_and_outages).main with body := ([(PySem.Challenge.pw_breakerrow_k63_texts_of_rows_and_outages).main.body.getD 1 (.Pass ⟨0, 0, 0, 0⟩), (PySem.Challenge.pw_breakerrow_k63_texts_of_rows_and_outages).main.body.getD 2 (.Pass ⟨0, 0, 0, 0⟩), (PySem.Challenge.pw_breakerrow_k63_texts_of_rows_and_outages).main.body.getD 3 (.Pass ⟨0, 0, 0, 0⟩), (PySem.Challenge.pw_breakerrow_k63_texts_of_rows_and_outages).main.body.getD 4 (.Pass ⟨0, 0, 0, 0⟩), (PySem.Challenge.pw_breakerrow_k63_texts_of_rows_and_outages).main.body.getD 5 (.Pass ⟨0, 0, 0, 0⟩), (PySem.Challenge.pw_breakerrow_k63_texts_of_rows_and_outages).main.body.getD 7 (.Pass ⟨0, 0, 0, 0⟩), (PySem.Challenge.pw_breakerrow_k63_texts_of_rows_and_outages).main.body.getD 8 (.Pass ⟨0, 0, 0, 0⟩), (PySem.Challenge.pw_breakerrow_k63_texts_of_rows_and_outages).main.body.getD 10 (.Pass ⟨0, 0, 0, 0⟩), (PySem.Challenge.pw_breakerrow_k63_texts_of_rows_and_outages).main.body.getD 11 (.Pass ⟨0, 0, 0, 0⟩), (PySem.Challenge.pw_breakerrow_k63_texts_of_rows_and_outages).main.body.getD 12 (.Pass ⟨0, 0, 0, 0⟩), (PySem.Challenge.pw_breakerrow_k63_texts_of_rows_and_outages).main.body.getD 13 (.Pass ⟨0, 0, 0, 0⟩), (PySem.Challenge.pw_breakerrow_k63_texts_of_rows_and_outages).main.body.getD 14 (.Pass ⟨0, 0, 0, 0⟩), (PySem.Challenge.pw_breakerrow_k63_texts_of_rows_and_outages).main.body.getD 15 (.Pass ⟨0, 0, 0, 0⟩), (PySem.Challenge.pw_breakerrow_k63_texts_of_rows_and_outages).main.body.getD 17 (.Pass ⟨0, 0, 0, 0⟩), (PySem.Challenge.pw_breakerrow_k63_texts_of_rows_and_outages).main.body.getD 18 (.Pass ⟨0, 0, 0, 0⟩), (PySem.Challenge.pw_breakerrow_k63_texts_of_rows_and_outages).main.body.getD 19 (.Pass ⟨0, 0, 0, 0⟩), (PySem.Challenge.pw_breakerrow_k63_texts_of_rows_and_outages).main.body.getD 20 (.Pass ⟨0, 0, 0, 0⟩), (PySem.Challenge.pw_breakerrow_k63_texts_of_rows_and_outages).main.body.getD 22 (.Pass ⟨0, 0, 0, 0⟩), (PySem.Challenge.pw_breakerrow_k63_texts_of_rows_and_outages).main.body.getD 23 (.Pass ⟨0, 0, 0, 0⟩), (PySem.Challenge.pw_breakerrow_k63_texts_of_rows_and_outages).main.body.getD 24 (.Pass ⟨0, 0, 0, 0⟩), (PySem.Challenge.pw_breakerrow_k63_texts_of_rows_and_outages).main.body.getD 25 (.Pass ⟨0, 0, 0, 0⟩), (PySem.Challenge.pw_breakerrow_k63_texts_of_rows_and_outages).main.body.getD 26 (.Pass ⟨0, 0, 0, 0⟩), (PySem.Challenge.pw_breakerrow_k63_texts_of_rows_and_outages).main.body.getD 27 (.Pass ⟨0, 0, 0, 0⟩), (PySem.Challenge.pw_breakerrow_k63_texts_of_rows_and_outages).main.body.getD 28 (.Pass ⟨0, 0, 0, 0⟩), (PySem.Challenge.pw_breakerrow_k63_texts_of_rows_and_outages).main.body.getD 29 (.Pass ⟨0, 0, 0, 0⟩), (PySem.Challenge.pw_breakerrow_k63_texts_of_rows_and_outages).main.body.getD 30 (.Pass ⟨0, 0, 0, 0⟩), (PySem.Challenge.pw_breakerrow_k63_texts_of_rows_and_outages).main.body.getD 32 (.Pass ⟨0, 0, 0, 0⟩), (PySem.Challenge.pw_breakerrow_k63_texts_of_rows_and_outages).main.body.getD 33 (.Pass ⟨0, 0, 0, 0⟩), (PySem.Challenge.pw_breakerrow_k63_texts_of_rows_and_outages).main.body.getD 34 (.Pass ⟨0, 0, 0, 0⟩), (PySem.Challenge.pw_breakerrow_k63_texts_of_rows_and_outages).main.body.getD 35 (.Pass ⟨0, 0, 0, 0⟩)] : List Stmt) ++ ([(PySem.Challenge.pw_breakerrow_k63_texts_of_rows_and_outages).main.body.getD 36 (.Pass ⟨0, 0, 0, 0⟩), (PySem.Challenge.pw_breakerrow_k63_texts_of_rows_and_outages).main.body.getD 37 (.Pass ⟨0, 0, 0, 0⟩), (PySem.Challenge.pw_breakerrow_k63_texts_of_rows_and_outages).main.body.getD 38 (.Pass ⟨0, 0, 0, 0⟩), (PySem.Challenge.pw_breakerrow_k63_texts_of_rows_and_outages).main.body.getD 39 (.Pass ⟨0, 0, 0, 0⟩)] : List Stmt) } }
set_option maxHeartbeats 0 in
theorem hd_seen0 (w : World) (os : OsState) : (endF (stepQ (denQ tabQ) PySem.Challenge.pw_breakerrow_k63_texts_of_rows_and_outages w) 5190 PySem.Challenge.pw_breakerrow_k63_texts_of_rows_and_outages w os).map (fun s => openSeen HQ [PySem.Str.ofString "MOST_COUNT", PySem.Str.ofString "MOST_WAIT", PySem.Str.ofString "Row", PySem.Str.ofString "MOST_END"] (importedModules (PySem.Challenge.pw_breakerrow_k63_texts_of_rows_and_outages).main.body) (fun s => xlAt HQ [(PySem.Str.ofString "MOST_COUNT", .int 1000000000000), (PySem.Str.ofString "MOST_WAIT", .int 1000000000000000000000000000000), (PySem.Str.ofString "MOST_END", .int 1000000000000000000000000000000)] s && recOk [] s) true s.abs) = some (openGood HQ [PySem.Str.ofString "MOST_COUNT", PySem.Str.ofString "MOST_WAIT", PySem.Str.ofString "Row", PySem.Str.ofString "MOST_END"]) := by kernel_rfl
theorem hd_seen (w : World) (os : OsState) : (endF (stepQ (denQ tabQ) PySem.Challenge.pw_breakerrow_k63_texts_of_rows_and_outages w) 5190 PySem.Challenge.pw_breakerrow_k63_texts_of_rows_and_outages w os).map (fun s => seenQ HQ [PySem.Str.ofString "MOST_COUNT", PySem.Str.ofString "MOST_WAIT", PySem.Str.ofString "Row", PySem.Str.ofString "MOST_END"] (importedModules (PySem.Challenge.pw_breakerrow_k63_texts_of_rows_and_outages).main.body) (fun s => xlAt HQ [(PySem.Str.ofString "MOST_COUNT", .int 1000000000000), (PySem.Str.ofString "MOST_WAIT", .int 1000000000000000000000000000000), (PySem.Str.ofString "MOST_END", .int 1000000000000000000000000000000)] s && recOk [] s) s.abs) = some (openGood HQ [PySem.Str.ofString "MOST_COUNT", PySem.Str.ofString "MOST_WAIT", PySem.Str.ofString "Row", PySem.Str.ofString "MOST_END"]) := by
  have e := hd_seen0 w os
  simp only [seenQ_eq] at e
  exact e
end
section
open PySem PySem.W PyProof.Rows
local macro_rules | `(tactic| k_head) => `(tactic| k_headL)
local macro_rules (kind := tacticKernel_rfl)
  | stx => do
    if stx.getNumArgs > 1 then Lean.Macro.throwUnsupported
    let k : Lean.TSyntax `tactic := ⟨stx.setArgs (stx.getArgs.push (Lean.mkAtom ""))⟩
    `(tactic| first | (rename_i w os; refine om3 ?_ (Eq.trans ?_ ((hd_seen w os).trans ?_)) ?_ <;> $k:tactic) | $k:tactic)
set_option maxHeartbeats 0 in
open_top L_top for PySem.Challenge.rw_breakerrow_k63_texts_of_rows_and_outages
end

namespace DV
open PySem L2

/-- data: what a Python value says, with its heap read off -/
inductive D where
  | non | bl (b : Bool) | int (i : Int) | str (x : Str) | lst (xs : List D) | tup (xs : List D) | obj (c : Nat) (ks : List Str) (ds : List D) | scr (ns : List Int) | dct | dic (ks : List Int) (ds : List D) | exc (c : Nat) (ks : List Str) (ds : List D) | err (c : Nat) (ks : List Str) (ds : List D) | ref (k : Nat)

/-- what is static of a text behind its top -/
structure Gx where
  K : PySem.W.Frag
  cl : Nat → Addr
  T : List (Addr × Str)
  ea : Option (Nat × Addr × Addr)
  A : List Addr
/-- no table of code objects -/
def nT (o : HO) : Prop := ∀ ps, o ≠ .tbl ps

/-- a dict's keys and values -/
def dkV (ks : List Int) (vs : List V) : List (Key × V) := (ks.zip vs).map fun p => (.inl p.1, p.2)
/-! ### what stands for a datum -/
mutual
def Rep (g : Gx) (Av : Addr → Prop) (H : Hp) : D → V → Prop
  | .non, v => v = .non
  | .bl b, v => v = .bl b
  | .int i, v => v = .int i
  | .str x, v => v = .str x
  | .lst ds, v => ∃ a vs, v = .ref a ∧ ¬ Av a ∧ H a = some (.lst vs) ∧ Reps g Av H ds vs
  | .scr ns, v => ∃ a, v = .ref a ∧ ¬ Av a ∧ SqL g.K H a (ns.map V.int)
  | .tup ds, v => ∃ a vs, v = .ref a ∧ ¬ Av a ∧ SqT g.K H a vs ∧ Reps g Av H ds vs
  | .obj c ks ds, v => ∃ a dx vs, v = .ref a ∧ ¬ Av a ∧ ks.length = vs.length ∧ H a = some (.ins (g.cl c) dx (ks.zip vs)) ∧ Reps g Av H ds vs
  | .dct, v => ∃ a, v = .ref a ∧ ¬ Av a ∧ H a = some (.dK [])
  | .dic ks ds, v => ∃ a vs, v = .ref a ∧ ¬ Av a ∧ ks.length = vs.length ∧ H a = some (.dK (dkV ks vs)) ∧ Reps g Av H ds vs
  | .exc _ ks ds, v => ∃ a vs, v = .ref a ∧ ¬ Av a ∧ ks.length = vs.length ∧ H a = some (.xd (ks.zip vs).reverse) ∧ Reps g Av H ds vs
  | .err c ks ds, v => ∃ e a vs, g.ea = some (c, e, a) ∧ v = .ref e ∧ ¬ Av a ∧ ks.length = vs.length ∧ H a = some (.xd (ks.zip vs).reverse) ∧ Reps g Av H ds vs
  | .ref k, v => ∃ a, g.A[k]? = some a ∧ v = .ref a
def Reps (g : Gx) (Av : Addr → Prop) (H : Hp) : List D → List V → Prop
  | [], vs => vs = []
  | d :: ds, vs => ∃ v r, vs = v :: r ∧ Rep g Av H d v ∧ Reps g Av H ds r
end


section
variable {g : Gx} {Av Av' : Addr → Prop} {H H' : Hp}
theorem sqL_mono {a : Addr} {vs : List V} (h : SqL g.K H a vs) (k : ∀ o, H a = some o → nT o → H' a = some o) : SqL g.K H' a vs := by
  rcases h with (h | ⟨o, h⟩) | h
  · exact .inl (.inl (k _ h nofun))
  · exact .inl (.inr ⟨o, k _ h nofun⟩)
  · exact .inr h
theorem sqT_mono {a : Addr} {vs : List V} (h : SqT g.K H a vs) (k : ∀ o, H a = some o → nT o → H' a = some o) : SqT g.K H' a vs := by
  rcases h with (h | ⟨o, h⟩) | h
  · exact .inl (.inl (k _ h nofun))
  · exact .inl (.inr ⟨o, k _ h nofun⟩)
  · exact .inr h
theorem sqL_at {a : Addr} {vs : List V} (h : SqL g.K H a vs) : (∃ o, H a = some o ∧ nT o) ∨ ∃ o, g.K.lookup a = some o := by
  rcases h with (h | ⟨o, h⟩) | ⟨o, _, _, h, _⟩
  · exact .inl ⟨_, h, nofun⟩
  · exact .inl ⟨_, h, nofun⟩
  · exact .inr ⟨_, h⟩
theorem sqT_at {a : Addr} {vs : List V} (h : SqT g.K H a vs) : (∃ o, H a = some o ∧ nT o) ∨ ∃ o, g.K.lookup a = some o := by
  rcases h with (h | ⟨o, h⟩) | ⟨o, _, _, h, _⟩
  · exact .inl ⟨_, h, nofun⟩
  · exact .inl ⟨_, h, nofun⟩
  · exact .inr ⟨_, h⟩
/-- a visited address: one that may not change, and stands in H or in the written part -/
abbrev Vst (g : Gx) (Av : Addr → Prop) (H : Hp) (a : Addr) : Prop := ¬ Av a ∧ ((∃ o, H a = some o ∧ nT o) ∨ ∃ o, g.K.lookup a = some o)
mutual
theorem rep_mono (k : ∀ a, Vst g Av H a → (∀ o, H a = some o → nT o → H' a = some o) ∧ ¬ Av' a) : ∀ (d : D) (v : V), Rep g Av H d v → Rep g Av' H' d v
  | .non, _, h => by simpa [Rep] using h
  | .bl _, _, h => by simpa [Rep] using h
  | .int _, _, h => by simpa [Rep] using h
  | .str _, _, h => by simpa [Rep] using h
  | .lst ds, v, h => by
    simp only [Rep] at h ⊢
    obtain ⟨a, vs, e, n, s, r⟩ := h
    have q := k a ⟨n, .inl ⟨_, s, nofun⟩⟩
    exact ⟨a, vs, e, q.2, q.1 _ s nofun, reps_mono k ds vs r⟩
  | .scr ns, v, h => by
    simp only [Rep] at h ⊢
    obtain ⟨a, e, n, s⟩ := h
    have q := k a ⟨n, sqL_at s⟩
    exact ⟨a, e, q.2, sqL_mono s q.1⟩
  | .tup ds, v, h => by
    simp only [Rep] at h ⊢
    obtain ⟨a, vs, e, n, s, r⟩ := h
    have q := k a ⟨n, sqT_at s⟩
    exact ⟨a, vs, e, q.2, sqT_mono s q.1, reps_mono k ds vs r⟩
  | .obj c ks ds, v, h => by
    simp only [Rep] at h ⊢
    obtain ⟨a, dx, vs, e, n, l, s, r⟩ := h
    have q := k a ⟨n, .inl ⟨_, s, nofun⟩⟩
    exact ⟨a, dx, vs, e, q.2, l, q.1 _ s nofun, reps_mono k ds vs r⟩
  | .dct, v, h => by
    simp only [Rep] at h ⊢
    obtain ⟨a, e, n, s⟩ := h
    have q := k a ⟨n, .inl ⟨_, s, nofun⟩⟩
    exact ⟨a, e, q.2, q.1 _ s nofun⟩
  | .dic ks ds, v, h => by
    simp only [Rep] at h ⊢
    obtain ⟨a, vs, e, n, l, s, r⟩ := h
    have q := k a ⟨n, .inl ⟨_, s, nofun⟩⟩
    exact ⟨a, vs, e, q.2, l, q.1 _ s nofun, reps_mono k ds vs r⟩
  | .exc c ks ds, v, h => by
    simp only [Rep] at h ⊢
    obtain ⟨a, vs, e, n, l, s, r⟩ := h
    have q := k a ⟨n, .inl ⟨_, s, nofun⟩⟩
    exact ⟨a, vs, e, q.2, l, q.1 _ s nofun, reps_mono k ds vs r⟩
  | .err c ks ds, v, h => by
    simp only [Rep] at h ⊢
    obtain ⟨e0, a, vs, e1, e, n, l, s, r⟩ := h
    have q := k a ⟨n, .inl ⟨_, s, nofun⟩⟩
    exact ⟨e0, a, vs, e1, e, q.2, l, q.1 _ s nofun, reps_mono k ds vs r⟩
  | .ref k, v, h => by
    simp only [Rep] at h ⊢
    exact h
theorem reps_mono (k : ∀ a, Vst g Av H a → (∀ o, H a = some o → nT o → H' a = some o) ∧ ¬ Av' a) : ∀ (ds : List D) (vs : List V), Reps g Av H ds vs → Reps g Av' H' ds vs
  | [], _, h => by simpa [Reps] using h
  | d :: ds, _, h => by
    simp only [Reps] at h ⊢
    obtain ⟨v, r, e, h1, h2⟩ := h
    exact ⟨v, r, e, rep_mono k d v h1, reps_mono k ds r h2⟩
end
theorem Reps.len : ∀ {ds : List D} {vs : List V}, Reps g Av H ds vs → ds.length = vs.length
  | [], _, h => by simp only [Reps] at h; subst h; rfl
  | d :: ds, _, h => by
    simp only [Reps] at h
    obtain ⟨v, r, rfl, _, h2⟩ := h
    rw [List.length_cons, List.length_cons, Reps.len h2]
theorem Reps.get : ∀ {ds : List D} {vs : List V} {i : Nat} {d : D}, Reps g Av H ds vs → ds[i]? = some d → ∃ v, vs[i]? = some v ∧ Rep g Av H d v
  | [], _, i, d, _, e => by simp at e
  | x :: ds, _, 0, d, h, e => by
    simp only [Reps] at h
    obtain ⟨v, r, rfl, h1, _⟩ := h
    simp at e; subst e
    exact ⟨v, rfl, h1⟩
  | x :: ds, _, i + 1, d, h, e => by
    simp only [Reps] at h
    obtain ⟨v, r, rfl, _, h2⟩ := h
    exact Reps.get (i := i) h2 (by simpa using e)
theorem Reps.app : ∀ {ds es : List D} {vs ws : List V}, Reps g Av H ds vs → Reps g Av H es ws → Reps g Av H (ds ++ es) (vs ++ ws)
  | [], _, _, _, h, q => by simp only [Reps] at h; subst h; exact q
  | d :: ds, _, _, _, h, q => by
    simp only [Reps] at h
    obtain ⟨v, r, rfl, h1, h2⟩ := h
    simp only [List.cons_append, Reps]
    exact ⟨v, _, rfl, h1, Reps.app h2 q⟩
theorem Reps.take : ∀ {ds : List D} {vs : List V} (n : Nat), Reps g Av H ds vs → Reps g Av H (ds.take n) (vs.take n)
  | _, _, 0, _ => by simp [Reps]
  | [], _, n + 1, h => by simp only [Reps] at h; subst h; simp [Reps]
  | d :: ds, _, n + 1, h => by
    simp only [Reps] at h
    obtain ⟨v, r, rfl, h1, h2⟩ := h
    simp only [List.take_succ_cons, Reps]
    exact ⟨v, _, rfl, h1, Reps.take n h2⟩
theorem Reps.drop : ∀ {ds : List D} {vs : List V} (n : Nat), Reps g Av H ds vs → Reps g Av H (ds.drop n) (vs.drop n)
  | _, _, 0, h => h
  | [], _, n + 1, h => by simp only [Reps] at h; subst h; simp [Reps]
  | d :: ds, _, n + 1, h => by
    simp only [Reps] at h
    obtain ⟨v, r, rfl, h1, h2⟩ := h
    simpa using Reps.drop n h2
theorem Reps.set {d : D} {v : V} (q : Rep g Av H d v) : ∀ {ds : List D} {vs : List V} (n : Nat), Reps g Av H ds vs → Reps g Av H (ds.set n d) (vs.set n v)
  | [], _, n, h => by simp only [Reps] at h; subst h; simp [Reps]
  | x :: ds, _, 0, h => by
    simp only [Reps] at h
    obtain ⟨w, r, rfl, h1, h2⟩ := h
    simp only [List.set_cons_zero, Reps]
    exact ⟨v, _, rfl, q, h2⟩
  | x :: ds, _, n + 1, h => by
    simp only [Reps] at h
    obtain ⟨w, r, rfl, h1, h2⟩ := h
    simp only [List.set_cons_succ, Reps]
    exact ⟨w, _, rfl, h1, Reps.set q n h2⟩
theorem Reps.one {d : D} {v : V} (q : Rep g Av H d v) : Reps g Av H [d] [v] := by
  simp only [Reps]
  exact ⟨v, [], rfl, q, rfl⟩
theorem Reps.rev : ∀ {ds : List D} {vs : List V}, Reps g Av H ds vs → Reps g Av H ds.reverse vs.reverse
  | [], _, h => by simp only [Reps] at h; subst h; simp [Reps]
  | d :: ds, _, h => by
    simp only [Reps] at h
    obtain ⟨v, r, rfl, h1, h2⟩ := h
    rw [List.reverse_cons, List.reverse_cons]
    exact Reps.app (Reps.rev h2) (Reps.one h1)
theorem Reps.repl {ds : List D} {vs : List V} (h : Reps g Av H ds vs) : ∀ n : Nat, Reps g Av H (List.replicate n ds).flatten (List.replicate n vs).flatten
  | 0 => by simp [Reps]
  | n + 1 => by
    rw [List.replicate_succ, List.replicate_succ, List.flatten_cons, List.flatten_cons]
    exact Reps.app h (Reps.repl h n)
end

/-! ### the frame: slots with data, some of them owned -/
abbrev Sl := Option (D × Bool)
abbrev Ct := List Sl
def Av (Bn : Addr → Prop) (Ow : List Addr) : Addr → Prop := fun a => Bn a ∨ a ∈ Ow
/-- the object at a is the owned datum d -/
def OwnA (g : Gx) (A : Addr → Prop) (H : Hp) (d : D) (a : Addr) : Prop :=
  match d with
  | .lst ds => ∃ vs, H a = some (.lst vs) ∧ Reps g A H ds vs
  | .obj c ks ds => ∃ dx vs, ks.length = vs.length ∧ H a = some (.ins (g.cl c) dx (ks.zip vs)) ∧ Reps g A H ds vs
  | _ => False
/-- a list or an object -/
def LI (H : Hp) (a : Addr) : Prop := (∃ vs, H a = some (.lst vs)) ∨ ∃ C dx fl, H a = some (.ins C dx fl)
theorem LI.ne {H : Hp} {a : Addr} (h : LI H a) : H a ≠ none := by
  rcases h with ⟨vs, e⟩ | ⟨C, dx, fl, e⟩ <;> rw [e] <;> nofun
theorem LI.same {H H' : Hp} {a : Addr} (h : LI H a) (s : Same H H') : LI H' a := by
  rcases h with ⟨vs, e⟩ | ⟨C, dx, fl, e⟩
  · exact .inl ⟨vs, s _ _ e⟩
  · exact .inr ⟨C, dx, fl, s _ _ e⟩
theorem LI.upd {H : Hp} {a b : Addr} {o : HO} (h : LI H a) (k : a = b → LI (upd H b o) b) : LI (L2.upd H b o) a := by
  by_cases e : a = b
  · rw [e]; exact k e
  · rcases h with ⟨vs, q⟩ | ⟨C, dx, fl, q⟩
    · exact .inl ⟨vs, by rw [upd_ne e]; exact q⟩
    · exact .inr ⟨C, dx, fl, by rw [upd_ne e]; exact q⟩
abbrev Tb (T : List (Addr × Str)) (H : Hp) : Prop := LamX.Tabs T H
theorem Tb.upd {T : List (Addr × Str)} {H : Hp} {p : Addr} {o : HO} (t : Tb T H) (h : LI H p) : Tb T (L2.upd H p o) := by
  intro q hq
  obtain ⟨ps, e1, e2, e3⟩ := t q hq
  have n1 : q.1 ≠ p := fun z => by
    rw [z] at e1
    rcases h with ⟨vs, e⟩ | ⟨C, dx, fl, e⟩ <;> (rw [e] at e1; cases e1)
  refine ⟨ps, by rw [upd_ne n1]; exact e1, e2, fun pos cv hc => ?_⟩
  obtain ⟨c, f1, f2⟩ := e3 pos cv hc
  refine ⟨c, f1, ?_⟩
  have n2 : c ≠ p := fun z => by
    rw [z] at f2
    unfold LamX.CodeO at f2
    rcases h with ⟨vs, e⟩ | ⟨C, dx, fl, e⟩ <;> (rw [e] at f2; cases f2)
  rw [upd_ne n2]
  exact f2
structure RS (g : Gx) (Bn : Addr → Prop) (Ow : List Addr) (H : Hp) (σ : St) (Γ : Ct) : Prop where
  len : σ.length = Γ.length
  slot : ∀ (i : Nat) d, Γ[i]? = some (some (d, false)) → ∃ v, σ[i]? = some (some v) ∧ Rep g (Av Bn Ow) H d v
  own : ∀ (i : Nat) d, Γ[i]? = some (some (d, true)) → ∃ a, σ[i]? = some (some (.ref a)) ∧ a ∈ Ow ∧ OwnA g (Av Bn Ow) H d a
  dist : ∀ (i j : Nat) d e a, Γ[i]? = some (some (d, true)) → Γ[j]? = some (some (e, true)) → σ[i]? = some (some (.ref a)) → σ[j]? = some (some (.ref a)) → i = j
  trl : ∀ a, Av Bn Ow a → LI H a
  sep : ∀ a, Bn a → a ∉ Ow
  kf : ∀ a, Av Bn Ow a → g.K.lookup a = none
  tabs : Tb g.T H
theorem RS.trk {g : Gx} {Bn : Addr → Prop} {Ow : List Addr} {H : Hp} {σ : St} {Γ : Ct} (r : RS g Bn Ow H σ Γ) (a : Addr) (h : Av Bn Ow a) : H a ≠ none := (r.trl a h).ne
/-- nothing stands there, or a table -/
def Nw (H : Hp) (a : Addr) : Prop := ∀ o, H a = some o → ¬ nT o
theorem nw_none {H : Hp} {a : Addr} (h : H a = none) : Nw H a := fun o e => by rw [h] at e; cases e
theorem LI.nw {H : Hp} {a : Addr} (h : LI H a) (n : Nw H a) : False := by
  rcases h with ⟨vs, e⟩ | ⟨C, dx, fl, e⟩
  · exact n _ e nofun
  · exact n _ e nofun
theorem RS.trn {g : Gx} {Bn : Addr → Prop} {Ow : List Addr} {H : Hp} {σ : St} {Γ : Ct} (r : RS g Bn Ow H σ Γ) (a : Addr) (h : Av Bn Ow a) (n : Nw H a) : False := (r.trl a h).nw n
/-- a step of the frame -/
structure Stp (Ow : List Addr) (H : Hp) (Ow' : List Addr) (H' : Hp) : Prop where
  keep0 : ∀ a o, H a = some o → nT o → a ∉ Ow → H' a = some o
  grow : ∀ a, a ∈ Ow' → a ∈ Ow ∨ Nw H a
theorem Stp.keep {Ow : List Addr} {H : Hp} {Ow' : List Addr} {H' : Hp} (s : Stp Ow H Ow' H') (a : Addr) (o : HO) (h : H a = some o) (n : a ∉ Ow) (t : nT o := by exact nofun) : H' a = some o := s.keep0 a o h t n
theorem Stp.refl (Ow : List Addr) (H : Hp) : Stp Ow H Ow H := ⟨fun _ _ h _ _ => h, fun _ h => .inl h⟩
theorem Stp.trans {O1 O2 O3 : List Addr} {H1 H2 H3 : Hp} (a : Stp O1 H1 O2 H2) (b : Stp O2 H2 O3 H3) : Stp O1 H1 O3 H3 where
  keep0 := fun x o h t n => b.keep0 x o (a.keep0 x o h t n) t fun z => by
    rcases a.grow x z with q | q
    · exact n q
    · exact q o h t
  grow := fun x h => by
    rcases b.grow x h with q | q
    · exact a.grow x q
    · by_cases m : x ∈ O1
      · exact .inl m
      · exact .inr fun o e t => q o (a.keep0 x o e t m) t
section
variable {g : Gx} {Bn : Addr → Prop} {Ow Ow' : List Addr} {H H' : Hp} {σ : St} {Γ Γ' : Ct}
/-- what may be carried over a step -/
theorem step_vst (s : Stp Ow H Ow' H') (kf : ∀ a, a ∈ Ow' → g.K.lookup a = none) : ∀ a, Vst g (Av Bn Ow) H a → (∀ o, H a = some o → nT o → H' a = some o) ∧ ¬ Av Bn Ow' a := fun a ⟨n, t⟩ => by
  have n1 : ¬ Bn a := fun z => n (.inl z)
  have n2 : a ∉ Ow := fun z => n (.inr z)
  refine ⟨fun o h t => s.keep0 a o h t n2, fun z => ?_⟩
  rcases z with z | z
  · exact n1 z
  · rcases t with ⟨o, t, nt⟩ | ⟨o, t⟩
    · rcases s.grow a z with q | q
      · exact n2 q
      · exact q o t nt
    · rw [kf a z] at t; cases t
theorem Rep.step {d : D} {v : V} (h : Rep g (Av Bn Ow) H d v) (s : Stp Ow H Ow' H') (r : RS g Bn Ow' H' σ Γ) : Rep g (Av Bn Ow') H' d v :=
  rep_mono (step_vst s fun a h => r.kf a (.inr h)) d v h
theorem Reps.step {d : List D} {v : List V} (h : Reps g (Av Bn Ow) H d v) (s : Stp Ow H Ow' H') (r : RS g Bn Ow' H' σ Γ) : Reps g (Av Bn Ow') H' d v :=
  reps_mono (step_vst s fun a h => r.kf a (.inr h)) d v h
/-- the heap has grown, nothing else -/
theorem same_vst {A : Addr → Prop} (s : Same H H') : ∀ a, Vst g A H a → (∀ o, H a = some o → nT o → H' a = some o) ∧ ¬ A a := fun a ⟨n, _⟩ => ⟨fun o h _ => s a o h, n⟩
theorem Rep.same {A : Addr → Prop} {d : D} {v : V} (h : Rep g A H d v) (s : Same H H') : Rep g A H' d v := rep_mono (same_vst s) d v h
theorem Reps.same {A : Addr → Prop} {d : List D} {v : List V} (h : Reps g A H d v) (s : Same H H') : Reps g A H' d v := reps_mono (same_vst s) d v h
theorem OwnA.same {A : Addr → Prop} {d : D} {a : Addr} (h : OwnA g A H d a) (s : Same H H') : OwnA g A H' d a := by
  cases d with
  | lst ds => obtain ⟨vs, e, r⟩ := h; exact ⟨vs, s _ _ e, r.same s⟩
  | obj c ks ds => obtain ⟨dx, vs, l, e, r⟩ := h; exact ⟨dx, vs, l, s _ _ e, r.same s⟩
  | _ => exact h
theorem RS.same (r : RS g Bn Ow H σ Γ) (s : Same H H') : RS g Bn Ow H' σ Γ where
  len := r.len
  slot := fun i d h => let ⟨v, e, q⟩ := r.slot i d h; ⟨v, e, q.same s⟩
  own := fun i d h => let ⟨a, e, m, q⟩ := r.own i d h; ⟨a, e, m, q.same s⟩
  dist := r.dist
  trl := fun a h => (r.trl a h).same s
  sep := r.sep
  kf := r.kf
  tabs := fun p hp => (r.tabs p hp).ext s
theorem Stp.same (s : Same H H') : Stp Ow H Ow H' := ⟨fun a o h _ _ => s a o h, fun _ h => .inl h⟩
/-- less is avoided -/
theorem rep_less {A A' : Addr → Prop} (k : ∀ a, A' a → A a) {d : D} {v : V} (h : Rep g A H d v) : Rep g A' H d v := rep_mono (fun a ⟨n, _⟩ => ⟨fun _ e _ => e, fun z => n (k a z)⟩) d v h
theorem reps_less {A A' : Addr → Prop} (k : ∀ a, A' a → A a) {d : List D} {v : List V} (h : Reps g A H d v) : Reps g A' H d v := reps_mono (fun a ⟨n, _⟩ => ⟨fun _ e _ => e, fun z => n (k a z)⟩) d v h
theorem own_less {A A' : Addr → Prop} (k : ∀ a, A' a → A a) {d : D} {a : Addr} (h : OwnA g A H d a) : OwnA g A' H d a := by
  cases d with
  | lst ds => obtain ⟨vs, e, r⟩ := h; exact ⟨vs, e, reps_less k r⟩
  | obj c ks ds => obtain ⟨dx, vs, l, e, r⟩ := h; exact ⟨dx, vs, l, e, reps_less k r⟩
  | _ => exact h
/-- an owned object becomes a plain one -/
theorem OwnA.rep {A : Addr → Prop} {d : D} {a : Addr} (h : OwnA g A H d a) (n : ¬ A a) : Rep g A H d (.ref a) := by
  cases d with
  | lst ds => obtain ⟨vs, e, r⟩ := h; simp only [Rep]; exact ⟨a, vs, rfl, n, e, r⟩
  | obj c ks ds => obtain ⟨dx, vs, l, e, r⟩ := h; simp only [Rep]; exact ⟨a, dx, vs, rfl, n, l, e, r⟩
  | _ => exact h.elim
end
end DV

namespace DV
open PySem L2

/-! ### data: equality, truth, operations -/
mutual
def eqd : D → D → Bool
  | .non, .non => true
  | .bl a, .bl b => a == b
  | .bl a, .int j => (if a then 1 else 0) == j
  | .int i, .bl b => i == (if b then 1 else 0)
  | .int i, .int j => i == j
  | .str x, .str y => x == y
  | .lst xs, .lst ys => eqds xs ys
  | .tup xs, .tup ys => eqds xs ys
  | _, _ => false
def eqds : List D → List D → Bool
  | [], [] => true
  | x :: xs, y :: ys => eqd x y && eqds xs ys
  | _, _ => false
end
/-- plain data of a depth below n -/
def okB : Nat → D → Bool
  | _, .non => true
  | _, .bl _ => true
  | _, .int _ => true
  | _, .str x => PyData.strOk x
  | n + 1, .lst ds => ds.all (okB n)
  | n + 1, .tup ds => ds.all (okB n)
  | _, _ => false
def flatD : D → Bool
  | .non => true
  | .bl _ => true
  | .int _ => true
  | .str _ => true
  | _ => false
def truthD : D → Option Bool
  | .non => some false
  | .bl b => some b
  | .int i => some (i != 0)
  | .str x => if x.length ≤ sizeLine then some ((x.length : Int) != 0) else none
  | .lst ds => some (!ds.isEmpty)
  | .tup ds => some (!ds.isEmpty)
  | .obj _ _ _ => none
  | .scr ns => some (!ns.isEmpty)
  | .dct => none
  | .dic _ _ => none
  | .exc _ _ _ => none
  | .err _ _ _ => none
  | .ref _ => none

inductive RV where
  | fz (d : D) | nw (d : D) | sl (i : Nat)
inductive BOp where
  | add | sub | mul | fdiv | mod | pow
  deriving DecidableEq
inductive COp where
  | eq | ne | lt | le | gt | ge | is | isnot | inn | notin
  deriving DecidableEq
inductive OOp where
  | eq | ne | inn | notin | ix | add
  deriving DecidableEq
inductive Ty where
  | int | bool | str | list | tuple
  deriving DecidableEq
inductive Bi where
  | len | int1 | max2 | min2 | maxl | minl | suml | list | tuple | alll | anyl | isi (t : Ty) | abs | sortp | minp | min2p | sortt | dictp | sorti | mint | rpr
  deriving DecidableEq
inductive IK where
  | seq | enum | zip | rng
  deriving DecidableEq
inductive Tg where
  | nm (i : Nat) | tp (ts : List Tg)

def tgIx : Tg → List Nat
  | .nm i => [i]
  | .tp ts => tgIxs ts
where tgIxs : List Tg → List Nat
  | [] => []
  | t :: ts => tgIx t ++ tgIxs ts
def mulOk (i j : Int) : Bool := decide (-(2 ^ 64) < i ∧ i < 2 ^ 64) || decide (-(2 ^ 64) < j ∧ j < 2 ^ 64) || decide (i.natAbs.log2 + j.natAbs.log2 < 1000000)
@[irreducible] def in1k (i : Int) : Bool := decide (i.natAbs < 2 ^ 1000)
def binD : BOp → D → D → Option RV
  | .add, .int a, .int b => some (.fz (.int (a + b)))
  | .add, .str a, .str b => if a.length + b.length ≤ sizeLine then some (.fz (.str (a ++ b))) else none
  | .add, .lst a, .lst b => if a.length + b.length ≤ sizeLine then some (.nw (.lst (a ++ b))) else none
  | .add, .tup a, .tup b => if a.length + b.length ≤ sizeLine ∧ a ≠ [] then some (.fz (.tup (a ++ b))) else none
  | .sub, .int a, .int b => some (.fz (.int (a - b)))
  | .mul, .int a, .int b => if mulOk a b then some (.fz (.int (a * b))) else none
  | .mul, .lst a, .int k => if -(2 ^ 63) ≤ k ∧ k < 2 ^ 63 ∧ a.length * k.toNat ≤ sizeLine then some (.nw (.lst (List.replicate k.toNat a).flatten)) else none
  | .fdiv, .int a, .int b => if 0 < b ∧ b.natAbs.log2 < 9000 then some (.fz (.int (a / b))) else none
  | .mod, .int a, .int b => if 0 < b then some (.fz (.int (a % b))) else none
  | .pow, .int a, .int b => if 0 ≤ b ∧ b ≤ 1000000 ∧ a.natAbs < 2 ^ 64 then some (.fz (.int (a ^ b.toNat))) else if 0 ≤ b ∧ b ≤ 1000 ∧ in1k a = true then some (.fz (.int (a ^ b.toNat))) else none
  | _, _, _ => none
def isNonD : D → Bool
  | .non => true
  | _ => false
/-- lists of other lengths -/
def lenNe : D → D → Bool
  | .lst a, .lst b => decide (a.length ≠ b.length)
  | _, _ => false
/-- two texts; an empty dict and a list -/
def strEq : D → D → Option Bool
  | .str x, .str y => some (x == y)
  | .dct, .lst _ => some false
  | _, _ => none
/-- an empty dict and a tuple -/
def dtNe : D → D → Bool
  | .dct, .tup _ => true
  | _, _ => false
/-- (a, b) > (c, d) -/
def pGt (a b c d : Int) : Bool := decide (c < a ∨ (a = c ∧ d < b))
def tupGt : List D → List D → Option Bool
  | [.int a, .int b], [.int c, .int d] => some (pGt a b c d)
  | _, _ => none
/-- a list or an empty dict: no int equals it -/
def noInt : D → Bool
  | .lst _ => true
  | .dct => true
  | _ => false
def isIntD : D → Bool
  | .int _ => true
  | _ => false
def cmpD : COp → D → D → Option Bool
  | .eq, a, b => if okB 12 a && okB 12 b then some (eqd a b) else if lenNe a b then some false else strEq a b
  | .ne, a, b => if okB 12 a && okB 12 b then some (!eqd a b) else if lenNe a b then some true else if dtNe a b then some true else none
  | .lt, .int a, .int b => some (decide (a < b))
  | .le, .int a, .int b => some (decide (a ≤ b))
  | .gt, .int a, .int b => some (decide (b < a))
  | .ge, .int a, .int b => some (decide (b ≤ a))
  | .is, a, .non => some (isNonD a)
  | .isnot, a, .non => some (!isNonD a)
  | .inn, a, .lst b => if flatD a && b.all flatD then some (b.any fun y => eqd y a) else none
  | .inn, a, .tup b => if flatD a && b.all flatD then some (b.any fun y => eqd y a) else none
  | .notin, a, .lst b => if flatD a && b.all flatD then some (!(b.any fun y => eqd y a)) else none
  | .notin, a, .tup b => if flatD a && b.all flatD then some (!(b.any fun y => eqd y a)) else if noInt a && b.all isIntD then some true else none
  | .gt, .tup xs, .tup ys => tupGt xs ys
  | .is, .bl a, .bl b => some (a == b)
  | .isnot, .bl a, .bl b => some (!(a == b))
  | _, _, _ => none
def ixD : D → D → Option D
  | .lst xs, .int i => atI xs i
  | .tup xs, .int i => atI xs i
  | .scr ns, .int i => (atI ns i).map D.int
  | .str z, .int i => if z.length ≤ sizeLine then (atI z.cps.toList i).map fun c => .str ⟨#[c]⟩ else none
  | _, _ => none
def cutD (xs : List D) (lo hi : Option Int) : List D := (xs.drop (HT.sIx xs.length 0 lo)).take (HT.sIx xs.length xs.length hi - HT.sIx xs.length 0 lo)
def slcD : D → Option Int → Option Int → Option RV
  | .lst xs, lo, hi => some (.nw (.lst (cutD xs lo hi)))
  | .scr ns, lo, hi => some (.nw (.lst (cutD (ns.map D.int) lo hi)))
  | .tup xs, lo, hi => if HT.sIx xs.length 0 lo = 0 ∧ HT.sIx xs.length xs.length hi = xs.length then none else some (.fz (.tup (cutD xs lo hi)))
  | _, _, _ => none
def shallow : D → Bool
  | .obj _ _ _ => false
  | .exc _ _ _ => false
  | .err _ _ _ => false
  | .scr _ => false
  | .ref _ => false
  | _ => true
def isiD : Ty → D → Bool
  | .int, .int _ => true
  | .int, .bl _ => true
  | .bool, .bl _ => true
  | .str, .str _ => true
  | .list, .lst _ => true
  | .tuple, .tup _ => true
  | _, _ => false
/-- the ints of a list of ints -/
def intsD : List D → Option (List Int)
  | [] => some []
  | .int i :: r => (intsD r).map (i :: ·)
  | _ :: _ => none
def blsD : List D → Option (List Bool)
  | [] => some []
  | .bl i :: r => (blsD r).map (i :: ·)
  | _ :: _ => none
def maxI : List Int → Option Int
  | [] => none
  | x :: r => some (r.foldl (fun a b => if a < b then b else a) x)
def minI : List Int → Option Int
  | [] => none
  | x :: r => some (r.foldl (fun a b => if b < a then b else a) x)
/-- pairs of ints -/
def pairsD : List D → Option (List (Int × Int))
  | [] => some []
  | .tup [.int i, .int j] :: r => (pairsD r).map ((i, j) :: ·)
  | _ :: _ => none
def pLe (p q : Int × Int) : Bool := decide (p.1 < q.1 ∨ (p.1 = q.1 ∧ p.2 ≤ q.2))
def pLt (p q : Int × Int) : Bool := decide (p.1 < q.1 ∨ (p.1 = q.1 ∧ p.2 < q.2))
def minP : List (Int × Int) → Option (Int × Int)
  | [] => none
  | p :: ps => some (ps.foldl (fun a y => if pLt y a then y else a) p)
def insP (p : Int × Int) : List (Int × Int) → List (Int × Int)
  | [] => [p]
  | q :: r => if pLe p q then p :: q :: r else q :: insP p r
def sortP : List (Int × Int) → List (Int × Int)
  | [] => []
  | p :: r => insP p (sortP r)
def sortD : D → Option D
  | .lst xs => (pairsD xs).map fun ps => .lst ((sortP ps).map fun p => .tup [.int p.1, .int p.2])
  | _ => none
/-- a dict of pairs, the first ones different ints -/
def dctpD : List D → Option (List Int × List D)
  | [] => some ([], [])
  | .tup [.int k, d] :: r => (dctpD r).bind fun (ks, ds) => if ks.contains k then none else some (k :: ks, d :: ds)
  | _ => none
/-- triples of ints, the first ones ascending -/
def ascT : List D → Bool
  | [] => true
  | [.tup [.int _, .int _, .int _]] => true
  | .tup [.int a, .int _, .int _] :: .tup [.int b, .int c, .int d] :: r => decide (a < b) && ascT (.tup [.int b, .int c, .int d] :: r)
  | _ => false
def insI (x : Int) : List Int → List Int
  | [] => [x]
  | y :: r => if x ≤ y then x :: y :: r else y :: insI x r
def sortI : List Int → List Int
  | [] => []
  | x :: r => insI x (sortI r)
/-- tuples of an int and a list of ints -/
def tlsD : List D → Option (List (Int × List Int))
  | [] => some []
  | .tup [.int p, .lst l] :: r => (intsD l).bind fun ns => (tlsD r).map fun t => (p, ns) :: t
  | _ => none
def pyT (p : Int × List Int) : PyData := .tuple [.int p.1, .list (p.2.map .int)]
def minT : List (Int × List Int) → Option (Int × List Int)
  | [] => none
  | p :: ps => some (ps.foldl (fun a y => if PySem.W.dataLt (pyT y) (pyT a) then y else a) p)
/-! data that repr can show -/
mutual
def pyO : D → Option PyData
  | .non => some .none
  | .bl b => some (.bool b)
  | .int i => some (.int i)
  | .str x => some (.str x)
  | .lst ds => (pyOs ds).map .list
  | .tup ds => (pyOs ds).map .tuple
  | .dct => some (.dict [])
  | _ => none
def pyOs : List D → Option (List PyData)
  | [] => some []
  | d :: ds => (pyO d).bind fun p => (pyOs ds).map fun ps => p :: ps
end
@[irreducible] def shwOk (p : PyData) : Bool := p.showable && (decide (p.shown.length ≤ sizeLine) && decide (p.depth ≤ 40))
/-! data without an error inside -/
mutual
def noE : D → Bool
  | .err _ _ _ => false
  | .lst ds => noEs ds
  | .tup ds => noEs ds
  | .obj _ _ ds => noEs ds
  | .dic _ ds => noEs ds
  | .exc _ _ ds => noEs ds
  | _ => true
def noEs : List D → Bool
  | [] => true
  | d :: ds => noE d && noEs ds
end
def biD : Bi → List D → Option RV
  | .len, [.lst xs] => some (.fz (.int xs.length))
  | .len, [.tup xs] => some (.fz (.int xs.length))
  | .len, [.scr ns] => some (.fz (.int ns.length))
  | .len, [.str x] => if x.length ≤ sizeLine then some (.fz (.int x.length)) else none
  | .int1, [.int i] => some (.fz (.int i))
  | .int1, [.bl b] => some (.fz (.int (if b then 1 else 0)))
  | .max2, [.int a, .int b] => some (.fz (.int (if b > a then b else a)))
  | .min2, [.int a, .int b] => some (.fz (.int (if b < a then b else a)))
  | .maxl, [.lst xs] => (intsD xs).bind fun ns => (maxI ns).map fun m => .fz (.int m)
  | .minl, [.lst xs] => (intsD xs).bind fun ns => (minI ns).map fun m => .fz (.int m)
  | .suml, [.lst xs] => (intsD xs).map fun ns => .fz (.int ns.sum)
  | .list, [.lst xs] => some (.nw (.lst xs))
  | .list, [.tup xs] => some (.nw (.lst xs))
  | .tuple, [.lst xs] => some (.fz (.tup xs))
  | .tuple, [.tup xs] => some (.fz (.tup xs))
  | .alll, [.lst xs] => (blsD xs).map fun bs => .fz (.bl (bs.all id))
  | .anyl, [.lst xs] => (blsD xs).map fun bs => .fz (.bl (bs.any id))
  | .isi t, [d] => if shallow d then some (.fz (.bl (isiD t d))) else none
  | .abs, [.int i] => some (.fz (.int (if i < 0 then -i else i)))
  | .sortp, [d] => (sortD d).map .nw
  | .minp, [.lst xs] => (pairsD xs).bind fun ps => (minP ps).map fun p => .fz (.tup [.int p.1, .int p.2])
  | .min2p, [.tup [.int a, .int b], .tup [.int c, .int d]] => some (.fz (if pLt (c, d) (a, b) then .tup [.int c, .int d] else .tup [.int a, .int b]))
  | .sortt, [.lst xs] => if ascT xs then some (.nw (.lst xs)) else none
  | .dictp, [.lst xs] => (dctpD xs).map fun (ks, ds) => .fz (.dic ks ds)
  | .sorti, [.lst xs] => (intsD xs).map fun ns => .nw (.lst ((sortI ns).map D.int))
  | .mint, [.lst xs] => (tlsD xs).bind fun ps => (minT ps).map fun m => .fz (.tup [.int m.1, .lst (m.2.map D.int)])
  | .rpr, [d] => (pyO d).bind fun p => if shwOk p then some (.fz (.str p.shown)) else none
  | _, _ => none

/-! ### the language -/
inductive E where
  | stuck
  | var (i : Nat)
  | cst (d : D)
  | bin (op : BOp) (a b : E)
  | neg (a : E)
  | cmp (op : COp) (a b : E)
  | chain (o1 o2 : COp) (a b c : E)
  | and (a b : E)
  | or (a b : E)
  | not (a : E)
  | ite (c a b : E)
  | lst (es : List E)
  | tup (es : List E)
  | ix (a b : E)
  | slc (a : E) (lo hi : List E)
  | call (k : Nat) (es : List E)
  | bi (b : Bi) (es : List E)
  | comp (own : List Nat) (tg : Tg) (ik : IK) (its : List E) (cond : List E) (elt : E)
  | fld (cs : List Nat) (a : E) (nm : Str)
  | meth (c : Nat) (nm : Str) (k : Nat) (o : E) (es : List E)
  | mk (c k : Nat) (es : List E)
  | own (o : OOp) (c k : Nat) (a b : E)
  | lenO (c k : Nat) (a : E)
  | isc (cs : List Nat) (c : Nat) (a : E)
  | callp (k : Nat) (p : List Nat) (es : List E)
  | mkp (c k : Nat) (p : List Nat) (es : List E)
  | chain3 (o1 o2 o3 : COp) (a b c d : E)
  | rev (a : E)
  | dct
  | tne (c k : Nat) (a b : E)
  | rngl (a b : E)
  | mxd (m : Bool) (a d : E)
  | cnt (a x : E)
  | pop (i : Nat)
  | idx (a x : E)
  | shr (a : E)
  | inO (c k c2 k2 : Nat) (a b : E)
  | dget (a b : E)
  | din (a b : E)
  | ownx (o : OOp) (c k : Nat) (a b : E)
  | mkx (c k : Nat) (es : List E)
  | xis (all cs : List Nat) (i : Nat)
  | xfld (all : List Nat) (i : Nat) (nm : Str)
  | said (d0 : D) (sd : Nat → List Str → List D → Option D) (e : E)
  | comp2 (own : List Nat) (tg : Tg) (ik : IK) (its : List E) (cond : List E) (own1 : List Nat) (tg1 : Tg) (n : E) (cond1 : List E) (elt : E)
  | sem (F : List (Ct → Option (RV × Ct)) → Ct → Option (RV × Ct))

abbrev FS := Ct → Option (RV × Ct)

def datum (Γ : Ct) : RV → Option D
  | .fz d => some d
  | .nw d => some d
  | .sl i => match Γ[i]? with
    | some (some (d, _)) => some d
    | _ => none
/-- the value becomes a plain one -/
def fre (Γ : Ct) : RV → Option (D × Ct)
  | .fz d => some (d, Γ)
  | .nw d => some (d, Γ)
  | .sl i => match Γ[i]? with
    | some (some (d, true)) => some (d, Γ.set i (some (d, false)))
    | some (some (d, false)) => some (d, Γ)
    | _ => none
def fres : List RV → Ct → Option (List D × Ct)
  | [], Γ => some ([], Γ)
  | x :: xs, Γ => (fre Γ x).bind fun (d, Γ1) => (fres xs Γ1).map fun (ds, Γ2) => (d :: ds, Γ2)
def datums (Γ : Ct) : List RV → Option (List D)
  | [] => some []
  | x :: xs => (datum Γ x).bind fun d => (datums Γ xs).map (d :: ·)
/-- an argument's slot for the callee -/
def argS (Γ : Ct) : RV → Option (D × Bool)
  | .fz d => some (d, false)
  | .nw d => some (d, true)
  | .sl i => match Γ[i]? with
    | some (some p) => some p
    | _ => none
def argSs (Γ : Ct) : List RV → Option (List (D × Bool))
  | [] => some []
  | x :: xs => (argS Γ x).bind fun d => (argSs Γ xs).map (d :: ·)
/-- the slots that are handed over -/
def ownIx (Γ : Ct) : List RV → List Nat
  | [] => []
  | .sl i :: xs => match Γ[i]? with
    | some (some (_, true)) => i :: ownIx Γ xs
    | _ => ownIx Γ xs
  | _ :: xs => ownIx Γ xs
def nodupB : List Nat → Bool
  | [] => true
  | x :: xs => !(xs.contains x) && nodupB xs
/-- what comes back at the slots that were handed over -/
def putOuts (Γ0 : Ct) : List RV → Ct → Ct → Ct
  | .sl i :: xs, o :: os, Γ => match Γ0[i]? with
    | some (some (_, true)) => putOuts Γ0 xs os (Γ.set i o)
    | _ => putOuts Γ0 xs os Γ
  | _ :: xs, _ :: os, Γ => putOuts Γ0 xs os Γ
  | _, _, Γ => Γ

/-- values in the parameters' order -/
def permL {α : Type} (p : List Nat) (xs : List α) : List α := p.filterMap fun i => xs[i]?
def permOk (p : List Nat) (n : Nat) : Bool := nodupB p && p.all fun i => decide (i < n)
/-- a call, by its results -/
def callD (F : FS) (xs : List RV) (Γ : Ct) : Option (RV × Ct) := (argSs Γ xs).bind fun as => if nodupB (ownIx Γ xs) then (F (as.map some)).bind fun (r, os) => match r with
      | .sl _ => none
      | r => some (r, putOuts Γ xs os Γ)
    else none
/-- a new object of class c, by its __init__ -/
def mkD (F : FS) (c : Nat) (xs : List RV) (Γ : Ct) : Option (RV × Ct) := (argSs Γ xs).bind fun as => if nodupB (ownIx Γ xs) then (F (some (.obj c [] [], true) :: as.map some)).bind fun (r, os) => match r, os with
      | .fz .non, some (.obj c' ks ds, true) :: os' => some (.nw (.obj c' ks ds), putOuts Γ xs os' Γ)
      | _, _ => none
    else none
/-- the same, of an __init__ that may raise -/
def mkX (F : FS) (c : Nat) (xs : List RV) (Γ : Ct) : Option (RV × Ct) := (argSs Γ xs).bind fun as => if nodupB (ownIx Γ xs) then (F (some (.obj c [] [], true) :: as.map some)).bind fun (r, os) => match r, os with
    | .fz (.exc c' ks ds), _ :: os' => some (.fz (.exc c' ks ds), putOuts Γ xs os' Γ)
    | .fz .non, some (.obj c' ks ds, true) :: os' => some (.nw (.obj c' ks ds), putOuts Γ xs os' Γ)
    | _, _ => none
    else none
def fldL (nm : Str) : List Str → List D → Option D
  | k :: ks, d :: ds => if nm = k then some d else fldL nm ks ds
  | _, _ => none
def xisD (all cs : List Nat) : Sl → Option Bool
  | some (.err c _ _, false) => if all.contains c then some (cs.contains c) else none
  | _ => none
def xfldD (all : List Nat) (nm : Str) : Sl → Option D
  | some (.err c ks ds, false) => if all.contains c then fldL nm ks.reverse ds.reverse else none
  | _ => none
/-- what a def tells of a call that it makes: d0, or what it makes of an error -/
def saidD (d0 : D) (sd : Nat → List Str → List D → Option D) : RV → Option D
  | .fz (.exc c ks ds) => sd c ks ds
  | _ => some d0
def fldD (cs : List Nat) : D → Str → Option D
  | .obj c ks ds, nm => if cs.contains c then fldL nm ks ds else none
  | _, _ => none
def isObj (c : Nat) : D → Bool
  | .obj c' _ _ => c == c'
  | _ => false
/-- isinstance with an own class, among the classes cs -/
def iscD (cs : List Nat) (c : Nat) : D → Option Bool
  | .obj c' _ _ => if cs.contains c' then some (c == c') else none
  | .scr _ => none
  | .dct => some false
  | .dic _ _ => none
  | .exc _ _ _ => none
  | .err _ _ _ => none
  | .ref _ => none
  | _ => some false
def hasF (nm : Str) : D → Bool
  | .obj _ ks _ => ks.contains nm
  | _ => false
/-- plain data: no objects at the top -/
def plainB : D → Bool
  | .obj _ _ _ => false
  | .scr _ => false
  | .dct => false
  | .dic _ _ => false
  | .exc _ _ _ => false
  | .err _ _ _ => false
  | .ref _ => false
  | _ => true
/-- what is asked of the other operand -/
def okO (o : OOp) (c : Nat) (e : D) : Bool := match o with
  | .eq => isObj c e || plainB e
  | .ne => isObj c e || plainB e
  | .add => isObj c e
  | _ => true
/-- what an own operator's answer becomes -/
def postO : OOp → RV → Option RV
  | .eq, .fz (.bl b) => some (.fz (.bl b))
  | .ne, .fz (.bl b) => some (.fz (.bl (!b)))
  | .inn, .fz (.bl b) => some (.fz (.bl b))
  | .notin, .fz (.bl b) => some (.fz (.bl (!b)))
  | .ix, r => some r
  | .add, r => some r
  | _, _ => none
/-- the same operator on plain data -/
def plainO : OOp → D → D → Option RV
  | .eq, d, e => (cmpD .eq d e).map fun b => .fz (.bl b)
  | .ne, d, e => (cmpD .ne d e).map fun b => .fz (.bl b)
  | .inn, d, e => (cmpD .inn d e).map fun b => .fz (.bl b)
  | .notin, d, e => (cmpD .notin d e).map fun b => .fz (.bl b)
  | .ix, d, e => (ixD d e).map .fz
  | .add, d, e => binD .add d e
/-- whose method it is -/
def selfO (o : OOp) (d e : D) : D × D := match o with
  | .inn => (e, d)
  | .notin => (e, d)
  | _ => (d, e)
def asgT : Tg → D → Ct → Option Ct
  | .nm i, d, Γ => if i < Γ.length then some (Γ.set i (some (d, false))) else none
  | .tp ts, .tup ds, Γ => asgTs ts ds Γ
  | _, _, _ => none
where asgTs : List Tg → List D → Ct → Option Ct
  | [], [], Γ => some Γ
  | t :: ts, d :: ds, Γ => (asgT t d Γ).bind fun Γ1 => asgTs ts ds Γ1
  | _, _, _ => none

/-- what is walked -/
def enumD : Nat → List D → List D
  | _, [] => []
  | n, d :: ds => .tup [.int n, d] :: enumD (n + 1) ds
def zipD : List D → List D → List D
  | a :: as, b :: bs => .tup [a, b] :: zipD as bs
  | _, _ => []
def rngD (lo : Int) (c : Int) : Nat → List D
  | 0 => []
  | n + 1 => .int lo :: rngD (lo + c) c n
@[irreducible] def in62 (i : Int) : Bool := decide (i.natAbs.log2 < 62)
def iterD : IK → List RV → Ct → Option (List D × Ct)
  | .seq, [x], Γ => (fre Γ x).bind fun (d, Γ1) => match d with
    | .lst ds => some (ds, Γ1)
    | .tup ds => some (ds, Γ1)
    | _ => none
  | .enum, [x], Γ => (fre Γ x).bind fun (d, Γ1) => match d with
    | .lst ds => some (enumD 0 ds, Γ1)
    | _ => none
  | .zip, [x, y], Γ => (fre Γ x).bind fun (d, Γ1) => (fre Γ1 y).bind fun (e, Γ2) => match d, e with
    | .lst ds, .lst es => some (zipD ds es, Γ2)
    | _, _ => none
  | .rng, xs, Γ => (datums Γ xs).bind fun ds => match ds with
    | [.int b] => if in62 b then some (rngD 0 1 b.toNat, Γ) else none
    | [.int a, .int b] => if in62 a && in62 b then some (rngD a 1 (b - a).toNat, Γ) else none
    | [.int a, .int b, .int c] => if c ≠ 0 ∧ c.natAbs.log2 < 9000 ∧ Builtin.Range.rangeSize a b c = ((Builtin.Range.rangeSize a b c).toNat : Nat) then some (rngD a c (Builtin.Range.rangeSize a b c).toNat, Γ) else none
    | _ => none
  | _, _, _ => none
def wipeG (Γ : Ct) : List Nat → Ct
  | [] => Γ
  | v :: vs => (wipeG Γ vs).set v none
def restG (Γ Γ' : Ct) : List Nat → Ct
  | [] => Γ'
  | v :: vs => (restG Γ Γ' vs).set v (Γ.getD v none)
/-- no owned slot among these -/
def plainIx (Γ : Ct) (vs : List Nat) : Bool := vs.all fun v => match Γ[v]? with
  | some (some (_, true)) => false
  | some _ => true
  | none => false
def testD (Γ : Ct) (x : RV) : Option Bool := (datum Γ x).bind truthD
def compLoop (own : List Nat) (tg : Tg) (ct : Ct → Option (Bool × Ct)) (el : Ct → Option (RV × Ct)) : List D → List D → Ct → Option (List D × Ct)
  | [], acc, Γ => some (acc, Γ)
  | d :: ds, acc, Γ => (asgT tg d Γ).bind fun Γ1 => (ct Γ1).bind fun (b, Γ2) =>
    if b then (el Γ2).bind fun (x, Γ3) => (fre Γ3 x).bind fun (e, Γ4) => if plainIx Γ4 own then compLoop own tg ct el ds (acc ++ [e]) (wipeG Γ4 own) else none
    else if plainIx Γ2 own then compLoop own tg ct el ds acc (wipeG Γ2 own) else none

/-- range(n) -/
def rngI : D → Option (List D)
  | .int k => if in62 k then some (rngD 0 1 k.toNat) else none
  | _ => none
/-- the turns of a comprehension with two fors -/
def compLoop2 (own : List Nat) (tg : Tg) (ct : Ct → Option (Bool × Ct)) (it : Ct → Option (List D × Ct)) (own1 : List Nat) (tg1 : Tg) (ct1 : Ct → Option (Bool × Ct)) (el : Ct → Option (RV × Ct)) : List D → List D → Ct → Option (List D × Ct)
  | [], acc, Γ => some (acc, Γ)
  | d :: ds, acc, Γ => (asgT tg d Γ).bind fun Γ1 => (ct Γ1).bind fun (b, Γ2) =>
    if b then (it Γ2).bind fun (ds1, Γ3) => if plainIx Γ3 own1 && decide (acc.length + ds1.length ≤ sizeLine) then (compLoop own1 tg1 ct1 el ds1 acc (wipeG Γ3 own1)).bind fun (acc2, Γ4) => if plainIx Γ4 own then compLoop2 own tg ct it own1 tg1 ct1 el ds acc2 (wipeG Γ4 own) else none else none
    else if plainIx Γ2 own then compLoop2 own tg ct it own1 tg1 ct1 el ds acc (wipeG Γ2 own) else none

@[irreducible] def lenOk (n : Int) : Bool := decide (0 ≤ n ∧ n < 1000000000)
def slO : List D → Option (Option Int)
  | [] => some none
  | [.int i] => some (some i)
  | _ => none
def rnglD : D → D → Option (List D)
  | .int a, .int b => if in62 a && in62 b && decide ((b - a).toNat ≤ 1000000) then some (rngD a 1 (b - a).toNat) else none
  | _, _ => none
def tupOf : D → Option (List D)
  | .tup xs => some xs
  | _ => none
def trueR : Option (RV × Ct) → Bool
  | some (.fz (.bl true), _) => true
  | _ => false
/-- objects of class c, equal one by one by their own == -/
def tneD (F : FS) (c : Nat) : List D → List D → Bool
  | [], [] => true
  | x :: xs, y :: ys => isObj c x && isObj c y && trueR (F [some (x, false), some (y, false)]) && tneD F c xs ys
  | _, _ => false
def revD : D → Option D
  | .lst xs => some (.lst xs.reverse)
  | _ => none
/-- max(xs, default=d), min(xs, default=d) -/
def mxdD (m : Bool) : D → D → Option D
  | .lst xs, d => (intsD xs).bind fun ns => match (if m then maxI ns else minI ns) with
    | some i => some (.int i)
    | none => if flatD d then some d else none
  | _, _ => none
def cntD : D → D → Option D
  | .lst xs, d => if flatD d && xs.all flatD then some (.int ((xs.filter fun y => eqd y d).length : Int)) else if okB 12 d && xs.all (okB 12) then some (.int ((xs.filter fun y => eqd y d).length : Int)) else none
  | _, _ => none
def isLD : D → Bool
  | .lst _ => true
  | _ => false
def idxD : D → D → Option D
  | .lst xs, d => if flatD d && xs.all flatD then (xs.findIdx? fun y => eqd y d).map fun j => .int (j : Nat) else none
  | _, _ => none
def popD (Γ : Ct) (i : Nat) : Option (D × D) := match Γ[i]? with
  | some (some (.lst xs, true)) => match xs.getLast? with
    | some d => some (d, .lst xs.dropLast)
    | none => none
  | _ => none
def lstOf : D → Option (List D)
  | .lst ds => some ds
  | _ => none
def falseR : Option (RV × Ct) → Bool
  | some (.fz (.bl b), _) => !b
  | _ => false
def nltD : D → Bool
  | .non => true
  | .lst _ => true
  | .tup _ => true
  | _ => false
/-- an item that is not equal to d, by the own == of one of them -/
def nqD (F F2 : FS) (c2 : Nat) (d e : D) : Bool := (nltD e && falseR (F [some (d, false), some (e, false)])) || (isObj c2 e && falseR (F2 [some (e, false), some (d, false)]))
def dgetL : List Int → List D → Int → Option D
  | k :: ks, d :: ds, i => if k = i then some d else dgetL ks ds i
  | _, _, _ => none
def dgetD : D → D → Option D
  | .dic ks ds, .int i => dgetL ks ds i
  | _, _ => none
def dinD : D → D → Option Bool
  | .int i, .dic ks _ => some (ks.contains i)
  | _, _ => none
mutual
def ev (fs : List FS) : E → Ct → Option (RV × Ct)
  | .stuck, _ => none
  | .var i, Γ => match Γ[i]? with
    | some (some _) => some (.sl i, Γ)
    | _ => none
  | .cst d, Γ => some (.fz d, Γ)
  | .bin op a b, Γ => (ev fs a Γ).bind fun (x, Γ1) => (ev fs b Γ1).bind fun (y, Γ2) => (datum Γ2 x).bind fun d => (datum Γ2 y).bind fun e => (binD op d e).map fun r => (r, Γ2)
  | .neg a, Γ => (ev fs a Γ).bind fun (x, Γ1) => (datum Γ1 x).bind fun d => match d with
    | .int i => some (.fz (.int (-i)), Γ1)
    | _ => none
  | .cmp op a b, Γ => (ev fs a Γ).bind fun (x, Γ1) => (ev fs b Γ1).bind fun (y, Γ2) => (datum Γ2 x).bind fun d => (datum Γ2 y).bind fun e => (cmpD op d e).map fun r => (.fz (.bl r), Γ2)
  | .chain o1 o2 a b c, Γ => (ev fs a Γ).bind fun (x, Γ1) => (ev fs b Γ1).bind fun (y, Γ2) => (datum Γ2 x).bind fun d => (datum Γ2 y).bind fun e => (cmpD o1 d e).bind fun r =>
      if r then (ev fs c Γ2).bind fun (z, Γ3) => (datum Γ3 y).bind fun e => (datum Γ3 z).bind fun f => (cmpD o2 e f).map fun r => (.fz (.bl r), Γ3)
      else some (.fz (.bl false), Γ2)
  | .and a b, Γ => (ev fs a Γ).bind fun (x, Γ1) => (testD Γ1 x).bind fun t => if t then ev fs b Γ1 else some (x, Γ1)
  | .or a b, Γ => (ev fs a Γ).bind fun (x, Γ1) => (testD Γ1 x).bind fun t => if t then some (x, Γ1) else ev fs b Γ1
  | .not a, Γ => (ev fs a Γ).bind fun (x, Γ1) => (testD Γ1 x).map fun t => (.fz (.bl (!t)), Γ1)
  | .ite c a b, Γ => (ev fs c Γ).bind fun (x, Γ1) => (testD Γ1 x).bind fun t => if t then ev fs a Γ1 else ev fs b Γ1
  | .lst es, Γ => (evs fs es Γ).bind fun (xs, Γ1) => (fres xs Γ1).bind fun (ds, Γ2) => if ds.length ≤ sizeLine then some (.nw (.lst ds), Γ2) else none
  | .tup es, Γ => (evs fs es Γ).bind fun (xs, Γ1) => (fres xs Γ1).bind fun (ds, Γ2) => if ds.length ≤ sizeLine then some (.fz (.tup ds), Γ2) else none
  | .ix a b, Γ => (ev fs a Γ).bind fun (x, Γ1) => (ev fs b Γ1).bind fun (y, Γ2) => (datum Γ2 x).bind fun d => (datum Γ2 y).bind fun e => (ixD d e).map fun r => (.fz r, Γ2)
  | .slc a lo hi, Γ => (ev fs a Γ).bind fun (x, Γ1) => (evs fs lo Γ1).bind fun (ys, Γ2) => (datums Γ2 ys).bind fun l => (evs fs hi Γ2).bind fun (zs, Γ3) => (datum Γ3 x).bind fun d => (datums Γ3 zs).bind fun h =>
      (slO l).bind fun lo' => (slO h).bind fun hi' => (slcD d lo' hi').map fun r => (r, Γ3)
  | .call k es, Γ => (evs fs es Γ).bind fun (xs, Γ1) => (fs[k]?).bind fun F => (argSs Γ1 xs).bind fun as => if nodupB (ownIx Γ1 xs) then (F (as.map some)).bind fun (r, os) => match r with
      | .sl _ => none
      | r => some (r, putOuts Γ1 xs os Γ1)
    else none
  | .bi b es, Γ => (evs fs es Γ).bind fun (xs, Γ1) => (datums Γ1 xs).bind fun ds => (biD b ds).map fun r => (r, Γ1)
  | .comp own tg ik its cond elt, Γ => (evs fs its Γ).bind fun (xs, Γ1) => (iterD ik xs Γ1).bind fun (ds, Γ2) =>
      if plainIx Γ2 own && decide (ds.length ≤ sizeLine) && (tgIx tg).all (fun i => own.contains i) then
        (compLoop own tg (evc fs cond) (ev fs elt) ds [] (wipeG Γ2 own)).map fun (acc, Γ3) => (.nw (.lst acc), restG Γ2 Γ3 own)
      else none
  | .fld cs a nm, Γ => (ev fs a Γ).bind fun (x, Γ1) => (datum Γ1 x).bind fun d => (fldD cs d nm).map fun r => (.fz r, Γ1)
  | .meth c nm k o es, Γ => (ev fs o Γ).bind fun (x, Γ0) => (fre Γ0 x).bind fun (d, Γ1) => if isObj c d && !(hasF nm d) then (evs fs es Γ1).bind fun (ys, Γ2) => (fs[k]?).bind fun F => callD F (.fz d :: ys) Γ2 else none
  | .mk c k es, Γ => (evs fs es Γ).bind fun (ys, Γ1) => (fs[k]?).bind fun F => mkD F c ys Γ1
  | .own o c k a b, Γ => (ev fs a Γ).bind fun (x, Γ1) => (ev fs b Γ1).bind fun (y, Γ2) => (datum Γ2 x).bind fun d => (datum Γ2 y).bind fun e =>
      if isObj c (selfO o d e).1 then (fre Γ2 x).bind fun (d', Γ3) => (fre Γ3 y).bind fun (e', Γ4) => if isObj c (selfO o d' e').1 && okO o c (selfO o d' e').2 then (fs[k]?).bind fun F => (callD F [.fz (selfO o d' e').1, .fz (selfO o d' e').2] Γ4).bind fun (r, Γ5) => (postO o r).map fun r' => (r', Γ5) else none
      else (plainO o d e).map fun r => (r, Γ2)
  | .lenO c k a, Γ => (ev fs a Γ).bind fun (x, Γ1) => (datum Γ1 x).bind fun d =>
      if isObj c d then (fre Γ1 x).bind fun (_, Γ2) => (fs[k]?).bind fun F => (callD F [.fz d] Γ2).bind fun (r, Γ3) => match r with
        | .fz (.int n) => if lenOk n then some (.fz (.int n), Γ3) else none
        | _ => none
      else (biD .len [d]).map fun r => (r, Γ1)
  | .isc cs c a, Γ => (ev fs a Γ).bind fun (x, Γ1) => (datum Γ1 x).bind fun d => (iscD cs c d).map fun b => (.fz (.bl b), Γ1)
  | .callp k p es, Γ => (evs fs es Γ).bind fun (xs, Γ1) => (fs[k]?).bind fun F => if permOk p xs.length then callD F (permL p xs) Γ1 else none
  | .mkp c k p es, Γ => (evs fs es Γ).bind fun (xs, Γ1) => (fs[k]?).bind fun F => if permOk p xs.length then mkD F c (permL p xs) Γ1 else none
  | .chain3 o1 o2 o3 a b c d, Γ => (ev fs a Γ).bind fun (x, Γ1) => (ev fs b Γ1).bind fun (y, Γ2) => (datum Γ2 x).bind fun dx => (datum Γ2 y).bind fun dy => (cmpD o1 dx dy).bind fun r =>
      if r then (ev fs c Γ2).bind fun (z, Γ3) => (datum Γ3 y).bind fun dy => (datum Γ3 z).bind fun dz => (cmpD o2 dy dz).bind fun r =>
        if r then (ev fs d Γ3).bind fun (u, Γ4) => (datum Γ4 z).bind fun dz => (datum Γ4 u).bind fun du => (cmpD o3 dz du).map fun r => (.fz (.bl r), Γ4)
        else some (.fz (.bl false), Γ3)
      else some (.fz (.bl false), Γ2)
  | .rev a, Γ => (ev fs a Γ).bind fun (x, Γ1) => (datum Γ1 x).bind fun d => (revD d).map fun r => (.nw r, Γ1)
  | .dct, Γ => some (.fz .dct, Γ)
  | .tne c k a b, Γ => (ev fs a Γ).bind fun (x, Γ1) => (ev fs b Γ1).bind fun (y, Γ2) => (datum Γ2 x).bind fun d => (datum Γ2 y).bind fun e => (tupOf d).bind fun ds => (tupOf e).bind fun es => (fs[k]?).bind fun F => if tneD F c ds es then some (.fz (.bl false), Γ2) else none
  | .rngl a b, Γ => (ev fs a Γ).bind fun (x, Γ1) => (ev fs b Γ1).bind fun (y, Γ2) => (datum Γ2 x).bind fun d => (datum Γ2 y).bind fun e => (rnglD d e).map fun ds => (.nw (.lst ds), Γ2)
  | .mxd m a d, Γ => (ev fs a Γ).bind fun (x, Γ1) => (ev fs d Γ1).bind fun (y, Γ2) => (datum Γ2 x).bind fun dx => (datum Γ2 y).bind fun dy => (mxdD m dx dy).map fun r => (.fz r, Γ2)
  | .cnt a b, Γ => (ev fs a Γ).bind fun (x, Γ1) => (datum Γ1 x).bind fun d0 => if isLD d0 then (ev fs b Γ1).bind fun (y, Γ2) => (datum Γ2 x).bind fun dx => (datum Γ2 y).bind fun dy => (cntD dx dy).map fun r => (.fz r, Γ2) else none
  | .pop i, Γ => (popD Γ i).map fun (d, c) => (.fz d, Γ.set i (some (c, true)))
  | .idx a b, Γ => (ev fs a Γ).bind fun (x, Γ1) => (datum Γ1 x).bind fun d0 => if isLD d0 then (ev fs b Γ1).bind fun (y, Γ2) => (datum Γ2 x).bind fun dx => (datum Γ2 y).bind fun dy => (idxD dx dy).map fun r => (.fz r, Γ2) else none
  | .shr a, Γ => (ev fs a Γ).bind fun (x, Γ1) => (fre Γ1 x).map fun (d, Γ2) => (.fz d, Γ2)
  | .inO c k c2 k2 a b, Γ => (ev fs a Γ).bind fun (x, Γ1) => (ev fs b Γ1).bind fun (y, Γ2) => (fre Γ2 x).bind fun (d, Γ3) => (fre Γ3 y).bind fun (e, Γ4) => (lstOf e).bind fun es => (fs[k]?).bind fun F => (fs[k2]?).bind fun F2 => if isObj c d && es.all (nqD F F2 c2 d) then some (.fz (.bl false), Γ4) else none
  | .dget a b, Γ => (ev fs a Γ).bind fun (x, Γ1) => (ev fs b Γ1).bind fun (y, Γ2) => (datum Γ2 x).bind fun d => (datum Γ2 y).bind fun e => (dgetD d e).map fun r => (.fz r, Γ2)
  | .din a b, Γ => (ev fs a Γ).bind fun (x, Γ1) => (ev fs b Γ1).bind fun (y, Γ2) => (datum Γ2 x).bind fun d => (datum Γ2 y).bind fun e => (dinD d e).map fun r => (.fz (.bl r), Γ2)
  | .ownx o c k a b, Γ => (ev fs a Γ).bind fun (x, Γ1) => (ev fs b Γ1).bind fun (y, Γ2) => (fre Γ2 x).bind fun (d, Γ3) => (fre Γ3 y).bind fun (e, Γ4) => if isObj c d && okO o c e then (fs[k]?).bind fun F => callD F [.fz d, .fz e] Γ4 else none
  | .mkx c k es, Γ => (evs fs es Γ).bind fun (ys, Γ1) => (fs[k]?).bind fun F => mkX F c ys Γ1
  | .xis all cs i, Γ => (xisD all cs (Γ.getD i none)).map fun b => (.fz (.bl b), Γ)
  | .xfld all i nm, Γ => (xfldD all nm (Γ.getD i none)).map fun r => (.fz r, Γ)
  | .said d0 sd a, Γ => (ev fs a Γ).bind fun (x, Γ1) => (saidD d0 sd x).map fun d => (.fz d, Γ1)
  | .comp2 own tg ik its cond own1 tg1 n cond1 elt, Γ => (evs fs its Γ).bind fun (xs, Γ1) => (iterD ik xs Γ1).bind fun (ds, Γ2) =>
      if plainIx Γ2 own && (tgIx tg).all (fun i => own.contains i) && (tgIx tg1).all (fun i => own1.contains i) && own1.all (fun i => own.contains i) then
        (compLoop2 own tg (evc fs cond) (fun Γ => (ev fs n Γ).bind fun (x, Γ1) => (datum Γ1 x).bind fun d => (rngI d).map fun ds => (ds, Γ1)) own1 tg1 (evc fs cond1) (ev fs elt) ds [] (wipeG Γ2 own)).map fun (acc, Γ3) => (.nw (.lst acc), restG Γ2 Γ3 own)
      else none
  | .sem F, Γ => F fs Γ
def evs (fs : List FS) : List E → Ct → Option (List RV × Ct)
  | [], Γ => some ([], Γ)
  | e :: es, Γ => (ev fs e Γ).bind fun (x, Γ1) => (evs fs es Γ1).map fun (xs, Γ2) => (x :: xs, Γ2)
def evc (fs : List FS) : List E → Ct → Option (Bool × Ct)
  | [], Γ => some (true, Γ)
  | [e], Γ => (ev fs e Γ).bind fun (x, Γ1) => (testD Γ1 x).map fun t => (t, Γ1)
  | _, _ => none
end

/-! ### statements -/
/-- what is done with the value of a call that may raise -/
inductive XDst where
  | drop | asg (tg : Tg) | asgO (i : Nat) | ret
inductive Out where
  | nx (Γ : Ct) | rt (r : RV) (Γ : Ct) | bk (Γ : Ct) | ct (Γ : Ct) | xc (c : Nat) (ks : List Str) (ds : List D) (Γ : Ct)
inductive S where
  | stuck | pass | brk | cont | retN
  | asg (tg : Tg) (e : E)
  | asgO (i : Nat) (e : E)
  | par (is : List (Nat × Bool)) (es : List E)
  | expr (e : E)
  | app (i : Nat) (e : E)
  | ext (i : Nat) (e : E)
  | seti (i : Nat) (k e : E)
  | ret (e : E)
  | ite (c : E) (a b : List S)
  | whl (c : E) (b : List S)
  | for_ (tg : Tg) (ik : IK) (its : List E) (b : List S)
  | setf (c : Nat) (i : Nat) (nm : Str) (e : E)
  | xapp (a : E) (d : D)
  | grow (c i : Nat) (nm : Str) (e0 : E) (tg : Tg) (e1 e2 : E) (k : Nat) (es : List E)
  | rse (c : Nat) (ks : List Str) (es : List E)
  | xex (e : E) (k : XDst)
  | try_ (e : E) (all : List Nat) (i : Nat) (b : List S)
  | sem (is : List Nat) (F : List FS → Ct → Option Out)

def disjB (xs ys : List Nat) : Bool := xs.all fun x => !(ys.contains x)
def forLoop (tg : Tg) (body : Ct → Option Out) : List D → Ct → Option Out
  | [], Γ => some (.nx Γ)
  | d :: ds, Γ => (asgT tg d Γ).bind fun Γ1 => (body Γ1).bind fun o => match o with
    | .nx Γ2 => forLoop tg body ds Γ2
    | .ct Γ2 => forLoop tg body ds Γ2
    | .bk Γ2 => some (.nx Γ2)
    | .rt r Γ2 => some (.rt r Γ2)
    | .xc c ks ds Γ2 => some (.xc c ks ds Γ2)
def whlLoop (c : Ct → Option (Bool × Ct)) (body : Ct → Option Out) : Nat → Ct → Option Out
  | 0, _ => none
  | n + 1, Γ => (c Γ).bind fun (b, Γ1) => if b then (body Γ1).bind fun o => match o with
    | .nx Γ2 => whlLoop c body n Γ2
    | .ct Γ2 => whlLoop c body n Γ2
    | .bk Γ2 => some (.nx Γ2)
    | .rt r Γ2 => some (.rt r Γ2)
    | .xc c ks ds Γ2 => some (.xc c ks ds Γ2)
   else some (.nx Γ1)
def fuel : Nat := 1000000000
def nrf : RV → Bool
  | .fz (.ref _) => false
  | _ => true
/-- the values of a parallel assignment, one after another: plain ones, but for new ones that are to be owned; then they are stored -/
def evn (fs : List FS) : List (Nat × Bool) → List E → Ct → Option (List RV × Ct)
  | [], [], Γ => some ([], Γ)
  | (i, b) :: is, e :: es, Γ => (ev fs e Γ).bind fun (x, Γ1) => match b, x with
    | true, .nw d => (evn fs is es Γ1).bind fun (ys, Γ2) => if ys.all nrf then some (.nw d :: ys, Γ2) else none
    | _, x => (fre Γ1 x).bind fun (d, Γ2) => (evn fs is es Γ2).map fun (ys, Γ3) => (.fz d :: ys, Γ3)
  | _, _, _ => none
def parS : List (Nat × Bool) → List RV → Ct → Option Ct
  | [], [], Γ => some Γ
  | (i, _) :: is, .nw d :: xs, Γ => if i < Γ.length then parS is xs (Γ.set i (some (d, true))) else none
  | (i, _) :: is, .fz d :: xs, Γ => if i < Γ.length then parS is xs (Γ.set i (some (d, false))) else none
  | _, _, _ => none
def isLst (Γ : Ct) (i : Nat) : Bool := match Γ[i]? with
  | some (some (.lst _, _)) => true
  | _ => false
def appD : D → D → Option D
  | .lst xs, d => if xs.length < sizeLine then some (.lst (xs ++ [d])) else none
  | _, _ => none
def extD : D → D → Option D
  | .lst xs, .lst ys => if xs.length + ys.length ≤ sizeLine then some (.lst (xs ++ ys)) else none
  | _, _ => none
def setD : D → D → D → Option D
  | .lst xs, .int k, d => (ixN xs.length k).map fun j => .lst (xs.set j d)
  | _, _, _ => none
def putL (nm : Str) (d : D) : List Str → List D → List Str × List D
  | k :: ks, x :: xs => if k = nm then (k :: ks, d :: xs) else let r := putL nm d ks xs; (k :: r.1, x :: r.2)
  | _, _ => ([nm], [d])
def putD (c0 : Nat) : D → Str → D → Option D
  | .obj c ks ds, nm, d => if c = c0 ∧ ks.length < 1000 ∧ ks.length = ds.length then some (.obj c (putL nm d ks ds).1 (putL nm d ks ds).2) else none
  | _, _, _ => none
/-- no error in the frame -/
def noG (Γ : Ct) : Bool := Γ.all fun s => match s with
  | some (d, _) => noE d
  | none => true
/-- an exception's fields -/
def excOk (ks : List Str) (ds : List D) : Bool := decide (ks.length = ds.length)
/-- a list in a field grows: its last item goes to a call, whose answer is appended -/
def growLoop (tg : Tg) (F : FS) (el : Ct → Option (List RV × Ct)) : List D → List D → Ct → Option (List D × Ct)
  | [], L, Γ => some (L, Γ)
  | d :: rest, L, Γ => (asgT tg d Γ).bind fun Γ1 => (L.getLast?).bind fun l => (el Γ1).bind fun (ys, Γ2) => (callD F (.fz l :: ys) Γ2).bind fun (r, Γ3) => (fre Γ3 r).bind fun (y, Γ4) => if L.length < sizeLine then growLoop tg F el rest (L ++ [y]) Γ4 else none
mutual
def ex (fs : List FS) (pn : List Nat) : S → Ct → Option Out
  | .stuck, _ => none
  | .pass, Γ => some (.nx Γ)
  | .brk, Γ => some (.bk Γ)
  | .cont, Γ => some (.ct Γ)
  | .retN, Γ => some (.rt (.fz .non) Γ)
  | .asg tg e, Γ => (ev fs e Γ).bind fun (x, Γ1) => (fre Γ1 x).bind fun (d, Γ2) => if disjB (tgIx tg) pn then (asgT tg d Γ2).map .nx else none
  | .asgO i e, Γ => (ev fs e Γ).bind fun (x, Γ1) => match x with
    | .nw d => if i < Γ1.length ∧ disjB [i] pn = true then some (.nx (Γ1.set i (some (d, true)))) else none
    | x => (fre Γ1 x).bind fun (d, Γ2) => if i < Γ2.length ∧ disjB [i] pn = true then some (.nx (Γ2.set i (some (d, false)))) else none
  | .par is es, Γ => if disjB (is.map (·.1)) pn then (evn fs is es Γ).bind fun (ys, Γ2) => (parS is ys Γ2).map .nx else none
  | .expr e, Γ => (ev fs e Γ).map fun (_, Γ1) => .nx Γ1
  | .app i e, Γ => if isLst Γ i then (ev fs e Γ).bind fun (x, Γ1) => (fre Γ1 x).bind fun (d, Γ2) => match Γ2[i]? with
    | some (some (c, true)) => (appD c d).map fun c' => .nx (Γ2.set i (some (c', true)))
    | _ => none
   else none
  | .ext i e, Γ => if isLst Γ i then (ev fs e Γ).bind fun (x, Γ1) => (datum Γ1 x).bind fun d => match Γ1[i]? with
    | some (some (c, true)) => (extD c d).map fun c' => .nx (Γ1.set i (some (c', true)))
    | _ => none
   else none
  | .seti i k e, Γ => (ev fs e Γ).bind fun (x, Γ1) => (fre Γ1 x).bind fun (d, Γ2) => if isLst Γ2 i then (ev fs k Γ2).bind fun (y, Γ3) => (datum Γ3 y).bind fun kd => match Γ3[i]? with
    | some (some (c, true)) => (setD c kd d).map fun c' => .nx (Γ3.set i (some (c', true)))
    | _ => none
   else none
  | .ret e, Γ => (ev fs e Γ).map fun (x, Γ1) => .rt x Γ1
  | .ite c a b, Γ => (ev fs c Γ).bind fun (x, Γ1) => (testD Γ1 x).bind fun t => if t then exs fs pn a Γ1 else exs fs pn b Γ1
  | .whl c b, Γ => whlLoop (fun Γ => (ev fs c Γ).bind fun (x, Γ1) => (testD Γ1 x).map fun t => (t, Γ1)) (exs fs pn b) fuel Γ
  | .for_ tg ik its b, Γ => (evs fs its Γ).bind fun (xs, Γ1) => (iterD ik xs Γ1).bind fun (ds, Γ2) => if disjB (tgIx tg) pn then forLoop tg (exs fs pn b) ds Γ2 else none
  | .setf c0 i nm e, Γ => (ev fs e Γ).bind fun (x, Γ1) => (fre Γ1 x).bind fun (d, Γ2) => match Γ2[i]? with
    | some (some (c, true)) => (putD c0 c nm d).map fun c' => .nx (Γ2.set i (some (c', true)))
    | _ => none
  | .xapp a d, Γ => (ev fs a Γ).bind fun (x, Γ1) => match x with
    | .nw (.lst xs) => if xs.length < sizeLine ∧ flatD d = true then some (.nx Γ1) else none
    | _ => none
  | .grow c i nm e0 tg e1 e2 k es, Γ => (ev fs e0 Γ).bind fun (x, Γ1) => match x, Γ1[i]? with
    | .nw (.lst L0), some (some (.obj c1 ks ds, true)) =>
      if c1 = c ∧ ks.length < 900 ∧ ks.length = ds.length ∧ ks.contains nm = false ∧ disjB (tgIx tg) (i :: pn) = true then
        (evs fs [e1, e2] (Γ1.set i none)).bind fun (xs, Γ2) => (iterD .zip xs Γ2).bind fun (zs, Γ3) => (fs[k]?).bind fun F =>
          (growLoop tg F (evs fs es) zs L0 Γ3).map fun (L, Γ4) => .nx (Γ4.set i (some (.obj c (ks ++ [nm]) (ds ++ [.lst L]), true)))
      else none
    | _, _ => none
  | .rse c ks es, Γ => (evs fs es Γ).bind fun (xs, Γ1) => (fres xs Γ1).bind fun (ds, Γ2) => if excOk ks ds then some (.xc c ks ds Γ2) else none
  | .xex e k, Γ => (ev fs e Γ).bind fun (x, Γ1) => match x with
    | .fz (.exc c ks ds) => some (.xc c ks ds Γ1)
    | x => match k with
      | .drop => some (.nx Γ1)
      | .ret => some (.rt x Γ1)
      | .asg tg => (fre Γ1 x).bind fun (d, Γ2) => if disjB (tgIx tg) pn then (asgT tg d Γ2).map .nx else none
      | .asgO i => match x with
        | .nw d => if i < Γ1.length ∧ disjB [i] pn = true then some (.nx (Γ1.set i (some (d, true)))) else none
        | x => (fre Γ1 x).bind fun (d, Γ2) => if i < Γ2.length ∧ disjB [i] pn = true then some (.nx (Γ2.set i (some (d, false)))) else none
  | .try_ e all i b, Γ => (ev fs e Γ).bind fun (x, Γ1) => match x with
    | .fz (.exc c ks ds) => if all.contains c ∧ disjB [i] pn = true ∧ i < Γ1.length then (exs fs pn b (Γ1.set i (some (.err c ks ds, false)))).bind fun o => match o with
      | .nx Γ2 => if noG (Γ2.set i none) then some (.nx (Γ2.set i none)) else none
      | _ => none
     else none
    | _ => some (.nx Γ1)
  | .sem is F, Γ => if disjB is pn then F fs Γ else none
def exs (fs : List FS) (pn : List Nat) : List S → Ct → Option Out
  | [], Γ => some (.nx Γ)
  | s :: ss, Γ => (ex fs pn s Γ).bind fun o => match o with
    | .nx Γ1 => exs fs pn ss Γ1
    | o => some o
end
/-- the slots of the arguments that are handed over -/
def ownPs : Nat → Ct → List Nat
  | _, [] => []
  | n, some (_, true) :: r => n :: ownPs (n + 1) r
  | n, _ :: r => ownPs (n + 1) r
/-- what comes back at the arguments -/
def outsOf : Ct → Ct → Ct
  | some (_, true) :: r, x :: xs => x :: outsOf r xs
  | y :: r, _ :: xs => y :: outsOf r xs
  | _, _ => []
def finish (np : Nat) (G0 : Ct) : Out → Option (RV × Ct)
  | .nx Γ => some (.fz .non, outsOf G0 Γ)
  | .rt (.fz d) Γ => some (.fz d, outsOf G0 Γ)
  | .rt (.nw d) Γ => some (.nw d, outsOf G0 Γ)
  | .rt (.sl i) Γ => match Γ[i]? with
    | some (some (d, true)) => if i < np then some (.fz d, outsOf G0 (Γ.set i (some (d, false)))) else some (.nw d, outsOf G0 Γ)
    | some (some (d, false)) => some (.fz d, outsOf G0 Γ)
    | _ => none
  | _ => none
/-- a def: np parameters, n slots -/
def runF (fs : List FS) (np n : Nat) (body : List S) : FS := fun G0 =>
  if G0.length = np then (exs fs (ownPs 0 G0) body (G0 ++ List.replicate (n - np) none)).bind (finish np G0) else none
end DV

namespace DV
open PySem L2

/-! ### results -/
def Val (g : Gx) (Bn : Addr → Prop) (Ow : List Addr) (H : Hp) (σ : St) (Γ : Ct) : RV → V → Prop
  | .fz d, v => Rep g (Av Bn Ow) H d v
  | .nw d, v => ∃ a, v = .ref a ∧ a ∈ Ow ∧ OwnA g (Av Bn Ow) H d a ∧ ∀ (i : Nat) e, Γ[i]? = some (some (e, true)) → σ[i]? ≠ some (some (.ref a))
  | .sl i, v => σ[i]? = some (some v)
def RV.dn : RV → RV
  | .nw d => .fz d
  | r => r
theorem datum_dn (Γ : Ct) (r : RV) : datum Γ r.dn = datum Γ r := by cases r <;> rfl
theorem fre_dn (Γ : Ct) (r : RV) : fre Γ r.dn = fre Γ r := by cases r <;> rfl
/-- a value that can be read: its top may be owned -/
def Rdb (g : Gx) (A : Addr → Prop) (H : Hp) (d : D) (v : V) : Prop :=
  match d with
  | .lst ds => ∃ a vs, v = .ref a ∧ H a = some (.lst vs) ∧ Reps g A H ds vs
  | .obj c ks ds => ∃ a dx vs, v = .ref a ∧ ks.length = vs.length ∧ H a = some (.ins (g.cl c) dx (ks.zip vs)) ∧ Reps g A H ds vs
  | d => Rep g A H d v
section
variable {g : Gx} {Bn : Addr → Prop} {Ow Ow' : List Addr} {H H' : Hp} {σ : St} {Γ Γ' : Ct} {A : Addr → Prop}
theorem Rep.rdb {d : D} {v : V} (h : Rep g A H d v) : Rdb g A H d v := by
  cases d with
  | lst ds => simp only [Rep] at h; obtain ⟨a, vs, e, _, s, r⟩ := h; exact ⟨a, vs, e, s, r⟩
  | obj c ks ds => simp only [Rep] at h; obtain ⟨a, dx, vs, e, _, l, s, r⟩ := h; exact ⟨a, dx, vs, e, l, s, r⟩
  | _ => exact h
theorem OwnA.rdb {d : D} {a : Addr} (h : OwnA g A H d a) : Rdb g A H d (.ref a) := by
  cases d with
  | lst ds => obtain ⟨vs, e, r⟩ := h; exact ⟨a, vs, rfl, e, r⟩
  | obj c ks ds => obtain ⟨dx, vs, l, e, r⟩ := h; exact ⟨a, dx, vs, rfl, l, e, r⟩
  | _ => exact h.elim
theorem Rdb.same {d : D} {v : V} (h : Rdb g A H d v) (s : Same H H') : Rdb g A H' d v := by
  cases d with
  | lst ds => obtain ⟨a, vs, e, s1, r⟩ := h; exact ⟨a, vs, e, s _ _ s1, r.same s⟩
  | obj c ks ds => obtain ⟨a, dx, vs, e, l, s1, r⟩ := h; exact ⟨a, dx, vs, e, l, s _ _ s1, r.same s⟩
  | _ => exact Rep.same h s
theorem Val.rdb {r : RV} {v : V} {d : D} (rs : RS g Bn Ow H σ Γ) (h : Val g Bn Ow H σ Γ r v) (e : datum Γ r = some d) : Rdb g (Av Bn Ow) H d v := by
  cases r with
  | fz x => simp only [datum, Option.some.injEq] at e; subst e; exact Rep.rdb h
  | nw x => simp only [datum, Option.some.injEq] at e; subst e; obtain ⟨a, rfl, _, o, _⟩ := h; exact o.rdb
  | sl i =>
    simp only [datum] at e
    have h : σ[i]? = some (some v) := h
    split at e
    · rename_i x b q
      cases e
      cases b with
      | false => obtain ⟨w, e1, r1⟩ := rs.slot i _ q; rw [h] at e1; cases e1; exact r1.rdb
      | true => obtain ⟨a, e1, _, o⟩ := rs.own i _ q; rw [h] at e1; cases e1; exact o.rdb
    · cases e
/-- pending values over a step -/
theorem Val.step {r : RV} {v : V} (h : Val g Bn Ow H σ Γ r.dn v) (s : Stp Ow H Ow' H') (rs : RS g Bn Ow' H' σ Γ') : Val g Bn Ow' H' σ Γ' r.dn v := by
  cases r with
  | fz x => exact Rep.step h s rs
  | nw x => exact Rep.step h s rs
  | sl i => exact h
/-- fewer owned -/
theorem RS.less (rs : RS g Bn Ow H σ Γ) (k : ∀ a, a ∈ Ow' → a ∈ Ow) (ks : ∀ (i : Nat) d a, Γ[i]? = some (some (d, true)) → σ[i]? = some (some (.ref a)) → a ∈ Ow → a ∈ Ow') : RS g Bn Ow' H σ Γ := by
  have kk : ∀ a, Av Bn Ow' a → Av Bn Ow a := fun a h => h.elim .inl fun z => .inr (k a z)
  refine ⟨rs.len, fun i d h => ?_, fun i d h => ?_, rs.dist, fun a h => rs.trl a (kk a h), fun a h z => rs.sep a h (k a z), fun a h => rs.kf a (kk a h), rs.tabs⟩
  · obtain ⟨v, e, r⟩ := rs.slot i d h; exact ⟨v, e, rep_less kk r⟩
  · obtain ⟨a, e, m, r⟩ := rs.own i d h; exact ⟨a, e, ks i d a h e m, own_less kk r⟩
theorem stp_less (k : ∀ a, a ∈ Ow' → a ∈ Ow) : Stp Ow H Ow' H := ⟨fun _ _ h _ _ => h, fun a h => .inl (k a h)⟩
theorem mem_ne {a b : Addr} (h : a ∈ Ow.filter (fun x => decide (x ≠ b))) : a ∈ Ow ∧ a ≠ b := by
  have := List.mem_filter.mp h
  exact ⟨this.1, of_decide_eq_true this.2⟩
theorem ne_mem {a b : Addr} (h : a ∈ Ow) (n : a ≠ b) : a ∈ Ow.filter (fun x => decide (x ≠ b)) := List.mem_filter.mpr ⟨h, decide_eq_true n⟩
/-- a value becomes a plain one -/
theorem fre_ok {r : RV} {v : V} {d : D} (rs : RS g Bn Ow H σ Γ) (h : Val g Bn Ow H σ Γ r v) (e : fre Γ r = some (d, Γ')) : ∃ Ow', Stp Ow H Ow' H ∧ RS g Bn Ow' H σ Γ' ∧ Rep g (Av Bn Ow') H d v := by
  cases r with
  | fz x => simp only [fre, Option.some.injEq, Prod.mk.injEq] at e; obtain ⟨rfl, rfl⟩ := e; exact ⟨Ow, .refl _ _, rs, h⟩
  | nw x =>
    simp only [fre, Option.some.injEq, Prod.mk.injEq] at e; obtain ⟨rfl, rfl⟩ := e
    obtain ⟨a, rfl, m, o, no⟩ := h
    have kk : ∀ b, b ∈ Ow.filter (fun x => decide (x ≠ a)) → b ∈ Ow := fun b z => (mem_ne z).1
    refine ⟨Ow.filter (fun x => decide (x ≠ a)), stp_less kk, rs.less kk (fun i d b q1 q2 q3 => ne_mem q3 fun z => ?_), (own_less (fun b z => z.elim .inl fun z => .inr (kk b z)) o).rep fun z => ?_⟩
    · subst z; exact no i d q1 q2
    · rcases z with z | z
      · exact rs.sep a z m
      · exact (mem_ne z).2 rfl
  | sl i =>
    simp only [fre] at e
    have h : σ[i]? = some (some v) := h
    split at e
    · rename_i x q
      simp only [Option.some.injEq, Prod.mk.injEq] at e; obtain ⟨rfl, rfl⟩ := e
      obtain ⟨a, e1, m, o⟩ := rs.own i _ q
      rw [h] at e1; cases e1
      have kk : ∀ b, b ∈ Ow.filter (fun x => decide (x ≠ a)) → b ∈ Ow := fun b z => (mem_ne z).1
      have ka : ∀ b, Av Bn (Ow.filter (fun x => decide (x ≠ a))) b → Av Bn Ow b := fun b z => z.elim .inl fun z => .inr (kk b z)
      have hil : i < Γ.length := (List.getElem?_eq_some_iff.mp q).1
      have rp : Rep g (Av Bn (Ow.filter (fun x => decide (x ≠ a)))) H x (.ref a) := (own_less ka o).rep fun z => by
        rcases z with z | z
        · exact rs.sep a z m
        · exact (mem_ne z).2 rfl
      refine ⟨Ow.filter (fun x => decide (x ≠ a)), stp_less kk, ⟨by rw [List.length_set]; exact rs.len, fun j d' h' => ?_, fun j d' h' => ?_, fun j k d1 d2 b h1 h2 h3 h4 => ?_, fun b z => rs.trl b (ka b z), fun b z w => rs.sep b z (kk b w), fun b z => rs.kf b (ka b z), rs.tabs⟩, rp⟩
      · by_cases hj : i = j
        · subst hj
          rw [List.getElem?_set_self hil] at h'
          cases h'
          exact ⟨_, h, rp⟩
        · rw [List.getElem?_set_ne hj] at h'
          obtain ⟨w, e2, r2⟩ := rs.slot j d' h'
          exact ⟨w, e2, rep_less ka r2⟩
      · by_cases hj : i = j
        · subst hj
          rw [List.getElem?_set_self hil] at h'
          cases h'
        · rw [List.getElem?_set_ne hj] at h'
          obtain ⟨b, e2, m2, r2⟩ := rs.own j d' h'
          exact ⟨b, e2, ne_mem m2 fun z => hj (by subst z; exact rs.dist i j _ _ _ q h' h e2), own_less ka r2⟩
      · have ne1 : i ≠ j := fun z => by subst z; rw [List.getElem?_set_self hil] at h1; cases h1
        have ne2 : i ≠ k := fun z => by subst z; rw [List.getElem?_set_self hil] at h2; cases h2
        rw [List.getElem?_set_ne ne1] at h1
        rw [List.getElem?_set_ne ne2] at h2
        exact rs.dist j k _ _ _ h1 h2 h3 h4
    · rename_i x q
      simp only [Option.some.injEq, Prod.mk.injEq] at e; obtain ⟨rfl, rfl⟩ := e
      obtain ⟨w, e1, r1⟩ := rs.slot i _ q
      rw [h] at e1; cases e1
      exact ⟨Ow, .refl _ _, rs, r1⟩
    · cases e
theorem dn_ok {r : RV} {v : V} (rs : RS g Bn Ow H σ Γ) (h : Val g Bn Ow H σ Γ r v) : ∃ Ow', Stp Ow H Ow' H ∧ RS g Bn Ow' H σ Γ ∧ Val g Bn Ow' H σ Γ r.dn v := by
  cases r with
  | fz x => exact ⟨Ow, .refl _ _, rs, h⟩
  | sl i => exact ⟨Ow, .refl _ _, rs, h⟩
  | nw x => exact fre_ok rs h rfl
/-- a new object is laid, and owned -/
theorem RS.add {p : Addr} (rs : RS g Bn Ow H σ Γ) (s : Same H H') (np : H p = none) (hp : LI H' p) (hk : g.K.lookup p = none) : RS g Bn (p :: Ow) H' σ Γ := by
  have vs : ∀ a, Vst g (Av Bn Ow) H a → (∀ o, H a = some o → nT o → H' a = some o) ∧ ¬ Av Bn (p :: Ow) a := fun a ⟨n, t⟩ => by
    refine ⟨fun o h _ => s a o h, fun z => ?_⟩
    rcases z with z | z
    · exact n (.inl z)
    · rcases List.mem_cons.mp z with z | z
      · subst z
        rcases t with ⟨o, t, _⟩ | ⟨o, t⟩
        · rw [np] at t; cases t
        · rw [hk] at t; cases t
      · exact n (.inr z)
  refine ⟨rs.len, fun i d h => ?_, fun i d h => ?_, rs.dist, fun a h => ?_, fun a h z => ?_, fun a h => ?_, fun q hq => (rs.tabs q hq).ext s⟩
  · obtain ⟨v, e, r⟩ := rs.slot i d h; exact ⟨v, e, rep_mono vs d v r⟩
  · obtain ⟨a, e, m, r⟩ := rs.own i d h
    refine ⟨a, e, List.mem_cons_of_mem _ m, ?_⟩
    cases d with
    | lst ds => obtain ⟨ws, e1, r1⟩ := r; exact ⟨ws, s _ _ e1, reps_mono vs _ _ r1⟩
    | obj c ks ds => obtain ⟨dx, ws, l, e1, r1⟩ := r; exact ⟨dx, ws, l, s _ _ e1, reps_mono vs _ _ r1⟩
    | _ => exact r
  · rcases h with h | h
    · exact (rs.trl a (.inl h)).same s
    · rcases List.mem_cons.mp h with h | h
      · subst h; exact hp
      · exact (rs.trl a (.inr h)).same s
  · rcases List.mem_cons.mp z with z | z
    · subst z; exact rs.trk a (.inl h) np
    · exact rs.sep a h z
  · rcases h with h | h
    · exact rs.kf a (.inl h)
    · rcases List.mem_cons.mp h with h | h
      · subst h; exact hk
      · exact rs.kf a (.inr h)
theorem stp_add {p : Addr} (s : Same H H') (np : H p = none) : Stp Ow H (p :: Ow) H' where
  keep0 := fun a o h _ _ => s a o h
  grow := fun a h => by
    rcases List.mem_cons.mp h with h | h
    · subst h; exact .inr (nw_none np)
    · exact .inl h
theorem same_new {p : Addr} {o : HO} (h : H p = none) : Same H (upd H p o) := fun b x e => by
  rw [upd_ne (ne_of_none e h)]
  exact e
/-- the result of an operation that lays at most one object -/
def Res (g : Gx) (A : Addr → Prop) (H H' : Hp) : RV → V → Prop
  | .fz d, v => Rep g A H' d v
  | .nw d, v => ∃ p, v = .ref p ∧ H p = none ∧ g.K.lookup p = none ∧ OwnA g (fun a => A a ∨ a = p) H' d p
  | .sl _, _ => False
theorem Res.val {r : RV} {v : V} (rs : RS g Bn Ow H σ Γ) (s : Same H H') (h : Res g (Av Bn Ow) H H' r v) :
    ∃ Ow', Stp Ow H Ow' H' ∧ RS g Bn Ow' H' σ Γ ∧ Val g Bn Ow' H' σ Γ r v := by
  cases r with
  | fz d => exact ⟨Ow, Stp.same s, rs.same s, h⟩
  | sl i => exact h.elim
  | nw d =>
    obtain ⟨p, rfl, np, hk, o⟩ := h
    have hp : LI H' p := by
      cases d with
      | lst ds => obtain ⟨ws, e1, _⟩ := o; exact .inl ⟨_, e1⟩
      | obj c ks ds => obtain ⟨dx, ws, l, e1, _⟩ := o; exact .inr ⟨_, _, _, e1⟩
      | _ => exact o.elim
    refine ⟨p :: Ow, stp_add s np, rs.add s np hp hk, p, rfl, List.mem_cons_self, own_less (fun a z => ?_) o, fun i e h1 h2 => ?_⟩
    · rcases z with z | z
      · exact .inl (.inl z)
      · rcases List.mem_cons.mp z with z | z
        · exact .inr z
        · exact .inl (.inr z)
    · obtain ⟨a, e2, m, _⟩ := rs.own i e h1
      rw [h2] at e2; cases e2
      exact rs.trk p (.inr m) np
end

/-! ### rules, weakened and with what the state says -/
section
variable {X : Cx}
theorem Inv.kf {pins : List (Addr × Obj)} {σ : St} {H : Hp} {s : Shared} (I : Inv X pins σ H s) : ∀ a o, X.K.lookup a = some o → H a = none := fun a o e => (I.bs a o (I.ok.mod.kin a o e)).2
theorem PE.weak {e : Expr} {t t' : TE} (h : PE X e t) (k : ∀ σ H Q, t' σ H Q → t σ H Q) : PE X e t' := ⟨fun pins s σ H Q I q => h.run pins s σ H Q I (k σ H Q q)⟩
theorem PE.kf {e : Expr} {t : TE} (h : PE X e t) : PE X e (fun σ H Q => t σ H fun v H' => (∀ a o, X.K.lookup a = some o → H' a = none) → Q v H') :=
  ⟨fun pins s σ H Q I q => thn (h.run pins s σ H _ I q) fun u s1 ⟨v, H1, I1, r, q1⟩ => ⟨v, H1, I1, r, q1 (Inv.kf I1)⟩⟩
theorem PT.weak {e : Expr} {t t' : TT} (h : PT X e t) (k : ∀ σ H Q, t' σ H Q → t σ H Q) : PT X e t' := ⟨fun pins s σ H Q I q => h.run pins s σ H Q I (k σ H Q q)⟩
theorem PA.weak {e : List Expr} {t t' : TA} (h : PA X e t) (k : ∀ σ H Q, t' σ H Q → t σ H Q) : PA X e t' := ⟨fun p pins s σ H Q I q => h.run p pins s σ H Q I (k σ H Q q)⟩
theorem OpR.weak {f : Value → Value → Sem Value} {r r' : R2} (h : OpR X f r) (k : ∀ x y H Q, r' x y H Q → r x y H Q) : OpR X f r' := fun pins s σ H x y v u Q I rx ry q => h pins s σ H x y v u Q I rx ry (k x y H Q q)
theorem OpR.kf {f : Value → Value → Sem Value} {r : R2} (h : OpR X f r) : OpR X f (fun x y H Q => r x y H fun v H' => (∀ a o, X.K.lookup a = some o → H' a = none) → Q v H') := fun pins s σ H x y v u Q I rx ry q =>
  thn (h pins s σ H x y v u _ I rx ry q) fun u s1 ⟨v, H1, I1, r, q1⟩ => ⟨v, H1, I1, r, q1 (Inv.kf I1)⟩
theorem CallR.weak {f : Value} {r r' : List V → Hp → VK → Prop} (h : CallR X f r) (k : ∀ x H Q, r' x H Q → r x H Q) : CallR X f r' := fun pins s σ H x v Q I rx q => h pins s σ H x v Q I rx (k x H Q q)
theorem CallR.kf {f : Value} {r : List V → Hp → VK → Prop} (h : CallR X f r) : CallR X f (fun x H Q => r x H fun v H' => (∀ a o, X.K.lookup a = some o → H' a = none) → Q v H') := fun pins s σ H x v Q I rx q =>
  thn (h pins s σ H x v _ I rx q) fun u s1 ⟨v, H1, I1, r, q1⟩ => ⟨v, H1, I1, r, q1 (Inv.kf I1)⟩
theorem kf_new {K : PySem.W.Frag} {H : Hp} {p : Addr} {o : HO} (kf : ∀ a o, K.lookup a = some o → H a = none) (h : H p = some o) : K.lookup p = none := by
  cases e : K.lookup p with
  | none => rfl
  | some x => rw [kf p x e] at h; cases h
theorem IxR.weak {r r' : R2} (h : IxR X r) (k : ∀ x y H Q, r' x y H Q → r x y H Q) : IxR X r' := fun a b pins s σ H x y v u Q I rx ry q => h a b pins s σ H x y v u Q I rx ry (k x y H Q q)
end
end DV

namespace DV
open PySem L2
/-! ### equality of data -/
mutual
def toPy : D → PyData
  | .non => .none
  | .bl b => .bool b
  | .int i => .int i
  | .str x => .str x
  | .lst ds => .list (toPys ds)
  | .tup ds => .tuple (toPys ds)
  | .obj _ _ _ => .none
  | .scr _ => .none
  | .dct => .none
  | .dic _ _ => .none
  | .exc _ _ _ => .none
  | .err _ _ _ => .none
  | .ref _ => .none
def toPys : List D → List PyData
  | [] => []
  | d :: ds => toPy d :: toPys ds
end
theorem okB_lst {n : Nat} {ds : List D} (h : okB n (.lst ds) = true) : ∃ m, n = m + 1 ∧ ds.all (okB m) = true := by
  cases n with
  | zero => simp [okB] at h
  | succ m => exact ⟨m, rfl, by simpa only [okB] using h⟩
theorem okB_tup {n : Nat} {ds : List D} (h : okB n (.tup ds) = true) : ∃ m, n = m + 1 ∧ ds.all (okB m) = true := by
  cases n with
  | zero => simp [okB] at h
  | succ m => exact ⟨m, rfl, by simpa only [okB] using h⟩
theorem okB_obj {n : Nat} {c : Nat} {ks : List Str} {ds : List D} : okB n (.obj c ks ds) = false := by cases n <;> rfl
theorem okB_scr {n : Nat} {ns : List Int} : okB n (.scr ns) = false := by cases n <;> rfl
theorem okB_dct {n : Nat} : okB n .dct = false := by cases n <;> rfl
theorem okB_dic {n : Nat} {ks : List Int} {ds : List D} : okB n (.dic ks ds) = false := by cases n <;> rfl
theorem okB_exc {n : Nat} {c : Nat} {ks : List Str} {ds : List D} : okB n (.exc c ks ds) = false := by cases n <;> rfl
theorem okB_err {n : Nat} {c : Nat} {ks : List Str} {ds : List D} : okB n (.err c ks ds) = false := by cases n <;> rfl
theorem okB_ref {n : Nat} {k : Nat} : okB n (.ref k) = false := by cases n <;> rfl
mutual
theorem py_lay : ∀ (d : D) (n : Nat), okB n d = true → PyData.canLay0 (toPy d) = true ∧ PyData.depth (toPy d) ≤ n
  | .non, n, h => ⟨rfl, Nat.zero_le _⟩
  | .bl _, n, h => ⟨rfl, Nat.zero_le _⟩
  | .int _, n, h => ⟨rfl, Nat.zero_le _⟩
  | .str x, n, h => by
    have h' : PyData.strOk x = true := by cases n <;> simpa only [okB] using h
    exact ⟨h', Nat.zero_le _⟩
  | .lst ds, n, h => by
    obtain ⟨m, rfl, h⟩ := okB_lst h
    have q := pys_lay ds m h
    exact ⟨by simpa only [toPy, PyData.canLay0] using q.1, by simp only [toPy, PyData.depth]; omega⟩
  | .tup ds, n, h => by
    obtain ⟨m, rfl, h⟩ := okB_tup h
    have q := pys_lay ds m h
    exact ⟨by simpa only [toPy, PyData.canLay0] using q.1, by simp only [toPy, PyData.depth]; omega⟩
  | .obj _ _ _, n, h => by rw [okB_obj] at h; cases h
  | .scr _, n, h => by rw [okB_scr] at h; cases h
  | .dct, n, h => by rw [okB_dct] at h; cases h
  | .dic _ _, n, h => by rw [okB_dic] at h; cases h
  | .exc _ _ _, n, h => by rw [okB_exc] at h; cases h
  | .err _ _ _, n, h => by rw [okB_err] at h; cases h
  | .ref _, n, h => by rw [okB_ref] at h; cases h
theorem pys_lay : ∀ (ds : List D) (n : Nat), ds.all (okB n) = true → PyData.canLayAll0 (toPys ds) = true ∧ PyData.depthAll (toPys ds) ≤ n
  | [], n, h => ⟨rfl, Nat.zero_le _⟩
  | d :: ds, n, h => by
    rw [List.all_cons, Bool.and_eq_true] at h
    have q1 := py_lay d n h.1
    have q2 := pys_lay ds n h.2
    refine ⟨by simp only [toPys, PyData.canLayAll0, q1.1, q2.1]; rfl, ?_⟩
    simp only [toPys, PyData.depthAll]
    omega
end
theorem py_shaped {d : D} (h : okB 12 d = true) : SeqAt.shaped (toPy d) = true := by
  have q := py_lay d 12 h
  unfold SeqAt.shaped
  rw [q.1, decide_eq_true (show PyData.depth (toPy d) ≤ 64 by omega)]
  rfl
mutual
theorem py_eqv : ∀ (d e : D) (n m : Nat), okB n d = true → okB m e = true → PyData.eqv (toPy d) (toPy e) = eqd d e
  | .lst xs, e, n, m, h, h' => by
    obtain ⟨k, rfl, h⟩ := okB_lst h
    cases e with
    | lst ys =>
      obtain ⟨k', rfl, h'⟩ := okB_lst h'
      simp only [toPy, PyData.eqv, eqd]
      exact pys_eqv xs ys k k' h h'
    | obj => rw [okB_obj] at h'; cases h'
    | scr => rw [okB_scr] at h'; cases h'
    | dct => rw [okB_dct] at h'; cases h'
    | dic _ _ => rw [okB_dic] at h'; cases h'
    | exc _ _ _ => rw [okB_exc] at h'; cases h'
    | err _ _ _ => rw [okB_err] at h'; cases h'
    | ref _ => rw [okB_ref] at h'; cases h'
    | _ => simp only [toPy, PyData.eqv, eqd]
  | .tup xs, e, n, m, h, h' => by
    obtain ⟨k, rfl, h⟩ := okB_tup h
    cases e with
    | tup ys =>
      obtain ⟨k', rfl, h'⟩ := okB_tup h'
      simp only [toPy, PyData.eqv, eqd]
      exact pys_eqv xs ys k k' h h'
    | obj => rw [okB_obj] at h'; cases h'
    | scr => rw [okB_scr] at h'; cases h'
    | dct => rw [okB_dct] at h'; cases h'
    | dic _ _ => rw [okB_dic] at h'; cases h'
    | exc _ _ _ => rw [okB_exc] at h'; cases h'
    | err _ _ _ => rw [okB_err] at h'; cases h'
    | ref _ => rw [okB_ref] at h'; cases h'
    | _ => simp only [toPy, PyData.eqv, eqd]
  | .non, e, n, m, h, h' => by
    cases e with
    | obj => rw [okB_obj] at h'; cases h'
    | scr => rw [okB_scr] at h'; cases h'
    | dct => rw [okB_dct] at h'; cases h'
    | dic _ _ => rw [okB_dic] at h'; cases h'
    | exc _ _ _ => rw [okB_exc] at h'; cases h'
    | err _ _ _ => rw [okB_err] at h'; cases h'
    | ref _ => rw [okB_ref] at h'; cases h'
    | _ => simp only [toPy, PyData.eqv, eqd]
  | .bl _, e, n, m, h, h' => by
    cases e with
    | obj => rw [okB_obj] at h'; cases h'
    | scr => rw [okB_scr] at h'; cases h'
    | dct => rw [okB_dct] at h'; cases h'
    | dic _ _ => rw [okB_dic] at h'; cases h'
    | exc _ _ _ => rw [okB_exc] at h'; cases h'
    | err _ _ _ => rw [okB_err] at h'; cases h'
    | ref _ => rw [okB_ref] at h'; cases h'
    | _ => simp only [toPy, PyData.eqv, eqd]
  | .int _, e, n, m, h, h' => by
    cases e with
    | obj => rw [okB_obj] at h'; cases h'
    | scr => rw [okB_scr] at h'; cases h'
    | dct => rw [okB_dct] at h'; cases h'
    | dic _ _ => rw [okB_dic] at h'; cases h'
    | exc _ _ _ => rw [okB_exc] at h'; cases h'
    | err _ _ _ => rw [okB_err] at h'; cases h'
    | ref _ => rw [okB_ref] at h'; cases h'
    | _ => simp only [toPy, PyData.eqv, eqd]
  | .str _, e, n, m, h, h' => by
    cases e with
    | obj => rw [okB_obj] at h'; cases h'
    | scr => rw [okB_scr] at h'; cases h'
    | dct => rw [okB_dct] at h'; cases h'
    | dic _ _ => rw [okB_dic] at h'; cases h'
    | exc _ _ _ => rw [okB_exc] at h'; cases h'
    | err _ _ _ => rw [okB_err] at h'; cases h'
    | ref _ => rw [okB_ref] at h'; cases h'
    | _ => simp only [toPy, PyData.eqv, eqd]
  | .obj _ _ _, e, n, m, h, h' => by rw [okB_obj] at h; cases h
  | .scr _, e, n, m, h, h' => by rw [okB_scr] at h; cases h
  | .dct, e, n, m, h, h' => by rw [okB_dct] at h; cases h
  | .dic _ _, e, n, m, h, h' => by rw [okB_dic] at h; cases h
  | .exc _ _ _, e, n, m, h, h' => by rw [okB_exc] at h; cases h
  | .err _ _ _, e, n, m, h, h' => by rw [okB_err] at h; cases h
  | .ref _, e, n, m, h, h' => by rw [okB_ref] at h; cases h
theorem pys_eqv : ∀ (xs ys : List D) (n m : Nat), xs.all (okB n) = true → ys.all (okB m) = true → PyData.eqvAll (toPys xs) (toPys ys) = eqds xs ys
  | [], ys, n, m, h, h' => by cases ys <;> simp only [toPys, PyData.eqvAll, eqds]
  | x :: xs, ys, n, m, h, h' => by
    cases ys with
    | nil => simp only [toPys, PyData.eqvAll, eqds]
    | cons y ys =>
      rw [List.all_cons, Bool.and_eq_true] at h h'
      simp only [toPys, PyData.eqvAll, eqds]
      rw [py_eqv x y n m h.1 h'.1, pys_eqv xs ys n m h.2 h'.2]
end
section
variable {g : Gx} {A : Addr → Prop} {H : Hp}
mutual
theorem rep_dp : ∀ (d : D) (n : Nat) (v : V), okB n d = true → Rep g A H d v → Dp g.K H v (toPy d)
  | .non, n, v, _, h => by simp only [Rep] at h; subst h; exact .non
  | .bl b, n, v, _, h => by simp only [Rep] at h; subst h; exact .bl b
  | .int b, n, v, _, h => by simp only [Rep] at h; subst h; exact .int b
  | .str b, n, v, _, h => by simp only [Rep] at h; subst h; exact .str b
  | .lst ds, n, v, k, h => by
    obtain ⟨m, rfl, k⟩ := okB_lst k
    simp only [Rep] at h
    obtain ⟨a, vs, rfl, _, s, r⟩ := h
    exact .lst (.inl (.inl s)) (reps_dp ds m vs k r)
  | .tup ds, n, v, k, h => by
    obtain ⟨m, rfl, k⟩ := okB_tup k
    simp only [Rep] at h
    obtain ⟨a, vs, rfl, _, s, r⟩ := h
    exact .tup s (reps_dp ds m vs k r)
  | .obj _ _ _, n, v, k, _ => by rw [okB_obj] at k; cases k
  | .scr _, n, v, k, _ => by rw [okB_scr] at k; cases k
  | .dct, n, v, k, _ => by rw [okB_dct] at k; cases k
  | .dic _ _, n, v, k, _ => by rw [okB_dic] at k; cases k
  | .exc _ _ _, n, v, k, _ => by rw [okB_exc] at k; cases k
  | .err _ _ _, n, v, k, _ => by rw [okB_err] at k; cases k
  | .ref _, n, v, k, _ => by rw [okB_ref] at k; cases k
theorem reps_dp : ∀ (ds : List D) (n : Nat) (vs : List V), ds.all (okB n) = true → Reps g A H ds vs → DpAll g.K H vs (toPys ds)
  | [], n, vs, _, h => by simp only [Reps] at h; subst h; exact .nil
  | d :: ds, n, vs, k, h => by
    rw [List.all_cons, Bool.and_eq_true] at k
    simp only [Reps] at h
    obtain ⟨v, r, rfl, h1, h2⟩ := h
    exact .cons (rep_dp d n v k.1 h1) (reps_dp ds n r k.2 h2)
end
theorem rdb_dp {d : D} {n : Nat} {v : V} (k : okB n d = true) (h : Rdb g A H d v) : Dp g.K H v (toPy d) := by
  cases d with
  | lst ds =>
    obtain ⟨m, rfl, k⟩ := okB_lst k
    obtain ⟨a, vs, rfl, s, r⟩ := h
    exact .lst (.inl (.inl s)) (reps_dp ds m vs k r)
  | obj => rw [okB_obj] at k; cases k
  | scr => rw [okB_scr] at k; cases k
  | dct => rw [okB_dct] at k; cases k
  | dic _ _ => rw [okB_dic] at k; cases k
  | exc _ _ _ => rw [okB_exc] at k; cases k
  | err _ _ _ => rw [okB_err] at k; cases k
  | ref _ => rw [okB_ref] at k; cases k
  | non => exact rep_dp (A := A) _ n v k h
  | bl => exact rep_dp (A := A) _ n v k h
  | int => exact rep_dp (A := A) _ n v k h
  | str => exact rep_dp (A := A) _ n v k h
  | tup => exact rep_dp (A := A) _ n v k h
theorem rdb_int {i : Int} {v : V} (h : Rdb g A H (.int i) v) : v = .int i := by simpa only [Rdb, Rep] using h
theorem rdb_str {i : Str} {v : V} (h : Rdb g A H (.str i) v) : v = .str i := by simpa only [Rdb, Rep] using h
theorem rdb_bl {i : Bool} {v : V} (h : Rdb g A H (.bl i) v) : v = .bl i := by simpa only [Rdb, Rep] using h
theorem rdb_non {v : V} (h : Rdb g A H .non v) : v = .non := by simpa only [Rdb, Rep] using h
theorem rdb_tup {ds : List D} {v : V} (h : Rdb g A H (.tup ds) v) : ∃ a vs, v = .ref a ∧ ¬ A a ∧ SqT g.K H a vs ∧ Reps g A H ds vs := by simpa only [Rdb, Rep] using h
theorem rdb_dct {v : V} (h : Rdb g A H .dct v) : ∃ a, v = .ref a ∧ ¬ A a ∧ H a = some (.dK []) := by simpa only [Rdb, Rep] using h
theorem rdb_dic {ks : List Int} {ds : List D} {v : V} (h : Rdb g A H (.dic ks ds) v) : ∃ a vs, v = .ref a ∧ ¬ A a ∧ ks.length = vs.length ∧ H a = some (.dK (dkV ks vs)) ∧ Reps g A H ds vs := by simpa only [Rdb, Rep] using h
theorem rdb_scr {ns : List Int} {v : V} (h : Rdb g A H (.scr ns) v) : ∃ a, v = .ref a ∧ ¬ A a ∧ SqL g.K H a (ns.map V.int) := by simpa only [Rdb, Rep] using h
/-- flat data and flat values -/
theorem flat_rep : ∀ {d : D} {v : V}, flatD d = true → Rep g A H d v → flatV v = true ∧ ∀ {e : D} {w : V}, flatD e = true → Rep g A H e w → eqV v w = eqd d e := by
  intro d v hd h
  cases d with
  | non => simp only [Rep] at h; subst h; exact ⟨rfl, fun {e w} he q => by cases e <;> first | (simp only [Rep] at q; subst q; rfl) | (simp [flatD] at he)⟩
  | bl b => simp only [Rep] at h; subst h; exact ⟨rfl, fun {e w} he q => by cases e <;> first | (simp only [Rep] at q; subst q; rfl) | (simp [flatD] at he)⟩
  | int b => simp only [Rep] at h; subst h; exact ⟨rfl, fun {e w} he q => by cases e <;> first | (simp only [Rep] at q; subst q; rfl) | (simp [flatD] at he)⟩
  | str b => simp only [Rep] at h; subst h; exact ⟨rfl, fun {e w} he q => by cases e <;> first | (simp only [Rep] at q; subst q; rfl) | (simp [flatD] at he)⟩
  | _ => simp [flatD] at hd
theorem flat_reps : ∀ {ds : List D} {vs : List V} {e : D} {w : V}, ds.all flatD = true → Reps g A H ds vs → flatD e = true → Rep g A H e w → vs.all flatV = true ∧ inV w vs = ds.any fun y => eqd y e
  | [], _, _, _, _, h, _, _ => by simp only [Reps] at h; subst h; exact ⟨rfl, rfl⟩
  | d :: ds, _, e, w, k, h, ke, he => by
    rw [List.all_cons, Bool.and_eq_true] at k
    simp only [Reps] at h
    obtain ⟨v, r, rfl, h1, h2⟩ := h
    have q1 := flat_rep k.1 h1
    have q2 := flat_reps k.2 h2 ke he
    refine ⟨by rw [List.all_cons, q1.1, q2.1]; rfl, ?_⟩
    have q3 : (r.any fun y => eqV y w) = ds.any fun y => eqd y e := q2.2
    show ((v :: r).any fun y => eqV y w) = _
    rw [List.any_cons, List.any_cons, q1.2 ke he, q3]
theorem rdb_flat {d : D} {v : V} (k : flatD d = true) (h : Rdb g A H d v) : Rep g A H d v := by
  cases d <;> first | exact h | (simp [flatD] at k)
end

/-! ### the operators -/
def CPowB (i j : Int) : Prop := 0 ≤ j ∧ (Builtin.Int.intBits i : Int) * j ≤ 2 ^ 27
theorem op_powB {X : Cx} : OpR X (binaryOp .Pow) (rI CPowB fun i j => .int (i ^ j.toNat)) := opI fun _ _ _ _ _ _ _ hc q => PyProof.Rows.pow_int hc.1 hc.2 q
/-- what an operation on data asks and gives -/
def rBin (g : Gx) (op : BOp) : R2 := fun x y H Q => ∃ A d e r, Rdb g A H d x ∧ Rdb g A H e y ∧ (∀ a, A a → H a ≠ none) ∧ binD op d e = some r ∧ ∀ v H', Same H H' → Res g A H H' r v → Q v H'
def opOf : BOp → Operator
  | .add => .Add | .sub => .Sub | .mul => .Mult | .fdiv => .FloorDiv | .mod => .Mod | .pow => .Pow
section
variable {X : Cx} {g : Gx}
theorem same_rfl (H : Hp) : Same H H := fun _ _ h => h
theorem new_lst {A : Addr → Prop} {H : Hp} {p : Addr} {ds : List D} {vs : List V} (np : H p = none) (hk : g.K.lookup p = none) (r : Reps g A H ds vs) : Res g A H (upd H p (.lst vs)) (.nw (.lst ds)) (.ref p) := by
  refine ⟨p, rfl, np, hk, vs, upd_same, reps_mono (fun a ⟨n, t⟩ => ⟨fun o h _ => same_new np a o h, fun z => ?_⟩) _ _ r⟩
  rcases z with z | z
  · exact n z
  · subst z
    rcases t with ⟨o, t, _⟩ | ⟨o, t⟩
    · rw [np] at t; cases t
    · rw [hk] at t; cases t
theorem new_tup {A : Addr → Prop} {H : Hp} {p : Addr} {ds : List D} {vs : List V} (np : H p = none) (tr : ∀ a, A a → H a ≠ none) (r : Reps g A H ds vs) : Res g A H (upd H p (.tup vs)) (.fz (.tup ds)) (.ref p) := by
  simp only [Res, Rep]
  exact ⟨p, vs, rfl, fun z => tr p z np, .inl (.inl upd_same), r.same (same_new np)⟩
theorem mulOk_of {i j : Int} (h : mulOk i j = true) : IntMulOk i j := by
  unfold mulOk at h
  simp only [Bool.or_eq_true, decide_eq_true_eq] at h
  rcases h with (h | h) | h
  · exact CMul.ok (.inl h)
  · exact CMul.ok (.inr h)
  · exact CMulW.ok h
theorem op_mulA : OpR X (binaryOp .Mult) (rI (fun i j => mulOk i j = true) fun i j => .int (i * j)) := opI fun _ _ _ _ _ _ _ hc q => PyProof.Rows.mul_int q (mulOk_of hc)
theorem op_bin (hK : X.K = g.K) (op : BOp) : OpR X (binaryOp (opOf op)) (rBin g op) := by
  have kfe : ∀ {H : Hp} {p : Addr} {o : HO}, (∀ a o, X.K.lookup a = some o → H a = none) → H p = some o → g.K.lookup p = none := fun h e => by rw [← hK]; exact kf_new h e
  cases op with
  | add =>
    refine OpR.weak (OpR.kf (op_add.or (op_add_str.or (op_cat.or op_catT)))) ?_
    rintro x y H Q ⟨A, d, e, r, hd, he, tr, hb, hQ⟩
    cases d <;> cases e <;> simp only [binD, reduceCtorEq, Option.ite_none_right_eq_some, Option.some.injEq] at hb
    · subst hb
      refine .inl ⟨_, _, rdb_int hd, rdb_int he, fun kf => hQ _ _ (same_rfl H) ?_⟩
      simp only [Res, Rep]
    · obtain ⟨hz, rfl⟩ := hb
      refine .inr (.inl ⟨_, _, rdb_str hd, rdb_str he, hz, fun kf => hQ _ _ (same_rfl H) ?_⟩)
      simp only [Res, Rep]
    · obtain ⟨hz, rfl⟩ := hb
      obtain ⟨a, vs, rfl, e1, r1⟩ := hd
      obtain ⟨b, ws, rfl, e2, r2⟩ := he
      refine .inr (.inr (.inl ⟨a, b, vs, ws, rfl, rfl, e1, e2, by rw [← r1.len, ← r2.len]; exact hz, fun p np kf => hQ _ _ (same_new np) (new_lst np (kfe kf upd_same) (r1.app r2))⟩))
    · obtain ⟨⟨hz, hne⟩, rfl⟩ := hb
      obtain ⟨a, vs, rfl, na, e1, r1⟩ := rdb_tup hd
      obtain ⟨b, ws, rfl, nb, e2, r2⟩ := rdb_tup he
      have l1 := r1.len
      have l2 := r2.len
      refine .inr (.inr (.inr ⟨a, b, vs, ws, rfl, rfl, by rw [hK]; exact e1, by rw [hK]; exact e2, fun z => ?_, by omega, fun z kf => hQ _ _ (same_rfl H) ?_, fun z p np kf => hQ _ _ (same_new np) (new_tup np tr (r1.app r2))⟩))
      · subst z
        exact hne (List.eq_nil_of_length_eq_zero l1)
      · subst z
        have : _ = [] := List.eq_nil_of_length_eq_zero l2
        subst this
        rw [List.append_nil]
        simp only [Res, Rep]
        exact ⟨a, vs, rfl, na, e1, r1⟩
  | sub =>
    refine OpR.weak (OpR.kf op_sub) ?_
    rintro x y H Q ⟨A, d, e, r, hd, he, tr, hb, hQ⟩
    cases d <;> cases e <;> simp only [binD, reduceCtorEq, Option.some.injEq] at hb
    subst hb
    exact ⟨_, _, rdb_int hd, rdb_int he, fun kf => hQ _ _ (same_rfl H) (by simp only [Res, Rep])⟩
  | mul =>
    refine OpR.weak (OpR.kf (op_mulA.or op_rep)) ?_
    rintro x y H Q ⟨A, d, e, r, hd, he, tr, hb, hQ⟩
    cases d <;> cases e <;> simp only [binD, reduceCtorEq, Option.ite_none_right_eq_some, Option.some.injEq] at hb
    · obtain ⟨hz, rfl⟩ := hb
      exact .inl ⟨_, _, rdb_int hd, rdb_int he, hz, fun kf => hQ _ _ (same_rfl H) (by simp only [Res, Rep])⟩
    · obtain ⟨⟨h1, h2, h3⟩, rfl⟩ := hb
      obtain ⟨a, vs, rfl, e1, r1⟩ := hd
      exact .inr ⟨a, _, vs, rfl, rdb_int he, e1, h1, h2, by rw [← r1.len]; exact h3, fun p np kf => hQ _ _ (same_new np) (new_lst np (kfe kf upd_same) (r1.repl _))⟩
  | fdiv =>
    refine OpR.weak (OpR.kf op_fdivW) ?_
    rintro x y H Q ⟨A, d, e, r, hd, he, tr, hb, hQ⟩
    cases d <;> cases e <;> simp only [binD, reduceCtorEq, Option.ite_none_right_eq_some, Option.some.injEq] at hb
    obtain ⟨hz, rfl⟩ := hb
    exact ⟨_, _, rdb_int hd, rdb_int he, hz, fun kf => hQ _ _ (same_rfl H) (by simp only [Res, Rep])⟩
  | mod =>
    refine OpR.weak (OpR.kf op_mod) ?_
    rintro x y H Q ⟨A, d, e, r, hd, he, tr, hb, hQ⟩
    cases d <;> cases e <;> simp only [binD, reduceCtorEq, Option.ite_none_right_eq_some, Option.some.injEq] at hb
    obtain ⟨hz, rfl⟩ := hb
    exact ⟨_, _, rdb_int hd, rdb_int he, hz, fun kf => hQ _ _ (same_rfl H) (by simp only [Res, Rep])⟩
  | pow =>
    refine OpR.weak (OpR.kf op_powB) ?_
    rintro x y H Q ⟨A, d, e, r, hd, he, tr, hb, hQ⟩
    cases d <;> cases e <;> simp only [binD, reduceCtorEq] at hb
    rename_i a b
    by_cases c : 0 ≤ b ∧ b ≤ 1000000 ∧ a.natAbs < 2 ^ 64
    · rw [if_pos c, Option.some.injEq] at hb
      subst hb
      exact ⟨_, _, rdb_int hd, rdb_int he, ⟨c.1, PyProof.Rows.bits_mul_le c.2.2 c.1 c.2.1⟩, fun kf => hQ _ _ (same_rfl H) (by simp only [Res, Rep])⟩
    · rw [if_neg c] at hb
      by_cases c2 : 0 ≤ b ∧ b ≤ 1000 ∧ in1k a = true
      · rw [if_pos c2, Option.some.injEq] at hb
        subst hb
        refine ⟨_, _, rdb_int hd, rdb_int he, ⟨c2.1, ?_⟩, fun kf => hQ _ _ (same_rfl H) (by simp only [Res, Rep])⟩
        have h1 := c2.2.2
        unfold in1k at h1
        have h2 := PyProof.Rows.intBits_le (of_decide_eq_true h1)
        have h3 : (Builtin.Int.intBits a : Int) * b ≤ 1000 * b := Int.mul_le_mul_of_nonneg_right (by omega) c2.1
        omega
      · rw [if_neg c2] at hb
        cases hb
def cmpOf : COp → CmpOp
  | .eq => .Eq | .ne => .NotEq | .lt => .Lt | .le => .LtE | .gt => .Gt | .ge => .GtE | .is => .Is | .isnot => .IsNot | .inn => .In | .notin => .NotIn
def rCmp (g : Gx) (op : COp) : R2 := fun x y H Q => ∃ A d e b, Rdb g A H d x ∧ Rdb g A H e y ∧ cmpD op d e = some b ∧ Q (.bl b) H
theorem rdb_isnon {A : Addr → Prop} {H : Hp} {d : D} {v : V} (h : Rdb g A H d v) : decide (v = .non) = isNonD d := by
  cases d with
  | non => rw [rdb_non h]; rfl
  | bl => rw [rdb_bl h]; rfl
  | int => rw [rdb_int h]; rfl
  | str => rw [rdb_str h]; rfl
  | lst => obtain ⟨a, vs, rfl, _⟩ := h; rfl
  | tup => obtain ⟨a, vs, rfl, _⟩ := rdb_tup h; rfl
  | obj => obtain ⟨a, dx, vs, rfl, _⟩ := h; rfl
  | scr => obtain ⟨a, rfl, _⟩ := rdb_scr h; rfl
  | dct => obtain ⟨a, rfl, _⟩ := rdb_dct h; rfl
  | dic ks ds => obtain ⟨a, vs, rfl, _⟩ := rdb_dic h; rfl
  | exc c ks ds => simp only [Rdb, Rep] at h; obtain ⟨a, vs, rfl, _⟩ := h; rfl
  | err c ks ds => simp only [Rdb, Rep] at h; obtain ⟨e0, a, vs, _, rfl, _⟩ := h; rfl
  | ref k => simp only [Rdb, Rep] at h; obtain ⟨a, _, rfl⟩ := h; rfl
theorem OpR.or {f : Value → Value → Sem Value} {r r' : R2} (h : OpR X f r) (h' : OpR X f r') : OpR X f (fun x y H Q => r x y H Q ∨ r' x y H Q) := fun pins s σ H x y v u Q I rx ry q => q.elim (fun q => h pins s σ H x y v u Q I rx ry q) fun q => h' pins s σ H x y v u Q I rx ry q
def rLenNe (K : PySem.W.Frag) (k : Bool) : R2 := fun x y H Q => ∃ a b xs ys, x = .ref a ∧ y = .ref b ∧ SqL K H a xs ∧ SqL K H b ys ∧ xs.length ≠ ys.length ∧ Q (.bl k) H
theorem op_eqLen (hu : X.A.units < cLine) : OpR X (compareOp .Eq) (rLenNe X.K false) := by
  rintro pins s σ H x y v u Q I rx ry ⟨a, b, xs, ys, rfl, rfl, ha, hb, hne, q⟩
  cases rx
  cases ry
  obtain ⟨its, r, e, z⟩ := I.list ha
  obtain ⟨its2, r2, e2, z2⟩ := I.list hb
  have hsz : (its.toArray.size != its2.toArray.size) = true := by
    rw [List.size_toArray, List.size_toArray, ← r.length, ← r2.length]
    simpa using hne
  exact PySem.SeqAt.eq_list_lengthsAt e.isList e2.isList hsz hu ⟨.bl false, H, I, rfl, q⟩
theorem op_neLen (hu : X.A.units < cLine) : OpR X (compareOp .NotEq) (rLenNe X.K true) := by
  rintro pins s σ H x y v u Q I rx ry ⟨a, b, xs, ys, rfl, rfl, ha, hb, hne, q⟩
  cases rx
  cases ry
  obtain ⟨its, r, e, z⟩ := I.list ha
  obtain ⟨its2, r2, e2, z2⟩ := I.list hb
  have hsz : (its.toArray.size != its2.toArray.size) = true := by
    rw [List.size_toArray, List.size_toArray, ← r.length, ← r2.length]
    simpa using hne
  exact PySem.SeqAt.RcNeAt.lists_lengths e.isList e2.isList hsz hu X.prog X.w X.xe _ ⟨.bl true, H, I, rfl, q⟩
theorem lenNe_ok {A : Addr → Prop} {H : Hp} {d e : D} {x y : V} {k : Bool} {Q : VK} (h : lenNe d e = true) (hd : Rdb g A H d x) (he : Rdb g A H e y) (hQ : Q (.bl k) H) : rLenNe g.K k x y H Q := by
  cases d <;> cases e <;> simp only [lenNe, Bool.false_eq_true, decide_eq_true_eq] at h
  obtain ⟨a, vs, rfl, s1, r1⟩ := hd
  obtain ⟨b, ws, rfl, s2, r2⟩ := he
  exact ⟨a, b, vs, ws, rfl, rfl, .inl (.inl s1), .inl (.inl s2), by rw [← r1.len, ← r2.len]; exact h, hQ⟩
theorem reps_two {A : Addr → Prop} {H : Hp} {i j : Int} {vs : List V} (h : Reps g A H [.int i, .int j] vs) : vs = [i, j].map V.int := by
  simp only [Reps, Rep] at h
  obtain ⟨_, _, rfl, rfl, _, _, rfl, rfl, rfl⟩ := h
  rfl
/-- (i, j) > (k, l) -/
def rGtP (K : PySem.W.Frag) : R2 := fun x y H Q => ∃ a b i j k l, x = .ref a ∧ y = .ref b ∧ SqT K H a ([i, j].map V.int) ∧ SqT K H b ([k, l].map V.int) ∧ Q (.bl (pGt i j k l)) H
theorem op_gtP (hu : X.A.units < cLine) : OpR X (compareOp .Gt) (rGtP X.K) := by
  rintro pins s σ H x y v u Q I rx ry ⟨a, b, i, j, k, l, rfl, rfl, ha, hb, q⟩
  cases rx
  cases ry
  obtain ⟨its, r1, p1, _⟩ := I.tuple ha
  obtain ⟨its2, r2, p2, _⟩ := I.tuple hb
  have i1 := Vals.ints r1
  have i2 := Vals.ints r2
  have e1 : its.toArray.size = 2 := by rw [List.size_toArray]; exact i1.length
  have e2 : its2.toArray.size = 2 := by rw [List.size_toArray]; exact i2.length
  have at1 : ∀ n (h1 : n < its.toArray.size), ∃ t, its.toArray[n] = .int ([i, j].getD n 0) t := fun n h1 => i1.int_at n _ (by rw [List.getElem_toArray]; exact List.getElem?_eq_getElem _)
  have at2 : ∀ n (h1 : n < its2.toArray.size), ∃ t, its2.toArray[n] = .int ([k, l].getD n 0) t := fun n h1 => i2.int_at n _ (by rw [List.getElem_toArray]; exact List.getElem?_eq_getElem _)
  have R := Ob.RcOp.tuples_gt (e := fun n => [i, j].getD n 0 == [k, l].getD n 0) (r := fun n => decide ([k, l].getD n 0 < [i, j].getD n 0)) p1 p2 hu (fun n h1 h2 => by
    obtain ⟨t, et⟩ := at1 n h1
    obtain ⟨t', et'⟩ := at2 n h2
    rw [et, et']
    exact SeqAt.EqAt.int_int _ t _ t') (fun n h1 h2 _ => by
    obtain ⟨t, et⟩ := at1 n h1
    obtain ⟨t', et'⟩ := at2 n h2
    rw [et, et']
    exact Ob.RcOp.gt_int _ _ t t')
  rw [e1, e2] at R
  have lx : Ob.lexAt (fun n => [i, j].getD n 0 == [k, l].getD n 0) (fun n => decide ([k, l].getD n 0 < [i, j].getD n 0)) (decide (2 > 2)) 0 (min 2 2) = pGt i j k l := by
    show Ob.lexAt _ _ _ 0 2 = _
    rw [Ob.lexAt_succ, Ob.lexAt_succ, Ob.lexAt_zero]
    unfold pGt
    by_cases c : i = k
    · subst c
      by_cases d : j = l
      · subst d; simp
      · simp [d]
    · by_cases d : k < i <;> simp [c, d]
  rw [lx] at R
  exact R X.prog X.w X.xe (EP X pins σ Q) ⟨.bl (pGt i j k l), H, I, rfl, q⟩
section
open PySem.SeqAt
variable {X : Cx}
theorem tup_ne_dct (l b : Addr) (its : Array Value) (n : Nat) (d1 d2 : Option Addr) (sa sb : Array (Option Value)) (es : Array DictEntry) (ep : Nat) :
    Meets (Builtin.«tuple.__ne__» ⟨[.ref l, .ref b], []⟩) (fun _ R s => s.heap.get? l = some { cls := .type "tuple", dict := d1, data := .seq its n, slots := sa } ∧ s.heap.get? b = some { cls := .type "dict", dict := d2, data := .dict es ep, slots := sb } ∧ R (.ok (.ret .notImplemented)) s) :=
  .of_wp fun prog w A R s h => by obtain ⟨hp, g, d, tk, os⟩ := s; obtain ⟨hl, hb, h⟩ := h; have f1 := F.sub_dict_tuple; wp_walk using wpAny_loadPart' hl, wpAny_loadPart' hb; exact ⟨_, rfl, h⟩
def rDtNe (K : PySem.W.Frag) : R2 := fun x y H Q => ∃ a b xs, x = .ref a ∧ y = .ref b ∧ H a = some (.dK []) ∧ SqT K H b xs ∧ Q (.bl true) H
theorem op_neDT (hu : X.A.units < cLine) : OpR X (compareOp .NotEq) (rDtNe X.K) := by
  rintro pins s σ H x y v u Q I rx ry ⟨a, b, xs, rfl, rfl, ha, hb, q⟩
  cases rx
  cases ry
  obtain ⟨_, hsm, vs, kv, hd⟩ := dk_of I.hok ha
  have tyd := hd.typeIs (s := s)
  obtain ⟨o, es, ep, e1, e2, e3, e4⟩ := hd
  obtain ⟨its, r, ⟨o2, ho2, hc2, n2, hd2⟩, z⟩ := I.tuple hb
  obtain ⟨c1, d1, t1, s1⟩ := o
  obtain ⟨c2, d2, t2, s2⟩ := o2
  have hc1 := e2.1
  simp only at hc1 hc2 hd2 e3
  subst hc1 hc2 hd2 e3
  have hne : a ≠ b := fun z => by
    rw [z, ho2] at e1
    have w := congrArg Obj.cls (Option.some.inj e1)
    simp at w
  refine (rc_ne_decline_or (k := false) (Ta := "dict") (Tb := "tuple") tyd ⟨_, ho2, rfl⟩ (by decide) F.sub_tuple_dict F.slot_dict_ne F.slot_tuple_ne_refl (fun Q' hq => ?_) (fun Q' hq => ?_) (fun Q' hq => ?_) (.inr hu) ⟨.bl true, H, I, rfl, q⟩)
  · refine wpAny_call_entry F.slot_dict_ne tyd F.entry_dict_ne ?_ (F.args_dict_ne_2 _ _)
    show wpAny _ _ (Builtin.Dict.dictSlotArgs "__ne__" ⟨[.ref a, .ref b], []⟩ >>= _) _ _ s
    refine wpAny_bind ?_
    unfold Builtin.Dict.dictSlotArgs
    refine wpAny_bind (wpAny_notOrdered_dict tyd ?_)
    show wpAny _ _ (pure (Value.ref a, Value.ref b)) _ _ s
    refine wpAny_pure ?_
    refine wpAny_bind (wpAny_isInstance (T := "tuple") ⟨_, ho2, rfl⟩ F.sub_tuple_dict ?_)
    simp only [Bool.not_false, if_true]
    refine wpAny_bind (wpAny_rule (wpAny_bind (wpAny_pure ?_)))
    exact wpAny_pure ⟨_, rfl, hq⟩
  · exact call_meets F.slot_tuple_ne_refl ⟨_, ho2, rfl⟩ F.entry_tuple_ne (F.args_tuple_ne_2 _ _) (tup_ne_dct b a its.toArray n2 d2 d1 s2 s1 es ep) ⟨ho2, e1, hq⟩
  · exact wpAny_isSame_ref_other hne e1 ho2 (by simp) hq
end
theorem dtNe_ok {A : Addr → Prop} {H : Hp} {d e : D} {x y : V} {Q : VK} (h : dtNe d e = true) (hd : Rdb g A H d x) (he : Rdb g A H e y) (hQ : Q (.bl true) H) : rDtNe g.K x y H Q := by
  cases d <;> cases e <;> simp only [dtNe, Bool.false_eq_true] at h
  obtain ⟨a, rfl, _, s1⟩ := rdb_dct hd
  obtain ⟨b, ws, rfl, _, s2, _⟩ := rdb_tup he
  exact ⟨a, b, ws, rfl, rfl, s1, s2, hQ⟩
section
open PySem.SeqAt
variable {X : Cx}
theorem lst_eq_dct (l b : Addr) (its : Array Value) (n : Nat) (d1 d2 : Option Addr) (sa sb : Array (Option Value)) (es : Array DictEntry) (ep : Nat) :
    Meets (Builtin.«list.__eq__» ⟨[.ref l, .ref b], []⟩) (fun _ R s => s.heap.get? l = some { cls := .type "list", dict := d1, data := .seq its n, slots := sa } ∧ s.heap.get? b = some { cls := .type "dict", dict := d2, data := .dict es ep, slots := sb } ∧ R (.ok (.ret .notImplemented)) s) :=
  .of_wp fun prog w A R s h => by obtain ⟨hp, g, d, tk, os⟩ := s; obtain ⟨hl, hb, h⟩ := h; have f1 := F.sub_dict_list; wp_walk using wpAny_loadPart' hl, wpAny_loadPart' hb; exact ⟨_, rfl, h⟩
def rDlEq (K : PySem.W.Frag) : R2 := fun x y H Q => ∃ a b xs, x = .ref a ∧ y = .ref b ∧ H a = some (.dK []) ∧ SqL K H b xs ∧ Q (.bl false) H
theorem op_eqDL (hu : X.A.units < cLine) : OpR X (compareOp .Eq) (rDlEq X.K) := by
  rintro pins s σ H x y v u Q I rx ry ⟨a, b, xs, rfl, rfl, ha, hb, q⟩
  cases rx
  cases ry
  obtain ⟨_, hsm, vs, kv, hd⟩ := dk_of I.hok ha
  have tyd := hd.typeIs (s := s)
  obtain ⟨o, es, ep, e1, e2, e3, e4⟩ := hd
  obtain ⟨its, r, ⟨o2, n2, ho2, hc2, hdc2, hd2⟩, z⟩ := I.list hb
  obtain ⟨c1, d1, t1, s1⟩ := o
  obtain ⟨c2, d2, t2, s2⟩ := o2
  have hc1 := e2.1
  simp only at hc1 hc2 hdc2 hd2 e3
  subst hc1 hc2 hdc2 hd2 e3
  have hne : a ≠ b := fun z => by
    rw [z, ho2] at e1
    have w := congrArg Obj.cls (Option.some.inj e1)
    simp at w
  refine (rc_eq_decline_or (k := false) (Ta := "dict") (Tb := "list") tyd ⟨_, ho2, rfl⟩ (by decide) F.sub_list_dict F.slot_dict_eq F.slot_list_eq_refl (fun Q' hq => ?_) (fun Q' hq => ?_) (fun Q' hq => ?_) (.inr hu) ⟨.bl false, H, I, rfl, q⟩)
  · refine wpAny_call_entry F.slot_dict_eq tyd F.entry_dict_eq ?_ (F.args_dict_eq_2 _ _)
    show wpAny _ _ (Builtin.Dict.dictSlotArgs "__eq__" ⟨[.ref a, .ref b], []⟩ >>= _) _ _ s
    refine wpAny_bind ?_
    unfold Builtin.Dict.dictSlotArgs
    refine wpAny_bind (wpAny_notOrdered_dict tyd ?_)
    show wpAny _ _ (pure (Value.ref a, Value.ref b)) _ _ s
    refine wpAny_pure ?_
    refine wpAny_bind (wpAny_isInstance (T := "list") ⟨_, ho2, rfl⟩ F.sub_list_dict ?_)
    simp only [Bool.not_false, if_true]
    first
      | exact wpAny_pure ⟨_, rfl, hq⟩
      | (refine wpAny_bind (wpAny_rule (wpAny_bind (wpAny_pure ?_)))
         exact wpAny_pure ⟨_, rfl, hq⟩)
  · exact call_meets F.slot_list_eq_refl ⟨_, ho2, rfl⟩ F.entry_list_eq (F.args_list_eq_2 _ _) (lst_eq_dct b a its.toArray n2 _ _ _ _ es ep) ⟨ho2, e1, hq⟩
  · exact wpAny_isSame_ref_other hne e1 ho2 (by simp) hq
end
/-- texts of any signs -/
def rStrEq : R2 := fun x y H Q => ∃ a b, x = .str a ∧ y = .str b ∧ Q (.bl (a == b)) H
theorem op_eqStr : OpR X (compareOp .Eq) rStrEq := by
  rintro pins s σ H x y v u Q I rx ry ⟨a, b, rfl, rfl, q⟩
  obtain ⟨t1, rfl⟩ := rx
  obtain ⟨t2, rfl⟩ := ry
  exact PySem.SeqAt.RcAt.str_str a t1 b t2 X.prog X.w X.xe _ ⟨.bl (a == b), H, I, rfl, q⟩
section
open PySem.SeqAt
variable {X : Cx} {g : Gx}
theorem int_eq_dct (k : Int) (t : Tok) (l : Addr) (dd : Option Addr) (sl : Array (Option Value)) (es : Array DictEntry) (ep : Nat) :
    Meets (Builtin.«int.__eq__» ⟨[.int k t, .ref l], []⟩) (fun _ R s => s.heap.get? l = some { cls := .type "dict", dict := dd, data := .dict es ep, slots := sl } ∧ R (.ok (.ret .notImplemented)) s) :=
  .of_wp fun prog w A R s h => by obtain ⟨hp, g, d, tk, os⟩ := s; obtain ⟨hl, h⟩ := h; wp_walk using wpAny_loadPart' hl, wpAny_load hl; exact ⟨_, rfl, h⟩
theorem rc_int_dct {A : Around} {s : Shared} {l : Addr} {o : Obj} {es : Array DictEntry} {ep : Nat} (k : Int) (t : Tok) (ho : s.heap.get? l = some o) (hc : o.cls = .type "dict") (hd : o.data = .dict es ep) (hu : A.units < cLine) : RcAt A s (.int k t) (.ref l) false := fun prog w E Q h => by
  obtain ⟨cls, dd, data, sl⟩ := o
  simp only at hc hd
  subst hc hd
  have tyd : s.TypeIs (.ref l) "dict" := ⟨_, ho, rfl⟩
  refine rc_eq_decline_or (k := false) (typeIs_int s k t) tyd (by decide) F.sub_dict_int F.slot_int_eq F.slot_dict_eq_refl
    (fun _ hq => call_meets F.slot_int_eq (typeIs_int s k t) F.entry_int_eq (F.args_int_eq_2 _ _) (int_eq_dct k t l dd sl es ep) ⟨ho, hq⟩)
    (fun _ hq => ?_)
    (fun _ hq => wpAny_of_eq (rfl : isSame (.int k t) (.ref l) = pure false) hq) (.inr hu) h
  refine wpAny_call_entry F.slot_dict_eq_refl tyd F.entry_dict_eq ?_ (F.args_dict_eq_2 _ _)
  show wpAny _ _ (Builtin.Dict.dictSlotArgs "__eq__" ⟨[.ref l, .int k t], []⟩ >>= _) _ _ s
  refine wpAny_bind ?_
  unfold Builtin.Dict.dictSlotArgs
  refine wpAny_bind (wpAny_notOrdered_dict tyd ?_)
  show wpAny _ _ (pure (Value.ref l, Value.int k t)) _ _ s
  refine wpAny_pure ?_
  refine wpAny_bind (wpAny_isInstance (T := "int") (typeIs_int s k t) F.sub_int_dict ?_)
  simp only [Bool.not_false, if_true]
  refine wpAny_bind (wpAny_rule (wpAny_bind (wpAny_pure ?_)))
  exact wpAny_pure ⟨_, rfl, hq⟩
theorem eq_int_dct {A : Around} {s : Shared} {l : Addr} {o : Obj} {es : Array DictEntry} {ep : Nat} (k : Int) (t : Tok) (ho : s.heap.get? l = some o) (hc : o.cls = .type "dict") (hd : o.data = .dict es ep) (hu : A.units < cLine) : EqAt A s (.int k t) (.ref l) false := fun prog w E Q h => by
  unfold eqBool
  refine wpAny_holding ?_
  refine wpAny_ite_split (fun hab => absurd (eq_of_beq hab) nofun) (fun _ => ?_)
  exact wpAny_bind (rc_int_dct k t ho hc hd hu prog w E _ (wpAny_truthy_bool h))
theorem ints_mem : ∀ {ns : List Int} {its : List Value}, Vals (ns.map V.int) its → ∀ y ∈ its, ∃ k t, y = .int k t
  | [], _, r, y, hy => by cases r; cases hy
  | n :: ns, _, r, y, hy => by
    cases r with
    | cons r1 r2 =>
      rcases List.mem_cons.mp hy with rfl | hy
      · obtain ⟨t, e⟩ := r1; exact ⟨n, t, e⟩
      · exact ints_mem r2 y hy
/-- a list or an empty dict among ints -/
def rNoInt (K : PySem.W.Frag) (k : Bool) : R2 := fun x y H Q => ∃ a p ns, x = .ref a ∧ y = .ref p ∧ ((∃ ws, H a = some (.lst ws)) ∨ H a = some (.dK [])) ∧ SqT K H p ((ns : List Int).map V.int) ∧ Q (.bl k) H
theorem noInt_at {pins : List (Addr × Obj)} {σ : St} {H : Hp} {s : Shared} {a : Addr} {its : List Value} {ns : List Int} (hu : X.A.units + 1 < cLine) (I : Inv X pins σ H s) (ha : (∃ ws, H a = some (.lst ws)) ∨ H a = some (.dK [])) (r : Vals (ns.map V.int) its) : ∀ y, y ∈ its → EqAt X.A.in1 s y (.ref a) false := fun y hy => by
  obtain ⟨k, t, rfl⟩ : ∃ k t, y = .int k t := ints_mem r y hy
  rcases ha with ⟨ws, ha⟩ | ha
  · obtain ⟨its2, r2, p2, _⟩ := I.list (show SqL X.K H a ws from .inl (.inl ha))
    exact EqAt.int_list k t p2.isList hu
  · obtain ⟨_, hsm, vs, kv, hd⟩ := dk_of I.hok ha
    obtain ⟨o, es, ep, e1, e2, e3, e4⟩ := hd
    exact eq_int_dct k t e1 e2.1 e3 hu
theorem op_notInNo (hu : X.A.units + 64 < cLine) : OpR X (compareOp .NotIn) (rNoInt X.K true) := by
  rintro pins s σ H x y v u Q I rx ry ⟨a, p, ns, rfl, rfl, ha, hp, q⟩
  cases rx
  cases ry
  obtain ⟨its, r, pl, hz⟩ := I.tuple hp
  refine SeqAt.notIn_tupleAt (fun _ => false) pl (fun w hw => noInt_at (by omega) I ha r w (by simpa using hw)) ⟨.bl _, H, I, rfl, ?_⟩
  have : its.toArray.any (fun _ => false) = false := by simp
  rw [this]
  exact q
end
theorem reps_allInt {A : Addr → Prop} {H : Hp} : ∀ {b : List D} {vs : List V}, b.all isIntD = true → Reps g A H b vs → ∃ ns : List Int, vs = ns.map V.int
  | [], vs, _, h => by simp only [Reps] at h; exact ⟨[], h⟩
  | d :: b, vs, k, h => by
    simp only [List.all_cons, Bool.and_eq_true] at k
    simp only [Reps] at h
    obtain ⟨v, r, rfl, h1, h2⟩ := h
    obtain ⟨ns, rfl⟩ := reps_allInt k.2 h2
    cases d <;> simp only [isIntD, Bool.false_eq_true, false_and] at k
    rename_i i
    simp only [Rep] at h1
    subst h1
    exact ⟨i :: ns, rfl⟩
theorem beq_decide (a b : Bool) : (a == b) = decide (a = b) := by cases a <;> cases b <;> rfl
theorem op_cmp (hK : X.K = g.K) (hu : X.A.units + 64 < cLine) (op : COp) : OpR X (compareOp (cmpOf op)) (rCmp g op) := by
  cases op with
  | eq =>
    refine OpR.weak (OpR.or (OpR.or (op_eqD hu) (op_eqLen (by omega))) (OpR.or op_eqStr (op_eqDL (by omega)))) ?_
    rintro x y H Q ⟨A, d, e, b, hd, he, hb, hQ⟩
    simp only [cmpD] at hb
    split at hb
    case isFalse => 
      split at hb
      · rename_i hl
        cases hb
        rw [hK]
        exact .inl (.inr (lenNe_ok hl hd he hQ))
      · refine .inr ?_
        cases d <;> cases e <;> simp only [strEq, reduceCtorEq, Option.some.injEq] at hb
        · subst hb
          exact .inl ⟨_, _, rdb_str hd, rdb_str he, hQ⟩
        · subst hb
          rw [hK]
          obtain ⟨a, rfl, _, s1⟩ := rdb_dct hd
          obtain ⟨b, ws, rfl, s2, _⟩ := he
          exact .inr ⟨a, b, ws, rfl, rfl, s1, .inl (.inl s2), hQ⟩
    rename_i hk
    simp only [Bool.and_eq_true] at hk
    obtain ⟨k1, k2⟩ := hk
    simp only [Option.some.injEq] at hb
    subst hb
    refine .inl (.inl ?_)
    rw [hK]
    exact ⟨toPy d, toPy e, rdb_dp k1 hd, rdb_dp k2 he, py_shaped k1, py_shaped k2, by rw [py_eqv d e 12 12 k1 k2]; exact hQ⟩
  | ne =>
    refine OpR.weak (OpR.or (OpR.or (op_neD hu) (op_neLen (by omega))) (op_neDT (by omega))) ?_
    rintro x y H Q ⟨A, d, e, b, hd, he, hb, hQ⟩
    simp only [cmpD] at hb
    split at hb
    case isFalse => 
      split at hb
      · rename_i hl
        cases hb
        rw [hK]
        exact .inl (.inr (lenNe_ok hl hd he hQ))
      · split at hb
        · rename_i hl
          cases hb
          rw [hK]
          exact .inr (dtNe_ok hl hd he hQ)
        · cases hb
    rename_i hk
    simp only [Bool.and_eq_true] at hk
    obtain ⟨k1, k2⟩ := hk
    simp only [Option.some.injEq] at hb
    subst hb
    refine .inl (.inl ?_)
    rw [hK]
    exact ⟨toPy d, toPy e, rdb_dp k1 hd, rdb_dp k2 he, py_shaped k1, py_shaped k2, by rw [py_eqv d e 12 12 k1 k2]; exact hQ⟩
  | lt =>
    refine OpR.weak op_lt ?_
    rintro x y H Q ⟨A, d, e, b, hd, he, hb, hQ⟩
    cases d <;> cases e <;> simp only [cmpD, reduceCtorEq, Option.some.injEq] at hb
    subst hb
    exact ⟨_, _, rdb_int hd, rdb_int he, hQ⟩
  | le =>
    refine OpR.weak op_le ?_
    rintro x y H Q ⟨A, d, e, b, hd, he, hb, hQ⟩
    cases d <;> cases e <;> simp only [cmpD, reduceCtorEq, Option.some.injEq] at hb
    subst hb
    exact ⟨_, _, rdb_int hd, rdb_int he, hQ⟩
  | gt =>
    refine OpR.weak (OpR.or op_gt (op_gtP (by omega))) ?_
    rintro x y H Q ⟨A, d, e, b, hd, he, hb, hQ⟩
    cases d <;> cases e <;> simp only [cmpD, reduceCtorEq, Option.some.injEq] at hb
    · subst hb
      exact .inl ⟨_, _, rdb_int hd, rdb_int he, hQ⟩
    · unfold tupGt at hb
      split at hb
      · rename_i i j k l
        cases hb
        obtain ⟨a, vs, rfl, _, s1, r1⟩ := rdb_tup hd
        obtain ⟨b, ws, rfl, _, s2, r2⟩ := rdb_tup he
        rw [reps_two r1] at s1
        rw [reps_two r2] at s2
        rw [← hK] at s1 s2
        exact .inr ⟨a, b, i, j, k, l, rfl, rfl, s1, s2, hQ⟩
      · cases hb
  | ge =>
    refine OpR.weak op_ge ?_
    rintro x y H Q ⟨A, d, e, b, hd, he, hb, hQ⟩
    cases d <;> cases e <;> simp only [cmpD, reduceCtorEq, Option.some.injEq] at hb
    subst hb
    exact ⟨_, _, rdb_int hd, rdb_int he, hQ⟩
  | is =>
    refine OpR.weak (OpR.or op_isN op_is_bl) ?_
    rintro x y H Q ⟨A, d, e, b, hd, he, hb, hQ⟩
    cases e with
    | non =>
      simp only [cmpD, Option.some.injEq] at hb
      subst hb
      exact .inl ⟨rdb_non he, by rw [rdb_isnon hd]; exact hQ⟩
    | bl k =>
      cases d <;> simp only [cmpD, reduceCtorEq, Option.some.injEq] at hb
      subst hb
      refine .inr ⟨_, _, rdb_bl hd, rdb_bl he, ?_⟩
      rw [beq_decide] at hQ
      exact hQ
    | _ => cases d <;> simp only [cmpD, reduceCtorEq] at hb
  | isnot =>
    refine OpR.weak (OpR.or op_notN op_isnot_bl) ?_
    rintro x y H Q ⟨A, d, e, b, hd, he, hb, hQ⟩
    cases e with
    | non =>
      simp only [cmpD, Option.some.injEq] at hb
      subst hb
      refine .inl ⟨rdb_non he, ?_⟩
      rw [rdb_isnon hd]
      exact hQ
    | bl k =>
      cases d <;> simp only [cmpD, reduceCtorEq, Option.some.injEq] at hb
      subst hb
      refine .inr ⟨_, _, rdb_bl hd, rdb_bl he, ?_⟩
      rw [beq_decide] at hQ
      exact hQ
    | _ => cases d <;> simp only [cmpD, reduceCtorEq] at hb
  | inn =>
    refine OpR.weak op_in_seq ?_
    rintro x y H Q ⟨A, d, e, b, hd, he, hb, hQ⟩
    rw [hK]
    cases e <;> simp only [cmpD, reduceCtorEq, Option.ite_none_right_eq_some, Bool.and_eq_true, Option.some.injEq] at hb
    · obtain ⟨⟨k1, k2⟩, rfl⟩ := hb
      obtain ⟨a, vs, rfl, e1, r1⟩ := he
      have q := flat_reps k2 r1 k1 (rdb_flat k1 hd)
      exact ⟨a, vs, rfl, .inl (.inl (.inl e1)), (flat_rep k1 (rdb_flat k1 hd)).1, q.1, by rw [if_neg Bool.false_ne_true, q.2]; exact hQ⟩
    · obtain ⟨⟨k1, k2⟩, rfl⟩ := hb
      obtain ⟨a, vs, rfl, na, e1, r1⟩ := rdb_tup he
      have q := flat_reps k2 r1 k1 (rdb_flat k1 hd)
      exact ⟨a, vs, rfl, .inr e1, (flat_rep k1 (rdb_flat k1 hd)).1, q.1, by rw [if_neg Bool.false_ne_true, q.2]; exact hQ⟩
  | notin =>
    refine OpR.weak (OpR.or op_notIn_seq (op_notInNo hu)) ?_
    rintro x y H Q ⟨A, d, e, b, hd, he, hb, hQ⟩
    rw [hK]
    cases e <;> simp only [cmpD, reduceCtorEq, Option.ite_none_right_eq_some, Bool.and_eq_true, Option.some.injEq] at hb
    · obtain ⟨⟨k1, k2⟩, rfl⟩ := hb
      obtain ⟨a, vs, rfl, e1, r1⟩ := he
      have q := flat_reps k2 r1 k1 (rdb_flat k1 hd)
      exact .inl ⟨a, vs, rfl, .inl (.inl (.inl e1)), (flat_rep k1 (rdb_flat k1 hd)).1, q.1, by rw [if_pos rfl, q.2]; exact hQ⟩
    · obtain ⟨a, vs, rfl, na, e1, r1⟩ := rdb_tup he
      split at hb
      · rename_i kk
        obtain ⟨k1, k2⟩ := kk
        simp only [Option.some.injEq] at hb
        subst hb
        have q := flat_reps k2 r1 k1 (rdb_flat k1 hd)
        exact .inl ⟨a, vs, rfl, .inr e1, (flat_rep k1 (rdb_flat k1 hd)).1, q.1, by rw [if_pos rfl, q.2]; exact hQ⟩
      · split at hb
        · rename_i kk
          obtain ⟨k1, k2⟩ := kk
          simp only [Option.some.injEq] at hb
          subst hb
          obtain ⟨ns, rfl⟩ := reps_allInt k2 r1
          refine .inr ?_
          cases d <;> simp only [noInt, Bool.false_eq_true] at k1
          · obtain ⟨p, ws, rfl, h1, _⟩ := hd
            exact ⟨p, a, ns, rfl, rfl, .inl ⟨ws, h1⟩, e1, hQ⟩
          · obtain ⟨p, rfl, _, h1⟩ := rdb_dct hd
            exact ⟨p, a, ns, rfl, rfl, .inr h1, e1, hQ⟩
        · cases hb
end
end DV

namespace DV
open PySem L2
/-- what a frame must be, the suite of a clause too -/
structure Cok0 (g : Gx) (X : Cx) : Prop where
  K : X.K = g.K
  hu : X.A.units + 64 < cLine
  nd : X.N.Nodup
/-- what is asked of a context -/
structure Cok (g : Gx) (X : Cx) : Prop where
  K : X.K = g.K
  calm : X.calm = true
  hu : X.A.units + 64 < cLine
  nd : X.N.Nodup
  ea : g.ea = none
theorem Cok.c0 {g : Gx} {X : Cx} (C : Cok g X) : Cok0 g X := ⟨C.K, C.hu, C.nd⟩
instance {g : Gx} {X : Cx} : Coe (Cok g X) (Cok0 g X) := ⟨Cok.c0⟩
def tR (g : Gx) (fs : List FS) (ie : E) : TE := fun σ H Q => ∃ Bn Ow Γ r Γ', RS g Bn Ow H σ Γ ∧ ev fs ie Γ = some (r, Γ') ∧ ∀ v H' Ow', Stp Ow H Ow' H' → RS g Bn Ow' H' σ Γ' → Val g Bn Ow' H' σ Γ' r v → Q v H'
def tT (g : Gx) (fs : List FS) (ie : E) : TT := fun σ H Q => ∃ Bn Ow Γ r Γ' t, RS g Bn Ow H σ Γ ∧ ev fs ie Γ = some (r, Γ') ∧ testD Γ' r = some t ∧ ∀ H' Ow', Stp Ow H Ow' H' → RS g Bn Ow' H' σ Γ' → Q t H'
/-- values by results -/
def Vls (g : Gx) (Bn : Addr → Prop) (Ow : List Addr) (H : Hp) (σ : St) (Γ : Ct) : List RV → List V → Prop
  | [], vs => vs = []
  | x :: xs, vs => ∃ v r, vs = v :: r ∧ Val g Bn Ow H σ Γ x.dn v ∧ Vls g Bn Ow H σ Γ xs r
def tAs (g : Gx) (fs : List FS) (es : List E) : TA := fun σ H Q => ∃ Bn Ow Γ xs Γ', RS g Bn Ow H σ Γ ∧ evs fs es Γ = some (xs, Γ') ∧ ∀ vs H' Ow', Stp Ow H Ow' H' → RS g Bn Ow' H' σ Γ' → Vls g Bn Ow' H' σ Γ' xs vs → Q vs H'
section
variable {X : Cx} {g : Gx} {fs : List FS} {Bn : Addr → Prop} {Ow Ow' : List Addr} {H H' : Hp} {σ : St} {Γ Γ' Γ1 Γ2 : Ct} {a b c : Expr} {ia ib ic : E} {pos : Pos}
theorem Vls.step : ∀ {xs : List RV} {vs : List V}, Vls g Bn Ow H σ Γ xs vs → Stp Ow H Ow' H' → RS g Bn Ow' H' σ Γ' → Vls g Bn Ow' H' σ Γ' xs vs
  | [], _, h, _, _ => h
  | x :: xs, _, ⟨v, r, e, h1, h2⟩, s, q => ⟨v, r, e, h1.step s q, Vls.step h2 s q⟩
theorem Vls.len : ∀ {xs : List RV} {vs : List V}, Vls g Bn Ow H σ Γ xs vs → xs.length = vs.length
  | [], _, h => by have h : _ = [] := h; subst h; rfl
  | x :: xs, _, ⟨v, r, e, h1, h2⟩ => by subst e; rw [List.length_cons, List.length_cons, h2.len]
theorem fres_ok : ∀ {xs : List RV} {vs : List V} {ds : List D} {Ow : List Addr} {Γ Γ' : Ct}, RS g Bn Ow H σ Γ → Vls g Bn Ow H σ Γ xs vs → fres xs Γ = some (ds, Γ') → ∃ Ow', Stp Ow H Ow' H ∧ RS g Bn Ow' H σ Γ' ∧ Reps g (Av Bn Ow') H ds vs
  | [], _, ds, Ow, Γ, Γ', rs, h, e => by
    have h : _ = [] := h
    subst h
    simp only [fres, Option.some.injEq, Prod.mk.injEq] at e
    obtain ⟨rfl, rfl⟩ := e
    exact ⟨Ow, .refl _ _, rs, by simp only [Reps]⟩
  | x :: xs, _, ds, Ow, Γ, Γ', rs, ⟨v, r, e0, h1, h2⟩, e => by
    subst e0
    simp only [fres] at e
    obtain ⟨⟨d, Γ1⟩, e1, e⟩ := Option.bind_eq_some_iff.mp e
    obtain ⟨⟨es, Γ2⟩, e2, e⟩ := Option.map_eq_some_iff.mp e
    simp only [Prod.mk.injEq] at e
    obtain ⟨rfl, rfl⟩ := e
    rw [← fre_dn] at e1
    obtain ⟨O1, s1, r1, p1⟩ := fre_ok rs h1 e1
    obtain ⟨O2, s2, r2, p2⟩ := fres_ok r1 (h2.step s1 r1) e2
    refine ⟨O2, s1.trans s2, r2, ?_⟩
    simp only [Reps]
    exact ⟨v, r, rfl, p1.step s2 r2, p2⟩
theorem datums_ok : ∀ {xs : List RV} {vs : List V} {ds : List D}, RS g Bn Ow H σ Γ → Vls g Bn Ow H σ Γ xs vs → datums Γ xs = some ds → Paired (fun d v => Rdb g (Av Bn Ow) H d v) ds vs
  | [], _, ds, rs, h, e => by
    have h : _ = [] := h
    subst h
    simp only [datums, Option.some.injEq] at e
    subst e
    exact .nil
  | x :: xs, _, ds, rs, ⟨v, r, e0, h1, h2⟩, e => by
    subst e0
    simp only [datums] at e
    obtain ⟨d, e1, e⟩ := Option.bind_eq_some_iff.mp e
    obtain ⟨es, e2, rfl⟩ := Option.map_eq_some_iff.mp e
    rw [← datum_dn] at e1
    exact .cons (h1.rdb rs e1) (datums_ok rs h2 e2)

theorem tR_one {x : RV} {Q : VK} (rs : RS g Bn Ow H σ Γ) (e1 : ev fs ia Γ = some (x, Γ1)) (k : ∀ v H1 Ow1, Stp Ow H Ow1 H1 → RS g Bn Ow1 H1 σ Γ1 → Val g Bn Ow1 H1 σ Γ1 x.dn v → Q v H1) : tR g fs ia σ H Q :=
  ⟨Bn, Ow, Γ, x, Γ1, rs, e1, fun v H' Ow' s r val => let ⟨O2, s2, r2, v2⟩ := dn_ok r val; k v H' O2 (s.trans s2) r2 v2⟩
theorem tR_two {x y : RV} {R : V → V → Hp → Prop} (rs : RS g Bn Ow H σ Γ) (e1 : ev fs ia Γ = some (x, Γ1)) (e2 : ev fs ib Γ1 = some (y, Γ2))
    (k : ∀ v w H2 Ow2, Stp Ow H Ow2 H2 → RS g Bn Ow2 H2 σ Γ2 → Val g Bn Ow2 H2 σ Γ2 x.dn v → Val g Bn Ow2 H2 σ Γ2 y.dn w → R v w H2) : tR g fs ia σ H fun v H1 => tR g fs ib σ H1 fun w H2 => R v w H2 :=
  tR_one rs e1 fun v H1 O1 s1 r1 v1 => tR_one r1 e2 fun w H2 O2 s2 r2 w2 => k v w H2 O2 (s1.trans s2) r2 (v1.step s2 r2) w2

/-! ### names, constants -/
theorem p_var {i : Nat} (h : PE X a (tVar i)) : PE X a (tR g fs (.var i)) := by
  refine PE.weak h ?_
  rintro σ H Q ⟨Bn, Ow, Γ, r, Γ', rs, he, hQ⟩
  simp only [ev] at he
  split at he
  · rename_i p q
    simp only [Option.some.injEq, Prod.mk.injEq] at he
    obtain ⟨rfl, rfl⟩ := he
    obtain ⟨d, b⟩ := p
    have : ∃ v, σ[i]? = some (some v) := by
      cases b with
      | false => obtain ⟨v, e, _⟩ := rs.slot i d q; exact ⟨v, e⟩
      | true => obtain ⟨v, e, _⟩ := rs.own i d q; exact ⟨_, e⟩
    obtain ⟨v, e⟩ := this
    exact ⟨v, e, hQ v H Ow (.refl _ _) rs e⟩
  · cases he
/-- a constant; what stands for it may lean on the written part -/
theorem p_cst {d : D} {v : V} (h : PE X a (tC v)) (hK : X.K = g.K) (k : ∀ A H, (∀ a, A a → g.K.lookup a = none) → Rep g A H d v) : PE X a (tR g fs (.cst d)) := by
  refine PE.weak h ?_
  rintro σ H Q ⟨Bn, Ow, Γ, r, Γ', rs, he, hQ⟩
  simp only [ev, Option.some.injEq, Prod.mk.injEq] at he
  obtain ⟨rfl, rfl⟩ := he
  exact hQ v H Ow (.refl _ _) rs (k _ H rs.kf)

/-! ### operators -/
theorem p_bin {op : BOp} (C : Cok0 g X) (ha : PE X a (tR g fs ia)) (hb : PE X b (tR g fs ib)) : PE X (.BinOp a (opOf op) b pos) (tR g fs (.bin op ia ib)) := by
  refine PE.weak (pe_op (op_bin C.K op) ha hb) ?_
  rintro σ H Q ⟨Bn, Ow, Γ, r, Γ', rs, he, hQ⟩
  simp only [ev] at he
  obtain ⟨⟨x, Γ1⟩, e1, he⟩ := Option.bind_eq_some_iff.mp he
  obtain ⟨⟨y, Γ2⟩, e2, he⟩ := Option.bind_eq_some_iff.mp he
  obtain ⟨d, ed, he⟩ := Option.bind_eq_some_iff.mp he
  obtain ⟨e, ee, he⟩ := Option.bind_eq_some_iff.mp he
  obtain ⟨r', hb, he⟩ := Option.map_eq_some_iff.mp he
  simp only [Prod.mk.injEq] at he
  obtain ⟨rfl, rfl⟩ := he
  rw [← datum_dn] at ed ee
  exact tR_two rs e1 e2 fun v w H2 O2 s2 r2 v2 w2 => ⟨Av Bn O2, d, e, _, v2.rdb r2 ed, w2.rdb r2 ee, r2.trk, hb, fun v' H' sm res => let ⟨O3, s3, r3, val⟩ := res.val r2 sm; hQ v' H' O3 (s2.trans s3) r3 val⟩
theorem p_neg (ha : PE X a (tR g fs ia)) : PE X (.UnaryOp .USub a pos) (tR g fs (.neg ia)) := by
  refine PE.weak (pe_un un_neg ha) ?_
  rintro σ H Q ⟨Bn, Ow, Γ, r, Γ', rs, he, hQ⟩
  simp only [ev] at he
  obtain ⟨⟨x, Γ1⟩, e1, he⟩ := Option.bind_eq_some_iff.mp he
  obtain ⟨d, ed, he⟩ := Option.bind_eq_some_iff.mp he
  rw [← datum_dn] at ed
  refine tR_one rs e1 fun v H1 O1 s1 r1 v1 => ?_
  have q := v1.rdb r1 ed
  cases d <;> simp only [reduceCtorEq, Option.some.injEq, Prod.mk.injEq] at he
  obtain ⟨rfl, rfl⟩ := he
  exact ⟨_, rdb_int q, hQ _ H1 O1 s1 r1 (by simp only [Val, Rep])⟩
theorem cmp_core {op : COp} {Q : VK} (rs : RS g Bn Ow H σ Γ) {r : RV} (he : ev fs (.cmp op ia ib) Γ = some (r, Γ')) (hQ : ∀ v H' Ow', Stp Ow H Ow' H' → RS g Bn Ow' H' σ Γ' → Val g Bn Ow' H' σ Γ' r v → Q v H') :
    tOp (rCmp g op) (tR g fs ia) (tR g fs ib) σ H Q := by
  simp only [ev] at he
  obtain ⟨⟨x, Γ1⟩, e1, he⟩ := Option.bind_eq_some_iff.mp he
  obtain ⟨⟨y, Γ2⟩, e2, he⟩ := Option.bind_eq_some_iff.mp he
  obtain ⟨d, ed, he⟩ := Option.bind_eq_some_iff.mp he
  obtain ⟨e, ee, he⟩ := Option.bind_eq_some_iff.mp he
  obtain ⟨r', hb, he⟩ := Option.map_eq_some_iff.mp he
  simp only [Prod.mk.injEq] at he
  obtain ⟨rfl, rfl⟩ := he
  rw [← datum_dn] at ed ee
  exact tR_two rs e1 e2 fun v w H2 O2 s2 r2 v2 w2 => ⟨Av Bn O2, d, e, r', v2.rdb r2 ed, w2.rdb r2 ee, hb, hQ _ H2 O2 s2 r2 (by simp only [Val, Rep])⟩
theorem p_cmp {op : COp} (C : Cok0 g X) (ha : PE X a (tR g fs ia)) (hb : PE X b (tR g fs ib)) (hm : behindInMarks (cmpOf op) b = false) : PE X (.Compare a [cmpOf op] [b] pos) (tR g fs (.cmp op ia ib)) := by
  refine PE.weak (pe_cmpR (op_cmp C.K C.hu op) ha hb hm) ?_
  rintro σ H Q ⟨Bn, Ow, Γ, r, Γ', rs, he, hQ⟩
  exact cmp_core rs he hQ
theorem t_cmp {op : COp} (C : Cok0 g X) (ha : PE X a (tR g fs ia)) (hb : PE X b (tR g fs ib)) (hm : behindInMarks (cmpOf op) b = false) : PT X (.Compare a [cmpOf op] [b] pos) (tT g fs (.cmp op ia ib)) := by
  refine PT.weak (pt_cmpR (op_cmp C.K C.hu op) ha hb hm) ?_
  rintro σ H Q ⟨Bn, Ow, Γ, r, Γ', t, rs, he, ht, hQ⟩
  refine cmp_core rs he fun v H1 O1 s1 r1 v1 => ?_
  simp only [ev] at he
  obtain ⟨⟨x, Γ1⟩, e1, he⟩ := Option.bind_eq_some_iff.mp he
  obtain ⟨⟨y, Γ2⟩, e2, he⟩ := Option.bind_eq_some_iff.mp he
  obtain ⟨d, ed, he⟩ := Option.bind_eq_some_iff.mp he
  obtain ⟨e, ee, he⟩ := Option.bind_eq_some_iff.mp he
  obtain ⟨r', hb, he⟩ := Option.map_eq_some_iff.mp he
  simp only [Prod.mk.injEq] at he
  obtain ⟨rfl, rfl⟩ := he
  simp only [testD, datum, Option.bind_some, truthD, Option.some.injEq] at ht
  subst ht
  simp only [Val, Rep] at v1
  exact ⟨r', v1, hQ H1 O1 s1 r1⟩
theorem chain_core {o1 o2 : COp} {Q : VK} (rs : RS g Bn Ow H σ Γ) {r : RV} (he : ev fs (.chain o1 o2 ia ib ic) Γ = some (r, Γ')) (hQ : ∀ v H' Ow' (k : Bool), Stp Ow H Ow' H' → RS g Bn Ow' H' σ Γ' → v = .bl k → r = .fz (.bl k) → Q v H') :
    tChain (rCmp g o1) (rCmp g o2) (tR g fs ia) (tR g fs ib) (tR g fs ic) σ H Q := by
  simp only [ev] at he
  obtain ⟨⟨x, Γ1⟩, e1, he⟩ := Option.bind_eq_some_iff.mp he
  obtain ⟨⟨y, Γ2⟩, e2, he⟩ := Option.bind_eq_some_iff.mp he
  obtain ⟨d, ed, he⟩ := Option.bind_eq_some_iff.mp he
  obtain ⟨e, ee, he⟩ := Option.bind_eq_some_iff.mp he
  obtain ⟨k, hb, he⟩ := Option.bind_eq_some_iff.mp he
  rw [← datum_dn] at ed ee
  refine tR_two rs e1 e2 fun v w H2 O2 s2 r2 v2 w2 => ⟨Av Bn O2, d, e, k, v2.rdb r2 ed, w2.rdb r2 ee, hb, k, rfl, ?_⟩
  cases k with
  | false =>
    simp only [Bool.false_eq_true, if_false, Option.some.injEq, Prod.mk.injEq] at he ⊢
    obtain ⟨rfl, rfl⟩ := he
    exact hQ _ H2 O2 false s2 r2 rfl rfl
  | true =>
    simp only [if_true] at he ⊢
    obtain ⟨⟨z, Γ3⟩, e3, he⟩ := Option.bind_eq_some_iff.mp he
    obtain ⟨e', ee', he⟩ := Option.bind_eq_some_iff.mp he
    obtain ⟨f, ef, he⟩ := Option.bind_eq_some_iff.mp he
    obtain ⟨k', hb', he⟩ := Option.map_eq_some_iff.mp he
    simp only [Prod.mk.injEq] at he
    obtain ⟨rfl, rfl⟩ := he
    rw [← datum_dn] at ee' ef
    exact tR_one r2 e3 fun u H3 O3 s3 r3 u3 => ⟨Av Bn O3, e', f, k', (w2.step s3 r3).rdb r3 ee', u3.rdb r3 ef, hb', hQ _ H3 O3 k' (s2.trans s3) r3 rfl rfl⟩
theorem p_chain {o1 o2 : COp} (C : Cok0 g X) (ha : PE X a (tR g fs ia)) (hb : PE X b (tR g fs ib)) (hc : PE X c (tR g fs ic)) (hm : lastMarks [cmpOf o1, cmpOf o2] [b, c] = false) : PE X (.Compare a [cmpOf o1, cmpOf o2] [b, c] pos) (tR g fs (.chain o1 o2 ia ib ic)) := by
  refine PE.weak (pe_chain (op_cmp C.K C.hu o1) (op_cmp C.K C.hu o2) ha hb hc hm) ?_
  rintro σ H Q ⟨Bn, Ow, Γ, r, Γ', rs, he, hQ⟩
  exact chain_core rs he fun v H1 O1 k s1 r1 e1 e2 => hQ v H1 O1 s1 r1 (by subst e1 e2; simp only [Val, Rep])

/-! ### truth -/
theorem truth_v {A : Addr → Prop} {d : D} {v : V} {k : Bool} (h : Rdb g A H d v) (e : truthD d = some k) : TruV g.K v H k := by
  cases d with
  | non => rw [rdb_non h]; simp only [truthD, Option.some.injEq] at e; exact e.symm
  | bl b => rw [rdb_bl h]; simp only [truthD, Option.some.injEq] at e; exact e.symm
  | int b => rw [rdb_int h]; simp only [truthD, Option.some.injEq] at e; exact e.symm
  | str b => rw [rdb_str h]; simp only [truthD, Option.ite_none_right_eq_some, Option.some.injEq] at e; exact ⟨e.1, e.2.symm⟩
  | lst ds =>
    obtain ⟨a, vs, rfl, e1, r⟩ := h
    simp only [truthD, Option.some.injEq] at e
    refine .inl ⟨vs, .inl (.inl e1), ?_⟩
    have l := r.len
    rw [← e]
    cases ds <;> cases vs <;> simp at l <;> rfl
  | tup ds =>
    obtain ⟨a, vs, rfl, _, e1, r⟩ := rdb_tup h
    simp only [truthD, Option.some.injEq] at e
    refine .inr (.inl ⟨vs, e1, ?_⟩)
    have l := r.len
    rw [← e]
    cases ds <;> cases vs <;> simp at l <;> rfl
  | obj => simp only [truthD, reduceCtorEq] at e
  | dct => simp only [truthD, reduceCtorEq] at e
  | dic _ _ => simp only [truthD, reduceCtorEq] at e
  | exc _ _ _ => simp only [truthD, reduceCtorEq] at e
  | err _ _ _ => simp only [truthD, reduceCtorEq] at e
  | ref _ => simp only [truthD, reduceCtorEq] at e
  | scr ns =>
    obtain ⟨a, rfl, _, e1⟩ := rdb_scr h
    simp only [truthD, Option.some.injEq] at e
    refine .inl ⟨_, e1, ?_⟩
    rw [← e]
    cases ns <;> rfl
theorem test_v {x : RV} {v : V} {k : Bool} (rs : RS g Bn Ow H σ Γ) (h : Val g Bn Ow H σ Γ x v) (e : testD Γ x = some k) : TruV g.K v H k := by
  unfold testD at e
  obtain ⟨d, e1, e2⟩ := Option.bind_eq_some_iff.mp e
  exact truth_v (h.rdb rs e1) e2
theorem t_val (C : Cok0 g X) (ha : PE X a (tR g fs ia)) (he : ∀ whole, isTrue a X.env whole = (do let v ← whole; standAt a.pos; holding [v] (truthy v))) : PT X a (tT g fs ia) := by
  refine PT.weak (pt_truth ha he) ?_
  rintro σ H Q ⟨Bn, Ow, Γ, r, Γ', t, rs, he, ht, hQ⟩
  exact ⟨Bn, Ow, Γ, r, Γ', rs, he, fun v H1 O1 s1 r1 v1 => ⟨t, by rw [C.K]; exact test_v r1 v1 ht, hQ H1 O1 s1 r1⟩⟩
theorem p_and {rest : List Expr} (C : Cok0 g X) (ha : PE X a (tR g fs ia)) (hb : PE X (.BoolOp .And (b :: rest) pos) (tR g fs ib)) : PE X (.BoolOp .And (a :: b :: rest) pos) (tR g fs (.and ia ib)) := by
  refine PE.weak (pe_andT ha hb) ?_
  rintro σ H Q ⟨Bn, Ow, Γ, r, Γ', rs, he, hQ⟩
  simp only [ev] at he
  obtain ⟨⟨x, Γ1⟩, e1, he⟩ := Option.bind_eq_some_iff.mp he
  obtain ⟨t, et, he⟩ := Option.bind_eq_some_iff.mp he
  refine ⟨Bn, Ow, Γ, x, Γ1, rs, e1, fun v H1 O1 s1 r1 v1 => ⟨t, by rw [C.K]; exact test_v r1 v1 et, ?_⟩⟩
  cases t with
  | false =>
    simp only [Bool.false_eq_true, if_false, Option.some.injEq, Prod.mk.injEq] at he ⊢
    obtain ⟨rfl, rfl⟩ := he
    exact hQ v H1 O1 s1 r1 v1
  | true =>
    simp only [if_true] at he ⊢
    exact ⟨Bn, O1, Γ1, r, Γ', r1, he, fun w H2 O2 s2 r2 w2 => hQ w H2 O2 (s1.trans s2) r2 w2⟩
theorem p_or {rest : List Expr} (C : Cok0 g X) (ha : PE X a (tR g fs ia)) (hb : PE X (.BoolOp .Or (b :: rest) pos) (tR g fs ib)) : PE X (.BoolOp .Or (a :: b :: rest) pos) (tR g fs (.or ia ib)) := by
  refine PE.weak (pe_orT ha hb) ?_
  rintro σ H Q ⟨Bn, Ow, Γ, r, Γ', rs, he, hQ⟩
  simp only [ev] at he
  obtain ⟨⟨x, Γ1⟩, e1, he⟩ := Option.bind_eq_some_iff.mp he
  obtain ⟨t, et, he⟩ := Option.bind_eq_some_iff.mp he
  refine ⟨Bn, Ow, Γ, x, Γ1, rs, e1, fun v H1 O1 s1 r1 v1 => ⟨t, by rw [C.K]; exact test_v r1 v1 et, ?_⟩⟩
  cases t with
  | true =>
    simp only [if_true, Option.some.injEq, Prod.mk.injEq] at he ⊢
    obtain ⟨rfl, rfl⟩ := he
    exact hQ v H1 O1 s1 r1 v1
  | false =>
    simp only [Bool.false_eq_true, if_false] at he ⊢
    exact ⟨Bn, O1, Γ1, r, Γ', r1, he, fun w H2 O2 s2 r2 w2 => hQ w H2 O2 (s1.trans s2) r2 w2⟩
theorem p_one {op} (ha : PE X a (tR g fs ia)) : PE X (.BoolOp op [a] pos) (tR g fs ia) := pe_one ha
theorem w_or1 (ha : PT X a (tT g fs ia)) : PW X (.BoolOp .Or [a] pos) (tT g fs ia) := pw_or1 ha
theorem PW.weak {e : Expr} {t t' : TT} (h : PW X e t) (k : ∀ σ H Q, t' σ H Q → t σ H Q) : PW X e t' := ⟨fun w pins s σ H Q I q => h.run w pins s σ H Q I (k σ H Q q)⟩
theorem w_or {rest : List Expr} (ha : PT X a (tT g fs ia)) (hb : PW X (.BoolOp .Or (b :: rest) pos) (tT g fs ib)) : PW X (.BoolOp .Or (a :: b :: rest) pos) (tT g fs (.or ia ib)) := by
  refine PW.weak (pw_or ha hb) ?_
  rintro σ H Q ⟨Bn, Ow, Γ, r, Γ', t', rs, he, ht, hQ⟩
  simp only [ev] at he
  obtain ⟨⟨x, Γ1⟩, e1, he⟩ := Option.bind_eq_some_iff.mp he
  obtain ⟨t, et, he⟩ := Option.bind_eq_some_iff.mp he
  refine ⟨Bn, Ow, Γ, x, Γ1, t, rs, e1, et, fun H1 O1 s1 r1 => ?_⟩
  cases t with
  | true =>
    simp only [if_true, Option.some.injEq, Prod.mk.injEq] at he ⊢
    obtain ⟨rfl, rfl⟩ := he
    rw [et] at ht; cases ht
    exact hQ H1 O1 s1 r1
  | false =>
    simp only [Bool.false_eq_true, if_false] at he ⊢
    exact ⟨Bn, O1, Γ1, r, Γ', t', r1, he, ht, fun H2 O2 s2 r2 => hQ H2 O2 (s1.trans s2) r2⟩
theorem p_not (C : Cok0 g X) (ha : PE X a (tR g fs ia)) : PE X (.UnaryOp .Not a pos) (tR g fs (.not ia)) := by
  refine PE.weak (pe_notT ha) ?_
  rintro σ H Q ⟨Bn, Ow, Γ, r, Γ', rs, he, hQ⟩
  simp only [ev] at he
  obtain ⟨⟨x, Γ1⟩, e1, he⟩ := Option.bind_eq_some_iff.mp he
  obtain ⟨t, et, he⟩ := Option.map_eq_some_iff.mp he
  simp only [Prod.mk.injEq] at he
  obtain ⟨rfl, rfl⟩ := he
  exact ⟨Bn, Ow, Γ, x, Γ1, rs, e1, fun v H1 O1 s1 r1 v1 => ⟨t, by rw [C.K]; exact test_v r1 v1 et, hQ _ H1 O1 s1 r1 (by simp only [Val, Rep])⟩⟩
theorem t_not (ha : PT X a (tT g fs ia)) : PT X (.UnaryOp .Not a pos) (tT g fs (.not ia)) := by
  refine PT.weak (pt_not ha) ?_
  rintro σ H Q ⟨Bn, Ow, Γ, r, Γ', t', rs, he, ht, hQ⟩
  simp only [ev] at he
  obtain ⟨⟨x, Γ1⟩, e1, he⟩ := Option.bind_eq_some_iff.mp he
  obtain ⟨t, et, he⟩ := Option.map_eq_some_iff.mp he
  simp only [Prod.mk.injEq] at he
  obtain ⟨rfl, rfl⟩ := he
  simp only [testD, datum, Option.bind_some, truthD, Option.some.injEq] at ht
  subst ht
  exact ⟨Bn, Ow, Γ, x, Γ1, t, rs, e1, et, fun H1 O1 s1 r1 => hQ H1 O1 s1 r1⟩
theorem p_ite (hc : PT X c (tT g fs ic)) (ha : PE X a (tR g fs ia)) (hb : PE X b (tR g fs ib)) : PE X (.IfExp c a b pos) (tR g fs (.ite ic ia ib)) := by
  refine PE.weak (pe_ifExp hc ha hb) ?_
  rintro σ H Q ⟨Bn, Ow, Γ, r, Γ', rs, he, hQ⟩
  simp only [ev] at he
  obtain ⟨⟨x, Γ1⟩, e1, he⟩ := Option.bind_eq_some_iff.mp he
  obtain ⟨t, et, he⟩ := Option.bind_eq_some_iff.mp he
  refine ⟨Bn, Ow, Γ, x, Γ1, t, rs, e1, et, fun H1 O1 s1 r1 => ?_⟩
  cases t with
  | true =>
    simp only [if_true] at he ⊢
    exact ⟨Bn, O1, Γ1, r, Γ', r1, he, fun w H2 O2 s2 r2 w2 => hQ w H2 O2 (s1.trans s2) r2 w2⟩
  | false =>
    simp only [Bool.false_eq_true, if_false] at he ⊢
    exact ⟨Bn, O1, Γ1, r, Γ', r1, he, fun w H2 O2 s2 r2 w2 => hQ w H2 O2 (s1.trans s2) r2 w2⟩

/-! ### argument lists, displays, subscripts -/
theorem a_nil : PA X [] (tAs g fs []) := by
  refine PA.weak pa_nil ?_
  rintro σ H Q ⟨Bn, Ow, Γ, xs, Γ', rs, he, hQ⟩
  simp only [evs, Option.some.injEq, Prod.mk.injEq] at he
  obtain ⟨rfl, rfl⟩ := he
  exact hQ [] H Ow (.refl _ _) rs rfl
theorem a_cons {es : List Expr} {ies : List E} (ha : PE X a (tR g fs ia)) (hr : PA X es (tAs g fs ies)) (hs : starEach (a :: es) X.env = (false, eval a X.env) :: starEach es X.env) : PA X (a :: es) (tAs g fs (ia :: ies)) := by
  refine PA.weak (pa_cons ha hr hs) ?_
  rintro σ H Q ⟨Bn, Ow, Γ, xs, Γ', rs, he, hQ⟩
  simp only [evs] at he
  obtain ⟨⟨x, Γ1⟩, e1, he⟩ := Option.bind_eq_some_iff.mp he
  obtain ⟨⟨ys, Γ2⟩, e2, he⟩ := Option.map_eq_some_iff.mp he
  simp only [Prod.mk.injEq] at he
  obtain ⟨rfl, rfl⟩ := he
  exact tR_one rs e1 fun v H1 O1 s1 r1 v1 => ⟨Bn, O1, Γ1, ys, Γ2, r1, e2, fun vs H2 O2 s2 r2 w2 => hQ (v :: vs) H2 O2 (s1.trans s2) r2 ⟨v, vs, rfl, v1.step s2 r2, w2⟩⟩
theorem p_tup {es : List Expr} {ies : List E} {k : Nat} (C : Cok0 g X) (h : PA X es (tAs g fs ies)) : PE X (.Tuple es k pos) (tR g fs (.tup ies)) := by
  refine PE.weak (PE.kf (pe_tup h)) ?_
  rintro σ H Q ⟨Bn, Ow, Γ, r, Γ', rs, he, hQ⟩
  simp only [ev] at he
  obtain ⟨⟨xs, Γ1⟩, e1, he⟩ := Option.bind_eq_some_iff.mp he
  obtain ⟨⟨ds, Γ2⟩, e2, he⟩ := Option.bind_eq_some_iff.mp he
  simp only [Option.ite_none_right_eq_some, Option.some.injEq, Prod.mk.injEq] at he
  obtain ⟨hz, rfl, rfl⟩ := he
  refine ⟨Bn, Ow, Γ, xs, Γ1, rs, e1, fun vs H1 O1 s1 r1 v1 => ?_⟩
  obtain ⟨O2, s2, r2, p2⟩ := fres_ok r1 v1 e2
  refine ⟨by rw [← p2.len]; exact hz, fun p np kf => ?_⟩
  obtain ⟨O3, s3, r3, val⟩ := (new_tup np r2.trk p2).val r2 (same_new np)
  exact hQ _ _ O3 ((s1.trans s2).trans s3) r3 val
theorem p_lst {es : List Expr} {ies : List E} (C : Cok0 g X) (h : PA X es (tAs g fs ies)) : PE X (.List es pos) (tR g fs (.lst ies)) := by
  refine PE.weak (PE.kf (pe_lst h)) ?_
  rintro σ H Q ⟨Bn, Ow, Γ, r, Γ', rs, he, hQ⟩
  simp only [ev] at he
  obtain ⟨⟨xs, Γ1⟩, e1, he⟩ := Option.bind_eq_some_iff.mp he
  obtain ⟨⟨ds, Γ2⟩, e2, he⟩ := Option.bind_eq_some_iff.mp he
  simp only [Option.ite_none_right_eq_some, Option.some.injEq, Prod.mk.injEq] at he
  obtain ⟨hz, rfl, rfl⟩ := he
  refine ⟨Bn, Ow, Γ, xs, Γ1, rs, e1, fun vs H1 O1 s1 r1 v1 => ?_⟩
  obtain ⟨O2, s2, r2, p2⟩ := fres_ok r1 v1 e2
  refine ⟨by rw [← p2.len]; exact hz, fun p np kf => ?_⟩
  have kf' : g.K.lookup p = none := by rw [← C.K]; exact kf_new kf upd_same
  obtain ⟨O3, s3, r3, val⟩ := (new_lst np kf' p2).val r2 (same_new np)
  exact hQ _ _ O3 ((s1.trans s2).trans s3) r3 val
theorem reps_at {A : Addr → Prop} {ds : List D} {vs : List V} {i : Int} {d : D} (h : Reps g A H ds vs) (e : atI ds i = some d) : ∃ v, atI vs i = some v ∧ Rep g A H d v := by
  unfold atI at e ⊢
  rw [← h.len]
  obtain ⟨j, e1, e2⟩ := Option.bind_eq_some_iff.mp e
  obtain ⟨v, e3, r⟩ := h.get e2
  exact ⟨v, by rw [e1]; exact e3, r⟩
theorem atI_map {α β : Type} {f : α → β} {xs : List α} {i : Int} {x : α} (e : atI xs i = some x) : atI (xs.map f) i = some (f x) := by
  unfold atI at e ⊢
  obtain ⟨j, e1, e2⟩ := Option.bind_eq_some_iff.mp e
  rw [List.length_map, e1]
  show (xs.map f)[j]? = _
  rw [List.getElem?_map, e2]
  rfl
theorem ix_core {A : Addr → Prop} {d e r : D} {v w : V} {Q : VK} (hv : Rdb g A H d v) (hw : Rdb g A H e w) (h : ixD d e = some r) (hQ : ∀ u, Rep g A H r u → Q u H) : rIx g.K v w H Q := by
  cases d <;> cases e <;> simp only [ixD, reduceCtorEq] at h
  · split at h
    · obtain ⟨c, e1, rfl⟩ := Option.map_eq_some_iff.mp h
      rename_i hz
      exact .inr (.inr ⟨_, _, c, rdb_str hv, rdb_int hw, hz, e1, hQ _ (by simp only [Rep])⟩)
    · cases h
  · obtain ⟨a, vs, rfl, e1, r1⟩ := hv
    obtain ⟨u, eu, ru⟩ := reps_at r1 h
    exact .inl ⟨a, vs, _, u, rfl, rdb_int hw, .inl (.inl e1), eu, hQ _ ru⟩
  · obtain ⟨a, vs, rfl, _, e1, r1⟩ := rdb_tup hv
    obtain ⟨u, eu, ru⟩ := reps_at r1 h
    exact .inr (.inl ⟨a, vs, _, u, rfl, rdb_int hw, e1, eu, hQ _ ru⟩)
  · obtain ⟨a, rfl, _, e1⟩ := rdb_scr hv
    obtain ⟨i, e2, rfl⟩ := Option.map_eq_some_iff.mp h
    exact .inl ⟨a, _, _, _, rfl, rdb_int hw, e1, atI_map e2, hQ _ (by simp only [Rep])⟩
theorem p_ix (C : Cok0 g X) (ha : PE X a (tR g fs ia)) (hb : PE X b (tR g fs ib)) (hs : PlainIx b) : PE X (.Subscript a b pos) (tR g fs (.ix ia ib)) := by
  refine PE.weak (pe_ix ix_seq ha hb hs) ?_
  rintro σ H Q ⟨Bn, Ow, Γ, r, Γ', rs, he, hQ⟩
  simp only [ev] at he
  obtain ⟨⟨x, Γ1⟩, e1, he⟩ := Option.bind_eq_some_iff.mp he
  obtain ⟨⟨y, Γ2⟩, e2, he⟩ := Option.bind_eq_some_iff.mp he
  obtain ⟨d, ed, he⟩ := Option.bind_eq_some_iff.mp he
  obtain ⟨e, ee, he⟩ := Option.bind_eq_some_iff.mp he
  obtain ⟨r', hb, he⟩ := Option.map_eq_some_iff.mp he
  simp only [Prod.mk.injEq] at he
  obtain ⟨rfl, rfl⟩ := he
  rw [← datum_dn] at ed ee
  refine tR_two rs e1 e2 fun v w H2 O2 s2 r2 v2 w2 => ?_
  rw [C.K]
  exact ix_core (v2.rdb r2 ed) (w2.rdb r2 ee) hb fun u ru => hQ u H2 O2 s2 r2 ru
theorem reps_cut {A : Addr → Prop} {ds : List D} {vs : List V} (lo hi : Option Int) (h : Reps g A H ds vs) : Reps g A H (cutD ds lo hi) (cutV vs lo hi) := by
  unfold cutD cutV
  rw [h.len]
  exact (h.drop _).take _
theorem reps_ints {A : Addr → Prop} : ∀ ns : List Int, Reps g A H (ns.map D.int) (ns.map V.int)
  | [] => by simp only [List.map_nil, Reps]
  | n :: ns => by
    simp only [List.map_cons, Reps]
    exact ⟨_, _, rfl, by simp only [Rep], reps_ints ns⟩
theorem slc_core {A : Addr → Prop} {d : D} {r : RV} {v : V} {lo hi : Option Int} {Q : VK} (hv : Rdb g A H d v) (tr : ∀ a, A a → H a ≠ none) (h : slcD d lo hi = some r) (hQ : ∀ u H', Same H H' → ((∀ a o, g.K.lookup a = some o → H' a = none) → Res g A H H' r u) → Q u H') :
    rSlL g.K v lo hi H Q ∨ rSlT g.K v lo hi H Q := by
  cases d <;> simp only [slcD, reduceCtorEq, Option.some.injEq, Option.ite_none_left_eq_some] at h
  · subst h
    obtain ⟨a, vs, rfl, e1, r1⟩ := hv
    exact .inl ⟨a, vs, rfl, .inl (.inl e1), fun p np => hQ _ _ (same_new np) fun kf => new_lst np (kf_new kf upd_same) (reps_cut lo hi r1)⟩
  · obtain ⟨hz, rfl⟩ := h
    obtain ⟨a, vs, rfl, _, e1, r1⟩ := rdb_tup hv
    refine .inr ⟨a, vs, rfl, e1, by rw [← r1.len]; exact hz, fun p np => hQ _ _ (same_new np) fun kf => new_tup np tr (reps_cut lo hi r1)⟩
  · subst h
    obtain ⟨a, rfl, _, e1⟩ := rdb_scr hv
    exact .inl ⟨a, _, rfl, e1, fun p np => hQ _ _ (same_new np) fun kf => new_lst np (kf_new kf upd_same) (reps_cut lo hi (reps_ints _))⟩
structure Part (g : Gx) (fs : List FS) (X : Cx) (e : Option Expr) (ies : List E) : Prop where
  run : (e = none ∧ ies = []) ∨ ∃ a ia, e = some a ∧ ies = [ia] ∧ PE X a (tR g fs ia)
theorem p_slc {lo hi : Option Expr} {il ih : List E} {p2 : Pos} (C : Cok0 g X) (ha : PE X a (tR g fs ia)) (hl : Part g fs X lo il) (hh : Part g fs X hi ih) : PE X (.Subscript a (.Slice lo hi none p2) pos) (tR g fs (.slc ia il ih)) := by
  -- the reading of a part
  have part : ∀ {e : Option Expr} {ies : List E}, Part g fs X e ies → ∃ t, PO X e t ∧ ∀ {Bn Ow Γ xs Γ' ds o σ H} {Q : Option Int → Hp → Prop}, RS g Bn Ow H σ Γ → evs fs ies Γ = some (xs, Γ') → datums Γ' xs = some ds → slO ds = some o →
      (∀ H' Ow', Stp Ow H Ow' H' → RS g Bn Ow' H' σ Γ' → Q o H') → t σ H Q := by
    intro e ies h
    rcases h.run with ⟨rfl, rfl⟩ | ⟨b, ib, rfl, rfl, hb⟩
    · refine ⟨_, po_none, fun {Bn Ow Γ xs Γ' ds o σ H Q} rs e1 e2 e3 k => ?_⟩
      simp only [evs, Option.some.injEq, Prod.mk.injEq] at e1
      obtain ⟨rfl, rfl⟩ := e1
      simp only [datums, Option.some.injEq] at e2
      subst e2
      simp only [slO, Option.some.injEq] at e3
      subst e3
      exact k H Ow (.refl _ _) rs
    · refine ⟨_, po_some hb, fun {Bn Ow Γ xs Γ' ds o σ H Q} rs e1 e2 e3 k => ?_⟩
      simp only [evs] at e1
      obtain ⟨⟨x, Γ1⟩, e4, e1⟩ := Option.bind_eq_some_iff.mp e1
      simp only [Option.map_some, Option.some.injEq, Prod.mk.injEq] at e1
      obtain ⟨rfl, rfl⟩ := e1
      simp only [datums] at e2
      obtain ⟨d, e5, e2⟩ := Option.bind_eq_some_iff.mp e2
      simp only [Option.map_some, Option.some.injEq] at e2
      subst e2
      rw [← datum_dn] at e5
      refine tR_one rs e4 fun v H1 O1 s1 r1 v1 => ?_
      have q := v1.rdb r1 e5
      cases d <;> simp only [slO, reduceCtorEq, Option.some.injEq] at e3
      subst e3
      exact ⟨_, rdb_int q, k H1 O1 s1 r1⟩
  obtain ⟨tl, pl, kl⟩ := part hl
  obtain ⟨th, ph, kh⟩ := part hh
  refine PE.weak (PE.kf (pe_slice (sl_list.or sl_tup) ha pl ph)) ?_
  rintro σ H Q ⟨Bn, Ow, Γ, r, Γ', rs, he, hQ⟩
  simp only [ev] at he
  obtain ⟨⟨x, Γ1⟩, e1, he⟩ := Option.bind_eq_some_iff.mp he
  obtain ⟨⟨ys, Γ2⟩, e2, he⟩ := Option.bind_eq_some_iff.mp he
  obtain ⟨l, el, he⟩ := Option.bind_eq_some_iff.mp he
  obtain ⟨⟨zs, Γ3⟩, e3, he⟩ := Option.bind_eq_some_iff.mp he
  obtain ⟨d, ed, he⟩ := Option.bind_eq_some_iff.mp he
  obtain ⟨h, eh, he⟩ := Option.bind_eq_some_iff.mp he
  obtain ⟨lo', el', he⟩ := Option.bind_eq_some_iff.mp he
  obtain ⟨hi', eh', he⟩ := Option.bind_eq_some_iff.mp he
  obtain ⟨r', hb, he⟩ := Option.map_eq_some_iff.mp he
  simp only [Prod.mk.injEq] at he
  obtain ⟨rfl, rfl⟩ := he
  rw [← datum_dn] at ed
  refine tR_one rs e1 fun v H1 O1 s1 r1 v1 => kl r1 e2 el el' fun H2 O2 s2 r2 => kh r2 e3 eh eh' fun H3 O3 s3 r3 => ?_
  rw [C.K]
  have v3 := ((v1.step s2 r2).step s3 r3).rdb r3 ed
  refine slc_core v3 r3.trk hb fun u H' sm kr kf => ?_
  obtain ⟨O4, s4, r4, val⟩ := (kr kf).val r3 sm
  exact hQ u H' O4 (((s1.trans s2).trans s3).trans s4) r4 val
end
end DV

namespace DV
open PySem L2
/-! ### built-ins on data -/
def rBi (g : Gx) (b : Bi) : List V → Hp → VK → Prop := fun vs H Q => ∃ A ds r, Paired (fun d v => Rdb g A H d v) ds vs ∧ (∀ a, A a → H a ≠ none) ∧ biD b ds = some r ∧ ∀ v H', Same H H' → Res g A H H' r v → Q v H'
section
variable {X : Cx} {g : Gx} {A : Addr → Prop} {H : Hp}
theorem bls_of : ∀ {ds : List D} {vs : List V} {ns : List Bool}, Reps g A H ds vs → blsD ds = some ns → vs = ns.map V.bl
  | [], _, ns, h, e => by simp only [Reps] at h; simp only [blsD, Option.some.injEq] at e; subst h e; rfl
  | d :: ds, _, ns, h, e => by
    simp only [Reps] at h
    obtain ⟨v, r, rfl, h1, h2⟩ := h
    cases d <;> simp only [blsD, reduceCtorEq] at e
    obtain ⟨ms, e1, rfl⟩ := Option.map_eq_some_iff.mp e
    simp only [Rep] at h1
    rw [List.map_cons, h1, bls_of h2 e1]
theorem bi1 {b : Bi} {f : Value} {r : List V → Hp → VK → Prop} (hK : X.K = g.K) (h : CallR X f r)
    (k : ∀ (A : Addr → Prop) (H : Hp) (ds : List D) (vs : List V) (x : RV) (Q : VK), Paired (fun d v => Rdb g A H d v) ds vs → (∀ a, A a → H a ≠ none) → biD b ds = some x → (∀ v H', Same H H' → ((∀ a o, g.K.lookup a = some o → H' a = none) → Res g A H H' x v) → Q v H') → r vs H Q) : CallR X f (rBi g b) := by
  refine CallR.weak (CallR.kf h) ?_
  rintro vs H Q ⟨A, ds, x, hp, tr, hb, hQ⟩
  exact k A H ds vs x _ hp tr hb fun v H' sm kr kf => hQ v H' sm (kr fun a o e => kf a o (by rw [hK]; exact e))
theorem paired1 {x : D} {vs : List V} (h : Paired (fun d v => Rdb g A H d v) [x] vs) : ∃ v, vs = [v] ∧ Rdb g A H x v := by
  cases h with
  | cons a b => cases b; exact ⟨_, rfl, a⟩
theorem paired2 {x y : D} {vs : List V} (h : Paired (fun d v => Rdb g A H d v) [x, y] vs) : ∃ v w, vs = [v, w] ∧ Rdb g A H x v ∧ Rdb g A H y w := by
  cases h with
  | cons a b =>
    cases b with
    | cons c d => cases d; exact ⟨_, _, rfl, a, c⟩
theorem b_len (hK : X.K = g.K) : CallR X (.builtin "len") (rBi g .len) := by
  refine bi1 hK call_len ?_
  intro A H ds vs x Q hp tr hb hQ
  rw [hK]
  match ds, hb with
  | [.lst xs], hb =>
    simp only [biD, Option.some.injEq] at hb; subst hb
    obtain ⟨v, rfl, q⟩ := paired1 hp
    obtain ⟨a, ws, rfl, e1, r1⟩ := q
    exact ⟨_, ws.length, rfl, .inl ⟨ws, .inl (.inl e1), rfl⟩, hQ _ H (same_rfl H) fun _ => by simp only [Res, Rep, r1.len]⟩
  | [.tup xs], hb =>
    simp only [biD, Option.some.injEq] at hb; subst hb
    obtain ⟨v, rfl, q⟩ := paired1 hp
    obtain ⟨a, ws, rfl, _, e1, r1⟩ := rdb_tup q
    exact ⟨_, ws.length, rfl, .inr ⟨ws, e1, rfl⟩, hQ _ H (same_rfl H) fun _ => by simp only [Res, Rep, r1.len]⟩
  | [.scr ns], hb =>
    simp only [biD, Option.some.injEq] at hb; subst hb
    obtain ⟨v, rfl, q⟩ := paired1 hp
    obtain ⟨a, rfl, _, e1⟩ := rdb_scr q
    exact ⟨_, _, rfl, .inl ⟨_, e1, rfl⟩, hQ _ H (same_rfl H) fun _ => by simp only [Res, Rep, List.length_map]⟩
  | [.str s], hb =>
    simp only [biD, Option.ite_none_right_eq_some, Option.some.injEq] at hb
    obtain ⟨hz, rfl⟩ := hb
    obtain ⟨v, rfl, q⟩ := paired1 hp
    exact ⟨_, s.length, rfl, by rw [rdb_str q]; exact ⟨hz, rfl⟩, hQ _ H (same_rfl H) fun _ => by simp only [Res, Rep]⟩
theorem b_int (hK : X.K = g.K) : CallR X (.type "int") (rBi g .int1) := by
  refine bi1 hK call_int1 ?_
  intro A H ds vs x Q hp tr hb hQ
  match ds, hb with
  | [.int i], hb =>
    simp only [biD, Option.some.injEq] at hb; subst hb
    obtain ⟨v, rfl, q⟩ := paired1 hp
    exact .inl ⟨i, by rw [rdb_int q], hQ _ H (same_rfl H) fun _ => by simp only [Res, Rep]⟩
  | [.bl i], hb =>
    simp only [biD, Option.some.injEq] at hb; subst hb
    obtain ⟨v, rfl, q⟩ := paired1 hp
    exact .inr ⟨i, by rw [rdb_bl q], hQ _ H (same_rfl H) fun _ => by simp only [Res, Rep]⟩
theorem b_alll (C : Cok g X) : CallR X (.builtin "all") (rBi g .alll) := by
  refine bi1 C.K (cr_all C.calm) ?_
  intro A H ds vs x Q hp tr hb hQ
  match ds, hb with
  | [.lst xs], hb =>
    simp only [biD] at hb
    obtain ⟨ns, e1, rfl⟩ := Option.map_eq_some_iff.mp hb
    obtain ⟨v, rfl, q⟩ := paired1 hp
    obtain ⟨a, ws, rfl, e3, r1⟩ := q
    rw [bls_of r1 e1] at e3
    exact ⟨a, ns, rfl, .inl (.inl e3), hQ _ H (same_rfl H) fun _ => by simp only [Res, Rep]⟩
theorem b_list (hK : X.K = g.K) : CallR X (.type "list") (rBi g .list) := by
  refine bi1 hK call_list_of ?_
  intro A H ds vs x Q hp tr hb hQ
  rw [hK]
  match ds, hb with
  | [.lst xs], hb =>
    simp only [biD, Option.some.injEq] at hb; subst hb
    obtain ⟨v, rfl, q⟩ := paired1 hp
    obtain ⟨a, ws, rfl, e1, r1⟩ := q
    exact ⟨a, ws, rfl, .inl (.inl (.inl e1)), fun p np => hQ _ _ (same_new np) fun kf => new_lst np (kf_new kf upd_same) r1⟩
  | [.tup xs], hb =>
    simp only [biD, Option.some.injEq] at hb; subst hb
    obtain ⟨v, rfl, q⟩ := paired1 hp
    obtain ⟨a, ws, rfl, _, e1, r1⟩ := rdb_tup q
    exact ⟨a, ws, rfl, .inr e1, fun p np => hQ _ _ (same_new np) fun kf => new_lst np (kf_new kf upd_same) r1⟩
theorem b_tuple (hK : X.K = g.K) : CallR X (.type "tuple") (rBi g .tuple) := by
  refine bi1 hK call_tuple_of ?_
  intro A H ds vs x Q hp tr hb hQ
  rw [hK]
  match ds, hb with
  | [.lst xs], hb =>
    simp only [biD, Option.some.injEq] at hb; subst hb
    obtain ⟨v, rfl, q⟩ := paired1 hp
    obtain ⟨a, ws, rfl, e1, r1⟩ := q
    exact ⟨a, ws, rfl, .inl ⟨.inl (.inl e1), fun p np => hQ _ _ (same_new np) fun kf => new_tup np tr r1⟩⟩
  | [.tup xs], hb =>
    simp only [biD, Option.some.injEq] at hb; subst hb
    obtain ⟨v, rfl, q⟩ := paired1 hp
    have q0 := q
    obtain ⟨a, ws, rfl, _, e1, r1⟩ := rdb_tup q
    exact ⟨a, ws, rfl, .inr ⟨e1, hQ _ H (same_rfl H) fun _ => q0⟩⟩
def tyN : Ty → String
  | .int => "int" | .bool => "bool" | .str => "str" | .list => "list" | .tuple => "tuple"
/-- isinstance(x, T): the reading of the two arguments -/
theorem isi_core {t : Ty} {d : D} {v : V} {Q : VK} (hs : shallow d = true) (h : Rdb g A H d v) (hQ : Q (.bl (isiD t d)) H) : rIsi g.K [v, .ty (tyN t)] H Q := by
  cases d with
  | obj => simp [shallow] at hs
  | exc => simp [shallow] at hs
  | err => simp [shallow] at hs
  | ref => simp [shallow] at hs
  | scr => simp [shallow] at hs
  | dct =>
    obtain ⟨a, rfl, _, e1⟩ := rdb_dct h
    exact ⟨_, _, _, _, isiD t .dct, rfl, .ty _, .base (.dK e1), kit_ty (by cases t <;> (simp only [isiD, tyN]; decide +kernel)), hQ⟩
  | dic ks ds =>
    obtain ⟨a, vs, rfl, _, _, e1, _⟩ := rdb_dic h
    exact ⟨_, _, _, _, isiD t (.dic ks ds), rfl, .ty _, .base (.dK e1), kit_ty (by cases t <;> (simp only [isiD, tyN]; decide +kernel)), hQ⟩
  | non => rw [rdb_non h]; exact ⟨_, _, _, _, isiD t .non, rfl, .ty _, .base .non, kit_ty (by cases t <;> decide +kernel), hQ⟩
  | bl b => rw [rdb_bl h]; exact ⟨_, _, _, _, isiD t (.bl b), rfl, .ty _, .base (.bl b), kit_ty (by cases t <;> (simp only [isiD, tyN]; decide +kernel)), hQ⟩
  | int b => rw [rdb_int h]; exact ⟨_, _, _, _, isiD t (.int b), rfl, .ty _, .base (.int b), kit_ty (by cases t <;> (simp only [isiD, tyN]; decide +kernel)), hQ⟩
  | str b => rw [rdb_str h]; exact ⟨_, _, _, _, isiD t (.str b), rfl, .ty _, .base (.str b), kit_ty (by cases t <;> (simp only [isiD, tyN]; decide +kernel)), hQ⟩
  | lst b =>
    obtain ⟨a, ws, rfl, e1, r1⟩ := h
    exact ⟨_, _, _, _, isiD t (.lst b), rfl, .ty _, .base (.lst e1), kit_ty (by cases t <;> (simp only [isiD, tyN]; decide +kernel)), hQ⟩
  | tup b =>
    obtain ⟨a, ws, rfl, _, e1, r1⟩ := rdb_tup h
    have k : PySem.W.kitOne g.K (.type "tuple") (.type (tyN t)) = some (isiD t (.tup b)) := kit_ty (by cases t <;> (simp only [isiD, tyN]; decide +kernel))
    rcases e1 with (e1 | ⟨o, e1⟩) | ⟨o, its, n, e1, e2, _⟩
    · exact ⟨_, _, _, _, _, rfl, .ty _, .base (.tup e1), k, hQ⟩
    · exact ⟨_, _, _, _, _, rfl, .ty _, .fTuple e1, k, hQ⟩
    · exact ⟨_, _, _, _, _, rfl, .ty _, .kTuple e1 e2, k, hQ⟩
end
section
variable {X : Cx} {g : Gx} {fs : List FS} {e : Expr} {es : List Expr} {ies : List E} {x : Str} {id T : String} {b : Bi} {p pos : Pos}
theorem bi_core {Bn : Addr → Prop} {Ow : List Addr} {H : Hp} {σ : St} {Γ Γ' : Ct} {r : RV} {Q : VK} (rs : RS g Bn Ow H σ Γ) (he : ev fs (.bi b ies) Γ = some (r, Γ')) (hQ : ∀ v H' Ow', Stp Ow H Ow' H' → RS g Bn Ow' H' σ Γ' → Val g Bn Ow' H' σ Γ' r v → Q v H') :
    tCB (rBi g b) (tAs g fs ies) σ H Q := by
  simp only [ev] at he
  obtain ⟨⟨xs, Γ1⟩, e1, he⟩ := Option.bind_eq_some_iff.mp he
  obtain ⟨ds, e2, he⟩ := Option.bind_eq_some_iff.mp he
  obtain ⟨r', e3, he⟩ := Option.map_eq_some_iff.mp he
  simp only [Prod.mk.injEq] at he
  obtain ⟨rfl, rfl⟩ := he
  refine ⟨Bn, Ow, Γ, xs, Γ1, rs, e1, fun vs H1 O1 s1 r1 v1 => ?_⟩
  exact ⟨Av Bn O1, ds, _, datums_ok r1 v1 e2, r1.trk, e3, fun v H' sm res => let ⟨O3, s3, r3, val⟩ := res.val r1 sm; hQ v H' O3 (s1.trans s3) r3 val⟩
theorem p_biB (hc : CallR X (.builtin id) (rBi g b)) (hg : Gl X x) (hm : X.mg x = none) (hv : bootBuiltins x = some (.builtin id)) (ha : PA X (e :: es) (tAs g fs ies)) (hn : x ≠ "__name__") (hdb : (x == ("__debug__" : Str)) = false)
    (he : starEach (e :: es) X.env = (false, eval e X.env) :: starEach es X.env) (hpl : (backTo pos (starEach es X.env)).any (·.1) = false) : PE X (.Call (.Name x p) (e :: es) [] pos) (tR g fs (.bi b ies)) := by
  refine PE.weak (pe_callB hc hg hm hv ha hn hdb he hpl) ?_
  rintro σ H Q ⟨Bn, Ow, Γ, r, Γ', rs, he, hQ⟩
  exact bi_core rs he hQ
theorem p_biT (hc : CallR X (.type T) (rBi g b)) (hg : Gl X x) (hm : X.mg x = none) (hv : bootBuiltins x = some (.type T)) (ha : PA X (e :: es) (tAs g fs ies)) (hn : x ≠ "__name__") (hdb : (x == ("__debug__" : Str)) = false)
    (he : starEach (e :: es) X.env = (false, eval e X.env) :: starEach es X.env) (hpl : (backTo pos (starEach es X.env)).any (·.1) = false) : PE X (.Call (.Name x p) (e :: es) [] pos) (tR g fs (.bi b ies)) := by
  refine PE.weak (pe_callTy hc hg hm hv ha hn hdb he hpl) ?_
  rintro σ H Q ⟨Bn, Ow, Γ, r, Γ', rs, he, hQ⟩
  exact bi_core rs he hQ
theorem p_isi {a : Expr} {ia : E} {t : Ty} {y : Str} {p2 : Pos} (C : Cok0 g X) (ha : PE X a (tR g fs ia)) (hy : PE X (.Name y p2) (tC (.ty (tyN t)))) (hg : Gl X "isinstance") (hm : X.mg "isinstance" = none)
    (he : starEach (a :: [.Name y p2]) X.env = (false, eval a X.env) :: starEach [.Name y p2] X.env) (hpl : (backTo pos (starEach [.Name y p2] X.env)).any (·.1) = false) : PE X (.Call (.Name "isinstance" p) [a, .Name y p2] [] pos) (tR g fs (.bi (.isi t) [ia])) := by
  refine PE.weak (pe_callB call_isi hg hm PyProof.Rows.boot_isinstance (pa_cons ha (pa_cons hy pa_nil rfl) he) (by decide) (by decide) he hpl) ?_
  rintro σ H Q ⟨Bn, Ow, Γ, r, Γ', rs, he, hQ⟩
  simp only [ev, evs] at he
  obtain ⟨⟨xs, Γ1⟩, e1, he⟩ := Option.bind_eq_some_iff.mp he
  obtain ⟨⟨x, Γ2⟩, e2, e1⟩ := Option.bind_eq_some_iff.mp e1
  simp only [Option.map_some, Option.some.injEq, Prod.mk.injEq] at e1
  obtain ⟨rfl, rfl⟩ := e1
  obtain ⟨ds, e3, he⟩ := Option.bind_eq_some_iff.mp he
  obtain ⟨r', e4, he⟩ := Option.map_eq_some_iff.mp he
  simp only [Prod.mk.injEq] at he
  obtain ⟨rfl, rfl⟩ := he
  simp only [datums] at e3
  obtain ⟨d, e5, e3⟩ := Option.bind_eq_some_iff.mp e3
  simp only [Option.map_some, Option.some.injEq] at e3
  subst e3
  simp only [biD, Option.ite_none_right_eq_some, Option.some.injEq] at e4
  obtain ⟨hs, rfl⟩ := e4
  rw [← datum_dn] at e5
  refine tR_one rs e2 fun v H1 O1 s1 r1 v1 => ?_
  show rIsi X.K [v, .ty (tyN t)] H1 Q
  rw [C.K]
  exact isi_core hs (v1.rdb r1 e5) (hQ _ H1 O1 s1 r1 (by simp only [Val, Rep]))
end
end DV

namespace DV
open PySem L2
/-- the promise of a def by what it does to data -/
def spF (g : Gx) (n : Nat) (F : FS) : Sp := fun vs H Q _ => vs.length = n ∧ ∃ Bn Ow Γ r os, RS g Bn Ow H (vs.map some) Γ ∧ F Γ = some (r, os) ∧ (∀ i, r ≠ .sl i) ∧
  ∀ v H' Ow', Stp Ow H Ow' H' → RS g Bn Ow' H' (vs.map some) os → Val g Bn Ow' H' (vs.map some) os r v → Q v H'
/-- the same, what is wished told by the result -/
def spG (g : Gx) (n : Nat) (F : FS) (R : RV → VK) (vs : List V) (H : Hp) : Prop := vs.length = n ∧ ∃ Bn Ow Γ r os, RS g Bn Ow H (vs.map some) Γ ∧ F Γ = some (r, os) ∧ (∀ i, r ≠ .sl i) ∧
  ∀ v H' Ow', Stp Ow H Ow' H' → RS g Bn Ow' H' (vs.map some) os → Val g Bn Ow' H' (vs.map some) os r v → R r v H'
def OwS (Γ : Ct) (j : Nat) : Prop := ∃ d, Γ[j]? = some (some (d, true))
theorem ownIx_mem {Γ : Ct} {j : Nat} : ∀ {xs : List RV}, j ∈ ownIx Γ xs ↔ .sl j ∈ xs ∧ OwS Γ j
  | [] => by simp [ownIx]
  | x :: xs => by
    have ih := @ownIx_mem Γ j xs
    cases x with
    | fz d => simp only [ownIx, List.mem_cons, reduceCtorEq, false_or]; exact ih
    | nw d => simp only [ownIx, List.mem_cons, reduceCtorEq, false_or]; exact ih
    | sl i =>
      simp only [ownIx]
      split
      · rename_i d q
        simp only [List.mem_cons, RV.sl.injEq]
        constructor
        · rintro (h | h)
          · subst h; exact ⟨.inl rfl, d, q⟩
          · exact ⟨.inr (ih.mp h).1, (ih.mp h).2⟩
        · rintro ⟨h | h, o⟩
          · exact .inl h
          · exact .inr (ih.mpr ⟨h, o⟩)
      · rename_i q
        simp only [List.mem_cons, RV.sl.injEq]
        rw [ih]
        constructor
        · rintro ⟨h, o⟩; exact ⟨.inr h, o⟩
        · rintro ⟨h | h, o⟩
          · subst h; obtain ⟨d, o⟩ := o; exact absurd o (q d)
          · exact ⟨h, o⟩
theorem nodupB_cons {x : Nat} {xs : List Nat} (h : nodupB (x :: xs) = true) : x ∉ xs ∧ nodupB xs = true := by
  simp only [nodupB, Bool.and_eq_true, Bool.not_eq_true', List.contains_eq_mem, decide_eq_false_iff_not] at h
  exact h
theorem ownIx_tail {Γ : Ct} {x : RV} {xs : List RV} (h : nodupB (ownIx Γ (x :: xs)) = true) : nodupB (ownIx Γ xs) = true := by
  cases x with
  | fz d => exact h
  | nw d => exact h
  | sl i =>
    simp only [ownIx] at h
    split at h
    · exact (nodupB_cons h).2
    · exact h
theorem ownIx_head {Γ : Ct} {j : Nat} {xs : List RV} (h : nodupB (ownIx Γ (.sl j :: xs)) = true) (o : OwS Γ j) : .sl j ∉ xs := fun z => by
  obtain ⟨d, o⟩ := o
  simp only [ownIx, o] at h
  exact (nodupB_cons h).1 (ownIx_mem.mpr ⟨z, d, o⟩)
theorem own_uniq {Γ : Ct} {j : Nat} (o : OwS Γ j) : ∀ {xs : List RV} {i k : Nat}, nodupB (ownIx Γ xs) = true → xs[i]? = some (.sl j) → xs[k]? = some (.sl j) → i = k
  | [], i, k, _, h, _ => by simp at h
  | x :: xs, 0, 0, _, _, _ => rfl
  | x :: xs, 0, k + 1, n, h1, h2 => by
    simp at h1; subst h1
    exact absurd (List.mem_of_getElem? (by simpa using h2)) (ownIx_head n o)
  | x :: xs, i + 1, 0, n, h1, h2 => by
    simp at h2; subst h2
    exact absurd (List.mem_of_getElem? (by simpa using h1)) (ownIx_head n o)
  | x :: xs, i + 1, k + 1, n, h1, h2 => by
    have := own_uniq o (i := i) (k := k) (ownIx_tail n) (by simpa using h1) (by simpa using h2)
    omega
theorem put_len {Γ0 : Ct} : ∀ {xs : List RV} {os Γ : Ct}, (putOuts Γ0 xs os Γ).length = Γ.length
  | [], os, Γ => by cases os <;> simp [putOuts]
  | x :: xs, [], Γ => by cases x <;> simp [putOuts]
  | x :: xs, o :: os, Γ => by
    cases x with
    | fz d => simp only [putOuts]; exact put_len
    | nw d => simp only [putOuts]; exact put_len
    | sl i =>
      simp only [putOuts]
      split
      · rw [put_len, List.length_set]
      · exact put_len
theorem put_miss {Γ0 : Ct} {j : Nat} : ∀ {xs : List RV} {os Γ : Ct}, (∀ i : Nat, xs[i]? = some (.sl j) → ¬ OwS Γ0 j) → (putOuts Γ0 xs os Γ)[j]? = Γ[j]?
  | [], os, Γ, _ => by cases os <;> simp [putOuts]
  | x :: xs, [], Γ, _ => by cases x <;> simp [putOuts]
  | x :: xs, o :: os, Γ, h => by
    have ih : ∀ Γ, (putOuts Γ0 xs os Γ)[j]? = Γ[j]? := fun Γ => put_miss fun i e => h (i + 1) (by simpa using e)
    cases x with
    | fz d => simp only [putOuts]; exact ih Γ
    | nw d => simp only [putOuts]; exact ih Γ
    | sl i =>
      simp only [putOuts]
      split
      · rename_i d q
        rw [ih, List.getElem?_set_ne]
        intro z
        subst z
        exact h 0 rfl ⟨d, q⟩
      · exact ih Γ
theorem put_hit {Γ0 : Ct} {j : Nat} (ow : OwS Γ0 j) : ∀ {xs : List RV} {os Γ : Ct} {i : Nat} {o : Sl}, nodupB (ownIx Γ0 xs) = true → xs[i]? = some (.sl j) → os[i]? = some o → j < Γ.length → (putOuts Γ0 xs os Γ)[j]? = some o
  | [], os, Γ, i, o, _, h, _, _ => by simp at h
  | x :: xs, [], Γ, i, o, _, _, h, _ => by simp at h
  | x :: xs, p :: os, Γ, 0, o, n, h1, h2, hl => by
    simp at h1 h2; subst h1 h2
    have hh := ownIx_head n ow
    obtain ⟨d, q⟩ := ow
    simp only [putOuts, q]
    rw [put_miss fun i e => absurd (List.mem_of_getElem? e) hh, List.getElem?_set_self hl]
  | x :: xs, p :: os, Γ, i + 1, o, n, h1, h2, hl => by
    have n' := ownIx_tail n
    have h1' : xs[i]? = some (.sl j) := by simpa using h1
    have h2' : os[i]? = some o := by simpa using h2
    cases x with
    | fz d => simp only [putOuts]; exact put_hit ow n' h1' h2' hl
    | nw d => simp only [putOuts]; exact put_hit ow n' h1' h2' hl
    | sl k =>
      simp only [putOuts]
      split
      · exact put_hit ow n' h1' h2' (by rw [List.length_set]; exact hl)
      · exact put_hit ow n' h1' h2' hl
theorem argSs_len {Γ : Ct} : ∀ {xs : List RV} {as : List (D × Bool)}, argSs Γ xs = some as → as.length = xs.length
  | [], as, h => by simp only [argSs, Option.some.injEq] at h; subst h; rfl
  | x :: xs, as, h => by
    simp only [argSs] at h
    obtain ⟨d, _, h⟩ := Option.bind_eq_some_iff.mp h
    obtain ⟨r, e, rfl⟩ := Option.map_eq_some_iff.mp h
    rw [List.length_cons, List.length_cons, argSs_len e]
theorem argSs_get {Γ : Ct} : ∀ {xs : List RV} {as : List (D × Bool)} {i : Nat} {p : D × Bool}, argSs Γ xs = some as → as[i]? = some p → ∃ x, xs[i]? = some x ∧ argS Γ x = some p
  | [], as, i, p, h, e => by simp only [argSs, Option.some.injEq] at h; subst h; simp at e
  | x :: xs, as, i, p, h, e => by
    simp only [argSs] at h
    obtain ⟨d, hd, h⟩ := Option.bind_eq_some_iff.mp h
    obtain ⟨r, e1, rfl⟩ := Option.map_eq_some_iff.mp h
    cases i with
    | zero => simp at e; subst e; exact ⟨x, rfl, hd⟩
    | succ i => obtain ⟨y, h1, h2⟩ := argSs_get (i := i) e1 (by simpa using e); exact ⟨y, by simpa using h1, h2⟩
section
variable {g : Gx} {Bn : Addr → Prop} {Ow Ow' : List Addr} {H H' : Hp} {σ : St} {Γ Γ' : Ct}
/-- values by results, new ones owned -/
def VlW (g : Gx) (Bn : Addr → Prop) (Ow : List Addr) (H : Hp) (σ : St) (Γ : Ct) : List RV → List V → Prop
  | [], vs => vs = []
  | x :: xs, vs => ∃ v r, vs = v :: r ∧ Val g Bn Ow H σ Γ x v ∧ (∀ d, x = .nw d → ∀ (j : Nat) (e : D), xs[j]? = some (.nw e) → r[j]? ≠ some v) ∧ VlW g Bn Ow H σ Γ xs r
def tAw (g : Gx) (fs : List FS) (es : List E) : TA := fun σ H Q => ∃ Bn Ow Γ xs Γ', RS g Bn Ow H σ Γ ∧ evs fs es Γ = some (xs, Γ') ∧ ∀ vs H' Ow', Stp Ow H Ow' H' → RS g Bn Ow' H' σ Γ' → VlW g Bn Ow' H' σ Γ' xs vs → Q vs H'
theorem VlW.len : ∀ {xs : List RV} {vs : List V}, VlW g Bn Ow H σ Γ xs vs → xs.length = vs.length
  | [], _, h => by have h : _ = [] := h; subst h; rfl
  | x :: xs, _, ⟨v, r, e, _, _, h2⟩ => by subst e; rw [List.length_cons, List.length_cons, h2.len]
theorem VlW.get : ∀ {xs : List RV} {vs : List V} {i : Nat} {x : RV}, VlW g Bn Ow H σ Γ xs vs → xs[i]? = some x → ∃ v, vs[i]? = some v ∧ Val g Bn Ow H σ Γ x v
  | [], _, i, x, _, e => by simp at e
  | y :: xs, _, 0, x, ⟨v, r, e0, h1, _⟩, e => by simp at e; subst e e0; exact ⟨v, rfl, h1⟩
  | y :: xs, _, i + 1, x, ⟨v, r, e0, _, _, h2⟩, e => by
    subst e0
    obtain ⟨w, h3, h4⟩ := VlW.get (i := i) h2 (by simpa using e)
    exact ⟨w, by simpa using h3, h4⟩
theorem VlW.uniq : ∀ {xs : List RV} {vs : List V} {i k : Nat} {d e : D} {v : V}, VlW g Bn Ow H σ Γ xs vs → xs[i]? = some (.nw d) → xs[k]? = some (.nw e) → vs[i]? = some v → vs[k]? = some v → i = k
  | [], _, i, k, d, e, v, _, h1, _, _, _ => by simp at h1
  | y :: xs, _, 0, 0, d, e, v, _, _, _, _, _ => rfl
  | y :: xs, _, 0, k + 1, d, e, v, ⟨w, r, e0, _, h, _⟩, h1, h2, h3, h4 => by
    subst e0
    simp at h1 h3; subst h1 h3
    exact absurd (by simpa using h4) (h d rfl k e (by simpa using h2))
  | y :: xs, _, i + 1, 0, d, e, v, ⟨w, r, e0, _, h, _⟩, h1, h2, h3, h4 => by
    subst e0
    simp at h2 h4; subst h2 h4
    exact absurd (by simpa using h3) (h e rfl i d (by simpa using h1))
  | y :: xs, _, i + 1, k + 1, d, e, v, ⟨w, r, e0, _, _, hr⟩, h1, h2, h3, h4 => by
    subst e0
    rw [VlW.uniq (i := i) (k := k) hr (by simpa using h1) (by simpa using h2) (by simpa using h3) (by simpa using h4)]
theorem map_some_get {vs : List V} {i : Nat} {v : V} : (vs.map some)[i]? = some (some v) ↔ vs[i]? = some v := by
  rw [List.getElem?_map]
  cases vs[i]? <;> simp
/-- the addresses that are handed over -/
def handed (vs : List V) (as : List (D × Bool)) : List Addr := (vs.zip as).filterMap fun p => match p with
  | (.ref a, (_, true)) => some a
  | _ => none
theorem handed_mem {vs : List V} {as : List (D × Bool)} {a : Addr} : a ∈ handed vs as ↔ ∃ (i : Nat) (d : D), vs[i]? = some (.ref a) ∧ as[i]? = some (d, true) := by
  unfold handed
  rw [List.mem_filterMap]
  constructor
  · rintro ⟨⟨v, d, b⟩, hm, e⟩
    obtain ⟨i, hi⟩ := List.mem_iff_getElem?.mp hm
    rw [List.getElem?_zip_eq_some] at hi
    cases v with
    | ref x =>
      cases b with
      | true => simp only [Option.some.injEq] at e; subst e; exact ⟨i, d, hi.1, hi.2⟩
      | false => cases e
    | _ => cases e
  · rintro ⟨i, d, h1, h2⟩
    exact ⟨(.ref a, (d, true)), List.mem_iff_getElem?.mpr ⟨i, by rw [List.getElem?_zip_eq_some]; exact ⟨h1, h2⟩⟩, rfl⟩
theorem call_coreG {xs : List RV} {vs : List V} {as : List (D × Bool)} {r : RV} {os : Ct} {F : FS} {R : RV → VK} (rs : RS g Bn Ow H σ Γ) (hv : VlW g Bn Ow H σ Γ xs vs) (ea : argSs Γ xs = some as) (nd : nodupB (ownIx Γ xs) = true) (ef : F (as.map some) = some (r, os)) (nr : ∀ i, r ≠ .sl i)
    {n : Nat} (hn : vs.length = n) (hQ : ∀ v H' Ow', Stp Ow H Ow' H' → RS g Bn Ow' H' σ (putOuts Γ xs os Γ) → Val g Bn Ow' H' σ (putOuts Γ xs os Γ) r v → (∀ (i : Nat) d0 d a, xs[i]? = some (.nw d0) → os[i]? = some (some (d, true)) → vs[i]? = some (.ref a) → Val g Bn Ow' H' σ (putOuts Γ xs os Γ) (.nw d) (.ref a)) → R r v H') : spG g n F R vs H := by
  have l1 := argSs_len ea
  have l2 := hv.len
  -- an owned argument
  have ownArg : ∀ {i : Nat} {d : D}, as[i]? = some (d, true) → ∃ a, vs[i]? = some (.ref a) ∧ a ∈ Ow ∧ OwnA g (Av Bn Ow) H d a ∧ ((∃ j, xs[i]? = some (.sl j) ∧ Γ[j]? = some (some (d, true)) ∧ σ[j]? = some (some (.ref a))) ∨ (xs[i]? = some (.nw d) ∧ ∀ (j : Nat) e, Γ[j]? = some (some (e, true)) → σ[j]? ≠ some (some (.ref a)))) := by
    intro i d h
    obtain ⟨x, h1, h2⟩ := argSs_get ea h
    obtain ⟨v, h3, h4⟩ := hv.get h1
    cases x with
    | fz e => simp [argS] at h2
    | nw e =>
      simp only [argS, Option.some.injEq, Prod.mk.injEq, and_true] at h2
      subst h2
      obtain ⟨a, rfl, m, o, no⟩ := h4
      exact ⟨a, h3, m, o, .inr ⟨h1, no⟩⟩
    | sl j =>
      simp only [argS] at h2
      split at h2
      · rename_i p q
        cases h2
        obtain ⟨a, e1, m, o⟩ := rs.own j d q
        have h4 : σ[j]? = some (some v) := h4
        rw [e1] at h4; cases h4
        exact ⟨a, h3, m, o, .inl ⟨j, h1, q, e1⟩⟩
      · cases h2
  let Io := handed vs as
  have ioOw : ∀ a, a ∈ Io → a ∈ Ow := fun a h => by
    obtain ⟨i, d, h1, h2⟩ := handed_mem.mp h
    obtain ⟨b, h3, m, _⟩ := ownArg h2
    rw [h1] at h3; cases h3
    exact m
  let Bn' : Addr → Prop := fun a => Bn a ∨ (a ∈ Ow ∧ a ∉ Io)
  have av1 : ∀ a, Av Bn' Io a → Av Bn Ow a := fun a h => by
    rcases h with (h | h) | h
    · exact .inl h
    · exact .inr h.1
    · exact .inr (ioOw a h)
  refine ⟨hn, Bn', Io, as.map some, r, os, ⟨?_, fun i d h => ?_, fun i d h => ?_, fun i k d e a h1 h2 h3 h4 => ?_, fun a h => rs.trl a (av1 a h), fun a h z => ?_, fun a h => rs.kf a (av1 a h), rs.tabs⟩, ef, nr, fun v H' O' st rs' val => ?_⟩
  · rw [List.length_map, List.length_map]; omega
  · have h : as[i]? = some (d, false) := by
      rw [List.getElem?_map] at h
      cases e : as[i]? with
      | none => rw [e] at h; cases h
      | some p => rw [e] at h; simp only [Option.map_some, Option.some.injEq] at h; rw [h]
    obtain ⟨x, h1, h2⟩ := argSs_get ea h
    obtain ⟨v, h3, h4⟩ := hv.get h1
    refine ⟨v, map_some_get.mpr h3, rep_less av1 ?_⟩
    cases x with
    | fz e => simp only [argS, Option.some.injEq, Prod.mk.injEq, and_true] at h2; subst h2; exact h4
    | nw e => simp [argS] at h2
    | sl j =>
      simp only [argS] at h2
      split at h2
      · rename_i p q
        cases h2
        obtain ⟨w, e1, rp⟩ := rs.slot j d q
        have h4 : σ[j]? = some (some v) := h4
        rw [e1] at h4; cases h4
        exact rp
      · cases h2
  · have h : as[i]? = some (d, true) := by
      rw [List.getElem?_map] at h
      cases e : as[i]? with
      | none => rw [e] at h; cases h
      | some p => rw [e] at h; simp only [Option.map_some, Option.some.injEq] at h; rw [h]
    obtain ⟨a, h3, m, o, _⟩ := ownArg h
    exact ⟨a, map_some_get.mpr h3, handed_mem.mpr ⟨i, d, h3, h⟩, own_less av1 o⟩
  · have h1 : as[i]? = some (d, true) := by
      rw [List.getElem?_map] at h1
      cases e : as[i]? with
      | none => rw [e] at h1; cases h1
      | some p => rw [e] at h1; simp only [Option.map_some, Option.some.injEq] at h1; rw [h1]
    have h2 : as[k]? = some (e, true) := by
      rw [List.getElem?_map] at h2
      cases z : as[k]? with
      | none => rw [z] at h2; cases h2
      | some p => rw [z] at h2; simp only [Option.map_some, Option.some.injEq] at h2; rw [h2]
    obtain ⟨a1, v1, _, _, c1⟩ := ownArg h1
    obtain ⟨a2, v2, _, _, c2⟩ := ownArg h2
    have w1 := map_some_get.mp h3
    have w2 := map_some_get.mp h4
    rw [w1] at v1; cases v1
    rw [w2] at v2; cases v2
    rcases c1 with ⟨j1, x1, q1, e1⟩ | ⟨x1, n1⟩ <;> rcases c2 with ⟨j2, x2, q2, e2⟩ | ⟨x2, n2⟩
    · have := rs.dist j1 j2 _ _ _ q1 q2 e1 e2
      subst this
      exact own_uniq ⟨_, q1⟩ nd x1 x2
    · exact absurd e1 (n2 j1 _ q1)
    · exact absurd e2 (n1 j2 _ q2)
    · exact hv.uniq x1 x2 w1 w2
  · rcases h with h | h
    · exact rs.sep a h (ioOw a z)
    · exact h.2 z
  -- behind the call
  let O2 := Ow.filter (fun a => decide (a ∉ Io)) ++ O'
  have memO2 : ∀ a, a ∈ O2 ↔ (a ∈ Ow ∧ a ∉ Io) ∨ a ∈ O' := fun a => by
    show a ∈ Ow.filter (fun a => decide (a ∉ Io)) ++ O' ↔ _
    rw [List.mem_append, List.mem_filter]
    simp
  have av2 : ∀ a, Av Bn O2 a → Av Bn' O' a := fun a h => by
    rcases h with h | h
    · exact .inl (.inl h)
    · rcases (memO2 a).mp h with h | h
      · exact .inl (.inr h)
      · exact .inr h
  have stO : Stp Ow H O2 H' := ⟨fun a o h t nm => st.keep0 a o h t fun z => nm (ioOw a z), fun a h => by
    rcases (memO2 a).mp h with h | h
    · exact .inl h.1
    · rcases st.grow a h with h | h
      · exact .inl (ioOw a h)
      · exact .inr h⟩
  have vst := step_vst (g := g) (Bn := Bn) stO fun a h => rs'.kf a (av2 a (.inr h))
  have lo : os.length = vs.length := by rw [← rs'.len, List.length_map]
  -- a slot that is not handed over
  have missA : ∀ {j : Nat} {a : Addr} {d : D}, Γ[j]? = some (some (d, true)) → σ[j]? = some (some (.ref a)) → (∀ i : Nat, xs[i]? ≠ some (.sl j)) → a ∉ Io := fun {j a d} h1 h2 h3 z => by
    obtain ⟨i, e, q1, q2⟩ := handed_mem.mp z
    obtain ⟨a2, v2, _, _, c2⟩ := ownArg q2
    rw [q1] at v2; cases v2
    rcases c2 with ⟨j2, x2, g2, s2⟩ | ⟨x2, n2⟩
    · have := rs.dist j j2 _ _ _ h1 g2 h2 s2
      subst this
      exact h3 i x2
    · exact n2 j _ h1 h2
  have cases_ : ∀ (j : Nat), (∃ (i : Nat) (d : D) (a : Addr) (o : Sl), xs[i]? = some (.sl j) ∧ Γ[j]? = some (some (d, true)) ∧ σ[j]? = some (some (.ref a)) ∧ vs[i]? = some (.ref a) ∧ a ∈ Io ∧ os[i]? = some o ∧ (putOuts Γ xs os Γ)[j]? = some o) ∨
      ((putOuts Γ xs os Γ)[j]? = Γ[j]? ∧ ∀ d, Γ[j]? = some (some (d, true)) → ∀ i : Nat, xs[i]? ≠ some (.sl j)) := fun j => by
    by_cases h : ∃ i : Nat, xs[i]? = some (.sl j) ∧ OwS Γ j
    · obtain ⟨i, h1, h2⟩ := h
      obtain ⟨d, q⟩ := h2
      obtain ⟨a, e1, m, o⟩ := rs.own j d q
      obtain ⟨v, h3, h4⟩ := hv.get h1
      have h4 : σ[j]? = some (some v) := h4
      rw [e1] at h4; cases h4
      have ai : as[i]? = some (d, true) := by
        have hi : i < as.length := by rw [l1]; exact (List.getElem?_eq_some_iff.mp h1).1
        obtain ⟨x, q1, q2⟩ := argSs_get ea (List.getElem?_eq_getElem hi)
        rw [h1] at q1; cases q1
        simp only [argS, q, Option.some.injEq] at q2
        rw [List.getElem?_eq_getElem hi, ← q2]
      have hi : i < os.length := by rw [lo]; exact (List.getElem?_eq_some_iff.mp h3).1
      refine .inl ⟨i, d, a, os[i], h1, q, e1, h3, handed_mem.mpr ⟨i, d, h3, ai⟩, List.getElem?_eq_getElem hi, put_hit ⟨d, q⟩ nd h1 (List.getElem?_eq_getElem hi) (List.getElem?_eq_some_iff.mp q).1⟩
    · exact .inr ⟨put_miss fun i e o => h ⟨i, e, o⟩, fun d q i e => h ⟨i, e, d, q⟩⟩
  have hRS : RS g Bn O2 H' σ (putOuts Γ xs os Γ) := by
    refine ⟨by rw [put_len]; exact rs.len, fun j d h => ?_, fun j d h => ?_, fun j k d e a h1 h2 h3 h4 => ?_, fun a h => rs'.trl a (av2 a h), fun a h z => ?_, fun a h => rs'.kf a (av2 a h), rs'.tabs⟩
    · rcases cases_ j with ⟨i, d0, a, o, x1, q1, s1, v1, m1, o1, p1⟩ | ⟨p1, _⟩
      · rw [p1] at h; cases h
        obtain ⟨w, e1, rp⟩ := rs'.slot i d o1
        rw [map_some_get.mp e1] at v1; cases v1
        exact ⟨_, s1, rep_less av2 rp⟩
      · rw [p1] at h
        obtain ⟨w, e1, rp⟩ := rs.slot j d h
        exact ⟨w, e1, rep_mono vst d w rp⟩
    · rcases cases_ j with ⟨i, d0, a, o, x1, q1, s1, v1, m1, o1, p1⟩ | ⟨p1, p2⟩
      · rw [p1] at h; cases h
        obtain ⟨b, e1, m, ow⟩ := rs'.own i d o1
        rw [map_some_get.mp e1] at v1; cases v1
        exact ⟨_, s1, (memO2 _).mpr (.inr m), own_less av2 ow⟩
      · rw [p1] at h
        obtain ⟨b, e1, m, ow⟩ := rs.own j d h
        have nb := missA h e1 (p2 d h)
        refine ⟨b, e1, (memO2 _).mpr (.inl ⟨m, nb⟩), ?_⟩
        cases d with
        | lst ds => obtain ⟨ws, z1, z2⟩ := ow; exact ⟨ws, st.keep b _ z1 nb, reps_mono vst _ _ z2⟩
        | obj c ks ds => obtain ⟨dx, ws, l, z1, z2⟩ := ow; exact ⟨dx, ws, l, st.keep b _ z1 nb, reps_mono vst _ _ z2⟩
        | _ => exact ow
    · rcases cases_ j with ⟨i1, d1, a1, o1, x1, q1, s1, v1, m1, z1, p1⟩ | ⟨p1, p1'⟩ <;> rcases cases_ k with ⟨i2, d2, a2, o2, x2, q2, s2, v2, m2, z2, p2⟩ | ⟨p2, p2'⟩
      · rw [s1] at h3; cases h3
        rw [s2] at h4; cases h4
        exact rs.dist j k _ _ _ q1 q2 s1 s2
      · rw [s1] at h3; cases h3
        rw [p2] at h2
        exact absurd m1 (missA h2 h4 (p2' _ h2))
      · rw [s2] at h4; cases h4
        rw [p1] at h1
        exact absurd m2 (missA h1 h3 (p1' _ h1))
      · rw [p1] at h1; rw [p2] at h2
        exact rs.dist j k _ _ _ h1 h2 h3 h4
    · rcases (memO2 a).mp z with z | z
      · exact rs.sep a h z.1
      · rcases st.grow a z with z | z
        · exact rs.sep a h (ioOw a z)
        · exact rs.trn a (.inl h) z
  refine hQ v H' O2 stO hRS ?_ fun i d0 d a h1 h2 h3 => ?_
  rotate_left
  · obtain ⟨b, e1, m, ow⟩ := rs'.own i d h2
    rw [map_some_get.mp e1] at h3; cases h3
    have hb := map_some_get.mp e1
    obtain ⟨w, q1, q2⟩ := hv.get h1
    rw [hb] at q1; cases q1
    obtain ⟨a', e2, m2, _, no⟩ := q2
    cases e2
    refine ⟨_, rfl, (memO2 _).mpr (.inr m), own_less av2 ow, fun j e g1 g2 => ?_⟩
    rcases cases_ j with ⟨i', d1, a1, o, x1, y1, s1, v1, m1, o1, p1⟩ | ⟨p1, _⟩
    · exact no j _ y1 g2
    · rw [p1] at g1
      exact no j _ g1 g2
  cases r with
  | sl i => exact absurd rfl (nr i)
  | fz d => exact rep_less av2 val
  | nw d =>
    obtain ⟨a, e0, m, ow, no⟩ := val
    refine ⟨a, e0, (memO2 a).mpr (.inr m), own_less av2 ow, fun j d' h1 h2 => ?_⟩
    rcases cases_ j with ⟨i, d0, a', o, x1, q1, s1, v1, m1, o1, p1⟩ | ⟨p1, p2⟩
    · rw [s1] at h2; cases h2
      rw [p1] at h1; cases h1
      exact no i _ o1 (map_some_get.mpr v1)
    · rw [p1] at h1
      obtain ⟨b, e1, mb, _⟩ := rs.own j _ h1
      rw [h2] at e1; cases e1
      have nb := missA h1 h2 (p2 _ h1)
      rcases st.grow a m with z | z
      · exact nb z
      · exact rs.trn a (.inr mb) z
theorem call_core {xs : List RV} {vs : List V} {as : List (D × Bool)} {r : RV} {os : Ct} {F : FS} {Q : VK} (rs : RS g Bn Ow H σ Γ) (hv : VlW g Bn Ow H σ Γ xs vs) (ea : argSs Γ xs = some as) (nd : nodupB (ownIx Γ xs) = true) (ef : F (as.map some) = some (r, os)) (nr : ∀ i, r ≠ .sl i)
    {n : Nat} (hn : vs.length = n) {E : XK} (hQ : ∀ v H' Ow', Stp Ow H Ow' H' → RS g Bn Ow' H' σ (putOuts Γ xs os Γ) → Val g Bn Ow' H' σ (putOuts Γ xs os Γ) r v → (∀ (i : Nat) d0 d a, xs[i]? = some (.nw d0) → os[i]? = some (some (d, true)) → vs[i]? = some (.ref a) → Val g Bn Ow' H' σ (putOuts Γ xs os Γ) (.nw d) (.ref a)) → Q v H') : spF g n F vs H Q E := call_coreG (R := fun _ => Q) rs hv ea nd ef nr hn hQ
end
section
variable {X : Cx} {g : Gx} {fs : List FS} {e : Expr} {es : List Expr} {ies : List E} {x : Str} {p pos : Pos} {k lv n : Nat} {f : Addr} {fd : FuncData} {ps : List Str} {F : FS}
theorem call_core2 {Bn : Addr → Prop} {Ow : List Addr} {H : Hp} {σ : St} {Γ Γ' : Ct} {r : RV} {Q : VK} {Ex : XK} (hF : fs[k]? = some F) (hn : ies.length = n) (rs : RS g Bn Ow H σ Γ) (he : ev fs (.call k ies) Γ = some (r, Γ')) (hQ : ∀ v H' Ow', Stp Ow H Ow' H' → RS g Bn Ow' H' σ Γ' → Val g Bn Ow' H' σ Γ' r v → Q v H') :
    tCall (spF g n F) [] Ex (tAw g fs ies) σ H Q := by
  simp only [ev] at he
  obtain ⟨⟨xs, Γ1⟩, e1, he⟩ := Option.bind_eq_some_iff.mp he
  obtain ⟨F', e2, he⟩ := Option.bind_eq_some_iff.mp he
  rw [hF] at e2; cases e2
  obtain ⟨as, e3, he⟩ := Option.bind_eq_some_iff.mp he
  simp only [Option.ite_none_right_eq_some] at he
  obtain ⟨nd, he⟩ := he
  obtain ⟨⟨r', os⟩, e4, he⟩ := Option.bind_eq_some_iff.mp he
  have evl : ∀ {es : List E} {Γ Γ' : Ct} {xs : List RV}, evs fs es Γ = some (xs, Γ') → es.length = xs.length := by
    intro es
    induction es with
    | nil => intro Γ Γ' xs h; simp only [evs, Option.some.injEq, Prod.mk.injEq] at h; rw [← h.1]; rfl
    | cons a es ih =>
      intro Γ Γ' xs h
      simp only [evs] at h
      obtain ⟨⟨y, G1⟩, _, h⟩ := Option.bind_eq_some_iff.mp h
      obtain ⟨⟨ys, G2⟩, h2, h⟩ := Option.map_eq_some_iff.mp h
      simp only [Prod.mk.injEq] at h
      rw [← h.1, List.length_cons, List.length_cons, ih h2]
  refine ⟨Bn, Ow, Γ, xs, Γ1, rs, e1, fun vs H1 O1 s1 r1 v1 => ?_⟩
  show spF g n F (vs ++ []) H1 Q Ex
  rw [List.append_nil]
  have hl : vs.length = n := by rw [← v1.len, ← evl e1, hn]
  cases r' with
  | sl i => cases he
  | fz d =>
    simp only [Option.some.injEq, Prod.mk.injEq] at he
    obtain ⟨rfl, rfl⟩ := he
    exact call_core r1 v1 e3 nd e4 (fun i z => nomatch z) hl fun v H' O2 s2 r2 val _ => hQ v H' O2 (s1.trans s2) r2 val
  | nw d =>
    simp only [Option.some.injEq, Prod.mk.injEq] at he
    obtain ⟨rfl, rfl⟩ := he
    exact call_core r1 v1 e3 nd e4 (fun i z => nomatch z) hl fun v H' O2 s2 r2 val _ => hQ v H' O2 (s1.trans s2) r2 val
theorem p_call (hF : fs[k]? = some F) (hn : ies.length = n) (G : FnOk X.prog X.w X.K X.mg X.base CX0 lv f fd ps (spF g n F)) (hr : Room lv X.A) (hg : Gl X x) (hm : X.mg x = some (.ref f)) (hk : PySem.W.keepIn X.K (.ref f) = true) (hb : Binds X.K fd ps [])
    (ha : PA X (e :: es) (tAw g fs ies)) (hdb : (x == ("__debug__" : Str)) = false) (he : starEach (e :: es) X.env = (false, eval e X.env) :: starEach es X.env) (hpl : (backTo pos (starEach es X.env)).any (·.1) = false) :
    PE X (.Call (.Name x p) (e :: es) [] pos) (tR g fs (.call k ies)) := by
  refine PE.weak (pe_call G hr hg hm hk hb .nil pass0 ha hdb he hpl) ?_
  rintro σ H Q ⟨Bn, Ow, Γ, r, Γ', rs, he, hQ⟩
  exact call_core2 hF hn rs he hQ
end
end DV

namespace DV
open PySem L2
/-! ### ranges with a step, also of great ints -/
section
open PySem PySem.Spec PyProof.Rows
end
/-! ### targets -/
def tgT (K : PySem.W.Frag) : Tg → TG
  | .nm i => gName i
  | .tp ts => gTup K ts.length (tgTs K ts)
where tgTs (K : PySem.W.Frag) : List Tg → TGs
  | [] => gNil
  | t :: ts => gCons (tgT K t) (tgTs K ts)
section
variable {g : Gx} {Bn : Addr → Prop} {Ow Ow' : List Addr} {H H' : Hp} {σ : St} {Γ Γ' : Ct}
theorem RS.set {i : Nat} {d : D} {v : V} (rs : RS g Bn Ow H σ Γ) (r : Rep g (Av Bn Ow) H d v) (hi : i < Γ.length) : RS g Bn Ow H (σ.set i (some v)) (Γ.set i (some (d, false))) := by
  have hs : i < σ.length := by rw [rs.len]; exact hi
  refine ⟨by rw [List.length_set, List.length_set]; exact rs.len, fun j e h => ?_, fun j e h => ?_, fun j k e f a h1 h2 h3 h4 => ?_, rs.trl, rs.sep, rs.kf, rs.tabs⟩
  · by_cases hj : i = j
    · subst hj
      rw [List.getElem?_set_self hi] at h; cases h
      exact ⟨v, List.getElem?_set_self hs, r⟩
    · rw [List.getElem?_set_ne hj] at h
      rw [List.getElem?_set_ne hj]
      exact rs.slot j e h
  · by_cases hj : i = j
    · subst hj
      rw [List.getElem?_set_self hi] at h; cases h
    · rw [List.getElem?_set_ne hj] at h
      rw [List.getElem?_set_ne hj]
      exact rs.own j e h
  · have n1 : i ≠ j := fun z => by subst z; rw [List.getElem?_set_self hi] at h1; cases h1
    have n2 : i ≠ k := fun z => by subst z; rw [List.getElem?_set_self hi] at h2; cases h2
    rw [List.getElem?_set_ne n1] at h1 h3
    rw [List.getElem?_set_ne n2] at h2 h4
    exact rs.dist j k _ _ _ h1 h2 h3 h4
theorem RS.setO {i : Nat} {d : D} {v : V} (rs : RS g Bn Ow H σ Γ) (r : Val g Bn Ow H σ Γ (.nw d) v) (hi : i < Γ.length) : RS g Bn Ow H (σ.set i (some v)) (Γ.set i (some (d, true))) := by
  have hs : i < σ.length := by rw [rs.len]; exact hi
  obtain ⟨a, rfl, m, o, no⟩ := r
  refine ⟨by rw [List.length_set, List.length_set]; exact rs.len, fun j e h => ?_, fun j e h => ?_, fun j k e f b h1 h2 h3 h4 => ?_, rs.trl, rs.sep, rs.kf, rs.tabs⟩
  · by_cases hj : i = j
    · subst hj
      rw [List.getElem?_set_self hi] at h; cases h
    · rw [List.getElem?_set_ne hj] at h
      rw [List.getElem?_set_ne hj]
      exact rs.slot j e h
  · by_cases hj : i = j
    · subst hj
      rw [List.getElem?_set_self hi] at h; cases h
      exact ⟨a, List.getElem?_set_self hs, m, o⟩
    · rw [List.getElem?_set_ne hj] at h
      rw [List.getElem?_set_ne hj]
      exact rs.own j e h
  · by_cases n1 : i = j <;> by_cases n2 : i = k
    · omega
    · subst n1
      rw [List.getElem?_set_self hs] at h3; cases h3
      rw [List.getElem?_set_ne n2] at h2 h4
      exact absurd h4 (no k f h2)
    · subst n2
      rw [List.getElem?_set_self hs] at h4; cases h4
      rw [List.getElem?_set_ne n1] at h1 h3
      exact absurd h3 (no j e h1)
    · rw [List.getElem?_set_ne n1] at h1 h3
      rw [List.getElem?_set_ne n2] at h2 h4
      exact rs.dist j k _ _ _ h1 h2 h3 h4
mutual
theorem asgT_ok : ∀ (t : Tg) {d : D} {v : V} {σ : St} {Γ Γ' : Ct} {Q : St → Hp → Prop}, RS g Bn Ow H σ Γ → Rep g (Av Bn Ow) H d v → asgT t d Γ = some Γ' →
    (∀ σ', RS g Bn Ow H σ' Γ' → σ'.length = σ.length → (∀ i, i ∉ tgIx t → σ'[i]? = σ[i]?) → Q σ' H) → tgT g.K t v σ H Q
  | .nm i, d, v, σ, Γ, Γ', Q, rs, r, e, k => by
    simp only [asgT, Option.ite_none_right_eq_some, Option.some.injEq] at e
    obtain ⟨hi, rfl⟩ := e
    refine k _ (rs.set r hi) List.length_set fun j hj => ?_
    rw [List.getElem?_set_ne]
    intro z
    subst z
    simp [tgIx] at hj
  | .tp ts, d, v, σ, Γ, Γ', Q, rs, r, e, k => by
    cases d <;> simp only [asgT, reduceCtorEq] at e
    simp only [Rep] at r
    obtain ⟨a, vs, rfl, _, s, rr⟩ := r
    have hl : ts.length = vs.length := by
      rw [← rr.len]
      have : ∀ (ts : List Tg) (ds : List D) (Γ Γ' : Ct), asgT.asgTs ts ds Γ = some Γ' → ts.length = ds.length := by
        intro ts
        induction ts with
        | nil => intro ds Γ Γ' h; cases ds with
          | nil => rfl
          | cons => simp only [asgT.asgTs, reduceCtorEq] at h
        | cons t ts ih => intro ds Γ Γ' h; cases ds with
          | nil => simp only [asgT.asgTs, reduceCtorEq] at h
          | cons d ds =>
            simp only [asgT.asgTs] at h
            obtain ⟨G1, _, h⟩ := Option.bind_eq_some_iff.mp h
            rw [List.length_cons, List.length_cons, ih _ _ _ h]
      exact this _ _ _ _ e
    exact ⟨a, vs, rfl, s, hl.symm, asgTs_ok ts rs rr e fun σ' q1 q2 q3 => k σ' q1 q2 fun i hi => q3 i (by simpa only [tgIx] using hi)⟩
theorem asgTs_ok : ∀ (ts : List Tg) {ds : List D} {vs : List V} {σ : St} {Γ Γ' : Ct} {Q : St → Hp → Prop}, RS g Bn Ow H σ Γ → Reps g (Av Bn Ow) H ds vs → asgT.asgTs ts ds Γ = some Γ' →
    (∀ σ', RS g Bn Ow H σ' Γ' → σ'.length = σ.length → (∀ i, i ∉ tgIx.tgIxs ts → σ'[i]? = σ[i]?) → Q σ' H) → tgT.tgTs g.K ts vs σ H Q
  | [], ds, vs, σ, Γ, Γ', Q, rs, r, e, k => by
    cases ds <;> simp only [asgT.asgTs, reduceCtorEq, Option.some.injEq] at e
    subst e
    simp only [Reps] at r
    exact ⟨r, k σ rs rfl fun _ _ => rfl⟩
  | t :: ts, ds, vs, σ, Γ, Γ', Q, rs, r, e, k => by
    cases ds with
    | nil => simp only [asgT.asgTs, reduceCtorEq] at e
    | cons d ds =>
      simp only [asgT.asgTs] at e
      obtain ⟨G1, e1, e⟩ := Option.bind_eq_some_iff.mp e
      simp only [Reps] at r
      obtain ⟨v, w, rfl, r1, r2⟩ := r
      refine ⟨v, w, rfl, asgT_ok t rs r1 e1 fun σ1 q1 q2 q3 => asgTs_ok ts q1 r2 e fun σ2 p1 p2 p3 => k σ2 p1 (p2.trans q2) fun i hi => ?_⟩
      simp only [tgIx.tgIxs, List.mem_append, not_or] at hi
      rw [p3 i hi.2, q3 i hi.1]
end

/-! ### what is walked -/
structure WalkD (g : Gx) (Bn : Addr → Prop) (Ow : List Addr) (H : Hp) (J : It) (ds : List D) : Prop where
  goW : ∀ i H', i < ds.length → (∀ a o, H a = some o → nT o → ¬ Av Bn Ow a → H' a = some o) → J.go i H'
  stopW : ∀ H', (∀ a o, H a = some o → nT o → ¬ Av Bn Ow a → H' a = some o) → J.stop ds.length H'
  same : ∀ i H' x H'', J.yld i H' x H'' → Same H' H''
  yldW : ∀ (i : Nat) d (A' : Addr → Prop) H' x H'', ds[i]? = some d → (∀ a, Vst g (Av Bn Ow) H a → (∀ o, H a = some o → nT o → H' a = some o) ∧ ¬ A' a) → (∀ a, A' a → H' a ≠ none) → J.yld i H' x H'' → Same H' H'' ∧ Rep g A' H'' d x
theorem WalkD.go {J : It} {ds : List D} (w : WalkD g Bn Ow H J ds) (i : Nat) (H' : Hp) (hi : i < ds.length) (k : ∀ a o, H a = some o → nT o → a ∉ Ow → H' a = some o) : J.go i H' := w.goW i H' hi fun a o h t n => k a o h t fun z => n (.inr z)
theorem WalkD.stop {J : It} {ds : List D} (w : WalkD g Bn Ow H J ds) (H' : Hp) (k : ∀ a o, H a = some o → nT o → a ∉ Ow → H' a = some o) : J.stop ds.length H' := w.stopW H' fun a o h t n => k a o h t fun z => n (.inr z)
theorem vst2 {Bn' : Addr → Prop} (hB : ∀ a, Bn' a → Bn a ∨ H a = none) (s : Stp Ow H Ow' H') (rs : RS g Bn' Ow' H' σ Γ) : ∀ a, Vst g (Av Bn Ow) H a → (∀ o, H a = some o → nT o → H' a = some o) ∧ ¬ Av Bn' Ow' a := fun a ⟨n, t⟩ => by
  refine ⟨fun o h t => s.keep0 a o h t fun z => n (.inr z), fun z => ?_⟩
  rcases t with ⟨o, t, nt⟩ | ⟨o, t⟩
  · rcases z with z | z
    · rcases hB a z with z | z
      · exact n (.inl z)
      · rw [z] at t; cases t
    · rcases s.grow a z with z | z
      · exact n (.inr z)
      · exact z o t nt
  · rw [rs.kf a z] at t; cases t
theorem WalkD.yld {J : It} {ds : List D} (w : WalkD g Bn Ow H J ds) (i : Nat) (d : D) (Bn' : Addr → Prop) (Ow' : List Addr) (H' : Hp) (σ' : St) (Γ' : Ct) (x : V) (H'' : Hp) (e : ds[i]? = some d) (_ : ∀ a, Bn a → Bn' a) (b2 : ∀ a, Bn' a → Bn a ∨ H a = none) (s : Stp Ow H Ow' H') (rs : RS g Bn' Ow' H' σ' Γ') (y : J.yld i H' x H'') : Same H' H'' ∧ Rep g (Av Bn' Ow') H'' d x :=
  w.yldW i d (Av Bn' Ow') H' x H'' e (vst2 b2 s rs) rs.trk y
theorem walk_list {a : Addr} {vs : List V} {ds : List D} (na : ¬ Av Bn Ow a) (h : H a = some (.lst vs)) (r : Reps g (Av Bn Ow) H ds vs) : WalkD g Bn Ow H (Itl g.K a) ds where
  goW := fun i H' hi k => by
    have hi' : i < vs.length := by rw [← r.len]; exact hi
    exact ⟨vs, vs[i], .inl (.inl (k a _ h nofun na)), List.getElem?_eq_getElem hi'⟩
  stopW := fun H' k => ⟨vs, .inl (.inl (k a _ h nofun na)), by rw [r.len]; exact Nat.le_refl _⟩
  same := fun i H' x H'' y => by obtain ⟨rfl, _⟩ := y; exact same_rfl _
  yldW := fun i d A' H' x H'' e vv tr y => by
    obtain ⟨rfl, y⟩ := y
    obtain ⟨v, e1, r1⟩ := r.get e
    have e2 := y vs (.inl (.inl ((vv a ⟨na, .inl ⟨_, h, nofun⟩⟩).1 _ h nofun)))
    rw [e1] at e2; cases e2
    exact ⟨same_rfl _, rep_mono vv _ _ r1⟩
theorem walk_tup {a : Addr} {vs : List V} {ds : List D} (na : ¬ Av Bn Ow a) (h : SqT g.K H a vs) (r : Reps g (Av Bn Ow) H ds vs) : WalkD g Bn Ow H (Itt g.K a) ds where
  goW := fun i H' hi k => by
    have hi' : i < vs.length := by rw [← r.len]; exact hi
    exact ⟨vs, vs[i], sqT_mono h fun o e t => k a o e t na, List.getElem?_eq_getElem hi'⟩
  stopW := fun H' k => ⟨vs, sqT_mono h fun o e t => k a o e t na, by rw [r.len]; exact Nat.le_refl _⟩
  same := fun i H' x H'' y => by obtain ⟨rfl, _⟩ := y; exact same_rfl _
  yldW := fun i d A' H' x H'' e vv tr y => by
    obtain ⟨rfl, y⟩ := y
    obtain ⟨v, e1, r1⟩ := r.get e
    have e2 := y vs (sqT_mono h fun o e t => (vv a ⟨na, .inl ⟨_, e, t⟩⟩).1 o e t)
    rw [e1] at e2; cases e2
    exact ⟨same_rfl _, rep_mono vv _ _ r1⟩
theorem enumD_get : ∀ {ds : List D} {n i : Nat} {d : D}, (enumD n ds)[i]? = some d → ∃ e, ds[i]? = some e ∧ d = .tup [.int ((n + i : Nat) : Int), e]
  | [], n, i, d, h => by simp [enumD] at h
  | e :: ds, n, 0, d, h => by simp [enumD] at h; subst h; exact ⟨e, rfl, rfl⟩
  | e :: ds, n, i + 1, d, h => by
    simp only [enumD, List.getElem?_cons_succ] at h
    obtain ⟨f, h1, h2⟩ := enumD_get h
    exact ⟨f, by simpa using h1, by rw [h2, show n + 1 + i = n + (i + 1) by omega]⟩
theorem enumD_len : ∀ (ds : List D) (n : Nat), (enumD n ds).length = ds.length
  | [], _ => rfl
  | _ :: ds, n => by simp only [enumD, List.length_cons]; rw [enumD_len ds (n + 1)]
theorem tup2 {A' : Addr → Prop} {T : Addr} {d e : D} {x y : V} {H'' : Hp} (nT : H' T = none) (e0 : H'' = upd H' T (.tup [x, y])) (tr : ∀ a, A' a → H' a ≠ none) (r1 : Rep g A' H' d x) (r2 : Rep g A' H' e y) : Same H' H'' ∧ Rep g A' H'' (.tup [d, e]) (.ref T) := by
  subst e0
  refine ⟨same_new nT, ?_⟩
  simp only [Rep]
  refine ⟨T, [x, y], rfl, fun z => tr T z nT, .inl (.inl upd_same), ?_⟩
  simp only [Reps]
  exact ⟨_, _, rfl, r1.same (same_new nT), _, _, rfl, r2.same (same_new nT), rfl⟩
theorem walk_enum {a : Addr} {vs : List V} {ds : List D} (na : ¬ Av Bn Ow a) (h : H a = some (.lst vs)) (r : Reps g (Av Bn Ow) H ds vs) : WalkD g Bn Ow H (Ite g.K a) (enumD 0 ds) where
  goW := fun i H' hi k => by
    rw [enumD_len] at hi
    have hi' : i < vs.length := by rw [← r.len]; exact hi
    exact ⟨vs, vs[i], .inl (.inl (k a _ h nofun na)), List.getElem?_eq_getElem hi'⟩
  stopW := fun H' k => ⟨vs, .inl (.inl (k a _ h nofun na)), by rw [enumD_len, r.len]; exact Nat.le_refl _⟩
  same := fun i H' x H'' y => by obtain ⟨T, v, rfl, nT, rfl, _⟩ := y; exact same_new nT
  yldW := fun i d A' H' x H'' e vv tr y => by
    obtain ⟨T, v, rfl, nT, e0, y⟩ := y
    obtain ⟨f, e1, rfl⟩ := enumD_get e
    obtain ⟨w, e2, r1⟩ := r.get e1
    have e3 := y vs (.inl (.inl ((vv a ⟨na, .inl ⟨_, h, nofun⟩⟩).1 _ h nofun)))
    rw [e2] at e3; cases e3
    rw [Nat.zero_add]
    exact tup2 nT e0 tr (by simp only [Rep]) (rep_mono vv _ _ r1)
theorem rngD_get : ∀ {n : Nat} {lo c : Int} {i : Nat} {d : D}, (rngD lo c n)[i]? = some d → i < n ∧ d = .int (lo + (i : Nat) * c)
  | 0, lo, c, i, d, h => by simp [rngD] at h
  | n + 1, lo, c, 0, d, h => by simp [rngD] at h; subst h; exact ⟨by omega, by simp⟩
  | n + 1, lo, c, i + 1, d, h => by
    simp only [rngD, List.getElem?_cons_succ] at h
    obtain ⟨h1, h2⟩ := rngD_get h
    refine ⟨by omega, ?_⟩
    rw [h2]
    have : lo + c + (i : Int) * c = lo + ((i + 1 : Nat) : Int) * c := by
      have : ((i + 1 : Nat) : Int) = (i : Int) + 1 := by omega
      rw [this, Int.add_mul]; omega
    rw [this]
theorem rngD_len : ∀ (n : Nat) (lo c : Int), (rngD lo c n).length = n
  | 0, _, _ => rfl
  | n + 1, lo, c => by simp only [rngD, List.length_cons]; rw [rngD_len n]
theorem walk_rng (lo : Int) (n : Nat) : WalkD g Bn Ow H (Itr lo n) (rngD lo 1 n) where
  goW := fun i H' hi k => by rw [rngD_len] at hi; exact hi
  stopW := fun H' k => by rw [rngD_len]; exact Nat.le_refl _
  same := fun i H' x H'' y => by obtain ⟨rfl, _⟩ := y; exact same_rfl _
  yldW := fun i d A' H' x H'' e vv tr y => by
    obtain ⟨rfl, rfl⟩ := y
    obtain ⟨_, rfl⟩ := rngD_get e
    exact ⟨same_rfl _, by simp only [Rep, Int.mul_one]⟩
end
def tI (g : Gx) (fs : List FS) (ik : IK) (its : List E) : TI := fun σ H R => ∃ Bn Ow Γ xs Γ1 ds Γ2, RS g Bn Ow H σ Γ ∧ evs fs its Γ = some (xs, Γ1) ∧ iterD ik xs Γ1 = some (ds, Γ2) ∧ ∀ J H' Ow', Stp Ow H Ow' H' → RS g Bn Ow' H' σ Γ2 → WalkD g Bn Ow' H' J ds → R J H'
section
variable {X : Cx} {g : Gx} {fs : List FS} {tg l : Expr} {il : E} {p pos tpos : Pos} {elts : List Expr} {kk : Nat} {es : List Expr} {ies : List E}
theorem PI.weak {it : Expr} {w w' : TI} (h : PI X tg it w) (k : ∀ σ H R, w' σ H R → w σ H R) : PI X tg it w' := ⟨fun pins s σ H R I q => h.run pins s σ H R I (k σ H R q)⟩
theorem PI.or {it : Expr} {w w' : TI} (h : PI X tg it w) (h' : PI X tg it w') : PI X tg it (fun σ H R => w σ H R ∨ w' σ H R) := ⟨fun pins s σ H R I q => q.elim (fun q => h.run pins s σ H R I q) fun q => h'.run pins s σ H R I q⟩
theorem evs_one {Γ Γ1 : Ct} {xs : List RV} (h : evs fs [il] Γ = some (xs, Γ1)) : ∃ x, xs = [x] ∧ ev fs il Γ = some (x, Γ1) := by
  simp only [evs] at h
  obtain ⟨⟨x, G⟩, e1, h⟩ := Option.bind_eq_some_iff.mp h
  simp only [Option.map_some, Option.some.injEq, Prod.mk.injEq] at h
  obtain ⟨rfl, rfl⟩ := h
  exact ⟨x, rfl, e1⟩
/-- by what is walked, on what the value says: a list, a tuple -/
theorem i_seq_or (C : Cok0 g X) (h : PI X tg l (fun σ H R => iList X.K (tR g fs il) σ H R ∨ iTup X.K (tR g fs il) σ H R)) : PI X tg l (tI g fs .seq [il]) := by
  refine PI.weak h ?_
  rintro σ H R ⟨Bn, Ow, Γ, xs, Γ1, ds, Γ2, rs, e1, e2, k⟩
  obtain ⟨x, rfl, e9⟩ := evs_one e1
  simp only [iterD] at e2
  obtain ⟨⟨d, G2⟩, e3, e2⟩ := Option.bind_eq_some_iff.mp e2
  cases d <;> simp only [reduceCtorEq, Option.some.injEq, Prod.mk.injEq] at e2
  · obtain ⟨rfl, rfl⟩ := e2
    refine .inl ⟨Bn, Ow, Γ, x, Γ1, rs, e9, fun v H1 O1 s1 r1 v1 => ?_⟩
    obtain ⟨O2, s2, r2, rp⟩ := fre_ok r1 v1 e3
    simp only [Rep] at rp
    obtain ⟨a, vs, rfl, na, ha, rr⟩ := rp
    refine ⟨a, rfl, ⟨vs, .inl (.inl ha)⟩, ?_⟩
    rw [C.K]
    exact k _ H1 O2 (s1.trans s2) r2 (walk_list na ha rr)
  · obtain ⟨rfl, rfl⟩ := e2
    refine .inr ⟨Bn, Ow, Γ, x, Γ1, rs, e9, fun v H1 O1 s1 r1 v1 => ?_⟩
    obtain ⟨O2, s2, r2, rp⟩ := fre_ok r1 v1 e3
    simp only [Rep] at rp
    obtain ⟨a, vs, rfl, na, ha, rr⟩ := rp
    refine ⟨a, rfl, ⟨vs, by rw [C.K]; exact ha⟩, ?_⟩
    rw [C.K]
    exact k _ H1 O2 (s1.trans s2) r2 (walk_tup na ha rr)
theorem i_seq (C : Cok0 g X) (hl : PE X l (tR g fs il)) : PI X tg l (tI g fs .seq [il]) := i_seq_or C (PI.or (pi_list hl) (pi_tup hl))
theorem i_enum (C : Cok0 g X) (hg : Gl X "enumerate") (hm : X.mg "enumerate" = none) (ha : PA X [l] (tAs g fs [il])) (hs : starEach [l] X.env = [(false, eval l X.env)]) : PI X (.Tuple elts kk tpos) (.Call (.Name "enumerate" p) [l] [] pos) (tI g fs .enum [il]) := by
  refine PI.weak (pi_enum hg hm ha hs) ?_
  rintro σ H R ⟨Bn, Ow, Γ, xs, Γ1, ds, Γ2, rs, e1, e2, k⟩
  refine ⟨Bn, Ow, Γ, xs, Γ1, rs, e1, fun vs H1 O1 s1 r1 v1 => ?_⟩
  obtain ⟨x, rfl, e1⟩ := evs_one e1
  simp only [iterD] at e2
  obtain ⟨⟨d, G2⟩, e3, e2⟩ := Option.bind_eq_some_iff.mp e2
  cases d <;> simp only [reduceCtorEq, Option.some.injEq, Prod.mk.injEq] at e2
  obtain ⟨rfl, rfl⟩ := e2
  obtain ⟨v, w, rfl, v1, z⟩ := v1
  have z : w = [] := z
  subst z
  rw [← fre_dn] at e3
  obtain ⟨O2, s2, r2, rp⟩ := fre_ok r1 v1 e3
  simp only [Rep] at rp
  obtain ⟨a, vs, rfl, na, ha, rr⟩ := rp
  refine ⟨a, vs, rfl, .inl (.inl ha), ?_⟩
  rw [C.K]
  exact k _ H1 O2 (s1.trans s2) r2 (walk_enum na ha rr)
theorem in62_of {i : Int} (h : in62 i = true) : -(2 ^ 62) ≤ i ∧ i < 2 ^ 62 := by
  unfold in62 at h
  have h := of_decide_eq_true h
  by_cases h0 : i.natAbs = 0
  · omega
  · rw [Nat.log2_lt h0] at h
    omega
theorem i_rng1 {a : Expr} {ia : E} (C : Cok0 g X) (hg : Gl X "range") (hm : X.mg "range" = none) (ha : PA X [a] (tAs g fs [ia])) (hs : starEach [a] X.env = [(false, eval a X.env)]) : PI X tg (.Call (.Name "range" p) [a] [] pos) (tI g fs .rng [ia]) := by
  refine PI.weak (pi_range1 hg hm ha hs) ?_
  rintro σ H R ⟨Bn, Ow, Γ, xs, Γ1, ds, Γ2, rs, e1, e2, k⟩
  refine ⟨Bn, Ow, Γ, xs, Γ1, rs, e1, fun vs H1 O1 s1 r1 v1 => ?_⟩
  obtain ⟨x, rfl, e1⟩ := evs_one e1
  simp only [iterD] at e2
  obtain ⟨dd, e3, e2⟩ := Option.bind_eq_some_iff.mp e2
  have pd := datums_ok r1 v1 e3
  simp only [datums] at e3
  obtain ⟨d, _, e3⟩ := Option.bind_eq_some_iff.mp e3
  simp only [Option.map_some, Option.some.injEq] at e3
  subst e3
  cases d <;> simp only [reduceCtorEq, Option.ite_none_right_eq_some, Option.some.injEq, Prod.mk.injEq] at e2
  obtain ⟨h6, rfl, rfl⟩ := e2
  obtain ⟨v, rfl, q⟩ := paired1 pd
  rw [rdb_int q]
  exact ⟨_, rfl, (in62_of h6).1, (in62_of h6).2, k _ H1 O1 s1 r1 (walk_rng _ _)⟩
theorem i_rng2 {a b : Expr} {ia ib : E} (C : Cok0 g X) (hg : Gl X "range") (hm : X.mg "range" = none) (ha : PA X [a, b] (tAs g fs [ia, ib])) (hs : starEach [a, b] X.env = [(false, eval a X.env), (false, eval b X.env)]) (hs2 : starEach [b] X.env = [(false, eval b X.env)]) :
    PI X tg (.Call (.Name "range" p) [a, b] [] pos) (tI g fs .rng [ia, ib]) := by
  refine PI.weak (pi_range2 hg hm ha hs hs2) ?_
  rintro σ H R ⟨Bn, Ow, Γ, xs, Γ1, ds, Γ2, rs, e1, e2, k⟩
  refine ⟨Bn, Ow, Γ, xs, Γ1, rs, e1, fun vs H1 O1 s1 r1 v1 => ?_⟩
  simp only [evs] at e1
  obtain ⟨⟨x, G1⟩, _, e1⟩ := Option.bind_eq_some_iff.mp e1
  obtain ⟨⟨ys, G2⟩, e4, e1⟩ := Option.map_eq_some_iff.mp e1
  obtain ⟨⟨y, G3⟩, _, e4⟩ := Option.bind_eq_some_iff.mp e4
  simp only [Option.map_some, Option.some.injEq, Prod.mk.injEq] at e4 e1
  obtain ⟨rfl, rfl⟩ := e4
  obtain ⟨rfl, rfl⟩ := e1
  simp only [iterD] at e2
  obtain ⟨dd, e3, e2⟩ := Option.bind_eq_some_iff.mp e2
  have pd := datums_ok r1 v1 e3
  simp only [datums] at e3
  obtain ⟨d, _, e3⟩ := Option.bind_eq_some_iff.mp e3
  obtain ⟨dr, e5, e3⟩ := Option.map_eq_some_iff.mp e3
  obtain ⟨e, _, e5⟩ := Option.bind_eq_some_iff.mp e5
  simp only [Option.map_some, Option.some.injEq] at e5
  subst e5 e3
  cases d <;> cases e <;> simp only [reduceCtorEq, Option.ite_none_right_eq_some, Option.some.injEq, Prod.mk.injEq, Bool.and_eq_true] at e2
  obtain ⟨⟨h6, h7⟩, rfl, rfl⟩ := e2
  obtain ⟨v, w, rfl, q, q'⟩ := paired2 pd
  rw [rdb_int q, rdb_int q']
  exact ⟨_, _, rfl, ⟨(in62_of h6).1, (in62_of h6).2, (in62_of h7).1, (in62_of h7).2⟩, k _ H1 O1 s1 r1 (walk_rng _ _)⟩
end
end DV

namespace DV
open PySem L2
/-! ### slots wiped and restored -/
theorem wipe_nout {σ : St} {i : Nat} : ∀ {vs : List Nat}, i ∉ vs → (wipe σ vs)[i]? = σ[i]?
  | [], _ => rfl
  | v :: vs, h => by
    simp only [List.mem_cons, not_or] at h
    unfold wipe
    rw [List.getElem?_set_ne (fun z => h.1 z.symm)]
    exact wipe_nout h.2
theorem wipe_in {σ : St} {i : Nat} : ∀ {vs : List Nat}, i ∈ vs → i < σ.length → (wipe σ vs)[i]? = some none
  | v :: vs, h, hl => by
    unfold wipe
    by_cases e : v = i
    · subst e
      exact List.getElem?_set_self (by rw [wipe_length]; exact hl)
    · rw [List.getElem?_set_ne e]
      rcases List.mem_cons.mp h with h | h
      · exact absurd h.symm e
      · exact wipe_in h hl
theorem wipeG_len (Γ : Ct) : ∀ vs : List Nat, (wipeG Γ vs).length = Γ.length
  | [] => rfl
  | v :: vs => by unfold wipeG; rw [List.length_set, wipeG_len Γ vs]
theorem wipeG_some {Γ : Ct} {i : Nat} {p : D × Bool} : ∀ {vs : List Nat}, (wipeG Γ vs)[i]? = some (some p) → Γ[i]? = some (some p) ∧ i ∉ vs
  | [], h => ⟨h, by simp⟩
  | v :: vs, h => by
    unfold wipeG at h
    by_cases e : v = i
    · subst e
      by_cases hl : v < (wipeG Γ vs).length
      · rw [List.getElem?_set_self hl] at h; cases h
      · rw [List.getElem?_eq_none (by rw [List.length_set]; omega)] at h; cases h
    · rw [List.getElem?_set_ne e] at h
      obtain ⟨h1, h2⟩ := wipeG_some h
      exact ⟨h1, by simp only [List.mem_cons, not_or]; exact ⟨fun z => e z.symm, h2⟩⟩
theorem restG_len (Γ Γ' : Ct) : ∀ vs : List Nat, (restG Γ Γ' vs).length = Γ'.length
  | [] => rfl
  | v :: vs => by unfold restG; rw [List.length_set, restG_len Γ Γ' vs]
theorem restG_out {Γ Γ' : Ct} {i : Nat} : ∀ {vs : List Nat}, i ∉ vs → (restG Γ Γ' vs)[i]? = Γ'[i]?
  | [], _ => rfl
  | v :: vs, h => by
    simp only [List.mem_cons, not_or] at h
    unfold restG
    rw [List.getElem?_set_ne (fun z => h.1 z.symm)]
    exact restG_out h.2
theorem restG_in {Γ Γ' : Ct} {i : Nat} : ∀ {vs : List Nat}, i ∈ vs → i < Γ'.length → (restG Γ Γ' vs)[i]? = some (Γ.getD i none)
  | v :: vs, h, hl => by
    unfold restG
    by_cases e : v = i
    · subst e
      exact List.getElem?_set_self (by rw [restG_len]; exact hl)
    · rw [List.getElem?_set_ne e]
      rcases List.mem_cons.mp h with h | h
      · exact absurd h.symm e
      · exact restG_in h hl
theorem wipe_same {σ σ' : St} {vs : List Nat} (hl : σ'.length = σ.length) (h : ∀ i, i ∉ vs → σ'[i]? = σ[i]?) : wipe σ' vs = wipe σ vs := by
  apply List.ext_getElem?
  intro i
  by_cases hi : i ∈ vs
  · by_cases hlt : i < σ.length
    · rw [wipe_in hi hlt, wipe_in hi (by omega)]
    · rw [List.getElem?_eq_none (by rw [wipe_length]; omega), List.getElem?_eq_none (by rw [wipe_length]; omega)]
  · rw [wipe_nout hi, wipe_nout hi, h i hi]
theorem wipe_wipe (σ : St) (vs : List Nat) : wipe (wipe σ vs) vs = wipe σ vs := wipe_same (wipe_length σ vs) fun i hi => wipe_nout hi
section
variable {g : Gx} {Bn : Addr → Prop} {Ow Ow' : List Addr} {H H' : Hp} {σ : St} {Γ Γ' : Ct}
theorem RS.wipe (own : List Nat) (rs : RS g Bn Ow H σ Γ) : RS g Bn Ow H (L2.wipe σ own) (wipeG Γ own) := by
  refine ⟨by rw [wipe_length, wipeG_len]; exact rs.len, fun i d h => ?_, fun i d h => ?_, fun i j d e a h1 h2 h3 h4 => ?_, rs.trl, rs.sep, rs.kf, rs.tabs⟩
  · obtain ⟨h1, h2⟩ := wipeG_some h
    rw [wipe_nout h2]
    exact rs.slot i d h1
  · obtain ⟨h1, h2⟩ := wipeG_some h
    rw [wipe_nout h2]
    exact rs.own i d h1
  · obtain ⟨q1, n1⟩ := wipeG_some h1
    obtain ⟨q2, n2⟩ := wipeG_some h2
    rw [wipe_nout n1] at h3
    rw [wipe_nout n2] at h4
    exact rs.dist i j _ _ _ q1 q2 h3 h4
/-- the block is over: its own names are what they were -/
theorem RS.rest {Bn' : Addr → Prop} {own : List Nat} (r0 : RS g Bn Ow H σ Γ) (hp : plainIx Γ own = true) (s : Stp Ow H Ow' H') (hB : ∀ a, Bn' a → Bn a ∨ H a = none) (rs : RS g Bn' Ow' H' (L2.wipe σ own) Γ') : RS g Bn' Ow' H' σ (restG Γ Γ' own) := by
  have hl : σ.length = Γ'.length := by rw [← rs.len, wipe_length]
  have pl : ∀ i, i ∈ own → ∀ d, Γ[i]? ≠ some (some (d, true)) := fun i hi d z => by
    unfold plainIx at hp
    have q := List.all_eq_true.mp hp i hi
    rw [z] at q
    cases q
  have inn : ∀ {i : Nat} {p : D × Bool}, i ∈ own → (restG Γ Γ' own)[i]? = some (some p) → Γ[i]? = some (some p) := fun {i p} hi h => by
    have hlt : i < Γ'.length := by
      rw [← restG_len Γ Γ' own]
      exact (List.getElem?_eq_some_iff.mp h).1
    rw [restG_in hi hlt] at h
    have hlt2 : i < Γ.length := by rw [← r0.len, hl]; exact hlt
    rw [List.getD_eq_getElem?_getD, List.getElem?_eq_getElem hlt2] at h
    rw [List.getElem?_eq_getElem hlt2]
    simpa using h
  refine ⟨by rw [restG_len]; exact hl, fun i d h => ?_, fun i d h => ?_, fun i j d e a h1 h2 h3 h4 => ?_, rs.trl, rs.sep, rs.kf, rs.tabs⟩
  · by_cases hi : i ∈ own
    · obtain ⟨v, e, r⟩ := r0.slot i d (inn hi h)
      exact ⟨v, e, rep_mono (vst2 hB s rs) _ _ r⟩
    · rw [restG_out hi] at h
      obtain ⟨v, e, r⟩ := rs.slot i d h
      rw [wipe_nout hi] at e
      exact ⟨v, e, r⟩
  · by_cases hi : i ∈ own
    · exact absurd (inn hi h) (pl i hi d)
    · rw [restG_out hi] at h
      obtain ⟨v, e, r⟩ := rs.own i d h
      rw [wipe_nout hi] at e
      exact ⟨v, e, r⟩
  · have n1 : i ∉ own := fun z => pl i z d (inn z h1)
    have n2 : j ∉ own := fun z => pl j z e (inn z h2)
    rw [restG_out n1] at h1
    rw [restG_out n2] at h2
    exact rs.dist i j _ _ _ h1 h2 (by rw [wipe_nout n1]; exact h3) (by rw [wipe_nout n2]; exact h4)
abbrev orB (Bn : Addr → Prop) (p : Addr) : Addr → Prop := fun a => Bn a ∨ a = p
theorem RS.addB {p : Addr} (rs : RS g Bn Ow H σ Γ) (s : Same H H') (np : H p = none) (hp : LI H' p) (hk : g.K.lookup p = none) : RS g (orB Bn p) Ow H' σ Γ := by
  have r := rs.add s np hp hk
  have np' : p ∉ Ow := fun z => rs.trk p (.inr z) np
  have av : ∀ a, Av (orB Bn p) Ow a → Av Bn (p :: Ow) a := fun a h => by
    rcases h with (h | h) | h
    · exact .inl h
    · exact .inr (by rw [h]; exact List.mem_cons_self)
    · exact .inr (List.mem_cons_of_mem _ h)
  refine ⟨r.len, fun i d h => ?_, fun i d h => ?_, r.dist, fun a h => r.trl a (av a h), fun a h z => ?_, fun a h => r.kf a (av a h), r.tabs⟩
  · obtain ⟨v, e, q⟩ := r.slot i d h; exact ⟨v, e, rep_less av q⟩
  · obtain ⟨a, e, m, q⟩ := r.own i d h
    obtain ⟨a', e', m', _⟩ := rs.own i d h
    rw [e] at e'; cases e'
    exact ⟨a, e, m', own_less av q⟩
  · rcases h with h | h
    · exact rs.sep a h z
    · rw [h] at z; exact np' z
theorem RS.unB {p : Addr} (rs : RS g (orB Bn p) Ow H σ Γ) (nb : ¬ Bn p) : RS g Bn (p :: Ow) H σ Γ := by
  have av : ∀ a, Av Bn (p :: Ow) a → Av (orB Bn p) Ow a := fun a h => by
    rcases h with h | h
    · exact .inl (.inl h)
    · rcases List.mem_cons.mp h with h | h
      · exact .inl (.inr h)
      · exact .inr h
  refine ⟨rs.len, fun i d h => ?_, fun i d h => ?_, rs.dist, fun a h => rs.trl a (av a h), fun a h z => ?_, fun a h => rs.kf a (av a h), rs.tabs⟩
  · obtain ⟨v, e, q⟩ := rs.slot i d h; exact ⟨v, e, rep_less av q⟩
  · obtain ⟨a, e, m, q⟩ := rs.own i d h
    exact ⟨a, e, List.mem_cons_of_mem _ m, own_less av q⟩
  · rcases List.mem_cons.mp z with z | z
    · subst z; exact nb h
    · exact rs.sep a (.inl h) z
/-- what is banned may change -/
theorem ban_vst {p : Addr} {o : HO} {A : Addr → Prop} (h : A p) : ∀ a, Vst g A H a → (∀ x, H a = some x → nT x → (upd H p o) a = some x) ∧ ¬ A a := fun a ⟨n, _⟩ => ⟨fun x e _ => by
  rw [upd_ne (fun z => n (by rw [z]; exact h))]
  exact e, n⟩
theorem RS.updB {p : Addr} {o : HO} (rs : RS g Bn Ow H σ Γ) (hp : Bn p) (ho : LI (upd H p o) p) : RS g Bn Ow (upd H p o) σ Γ := by
  have v := ban_vst (g := g) (H := H) (o := o) (A := Av Bn Ow) (p := p) (.inl hp)
  refine ⟨rs.len, fun i d h => ?_, fun i d h => ?_, rs.dist, fun a h => ?_, rs.sep, rs.kf, rs.tabs.upd (rs.trl p (.inl hp))⟩
  · obtain ⟨w, e, q⟩ := rs.slot i d h; exact ⟨w, e, rep_mono v _ _ q⟩
  · obtain ⟨a, e, m, q⟩ := rs.own i d h
    have ne : a ≠ p := fun z => by subst z; exact rs.sep a hp m
    refine ⟨a, e, m, ?_⟩
    cases d with
    | lst ds => obtain ⟨ws, z1, z2⟩ := q; exact ⟨ws, by rw [upd_ne ne]; exact z1, reps_mono v _ _ z2⟩
    | obj c ks ds => obtain ⟨dx, ws, l, z1, z2⟩ := q; exact ⟨dx, ws, l, by rw [upd_ne ne]; exact z1, reps_mono v _ _ z2⟩
    | _ => exact q
  · exact (rs.trl a h).upd fun _ => ho
theorem Stp.updN {O O' : List Addr} {p : Addr} {o : HO} (s : Stp O H O' H') (np : H p = none) : Stp O H O' (upd H' p o) where
  keep0 := fun a x h t n => by
    rw [upd_ne (ne_of_none h np)]
    exact s.keep0 a x h t n
  grow := s.grow
end
def tTc (g : Gx) (fs : List FS) (cond : List E) : TT := fun σ H Q => ∃ Bn Ow Γ t Γ', RS g Bn Ow H σ Γ ∧ evc fs cond Γ = some (t, Γ') ∧ ∀ H' Ow', Stp Ow H Ow' H' → RS g Bn Ow' H' σ Γ' → Q t H'
abbrev kfs (K : PySem.W.Frag) (H : Hp) : Prop := ∀ a o, K.lookup a = some o → H a = none
def tgK (K : PySem.W.Frag) (tg : Tg) : TG := fun v σ H Q => kfs K H → tgT K tg v σ H Q
section
variable {g : Gx} {fs : List FS} {Bn : Addr → Prop} {Ow : List Addr} {H : Hp} {σ : St} {Γ Γ' : Ct}
theorem comp_core {own : List Nat} {tg : Tg} {ik : IK} {its cond : List E} {elt : E} {r : RV} {Q : VK} (rs : RS g Bn Ow H σ Γ) (he : ev fs (.comp own tg ik its cond elt) Γ = some (r, Γ'))
    (hQ : ∀ v H' Ow', Stp Ow H Ow' H' → RS g Bn Ow' H' σ Γ' → Val g Bn Ow' H' σ Γ' r v → Q v H') :
    tLc (tI g fs ik its) (tgK g.K tg) (tTc g fs cond) (tR g fs elt) own σ H (fun v H' => kfs g.K H' → Q v H') := by
  simp only [ev] at he
  obtain ⟨⟨xs, Γ1⟩, e1, he⟩ := Option.bind_eq_some_iff.mp he
  obtain ⟨⟨ds, Γ2⟩, e2, he⟩ := Option.bind_eq_some_iff.mp he
  simp only [Option.ite_none_right_eq_some, Bool.and_eq_true, decide_eq_true_eq] at he
  obtain ⟨⟨⟨hp, hz⟩, htg⟩, he⟩ := he
  obtain ⟨⟨acc, Γ3⟩, e3, he⟩ := Option.map_eq_some_iff.mp he
  simp only [Prod.mk.injEq] at he
  obtain ⟨rfl, rfl⟩ := he
  refine ⟨Bn, Ow, Γ, xs, Γ1, ds, Γ2, rs, e1, e2, fun J H1 O1 s1 r1 wk Dl hD => ?_⟩
  have nbD : ¬ Bn Dl := fun z => r1.trk Dl (.inl z) hD
  have tgO : ∀ i, i ∉ own → i ∉ tgIx tg := fun i hi z => by
    have := List.all_eq_true.mp htg i z
    simp only [List.contains_eq_mem, decide_eq_true_eq] at this
    exact hi this
  let Cn : Nat → Hp → Prop := fun i H => g.K.lookup Dl = none → ∃ O Γi acci vs, Stp O1 H1 O H ∧ RS g (orB Bn Dl) O H (L2.wipe σ own) Γi ∧ H Dl = some (.lst vs) ∧ vs.length ≤ i ∧ Reps g (Av (orB Bn Dl) O) H acci vs ∧ compLoop own tg (evc fs cond) (ev fs elt) (ds.drop i) acci Γi = some (acc, Γ3)
  let U : Nat → Hp → Prop := fun i H => (∀ a o, H1 a = some o → nT o → a ∉ O1 → H a = some o) ∧ ∃ vs, H Dl = some (.lst vs)
  refine ⟨fun i m H => m = ds.length - i ∧ i ≤ ds.length ∧ U i H ∧ Cn i H, ⟨ds.length, by simp, Nat.zero_le _, ⟨fun a o h _ _ => by rw [upd_ne (ne_of_none h hD)]; exact h, [], upd_same⟩, fun hk => ?_⟩, ?_⟩
  · exact ⟨O1, _, [], [], (Stp.refl O1 H1).updN hD, (r1.wipe own).addB (same_new hD) hD (.inl ⟨_, upd_same⟩) hk, upd_same, Nat.le_refl _, by simp only [Reps], e3⟩
  rintro i m H ⟨rfl, hi, ⟨hU1, vs0, hU2⟩, hC⟩
  by_cases hlt : i < ds.length
  · refine .inr ⟨wk.go i H hlt hU1, fun H' => U (i + 1) H' ∧ Cn (i + 1) H', fun H' q => ⟨ds.length - (i + 1), by omega, rfl, hlt, q.1, q.2⟩, fun x H' y kf => ?_⟩
    have sm := wk.same i H x H' y
    have hk : g.K.lookup Dl = none := kf_new kf (sm _ _ hU2)
    obtain ⟨O, Γi, acci, vs, st, r2, hDl, hvl, rp, lp⟩ := hC hk
    have ed : ds[i]? = some ds[i] := List.getElem?_eq_getElem hlt
    have edr : ds.drop i = ds[i] :: ds.drop (i + 1) := List.drop_eq_getElem_cons hlt
    rw [edr] at lp
    simp only [compLoop] at lp
    obtain ⟨G1, a1, lp⟩ := Option.bind_eq_some_iff.mp lp
    obtain ⟨⟨b, G2⟩, a2, lp⟩ := Option.bind_eq_some_iff.mp lp
    obtain ⟨_, rx⟩ := wk.yld i _ (orB Bn Dl) O H _ _ x H' ed (fun a z => .inl z) (fun a z => z.elim .inl fun z => .inr (by rw [z]; exact hD)) st r2 y
    have r2' := r2.same sm
    refine asgT_ok tg r2' rx a1 fun σ2 q1 q2 q3 => ?_
    have hw : L2.wipe σ2 own = L2.wipe σ own := by
      rw [← wipe_wipe σ own]
      exact wipe_same q2 fun j hj => q3 j (tgO j hj)
    refine ⟨hw, orB Bn Dl, O, G1, b, G2, q1, a2, fun H3 O3 s3 r3 => ?_⟩
    have st3 : Stp O1 H1 O3 H3 := (st.trans (Stp.same sm)).trans s3
    have dO : Dl ∉ O := r2.sep Dl (.inr rfl)
    have hDl3 : H3 Dl = some (.lst vs) := s3.keep _ _ (sm _ _ hDl) dO
    have rp3 : Reps g (Av (orB Bn Dl) O3) H3 acci vs := (rp.same sm).step s3 r3
    cases b with
    | false =>
      simp only [Bool.false_eq_true, if_false, Option.ite_none_right_eq_some] at lp ⊢
      obtain ⟨_, lp⟩ := lp
      refine ⟨⟨fun a o h t n => st3.keep0 a o h t n, vs, hDl3⟩, fun _ => ⟨O3, _, acci, vs, st3, ?_, hDl3, by omega, rp3, lp⟩⟩
      have := r3.wipe own
      rw [hw] at this
      exact this
    | true =>
      simp only [if_true] at lp ⊢
      obtain ⟨⟨ye, G3⟩, a3, lp⟩ := Option.bind_eq_some_iff.mp lp
      obtain ⟨⟨e, G4⟩, a4, lp⟩ := Option.bind_eq_some_iff.mp lp
      simp only [Option.ite_none_right_eq_some] at lp
      obtain ⟨_, lp⟩ := lp
      refine ⟨orB Bn Dl, O3, G2, ye, G3, r3, a3, fun y4 H4 O4 s4 r4 v4 => ?_⟩
      obtain ⟨O5, s5, r5, p5⟩ := fre_ok r4 v4 a4
      have dO3 : Dl ∉ O3 := r3.sep Dl (.inr rfl)
      have hDl4 : H4 Dl = some (.lst vs) := s4.keep _ _ hDl3 dO3
      have st5 : Stp O1 H1 O5 H4 := (st3.trans s4).trans s5
      have rp5 : Reps g (Av (orB Bn Dl) O5) H4 acci vs := (rp3.step s4 r4).step s5 r5
      have st6 : Stp O1 H1 O5 (upd H4 Dl (.lst (vs ++ [y4]))) := st5.updN hD
      refine ⟨vs, hDl4, by omega, ⟨fun a o h t n => st6.keep0 a o h t n, vs ++ [y4], upd_same⟩, fun _ => ⟨O5, _, acci ++ [e], vs ++ [y4], st6, ?_, upd_same, by rw [List.length_append, List.length_singleton]; omega, ?_, lp⟩⟩
      · have := r5.wipe own
        rw [hw] at this
        exact this.updB (.inr rfl) (.inl ⟨_, upd_same⟩)
      · exact reps_mono (ban_vst (.inl (.inr rfl))) _ _ (rp5.app (Reps.one p5))
  · have e : i = ds.length := by omega
    subst e
    refine .inl ⟨wk.stop H hU1, fun kf => ?_⟩
    have hk : g.K.lookup Dl = none := kf_new kf hU2
    obtain ⟨O, Γi, acci, vs, st, r2, hDl, hvl, rp, lp⟩ := hC hk
    rw [List.drop_length] at lp
    simp only [compLoop, Option.some.injEq, Prod.mk.injEq] at lp
    obtain ⟨rfl, rfl⟩ := lp
    have r3 := r1.rest hp st (fun a z => z.elim .inl fun z => .inr (by rw [z]; exact hD)) r2
    have r4 := r3.unB nbD
    refine hQ _ H (Dl :: O) (s1.trans ⟨st.keep0, fun a h => ?_⟩) r4 ⟨Dl, rfl, List.mem_cons_self, ⟨vs, hDl, ?_⟩, fun j e h1 h2 => ?_⟩
    · rcases List.mem_cons.mp h with h | h
      · rw [h]; exact .inr (nw_none hD)
      · exact st.grow a h
    · refine reps_less (fun a z => ?_) rp
      rcases z with z | z
      · exact .inl (.inl z)
      · rcases List.mem_cons.mp z with z | z
        · exact .inl (.inr z)
        · exact .inr z
    · obtain ⟨a, e2, m2, _⟩ := r3.own j e h1
      rw [h2] at e2; cases e2
      exact r2.sep Dl (.inr rfl) m2
end
section
variable {X : Cx} {g : Gx} {fs : List FS}
theorem PG.kf {tg : Expr} {t : TG} (h : PG X tg t) : PG X tg (fun v σ H Q => kfs X.K H → t v σ H Q) := ⟨fun pins s σ H v u Q I r q => h.run pins s σ H v u Q I r (q (Inv.kf I))⟩
theorem PTs.weak {e : List Expr} {t t' : TT} (h : PTs X e t) (k : ∀ σ H Q, t' σ H Q → t σ H Q) : PTs X e t' := ⟨fun pins s σ H Q I q => h.run pins s σ H Q I (k σ H Q q)⟩
theorem c_nil : PTs X [] (tTc g fs []) := by
  refine PTs.weak pts_nil ?_
  rintro σ H Q ⟨Bn, Ow, Γ, t, Γ', rs, he, hQ⟩
  simp only [evc, Option.some.injEq, Prod.mk.injEq] at he
  obtain ⟨rfl, rfl⟩ := he
  exact hQ H Ow (.refl _ _) rs
theorem p_comp {elt tg iter : Expr} {ifs : List Expr} {scope : Scope} {own : List (Str × Nat)} {pos : Pos} {itg : Tg} {ik : IK} {its cond : List E} {ielt : E} (C : Cok g X) (hi : PI X tg iter (tI g fs ik its)) (ok : BlkOk X.N X.env.scope scope own)
    (hg : ∀ (s : Shared) (H : Hp) (C : Addr) (cl : List (Str × Addr)) (fp : List Addr), PG (X.blk s H scope (compEnvC scope cl C X.env) fp) tg (tgT g.K itg)) (ht : ∀ (s : Shared) (H : Hp) (C : Addr) (cl : List (Str × Addr)) (fp : List Addr), PTs (X.blk s H scope (compEnvC scope cl C X.env) fp) ifs (tTc g fs cond))
    (he : ∀ (s : Shared) (H : Hp) (C : Addr) (cl : List (Str × Addr)) (fp : List Addr), PE (X.blk s H scope (compEnvC scope cl C X.env) fp) elt (tR g fs ielt)) (hs : ∀ x, foldedSetIterable iter X.env x = pure x) :
    PE X (.ListComp elt [⟨tg, iter, ifs, 0⟩] scope pos) (tR g fs (.comp (own.map (·.2)) itg ik its cond ielt)) := by
  refine PE.weak (PE.kf (pe_lc (g := tgK g.K itg) C.calm C.nd hi ok (fun s H Ca cl fp => ?_) ht he hs)) ?_
  · have := PG.kf (hg s H Ca cl fp)
    exact ⟨fun pins s σ H v u Q I r q => this.run pins s σ H v u Q I r fun kf => q fun a o e => kf a o (by show X.K.lookup a = some o; rw [C.K]; exact e)⟩
  · rintro σ H Q ⟨Bn, Ow, Γ, r, Γ', rs, he, hQ⟩
    have q := comp_core rs he hQ
    rw [C.K]
    exact q
end
end DV

namespace DV
open PySem L2
variable {Wx : L2.XK}
def Pin (pv : Nat × List (Nat × V)) (σ : St) : Prop := σ.length = pv.1 ∧ ∀ p ∈ pv.2, σ[p.1]? = some (some p.2)
def Post (g : Gx) (Wx : L2.XK) (Dn : Ends) (pv : Nat × List (Nat × V)) (Bn : Addr → Prop) (Ow : List Addr) (H : Hp) : Out → Prop
  | .nx Γ' => ∀ σ' H' Ow', Stp Ow H Ow' H' → RS g Bn Ow' H' σ' Γ' → Pin pv σ' → Dn.nx σ' H'
  | .bk Γ' => ∀ σ' H' Ow', Stp Ow H Ow' H' → RS g Bn Ow' H' σ' Γ' → Pin pv σ' → Dn.bk σ' H'
  | .ct Γ' => ∀ σ' H' Ow', Stp Ow H Ow' H' → RS g Bn Ow' H' σ' Γ' → Pin pv σ' → Dn.ct σ' H'
  | .rt r Γ' => ∀ v σ' H' Ow', Stp Ow H Ow' H' → RS g Bn Ow' H' σ' Γ' → Pin pv σ' → Val g Bn Ow' H' σ' Γ' r v → Dn.rt v H'
  | .xc c ks ds Γ' => ∀ d σ' H' Ow', Stp Ow H Ow' H' → RS g Bn Ow' H' σ' Γ' → Pin pv σ' → Rep g (Av Bn Ow') H' (.exc c ks ds) (.ref d) → Wx (.ref (g.cl c)) (some d) H'
def tSt (g : Gx) (Wx : L2.XK) (fs : List FS) (is : S) : TS := fun Dn σ H => ∃ pv Bn Ow Γ o, RS g Bn Ow H σ Γ ∧ Pin pv σ ∧ ex fs (pv.2.map (·.1)) is Γ = some o ∧ Post g Wx Dn pv Bn Ow H o
def tSs (g : Gx) (Wx : L2.XK) (fs : List FS) (is : List S) : TS := fun Dn σ H => ∃ pv Bn Ow Γ o, RS g Bn Ow H σ Γ ∧ Pin pv σ ∧ exs fs (pv.2.map (·.1)) is Γ = some o ∧ Post g Wx Dn pv Bn Ow H o
section
variable {X : Cx} {g : Gx} {fs : List FS} {st : Stmt} {pos : Pos}
theorem PS.weak {t t' : TS} (h : PS X st t) (k : ∀ Dn σ H, t' Dn σ H → t Dn σ H) : PS X st t' := ⟨fun pins s σ H Dn I q => h.run pins s σ H Dn I (k Dn σ H q)⟩
theorem PSs.weak {ss : List Stmt} {t t' : TS} (h : PSs X ss t) (k : ∀ Dn σ H, t' Dn σ H → t Dn σ H) : PSs X ss t' := ⟨fun pins s σ H Dn I q => h.run pins s σ H Dn I (k Dn σ H q)⟩
theorem PS.kf {t : TS} (h : PS X st t) : PS X st (fun Dn σ H => t { nx := fun σ H => kfs X.K H → Dn.nx σ H, rt := fun v H => kfs X.K H → Dn.rt v H, bk := fun σ H => kfs X.K H → Dn.bk σ H, ct := fun σ H => kfs X.K H → Dn.ct σ H } σ H) := ⟨fun pins s σ H Dn I q => thn (h.run pins s σ H _ I q) fun f s1 r => by
  cases f with
  | next => obtain ⟨a, b, I1, c⟩ := r; exact ⟨a, b, I1, c (Inv.kf I1)⟩
  | brk => obtain ⟨a, b, I1, c⟩ := r; exact ⟨a, b, I1, c (Inv.kf I1)⟩
  | cont => obtain ⟨a, b, I1, c⟩ := r; exact ⟨a, b, I1, c (Inv.kf I1)⟩
  | ret v => obtain ⟨x, a, b, I1, r1, c⟩ := r; exact ⟨x, a, b, I1, r1, c (Inv.kf I1)⟩⟩
section
variable {Bn : Addr → Prop} {Ow Ow' : List Addr} {H H' : Hp} {σ : St} {Γ Γ' : Ct} {Dn : Ends} {pv : Nat × List (Nat × V)}
theorem Post.step {o : Out} (h : Post g Wx Dn pv Bn Ow H o) (s : Stp Ow H Ow' H') : Post g Wx Dn pv Bn Ow' H' o := by
  cases o with
  | nx G => exact fun σ1 H1 O1 s1 r p => h σ1 H1 O1 (s.trans s1) r p
  | bk G => exact fun σ1 H1 O1 s1 r p => h σ1 H1 O1 (s.trans s1) r p
  | ct G => exact fun σ1 H1 O1 s1 r p => h σ1 H1 O1 (s.trans s1) r p
  | rt r G => exact fun v σ1 H1 O1 s1 r p => h v σ1 H1 O1 (s.trans s1) r p
  | xc c ks ds G => exact fun v σ1 H1 O1 s1 r p => h v σ1 H1 O1 (s.trans s1) r p
theorem Pin.set {i : Nat} {v : Option V} (h : Pin pv σ) (d : disjB [i] (pv.2.map (·.1)) = true) : Pin pv (σ.set i v) := ⟨by rw [List.length_set]; exact h.1, fun p hp => by
  rw [List.getElem?_set_ne]
  · exact h.2 p hp
  · intro z
    simp only [disjB, List.all_cons, List.all_nil, Bool.and_true, Bool.not_eq_true', List.contains_eq_mem, decide_eq_false_iff_not] at d
    exact d (by rw [z]; exact List.mem_map.mpr ⟨p, hp, rfl⟩)⟩
theorem Pin.keep {σ' : St} {xs : List Nat} (h : Pin pv σ) (d : disjB xs (pv.2.map (·.1)) = true) (hl : σ'.length = σ.length) (k : ∀ i, i ∉ xs → σ'[i]? = σ[i]?) : Pin pv σ' := ⟨hl.trans h.1, fun p hp => by
  rw [k]
  · exact h.2 p hp
  · intro z
    have := List.all_eq_true.mp d _ z
    simp only [Bool.not_eq_true', List.contains_eq_mem, decide_eq_false_iff_not] at this
    exact this (List.mem_map.mpr ⟨p, hp, rfl⟩)⟩
/-- an owned list is rewritten -/
theorem RS.mut {i : Nat} {c : D} {a : Addr} {ds : List D} {ws : List V} (rs : RS g Bn Ow H σ Γ) (hi : Γ[i]? = some (some (c, true))) (hs : σ[i]? = some (some (.ref a))) (r : Reps g (Av Bn Ow) H ds ws) :
    RS g Bn Ow (upd H a (.lst ws)) σ (Γ.set i (some (.lst ds, true))) ∧ Stp Ow H Ow (upd H a (.lst ws)) := by
  have hil : i < Γ.length := (List.getElem?_eq_some_iff.mp hi).1
  obtain ⟨b, e1, m, _⟩ := rs.own i _ hi
  rw [hs] at e1; cases e1
  have vs := ban_vst (g := g) (H := H) (o := .lst ws) (A := Av Bn Ow) (p := a) (.inr m)
  refine ⟨⟨by rw [List.length_set]; exact rs.len, fun j e h => ?_, fun j e h => ?_, fun j k e f b h1 h2 h3 h4 => ?_, fun b h => ?_, rs.sep, rs.kf, rs.tabs.upd (rs.trl a (.inr m))⟩, ⟨fun b o h _ n => ?_, fun _ h => .inl h⟩⟩
  · have hj : i ≠ j := fun z => by subst z; rw [List.getElem?_set_self hil] at h; cases h
    rw [List.getElem?_set_ne hj] at h
    obtain ⟨v, e1, r1⟩ := rs.slot j e h
    exact ⟨v, e1, rep_mono vs _ _ r1⟩
  · by_cases hj : i = j
    · subst hj
      rw [List.getElem?_set_self hil] at h; cases h
      exact ⟨a, hs, m, ws, upd_same, reps_mono vs _ _ r⟩
    · rw [List.getElem?_set_ne hj] at h
      obtain ⟨b, e1, m1, o1⟩ := rs.own j e h
      have nb : b ≠ a := fun z => hj (by subst z; exact rs.dist i j _ _ _ hi h hs e1)
      refine ⟨b, e1, m1, ?_⟩
      cases e with
      | lst es => obtain ⟨us, e2, r2⟩ := o1; exact ⟨us, by rw [upd_ne nb]; exact e2, reps_mono vs _ _ r2⟩
      | obj c ks es => obtain ⟨dx, us, l, e2, r2⟩ := o1; exact ⟨dx, us, l, by rw [upd_ne nb]; exact e2, reps_mono vs _ _ r2⟩
      | _ => exact o1
  · have ex : ∀ (j : Nat) e, (Γ.set i (some (.lst ds, true)))[j]? = some (some (e, true)) → ∃ e', Γ[j]? = some (some (e', true)) := fun j e h => by
      by_cases hj : i = j
      · subst hj; exact ⟨_, hi⟩
      · rw [List.getElem?_set_ne hj] at h; exact ⟨_, h⟩
    obtain ⟨e', h1⟩ := ex j e h1
    obtain ⟨f', h2⟩ := ex k f h2
    exact rs.dist j k _ _ _ h1 h2 h3 h4
  · exact (rs.trl b h).upd fun _ => .inl ⟨_, upd_same⟩
  · have z : b ≠ a := fun z => n (by rw [z]; exact m)
    rw [upd_ne z]; exact h
end
/-! ### simple statements -/
theorem s_stuck : PS X st (tSt g Wx fs .stuck) := by
  refine PS.weak ps_never ?_
  rintro Dn σ H ⟨pv, Bn, Ow, Γ, o, rs, pn, he, po⟩
  simp only [ex, reduceCtorEq] at he
theorem s_expr {e : Expr} {ie : E} (h : PE X e (tR g fs ie)) (hs : swapsWith e none pos.line X.env = pure false) : PS X (.Expr e pos) (tSt g Wx fs (.expr ie)) := by
  refine PS.weak (ps_expr h hs) ?_
  rintro Dn σ H ⟨pv, Bn, Ow, Γ, o, rs, pn, he, po⟩
  simp only [ex] at he
  obtain ⟨⟨x, Γ1⟩, e1, rfl⟩ := Option.map_eq_some_iff.mp he
  exact ⟨Bn, Ow, Γ, x, Γ1, rs, e1, fun v H1 O1 s1 r1 _ => po σ H1 O1 s1 r1 pn⟩
theorem s_ret {e : Expr} {ie : E} (h : PE X e (tR g fs ie)) : PS X (.Return (some e) pos) (tSt g Wx fs (.ret ie)) := by
  refine PS.weak (ps_ret h) ?_
  rintro Dn σ H ⟨pv, Bn, Ow, Γ, o, rs, pn, he, po⟩
  simp only [ex] at he
  obtain ⟨⟨x, Γ1⟩, e1, rfl⟩ := Option.map_eq_some_iff.mp he
  exact ⟨Bn, Ow, Γ, x, Γ1, rs, e1, fun v H1 O1 s1 r1 vl => po v σ H1 O1 s1 r1 pn vl⟩
theorem asg_core {tg : Tg} {ie : E} {Dn : Ends} {σ : St} {H : Hp} (h : tSt g Wx fs (.asg tg ie) Dn σ H) : tAsg (tR g fs ie) (tgT g.K tg) Dn σ H := by
  obtain ⟨pv, Bn, Ow, Γ, o, rs, pn, he, po⟩ := h
  simp only [ex] at he
  obtain ⟨⟨x, Γ1⟩, e1, he⟩ := Option.bind_eq_some_iff.mp he
  obtain ⟨⟨d, Γ2⟩, e2, he⟩ := Option.bind_eq_some_iff.mp he
  simp only [Option.ite_none_right_eq_some] at he
  obtain ⟨dj, he⟩ := he
  obtain ⟨Γ3, e3, rfl⟩ := Option.map_eq_some_iff.mp he
  refine ⟨Bn, Ow, Γ, x, Γ1, rs, e1, fun v H1 O1 s1 r1 vl => ?_⟩
  obtain ⟨O2, s2, r2, p2⟩ := fre_ok r1 vl e2
  exact asgT_ok tg r2 p2 e3 fun σ' q1 q2 q3 => po σ' H1 O2 (s1.trans s2) q1 (pn.keep dj q2 q3)
theorem s_asg {tg e : Expr} {itg : Tg} {ie : E} (h : PE X e (tR g fs ie)) (hg : PG X tg (tgT g.K itg)) (hs : swapsWithSole [tg] e pos.line X.env = pure false) (hw : swappedStores [tg] e X.env = pure none)
    (h1 : (assignEach [tg] X.env).map (·.2) = [assign tg X.env]) : PS X (.Assign [tg] e pos) (tSt g Wx fs (.asg itg ie)) := PS.weak (ps_asg h hg hs hw h1) fun _ _ _ => asg_core
theorem asgO_core {i : Nat} {ie : E} {Dn : Ends} {σ : St} {H : Hp} {te : TE} (hte : ∀ Q, tR g fs ie σ H Q → te σ H Q) (h : tSt g Wx fs (.asgO i ie) Dn σ H) : tAsg te (gName i) Dn σ H := by
  obtain ⟨pv, Bn, Ow, Γ, o, rs, pn, he, po⟩ := h
  simp only [ex] at he
  obtain ⟨⟨x, Γ1⟩, e1, he⟩ := Option.bind_eq_some_iff.mp he
  refine hte _ ⟨Bn, Ow, Γ, x, Γ1, rs, e1, fun v H1 O1 s1 r1 vl => ?_⟩
  have plain : ∀ {o : Out}, ((fre Γ1 x).bind fun (p : D × Ct) => if i < p.2.length ∧ disjB [i] (pv.2.map (·.1)) = true then some (Out.nx (p.2.set i (some (p.1, false)))) else none) = some o → Post g Wx Dn pv Bn Ow H o → gName i v σ H1 Dn.nx := fun {o} he po => by
    obtain ⟨⟨d, Γ2⟩, e2, he⟩ := Option.bind_eq_some_iff.mp he
    simp only [Option.ite_none_right_eq_some, Option.some.injEq] at he
    obtain ⟨⟨hi, dj⟩, rfl⟩ := he
    obtain ⟨O2, s2, r2, p2⟩ := fre_ok r1 vl e2
    exact po _ H1 O2 (s1.trans s2) (r2.set p2 hi) (pn.set dj)
  cases x with
  | nw d =>
    simp only [Option.ite_none_right_eq_some, Option.some.injEq] at he
    obtain ⟨⟨hi, dj⟩, rfl⟩ := he
    exact po _ H1 O1 s1 (r1.setO vl hi) (pn.set dj)
  | fz d => exact plain he po
  | sl j => exact plain he po
theorem s_asgO {i : Nat} {y : Str} {e : Expr} {ie : E} {pos' : Pos} (C : Cok0 g X) (hi : X.N[i]? = some y) (hx : Loc X.env.scope y) (h : PE X e (tR g fs ie)) (hs : swapsWith e (some (.Name y pos')) pos.line X.env = pure false) (hf : X.fn y = true ∨ X.env.scope.names.lookup y = some .local) :
    PS X (.Assign [.Name y pos'] e pos) (tSt g Wx fs (.asgO i ie)) := PS.weak (ps_set C.nd hi hx h hs hf) fun _ _ _ q => asgO_core (fun _ q => q) q
theorem s_setLc {i : Nat} {y : Str} {py : Pos} {elt tg iter : Expr} {ifs : List Expr} {scope : Scope} {own : List (Str × Nat)} {pos spos : Pos} {itg : Tg} {ik : IK} {its cond : List E} {ielt : E} (C : Cok g X) (hy : X.N[i]? = some y) (hyl : X.env.scope.names.lookup y = some .local)
    (hsw : swapsWith (.ListComp elt [⟨tg, iter, ifs, 0⟩] scope pos) (some (.Name y py)) spos.line X.env = pure true) (hi : PI X tg iter (tI g fs ik its)) (ok : BlkOk X.N X.env.scope scope own)
    (hg : ∀ (s : Shared) (H : Hp) (C : Addr) (cl : List (Str × Addr)) (fp : List Addr), PG (X.blk s H scope (compEnvC scope cl C X.env) fp) tg (tgT g.K itg)) (ht : ∀ (s : Shared) (H : Hp) (C : Addr) (cl : List (Str × Addr)) (fp : List Addr), PTs (X.blk s H scope (compEnvC scope cl C X.env) fp) ifs (tTc g fs cond))
    (he : ∀ (s : Shared) (H : Hp) (C : Addr) (cl : List (Str × Addr)) (fp : List Addr), PE (X.blk s H scope (compEnvC scope cl C X.env) fp) elt (tR g fs ielt)) (hs : ∀ x, foldedSetIterable iter X.env x = pure x) :
    PS X (.Assign [.Name y py] (.ListComp elt [⟨tg, iter, ifs, 0⟩] scope pos) spos) (tSt g Wx fs (.asgO i (.comp (own.map (·.2)) itg ik its cond ielt))) := by
  refine PS.weak (PS.kf (ps_setLc (g := tgK g.K itg) C.calm C.nd hy hyl hsw hi ok (fun s H Ca cl fp => ?_) ht he hs)) ?_
  · have := PG.kf (hg s H Ca cl fp)
    exact ⟨fun pins s σ H v u Q I r q => this.run pins s σ H v u Q I r fun kf => q fun a o e => kf a o (by show X.K.lookup a = some o; rw [C.K]; exact e)⟩
  · intro Dn σ H q
    have := asgO_core (te := fun σ H Q => tLc (tI g fs ik its) (tgK g.K itg) (tTc g fs cond) (tR g fs ielt) (own.map (·.2)) σ H (fun v H' => kfs g.K H' → Q v H')) (fun Q ⟨Bn, Ow, Γ, r, Γ', rs, he, hQ⟩ => comp_core rs he hQ) q
    rw [C.K]
    exact this
theorem s_ite {c : Expr} {a b : List Stmt} {ic : E} {ia ib : List S} (hc : PT X c (tT g fs ic)) (ha : PSs X a (tSs g Wx fs ia)) (hb : PSs X b (tSs g Wx fs ib)) : PS X (.If c a b pos) (tSt g Wx fs (.ite ic ia ib)) := by
  refine PS.weak (ps_if hc ha hb) ?_
  rintro Dn σ H ⟨pv, Bn, Ow, Γ, o, rs, pn, he, po⟩
  simp only [ex] at he
  obtain ⟨⟨x, Γ1⟩, e1, he⟩ := Option.bind_eq_some_iff.mp he
  obtain ⟨t, e2, he⟩ := Option.bind_eq_some_iff.mp he
  refine ⟨Bn, Ow, Γ, x, Γ1, t, rs, e1, e2, fun H1 O1 s1 r1 => ?_⟩
  cases t with
  | true => rw [if_pos rfl] at he ⊢; exact ⟨pv, Bn, O1, Γ1, o, r1, pn, he, po.step s1⟩
  | false => rw [if_neg Bool.false_ne_true] at he ⊢; exact ⟨pv, Bn, O1, Γ1, o, r1, pn, he, po.step s1⟩
theorem ss_nil : PSs X [] (tSs g Wx fs []) := by
  refine PSs.weak pss_nil ?_
  rintro Dn σ H ⟨pv, Bn, Ow, Γ, o, rs, pn, he, po⟩
  simp only [exs, Option.some.injEq] at he; subst he
  exact po σ H Ow (.refl _ _) rs pn
theorem ss_cons {rest : List Stmt} {a : S} {b : List S} (h1 : PS X st (tSt g Wx fs a)) (h2 : PSs X rest (tSs g Wx fs b)) : PSs X (st :: rest) (tSs g Wx fs (a :: b)) := by
  refine PSs.weak (pss_cons h1 h2) ?_
  rintro Dn σ H ⟨pv, Bn, Ow, Γ, o, rs, pn, he, po⟩
  simp only [exs] at he
  obtain ⟨o1, e1, he⟩ := Option.bind_eq_some_iff.mp he
  refine ⟨pv, Bn, Ow, Γ, o1, rs, pn, e1, ?_⟩
  cases o1 with
  | nx G => exact fun σ1 H1 O1 s1 r1 p1 => ⟨pv, Bn, O1, G, o, r1, p1, he, po.step s1⟩
  | bk G => simp only [Option.some.injEq] at he; subst he; exact po
  | ct G => simp only [Option.some.injEq] at he; subst he; exact po
  | rt r G => simp only [Option.some.injEq] at he; subst he; exact po
  | xc c ks ds G => simp only [Option.some.injEq] at he; subst he; exact po
theorem s_for {tg iter : Expr} {b : List Stmt} {itg : Tg} {ik : IK} {its : List E} {ib : List S} (C : Cok g X) (hp : PassesOwn (model X.prog X.w) X.A X.env X.xe) (hi : PI X tg iter (tI g fs ik its)) (hg : PG X tg (tgT g.K itg)) (hb : PSs X b (tSs g Wx fs ib)) (hs : ∀ x, foldedSetIterable iter X.env x = pure x) :
    PS X (.For tg iter b [] pos) (tSt g Wx fs (.for_ itg ik its ib)) := by
  refine PS.weak (ps_for hp C.calm hi hg hb hs) ?_
  rintro Dn σ H ⟨pv, Bn, Ow, Γ, o, rs, pn, he, po⟩
  simp only [ex] at he
  obtain ⟨⟨xs, Γ1⟩, e1, he⟩ := Option.bind_eq_some_iff.mp he
  obtain ⟨⟨ds, Γ2⟩, e2, he⟩ := Option.bind_eq_some_iff.mp he
  simp only [Option.ite_none_right_eq_some] at he
  obtain ⟨dj, he⟩ := he
  refine ⟨Bn, Ow, Γ, xs, Γ1, ds, Γ2, rs, e1, e2, fun J H1 O1 s1 r1 wk => ?_⟩
  let C1 : Nat → St → Hp → Prop := fun i σ2 H2 => ∃ O2 G2, Stp O1 H1 O2 H2 ∧ RS g Bn O2 H2 σ2 G2 ∧ Pin pv σ2 ∧ forLoop itg (exs fs (pv.2.map (·.1)) ib) (ds.drop i) G2 = some o
  refine ⟨fun i m σ2 H2 => m = ds.length - i ∧ i ≤ ds.length ∧ C1 i σ2 H2, ⟨ds.length, by simp, Nat.zero_le _, O1, Γ2, .refl _ _, r1, pn, he⟩, ?_⟩
  rintro i m σ2 H2 ⟨rfl, hle, O2, G2, s2, r2, p2, l2⟩
  by_cases hlt : i < ds.length
  · refine .inr ⟨wk.go i H2 hlt fun a o h t n => s2.keep0 a o h t n, fun σ' H' => C1 (i + 1) σ' H', fun σ' H' q => ⟨ds.length - (i + 1), by omega, rfl, hlt, q⟩, fun x H3 y => ?_⟩
    have edr : ds.drop i = ds[i] :: ds.drop (i + 1) := List.drop_eq_getElem_cons hlt
    rw [edr] at l2
    simp only [forLoop] at l2
    obtain ⟨G3, a1, l2⟩ := Option.bind_eq_some_iff.mp l2
    obtain ⟨o1, a2, l2⟩ := Option.bind_eq_some_iff.mp l2
    obtain ⟨sm, rx⟩ := wk.yld i _ Bn O2 H2 _ _ x H3 (List.getElem?_eq_getElem hlt) (fun a z => z) (fun a z => .inl z) s2 r2 y
    have s3 : Stp O1 H1 O2 H3 := s2.trans (Stp.same sm)
    refine asgT_ok itg (r2.same sm) rx a1 fun σ3 q1 q2 q3 => ⟨pv, Bn, O2, G3, o1, q1, p2.keep dj q2 q3, a2, ?_⟩
    cases o1 with
    | nx G => exact fun σ4 H4 O4 s4 r4 p4 => ⟨O4, G, s3.trans s4, r4, p4, l2⟩
    | ct G => exact fun σ4 H4 O4 s4 r4 p4 => ⟨O4, G, s3.trans s4, r4, p4, l2⟩
    | bk G =>
      simp only [Option.some.injEq] at l2; subst l2
      exact fun σ4 H4 O4 s4 r4 p4 => po σ4 H4 O4 (s1.trans (s3.trans s4)) r4 p4
    | rt r G =>
      simp only [Option.some.injEq] at l2; subst l2
      exact fun v σ4 H4 O4 s4 r4 p4 => po v σ4 H4 O4 (s1.trans (s3.trans s4)) r4 p4
    | xc c ks ds G =>
      simp only [Option.some.injEq] at l2; subst l2
      exact fun v σ4 H4 O4 s4 r4 p4 => po v σ4 H4 O4 (s1.trans (s3.trans s4)) r4 p4
  · have e : i = ds.length := by omega
    subst e
    rw [List.drop_length] at l2
    simp only [forLoop, Option.some.injEq] at l2
    subst l2
    exact .inl ⟨wk.stop H2 fun a o h t n => s2.keep0 a o h t n, po σ2 H2 O2 (s1.trans s2) r2 p2⟩
end
end DV

namespace DV
open PySem L2
variable {Wx : L2.XK}
section
variable {X : Cx} {g : Gx} {fs : List FS} {st : Stmt} {pos : Pos} {Bn : Addr → Prop} {Ow Ow' : List Addr} {H H' : Hp} {σ : St} {Γ Γ' : Ct}
theorem isLst_ty {i : Nat} (rs : RS g Bn Ow H σ Γ) (h : isLst Γ i = true) : ∃ a, σ[i]? = some (some (.ref a)) ∧ tyV g.K "list" (.ref a) H := by
  unfold isLst at h
  split at h
  · rename_i ds b q
    cases b with
    | false =>
      obtain ⟨v, e1, r1⟩ := rs.slot i _ q
      simp only [Rep] at r1
      obtain ⟨a, vs, rfl, _, s, _⟩ := r1
      exact ⟨a, e1, .inl ⟨rfl, vs, .inl (.inl s)⟩⟩
    | true =>
      obtain ⟨a, e1, _, vs, s, _⟩ := rs.own i _ q
      exact ⟨a, e1, .inl ⟨rfl, vs, .inl (.inl s)⟩⟩
  · cases h
theorem s_app {o e : Expr} {i : Nat} {ie : E} {apos cpos : Pos} (C : Cok0 g X) (ho : PE X o (tVar i)) (he : PE X e (tR g fs ie)) (hbase : attributeBase o "append" X.env (eval o X.env) = eval o X.env)
    (hline : (apos.endLine == cpos.line) = true) (hs : starEach [e] X.env = [(false, eval e X.env)]) (hsw : swapsWith (.Call (.Attribute o "append" apos) [e] [] cpos) none pos.line X.env = pure false) :
    PS X (.Expr (.Call (.Attribute o "append" apos) [e] [] cpos) pos) (tSt g Wx fs (.app i ie)) := by
  refine PS.weak (ps_expr (pe_bm PySem.F.plainAttrs_list PySem.F.slot_list_append PySem.F.type_list_append mt_append ho (pa_cons he pa_nil (by rw [hs]; rfl)) hbase (by rw [hs]; rfl) hline (by rw [hs]; rfl) rfl) hsw) ?_
  rintro Dn σ H ⟨pv, Bn, Ow, Γ, o, rs, pn, he, po⟩
  simp only [ex, Option.ite_none_right_eq_some] at he
  obtain ⟨hl, he⟩ := he
  obtain ⟨⟨x, Γ1⟩, e1, he⟩ := Option.bind_eq_some_iff.mp he
  obtain ⟨⟨d, Γ2⟩, e2, he⟩ := Option.bind_eq_some_iff.mp he
  obtain ⟨a, ea, ty⟩ := isLst_ty rs hl
  refine ⟨_, ea, by rw [C.K]; exact ty, Bn, Ow, Γ, x, Γ1, rs, e1, fun v H1 O1 s1 r1 vl => ?_⟩
  obtain ⟨O2, s2, r2, p2⟩ := fre_ok r1 vl e2
  split at he
  · rename_i c q
    obtain ⟨c', e3, rfl⟩ := Option.map_eq_some_iff.mp he
    obtain ⟨b, eb, m, ow⟩ := r2.own i _ q
    rw [ea] at eb; cases eb
    cases c <;> simp only [appD, reduceCtorEq, Option.ite_none_right_eq_some, Option.some.injEq] at e3
    rename_i xs
    obtain ⟨hz, rfl⟩ := e3
    obtain ⟨vs, hv, rp⟩ := ow
    obtain ⟨r3, s3⟩ := r2.mut q ea (rp.app (Reps.one p2))
    exact ⟨a, vs, v, rfl, rfl, hv, by rw [← rp.len]; exact hz, po _ _ O2 ((s1.trans s2).trans s3) r3 pn⟩
  · cases he
theorem s_seti {o k e : Expr} {i : Nat} {ik ie : E} {tpos : Pos} (C : Cok0 g X) (ho : PE X o (tVar i)) (hk : PE X k (tR g fs ik)) (he : PE X e (tR g fs ie)) (hs : swapsWithSole [.Subscript o k tpos] e pos.line X.env = pure false) (hw : swappedStores [.Subscript o k tpos] e X.env = pure none)
    (h1 : (assignEach [.Subscript o k tpos] X.env).map (·.2) = [assign (.Subscript o k tpos) X.env])
    (ha : ∀ v, assign (.Subscript o k tpos) X.env v = (do
      let ov ← holding [v] (eval o X.env)
      let iv ← holding [v, ov] (eval k X.env)
      standAt tpos
      holding [v, ov, iv] (setItem ov iv v)
      release [v, ov, iv] [])) : PS X (.Assign [.Subscript o k tpos] e pos) (tSt g Wx fs (.seti i ik ie)) := by
  refine PS.weak (ps_asg he (pg_sub ho hk set_list ha) hs hw h1) ?_
  rintro Dn σ H ⟨pv, Bn, Ow, Γ, o, rs, pn, he, po⟩
  simp only [ex] at he
  obtain ⟨⟨x, Γ1⟩, e1, he⟩ := Option.bind_eq_some_iff.mp he
  obtain ⟨⟨d, Γ2⟩, e2, he⟩ := Option.bind_eq_some_iff.mp he
  simp only [Option.ite_none_right_eq_some] at he
  obtain ⟨hil, he⟩ := he
  obtain ⟨⟨y, Γ3⟩, e3, he⟩ := Option.bind_eq_some_iff.mp he
  obtain ⟨kd, e4, he⟩ := Option.bind_eq_some_iff.mp he
  refine ⟨Bn, Ow, Γ, x, Γ1, rs, e1, fun v H1 O1 s1 r1 vl => ?_⟩
  obtain ⟨O2, s2, r2, p2⟩ := fre_ok r1 vl e2
  split at he
  · rename_i c q
    obtain ⟨c', e5, rfl⟩ := Option.map_eq_some_iff.mp he
    obtain ⟨a, ea, _⟩ := isLst_ty r2 hil
    refine ⟨_, ea, Bn, O2, Γ2, y, Γ3, r2, e3, fun w H3 O3 s3 r3 v3 => ?_⟩
    have rd := v3.rdb r3 e4
    obtain ⟨b, eb, m, ow⟩ := r3.own i _ q
    rw [ea] at eb; cases eb
    cases c <;> simp only [setD, reduceCtorEq] at e5
    cases kd <;> simp only [setD, reduceCtorEq] at e5
    rename_i ki
    obtain ⟨j, e6, rfl⟩ := Option.map_eq_some_iff.mp e5
    obtain ⟨vs, hv, rp⟩ := ow
    have rd : w = .int ki := by simpa only [Rdb, Rep] using rd
    obtain ⟨r4, s4⟩ := r3.mut q ea (rp.set (p2.step s3 r3) j)
    exact ⟨a, vs, _, j, rfl, rd, hv, by rw [← rp.len]; exact e6, po _ _ O3 (((s1.trans s2).trans s3).trans s4) r4 pn⟩
  · cases he
/-! ### parallel assignment -/
def VlN (g : Gx) (Bn : Addr → Prop) (Ow : List Addr) (H : Hp) (σ : St) (Γ : Ct) : List RV → List V → Prop
  | [], vs => vs = []
  | x :: xs, vs => ∃ v r, vs = v :: r ∧ Val g Bn Ow H σ Γ x v ∧ (∀ d, x = .nw d → v ∉ r) ∧ (∀ i, x ≠ .sl i) ∧ VlN g Bn Ow H σ Γ xs r
theorem Rep.nav {A : Addr → Prop} {d : D} {a : Addr} (h0 : g.ea = none) (hr : nrf (.fz d) = true) (h : Rep g A H d (.ref a)) : ¬ A a := by
  cases d <;> simp only [Rep, reduceCtorEq] at h
  · obtain ⟨b, vs, e, n, _⟩ := h; cases e; exact n
  · obtain ⟨b, vs, e, n, _⟩ := h; cases e; exact n
  · obtain ⟨b, vs, ws, e, n, _⟩ := h; cases e; exact n
  · obtain ⟨b, e, n, _⟩ := h; cases e; exact n
  · obtain ⟨b, e, n, _⟩ := h; cases e; exact n
  · obtain ⟨b, vs, e, n, _⟩ := h; cases e; exact n
  · obtain ⟨b, vs, e, n, _⟩ := h; cases e; exact n
  · obtain ⟨e0, b, vs, e1, _⟩ := h; rw [h0] at e1; cases e1
  · cases hr
theorem OwnA.step {d : D} {p : Addr} (o : OwnA g (Av Bn Ow) H d p) (np : p ∉ Ow) (s : Stp Ow H Ow' H') (rs : RS g Bn Ow' H' σ Γ) : OwnA g (Av Bn Ow') H' d p := by
  cases d with
  | lst es => obtain ⟨us, e2, r2⟩ := o; exact ⟨us, s.keep _ _ e2 np, r2.step s rs⟩
  | obj c ks es => obtain ⟨dx, us, l, e2, r2⟩ := o; exact ⟨dx, us, l, s.keep _ _ e2 np, r2.step s rs⟩
  | _ => exact o
theorem RS.ban {d : D} {p : Addr} (rs : RS g Bn Ow H σ Γ) (m : p ∈ Ow) (no : ∀ (i : Nat) e, Γ[i]? = some (some (e, true)) → σ[i]? ≠ some (some (.ref p))) : RS g (orB Bn p) (Ow.filter (fun x => decide (x ≠ p))) H σ Γ := by
  have k1 : ∀ a, Av (orB Bn p) (Ow.filter (fun x => decide (x ≠ p))) a → Av Bn Ow a := fun a z => by
    rcases z with (z | z) | z
    · exact .inl z
    · rw [z]; exact .inr m
    · exact .inr (mem_ne z).1
  refine ⟨rs.len, fun i d h => ?_, fun i d h => ?_, rs.dist, fun a h => rs.trl a (k1 a h), fun a h z => ?_, fun a h => rs.kf a (k1 a h), rs.tabs⟩
  · obtain ⟨v, e, r⟩ := rs.slot i d h; exact ⟨v, e, rep_less k1 r⟩
  · obtain ⟨a, e, ma, r⟩ := rs.own i d h
    exact ⟨a, e, ne_mem ma fun z => no i d h (by rw [e, z]), own_less k1 r⟩
  · rcases h with h | h
    · exact rs.sep a h (mem_ne z).1
    · exact (mem_ne z).2 h
theorem VlN.unB {p : Addr} : ∀ {xs : List RV} {vs : List V}, VlN g (orB Bn p) Ow H σ Γ xs vs → VlN g Bn (p :: Ow) H σ Γ xs vs
  | [], _, h => h
  | x :: xs, _, ⟨v, r, e, h1, h2, h3, h4⟩ => by
    refine ⟨v, r, e, ?_, h2, h3, VlN.unB h4⟩
    have k1 : ∀ a, Av Bn (p :: Ow) a → Av (orB Bn p) Ow a := fun a z => by
      rcases z with z | z
      · exact .inl (.inl z)
      · rcases List.mem_cons.mp z with z | z
        · exact .inl (.inr z)
        · exact .inr z
    cases x with
    | fz d => exact rep_less k1 h1
    | nw d => obtain ⟨a, e1, m1, o1, n1⟩ := h1; exact ⟨a, e1, List.mem_cons_of_mem _ m1, own_less k1 o1, n1⟩
    | sl i => exact h1
theorem VlN.nin {p : Addr} (h0 : g.ea = none) : ∀ {xs : List RV} {vs : List V}, xs.all nrf = true → VlN g Bn Ow H σ Γ xs vs → Bn p → (∀ a, Bn a → a ∉ Ow) → V.ref p ∉ vs
  | [], _, _, h, _, _ => by have h : _ = [] := h; subst h; simp
  | x :: xs, _, hn, ⟨v, r, e, h1, h2, h3, h4⟩, hp, sp => by
    subst e
    simp only [List.all_cons, Bool.and_eq_true] at hn
    intro z
    rcases List.mem_cons.mp z with z | z
    · subst z
      cases x with
      | fz d => exact Rep.nav h0 hn.1 h1 (.inl hp)
      | nw d => obtain ⟨a, e1, m1, _⟩ := h1; cases e1; exact sp p hp m1
      | sl i => exact h3 i rfl
    · exact VlN.nin h0 hn.2 h4 hp sp z
theorem VlW.unB {p : Addr} : ∀ {xs : List RV} {vs : List V}, VlW g (orB Bn p) Ow H σ Γ xs vs → VlW g Bn (p :: Ow) H σ Γ xs vs
  | [], _, h => h
  | x :: xs, _, ⟨v, r, e, h1, h2, h4⟩ => by
    refine ⟨v, r, e, ?_, h2, VlW.unB h4⟩
    have k1 : ∀ a, Av Bn (p :: Ow) a → Av (orB Bn p) Ow a := fun a z => by
      rcases z with z | z
      · exact .inl (.inl z)
      · rcases List.mem_cons.mp z with z | z
        · exact .inl (.inr z)
        · exact .inr z
    cases x with
    | fz d => exact rep_less k1 h1
    | nw d => obtain ⟨a, e1, m1, o1, n1⟩ := h1; exact ⟨a, e1, List.mem_cons_of_mem _ m1, own_less k1 o1, n1⟩
    | sl i => exact h1
theorem aw_nil : PA X [] (tAw g fs []) := by
  refine PA.weak pa_nil ?_
  rintro σ H Q ⟨Bn, Ow, Γ, xs, Γ', rs, he, hQ⟩
  simp only [evs, Option.some.injEq, Prod.mk.injEq] at he
  obtain ⟨rfl, rfl⟩ := he
  exact hQ [] H Ow (.refl _ _) rs rfl
theorem aw_split {ia : E} {ies : List E} {σ : St} {H : Hp} {Q : List V → Hp → Prop} (h : tAw g fs (ia :: ies) σ H Q) : tR g fs ia σ H fun v H1 => tAw g fs ies σ H1 fun vs H2 => Q (v :: vs) H2 := by
  obtain ⟨Bn, Ow, Γ, xs, Γ', rs, he, hQ⟩ := h
  simp only [evs] at he
  obtain ⟨⟨x, Γ1⟩, e1, he⟩ := Option.bind_eq_some_iff.mp he
  obtain ⟨⟨ys, Γ3⟩, e3, he⟩ := Option.map_eq_some_iff.mp he
  simp only [Prod.mk.injEq] at he
  obtain ⟨rfl, rfl⟩ := he
  refine ⟨Bn, Ow, Γ, x, Γ1, rs, e1, fun v H1 O1 s1 r1 vl => ?_⟩
  cases x with
  | fz d => exact ⟨Bn, O1, Γ1, ys, Γ3, r1, e3, fun vs H3 O3 s3 r3 v3 => hQ (v :: vs) H3 O3 (s1.trans s3) r3 ⟨v, vs, rfl, Val.step (r := .fz d) vl s3 r3, nofun, v3⟩⟩
  | sl i => exact ⟨Bn, O1, Γ1, ys, Γ3, r1, e3, fun vs H3 O3 s3 r3 v3 => hQ (v :: vs) H3 O3 (s1.trans s3) r3 ⟨v, vs, rfl, vl, nofun, v3⟩⟩
  | nw d =>
    obtain ⟨p, rfl, m, ow, no⟩ := vl
    have r2 := r1.ban (d := d) m no
    have nb : ¬ Bn p := fun z => r1.sep p z m
    have np : p ∉ O1.filter (fun x => decide (x ≠ p)) := fun z => (mem_ne z).2 rfl
    have ow2 : OwnA g (Av (orB Bn p) (O1.filter (fun x => decide (x ≠ p)))) H1 d p := own_less (fun a z => by
      rcases z with (z | z) | z
      · exact .inl z
      · rw [z]; exact .inr m
      · exact .inr (mem_ne z).1) ow
    refine ⟨orB Bn p, _, Γ1, ys, Γ3, r2, e3, fun vs H3 O3 s3 r3 v3 => hQ (.ref p :: vs) H3 (p :: O3) (s1.trans ⟨fun a o h t n => s3.keep0 a o h t fun z => n (mem_ne z).1, fun a h => ?_⟩) (r3.unB nb) ⟨.ref p, vs, rfl, ⟨p, rfl, List.mem_cons_self, ?_, fun j e h1 h2 => ?_⟩, fun _ _ j e h1 h2 => ?_, v3.unB⟩⟩
    · rcases List.mem_cons.mp h with h | h
      · rw [h]; exact .inl m
      · rcases s3.grow a h with z | z
        · exact .inl (mem_ne z).1
        · exact .inr z
    · exact own_less (fun a z => by
        rcases z with z | z
        · exact .inl (.inl z)
        · rcases List.mem_cons.mp z with z | z
          · exact .inl (.inr z)
          · exact .inr z) (ow2.step np s3 r3)
    · obtain ⟨b, e2, m2, _⟩ := r3.own j e h1
      rw [h2] at e2; cases e2
      exact r3.sep p (.inr rfl) m2
    · obtain ⟨w, h3, h4⟩ := v3.get h1
      rw [h2] at h3; cases h3
      obtain ⟨b, e4, m4, _⟩ := h4
      cases e4
      exact r3.sep p (.inr rfl) m4
theorem aw_cons {a : Expr} {es : List Expr} {ia : E} {ies : List E} (ha : PE X a (tR g fs ia)) (hr : PA X es (tAw g fs ies)) (hs : starEach (a :: es) X.env = (false, eval a X.env) :: starEach es X.env) : PA X (a :: es) (tAw g fs (ia :: ies)) := 
  PA.weak (pa_cons ha hr hs) fun _ _ _ h => aw_split h
theorem VlN.set {i : Nat} {d : D} {b : Bool} {v : V} (hi : i < Γ.length) (hs : i < σ.length) : ∀ {xs : List RV} {vs : List V}, v ∉ vs ∨ b = false → VlN g Bn Ow H σ Γ xs vs → VlN g Bn Ow H (σ.set i (some v)) (Γ.set i (some (d, b))) xs vs
  | [], _, _, h => h
  | x :: xs, _, n, ⟨w, r, e, h1, h2, h3, h4⟩ => by
    subst e
    refine ⟨w, r, rfl, ?_, h2, h3, VlN.set hi hs (n.imp (fun n z => n (List.mem_cons_of_mem _ z)) id) h4⟩
    cases x with
    | fz d => exact h1
    | nw d =>
      obtain ⟨a, e1, m1, o1, n1⟩ := h1
      refine ⟨a, e1, m1, o1, fun j e q1 q2 => ?_⟩
      by_cases hj : i = j
      · subst hj
        rw [List.getElem?_set_self hi] at q1
        rw [List.getElem?_set_self hs] at q2
        cases q1; cases q2; cases e1
        exact n.elim (fun n => n List.mem_cons_self) nofun
      · rw [List.getElem?_set_ne hj] at q1 q2
        exact n1 j e q1 q2
    | sl i => exact (h3 i rfl).elim
theorem VlN.len : ∀ {xs : List RV} {vs : List V}, VlN g Bn Ow H σ Γ xs vs → xs.length = vs.length
  | [], _, h => by have h : _ = [] := h; subst h; rfl
  | x :: xs, _, ⟨v, r, e, _, _, _, h2⟩ => by subst e; rw [List.length_cons, List.length_cons, h2.len]
end
end DV

namespace DV
open PySem L2
variable {Wx : L2.XK}
theorem Cok.blk {g : Gx} {X : Cx} (C : Cok g X) (s : Shared) (H : Hp) (scope : Scope) (ce : Env) (fp : List Addr) : Cok g (X.blk s H scope ce fp) := ⟨C.K, C.calm, C.hu, C.nd, C.ea⟩
theorem part0 {g : Gx} {fs : List FS} {X : Cx} : Part g fs X none [] := ⟨.inl ⟨rfl, rfl⟩⟩
theorem part1 {g : Gx} {fs : List FS} {X : Cx} {a : Expr} {ia : E} (h : PE X a (tR g fs ia)) : Part g fs X (some a) [ia] := ⟨.inr ⟨a, ia, rfl, rfl, h⟩⟩
section
variable {g : Gx} {Bn : Addr → Prop} {Ow Ow' : List Addr} {H H' : Hp} {σ : St} {Γ Γ' : Ct}
theorem ownPs_mem : ∀ {G : Ct} {n i : Nat}, i ∈ ownPs n G ↔ ∃ j d, i = n + j ∧ G[j]? = some (some (d, true))
  | [], n, i => by simp [ownPs]
  | none :: r, n, i => by
    simp only [ownPs]
    rw [ownPs_mem]
    constructor
    · rintro ⟨j, d, rfl, h⟩; exact ⟨j + 1, d, by omega, by simpa using h⟩
    · rintro ⟨j, d, rfl, h⟩
      cases j with
      | zero => simp at h
      | succ j => exact ⟨j, d, by omega, by simpa using h⟩
  | some (c, false) :: r, n, i => by
    simp only [ownPs]
    rw [ownPs_mem]
    constructor
    · rintro ⟨j, d, rfl, h⟩; exact ⟨j + 1, d, by omega, by simpa using h⟩
    · rintro ⟨j, d, rfl, h⟩
      cases j with
      | zero => simp at h
      | succ j => exact ⟨j, d, by omega, by simpa using h⟩
  | some (c, true) :: r, n, i => by
    simp only [ownPs, List.mem_cons]
    rw [ownPs_mem]
    constructor
    · rintro (rfl | ⟨j, d, rfl, h⟩)
      · exact ⟨0, c, rfl, rfl⟩
      · exact ⟨j + 1, d, by omega, by simpa using h⟩
    · rintro ⟨j, d, rfl, h⟩
      cases j with
      | zero => exact .inl rfl
      | succ j => exact .inr ⟨j, d, by omega, by simpa using h⟩
theorem outsOf_len : ∀ {G G' : Ct}, G.length ≤ G'.length → (outsOf G G').length = G.length
  | [], G', _ => by cases G' <;> simp [outsOf]
  | x :: r, [], h => by simp at h
  | x :: r, y :: s, h => by
    have ih := outsOf_len (G := r) (G' := s) (by simpa using h)
    match x with
    | some (_, true) => simp [outsOf, ih]
    | some (_, false) => simp [outsOf, ih]
    | none => simp [outsOf, ih]
theorem outsOf_get : ∀ {G G' : Ct} {i : Nat} {p : D × Bool}, (outsOf G G')[i]? = some (some p) → (OwS G i ∧ G'[i]? = some (some p)) ∨ (¬ OwS G i ∧ G[i]? = some (some p))
  | [], G', i, p, h => by cases G' <;> simp [outsOf] at h
  | x :: r, [], i, p, h => by match x with
    | some (_, true) => simp [outsOf] at h
    | some (_, false) => simp [outsOf] at h
    | none => simp [outsOf] at h
  | x :: r, y :: s, 0, p, h => by
    match x with
    | some (d, true) => simp [outsOf] at h; exact .inl ⟨⟨d, rfl⟩, by simp [h]⟩
    | some (d, false) => simp [outsOf] at h; exact .inr ⟨by rintro ⟨e, he⟩; simp at he, by simp [h]⟩
    | none => simp [outsOf] at h
  | x :: r, y :: s, i + 1, p, h => by
    have h' : (outsOf r s)[i]? = some (some p) := by
      match x with
      | some (d, true) => simpa [outsOf] using h
      | some (d, false) => simpa [outsOf] using h
      | none => simpa [outsOf] using h
    rcases outsOf_get h' with ⟨⟨e, h1⟩, h2⟩ | ⟨h1, h2⟩
    · exact .inl ⟨⟨e, by simpa using h1⟩, by simpa using h2⟩
    · exact .inr ⟨by rintro ⟨e, he⟩; exact h1 ⟨e, by simpa using he⟩, by simpa using h2⟩
/-- what comes back at the parameters -/
theorem outs_ok {vs : List V} {G0 : Ct} (r0 : RS g Bn Ow H (vs.map some) G0) (st : Stp Ow H Ow' H') (r1 : RS g Bn Ow' H' σ Γ) (hl : G0.length ≤ Γ.length) (pn : ∀ i, OwS G0 i → σ[i]? = (vs.map some)[i]?) : RS g Bn Ow' H' (vs.map some) (outsOf G0 Γ) := by
  refine ⟨by rw [outsOf_len hl]; exact r0.len, fun i d h => ?_, fun i d h => ?_, fun i j d e a h1 h2 h3 h4 => ?_, r1.trl, r1.sep, r1.kf, r1.tabs⟩
  · rcases outsOf_get h with ⟨o, h1⟩ | ⟨_, h1⟩
    · obtain ⟨v, e, r⟩ := r1.slot i d h1
      exact ⟨v, by rw [← pn i o]; exact e, r⟩
    · obtain ⟨v, e, r⟩ := r0.slot i d h1
      exact ⟨v, e, r.step st r1⟩
  · rcases outsOf_get h with ⟨o, h1⟩ | ⟨n, h1⟩
    · obtain ⟨v, e, r⟩ := r1.own i d h1
      exact ⟨v, by rw [← pn i o]; exact e, r⟩
    · exact (n ⟨d, h1⟩).elim
  · rcases outsOf_get h1 with ⟨o1, h1⟩ | ⟨n, h1⟩
    · rcases outsOf_get h2 with ⟨o2, h2⟩ | ⟨n, h2⟩
      · exact r1.dist i j d e a h1 h2 (by rw [pn i o1]; exact h3) (by rw [pn j o2]; exact h4)
      · exact (n ⟨e, h2⟩).elim
    · exact (n ⟨d, h1⟩).elim
theorem RS.start {vs : List V} {G0 : Ct} (k : Nat) (r0 : RS g Bn Ow H (vs.map some) G0) : RS g Bn Ow H (vs.map some ++ List.replicate k none) (G0 ++ List.replicate k none) := by
  have low : ∀ {i : Nat} {p : D × Bool}, (G0 ++ List.replicate k none)[i]? = some (some p) → G0[i]? = some (some p) ∧ (vs.map some ++ List.replicate k none)[i]? = (vs.map some)[i]? := fun {i p} h => by
    rw [List.getElem?_append] at h
    split at h
    · rename_i hi
      refine ⟨h, ?_⟩
      rw [List.getElem?_append_left (by rw [r0.len]; exact hi)]
    · rw [List.getElem?_replicate] at h
      split at h <;> cases h
  refine ⟨by rw [List.length_append, List.length_append, r0.len, List.length_replicate, List.length_replicate], fun i d h => ?_, fun i d h => ?_, fun i j d e a h1 h2 h3 h4 => ?_, r0.trl, r0.sep, r0.kf, r0.tabs⟩
  · obtain ⟨h1, h2⟩ := low h
    rw [h2]
    exact r0.slot i d h1
  · obtain ⟨h1, h2⟩ := low h
    rw [h2]
    exact r0.own i d h1
  · obtain ⟨p1, p2⟩ := low h1
    obtain ⟨q1, q2⟩ := low h2
    exact r0.dist i j d e a p1 q1 (by rw [← p2]; exact h3) (by rw [← q2]; exact h4)
theorem finish_ok {vs : List V} {G0 : Ct} {n : Nat} {o : Out} {r : RV} {os : Ct} {Q : VK} (r0 : RS g Bn Ow H (vs.map some) G0) (hn : G0.length ≤ n) (hf : finish G0.length G0 o = some (r, os))
    (hQ : ∀ v H' Ow', Stp Ow H Ow' H' → RS g Bn Ow' H' (vs.map some) os → Val g Bn Ow' H' (vs.map some) os r v → Q v H') :
    Post g Wx { nx := fun _ H' => Q .non H', rt := Q } (n, (ownPs 0 G0).map fun i => (i, vs.getD i .non)) Bn Ow H o := by
  have pin : ∀ {σ' : St}, Pin (n, (ownPs 0 G0).map fun i => (i, vs.getD i .non)) σ' → ∀ i, OwS G0 i → σ'[i]? = (vs.map some)[i]? := fun {σ'} pn i ⟨d, h⟩ => by
    have := pn.2 (i, vs.getD i .non) (List.mem_map.mpr ⟨i, ownPs_mem.mpr ⟨i, d, by omega, h⟩, rfl⟩)
    have hi : i < vs.length := by
      have h1 := (List.getElem?_eq_some_iff.mp h).1
      have h2 := r0.len
      rw [List.length_map] at h2
      omega
    rw [this, List.getElem?_map, List.getElem?_eq_getElem hi, List.getD_eq_getElem?_getD, List.getElem?_eq_getElem hi]
    rfl
  have len : ∀ {σ' : St} {Γ' : Ct} {Ow' : List Addr} {H' : Hp}, RS g Bn Ow' H' σ' Γ' → Pin (n, (ownPs 0 G0).map fun i => (i, vs.getD i .non)) σ' → G0.length ≤ Γ'.length := fun r pn => by
    rw [← r.len, pn.1]; exact hn
  cases o with
  | bk G => simp only [finish, reduceCtorEq] at hf
  | ct G => simp only [finish, reduceCtorEq] at hf
  | xc c ks ds G => simp only [finish, reduceCtorEq] at hf
  | nx G =>
    simp only [finish, Option.some.injEq, Prod.mk.injEq] at hf
    obtain ⟨rfl, rfl⟩ := hf
    exact fun σ' H' O' s' r' p' => hQ .non H' O' s' (outs_ok r0 s' r' (len r' p') (pin p')) (show Rep g _ _ _ _ by simp only [Rep])
  | rt x G =>
    intro v σ' H' O' s' r' p' vl
    have lo := len r' p'
    cases x with
    | fz d =>
      simp only [finish, Option.some.injEq, Prod.mk.injEq] at hf
      obtain ⟨rfl, rfl⟩ := hf
      exact hQ v H' O' s' (outs_ok r0 s' r' lo (pin p')) vl
    | nw d =>
      simp only [finish, Option.some.injEq, Prod.mk.injEq] at hf
      obtain ⟨rfl, rfl⟩ := hf
      obtain ⟨a, e, m, ow, no⟩ := vl
      refine hQ v H' O' s' (outs_ok r0 s' r' lo (pin p')) ⟨a, e, m, ow, fun j f h1 h2 => ?_⟩
      rcases outsOf_get h1 with ⟨o1, h1⟩ | ⟨n1, h1⟩
      · exact no j f h1 (by rw [pin p' j o1]; exact h2)
      · exact n1 ⟨f, h1⟩
    | sl i =>
      have vl' : σ'[i]? = some (some v) := vl
      simp only [finish] at hf
      split at hf
      · rename_i d q
        split at hf
        · rename_i hi
          simp only [Option.some.injEq, Prod.mk.injEq] at hf
          obtain ⟨rfl, rfl⟩ := hf
          have fe : fre G (.sl i) = some (d, G.set i (some (d, false))) := by simp only [fre, q]
          obtain ⟨O2, s2, r2, p2⟩ := fre_ok r' vl fe
          exact hQ v H' O2 (s'.trans s2) (outs_ok r0 (s'.trans s2) r2 (by rw [List.length_set]; exact lo) (pin p')) p2
        · rename_i hi
          simp only [Option.some.injEq, Prod.mk.injEq] at hf
          obtain ⟨rfl, rfl⟩ := hf
          obtain ⟨a, e, m, ow⟩ := r'.own i d q
          rw [vl'] at e; cases e
          refine hQ _ H' O' s' (outs_ok r0 s' r' lo (pin p')) ⟨a, rfl, m, ow, fun j f h1 h2 => ?_⟩
          rcases outsOf_get h1 with ⟨o1, h1⟩ | ⟨n1, h1⟩
          · have e2 := r'.dist i j _ _ a q h1 vl' (by rw [pin p' j o1]; exact h2)
            subst e2
            obtain ⟨d1, h3⟩ := o1
            exact hi (List.getElem?_eq_some_iff.mp h3).1
          · exact n1 ⟨f, h1⟩
      · rename_i d q
        simp only [Option.some.injEq, Prod.mk.injEq] at hf
        obtain ⟨rfl, rfl⟩ := hf
        obtain ⟨w, e, rp⟩ := r'.slot i d q
        rw [vl'] at e; cases e
        exact hQ v H' O' s' (outs_ok r0 s' r' lo (pin p')) rp
      · cases hf
end
/-- a def that can be called -/
structure Cal (P : Program) (w : World) (mg : Str → Option Value) (base : Heap) (g : Gx) (k : Nat) (x : Str) (n : Nat) (F : FS) : Prop where
  ex : ∃ f fd ps, mg x = some (.ref f) ∧ PySem.W.keepIn g.K (.ref f) = true ∧ Binds g.K fd ps [] ∧ FnOk P w g.K mg base CX0 k f fd ps (spF g n F)
section
variable {P : Program} {w : World} {mg : Str → Option Value} {base : Heap} {g : Gx} {fs : List FS}
theorem Cal.mono {j k : Nat} {x : Str} {n : Nat} {F : FS} (h : Cal P w mg base g j x n F) (l : j ≤ k) : Cal P w mg base g k x n F := by
  obtain ⟨f, fd, ps, h1, h2, h3, h4⟩ := h.ex
  exact ⟨f, fd, ps, h1, h2, h3, h4.mono l⟩
theorem def_fn {x qual : Str} {st : Stmt} {f : Addr} {fd : FuncData} {N ps : List Str} {k np n : Nat} {ir : List S} (F : Fun g.K x qual st f fd) (S : FnScope N ps (defScope st)) (hp : ps.length = np) (hN : N.length = n) (ge : g.ea = none)
    (hbody : ∀ (cdv : Value) (A : Around) (outer : List Env) (s : Shared) (H : Hp) (E : XK), Room k (cxOf CX0 P w g.K mg base N qual (defScope st) f cdv A outer s H E).nox.A → Cok g (cxOf CX0 P w g.K mg base N qual (defScope st) f cdv A outer s H E).nox →
      PSs (cxOf CX0 P w g.K mg base N qual (defScope st) f cdv A outer s H E).nox (defBody st) (tSs g (fun _ _ _ => False) fs ir)) : FnOk P w g.K mg base CX0 (k + 1) f fd ps (spF g np (runF fs np n ir)) := by
  refine F.ok S (fun vs H Q E h => by rw [h.1, hp]) fun cdv A outer s H vs Q E hr h => ?_
  refine ⟨_, hbody cdv A outer s H E hr ⟨rfl, rfl, hr.units, S.nd, ge⟩, ?_⟩
  obtain ⟨hl, Bn, Ow, Γ, r, os, rs, ef, nr, hQ⟩ := h
  have hG : Γ.length = np := by rw [← rs.len, List.length_map, hl]
  have hle : np ≤ n := by
    rw [← hN, ← hp]
    have := congrArg List.length S.pre
    rw [List.length_take] at this
    omega
  simp only [runF, hG, if_true] at ef
  obtain ⟨o, e1, e2⟩ := Option.bind_eq_some_iff.mp ef
  have est : L2.start N vs = vs.map some ++ List.replicate (n - np) none := by rw [← hN, ← hl]; rfl
  refine ⟨(n, (ownPs 0 Γ).map fun i => (i, vs.getD i .non)), Bn, Ow, Γ ++ List.replicate (n - np) none, o, ?_, ⟨?_, fun p hp => ?_⟩, ?_, ?_⟩
  · rw [est]; exact rs.start _
  · rw [est, List.length_append, List.length_map, List.length_replicate, hl]; show np + (n - np) = n; omega
  · obtain ⟨i, hi, rfl⟩ := List.mem_map.mp hp
    obtain ⟨j, d, rfl, h⟩ := ownPs_mem.mp hi
    have hj : j < vs.length := by
      have h1 := (List.getElem?_eq_some_iff.mp h).1
      omega
    rw [est]
    show (vs.map some ++ List.replicate (n - np) none)[0 + j]? = some (some (vs.getD (0 + j) .non))
    rw [Nat.zero_add, List.getElem?_append_left (by rw [List.length_map]; exact hj), List.getElem?_map, List.getElem?_eq_getElem hj, List.getD_eq_getElem?_getD, List.getElem?_eq_getElem hj]
    rfl
  · rw [List.map_map]
    show exs fs ((ownPs 0 Γ).map id) ir _ = some o
    rw [List.map_id]
    exact e1
  · rw [← hG] at e2
    exact finish_ok rs (by omega) e2 hQ
end
section
variable {X : Cx} {g : Gx} {fs : List FS} {e : Expr} {es : List Expr} {ies : List E} {x : Str} {p pos : Pos} {k i n : Nat} {F : FS}
theorem c_call (c : Cal X.prog X.w X.mg X.base g k x n F) (C : Cok0 g X) (hF : fs[i]? = some F) (hn : ies.length = n) (hr : Room k X.A) (hg : Gl X x)
    (ha : PA X (e :: es) (tAw g fs ies)) (hdb : (x == ("__debug__" : Str)) = false) (he : starEach (e :: es) X.env = (false, eval e X.env) :: starEach es X.env) (hpl : (backTo pos (starEach es X.env)).any (·.1) = false) :
    PE X (.Call (.Name x p) (e :: es) [] pos) (tR g fs (.call i ies)) := by
  obtain ⟨f, fd, ps, h1, h2, h3, h4⟩ := c.ex
  rw [← C.K] at h2 h3 h4
  exact p_call hF hn h4 hr hg h1 h2 h3 ha hdb he hpl
end
end DV

namespace DV
open PySem L2
section
variable {X : Cx} {g : Gx} {fs : List FS} {e : Expr} {es : List Expr} {ies : List E} {x : Str} {p pos : Pos}
theorem k_int {i j pos} (C : Cok0 g X) : PE X (.Constant (.int i) j pos) (tR g fs (.cst (.int i))) := p_cst pe_int C.K fun _ _ _ => by simp only [Rep]
theorem k_bl {b j pos} (C : Cok0 g X) : PE X (.Constant (.bool b) j pos) (tR g fs (.cst (.bl b))) := p_cst pe_bl C.K fun _ _ _ => by simp only [Rep]
theorem k_str {b j pos} (C : Cok0 g X) : PE X (.Constant (.str b) j pos) (tR g fs (.cst (.str b))) := p_cst pe_str C.K fun _ _ _ => by simp only [Rep]
theorem k_non {j pos} (C : Cok0 g X) : PE X (.Constant .none j pos) (tR g fs (.cst .non)) := p_cst pe_non C.K fun _ _ _ => by simp only [Rep]
/-- a number that the top has written -/
def GInt (mg : Str → Option Value) (x : Str) (n : Int) : Prop := ∃ t, mg x = some (.int n t)
theorem k_gint {n : Int} (C : Cok0 g X) (h : GInt X.mg x n) (hg : Gl X x) (hd : (x == ("__debug__" : Str)) = false) : PE X (.Name x pos) (tR g fs (.cst (.int n))) := by
  obtain ⟨t, h⟩ := h
  exact p_cst (pe_glob (v := .int n) hg h ⟨t, rfl⟩ hd) C.K fun _ _ _ => by simp only [Rep]
theorem k_var (i : Nat) (hN : X.N[i]? = some x) (hv : Vis X.env.scope x) (hd : (x == ("__debug__" : Str)) = false) (hcd : (x == ("__classdict__" : Str)) = false) : PE X (.Name x pos) (tR g fs (.var i)) := p_var (pe_var hN hv hd hcd)
section
variable (C : Cok g X) (ha : PA X (e :: es) (tAs g fs ies)) (he : starEach (e :: es) X.env = (false, eval e X.env) :: starEach es X.env) (hpl : (backTo pos (starEach es X.env)).any (·.1) = false)
include C ha he hpl
theorem k_len (hm : X.mg "len" = none) (hg : Gl X "len") : PE X (.Call (.Name "len" p) (e :: es) [] pos) (tR g fs (.bi .len ies)) := p_biB (b_len C.K) hg hm (by decide +kernel) ha (by decide) (by decide) he hpl
theorem k_all (hm : X.mg "all" = none) (hg : Gl X "all") : PE X (.Call (.Name "all" p) (e :: es) [] pos) (tR g fs (.bi .alll ies)) := p_biB (b_alll C) hg hm PyProof.Rows.boot_all ha (by decide) (by decide) he hpl
theorem k_int1 (hm : X.mg "int" = none) (hg : Gl X "int") : PE X (.Call (.Name "int" p) (e :: es) [] pos) (tR g fs (.bi .int1 ies)) := p_biT (b_int C.K) hg hm PyProof.Rows.boot_int ha (by decide) (by decide) he hpl
theorem k_list (hm : X.mg "list" = none) (hg : Gl X "list") : PE X (.Call (.Name "list" p) (e :: es) [] pos) (tR g fs (.bi .list ies)) := p_biT (b_list C.K) hg hm PyProof.Rows.boot_list ha (by decide) (by decide) he hpl
theorem k_tuple (hm : X.mg "tuple" = none) (hg : Gl X "tuple") : PE X (.Call (.Name "tuple" p) (e :: es) [] pos) (tR g fs (.bi .tuple ies)) := p_biT (b_tuple C.K) hg hm PyProof.Rows.boot_tuple ha (by decide) (by decide) he hpl
end
theorem ty_int {p2 : Pos} (hm : X.mg "int" = none) (hg : Gl X "int") : PE X (.Name "int" p2) (tC (.ty (tyN .int))) := pe_bltn hg hm PyProof.Rows.boot_int rfl
theorem ty_bool {p2 : Pos} (hm : X.mg "bool" = none) (hg : Gl X "bool") : PE X (.Name "bool" p2) (tC (.ty (tyN .bool))) := pe_bltn hg hm PyProof.Rows.boot_bool rfl
theorem ty_str {p2 : Pos} (hm : X.mg "str" = none) (hg : Gl X "str") : PE X (.Name "str" p2) (tC (.ty (tyN .str))) := pe_bltn hg hm PyProof.Rows.boot_str rfl
theorem ty_list {p2 : Pos} (hm : X.mg "list" = none) (hg : Gl X "list") : PE X (.Name "list" p2) (tC (.ty (tyN .list))) := pe_bltn hg hm PyProof.Rows.boot_list rfl
theorem ty_tuple {p2 : Pos} (hm : X.mg "tuple" = none) (hg : Gl X "tuple") : PE X (.Name "tuple" p2) (tC (.ty (tyN .tuple))) := pe_bltn hg hm PyProof.Rows.boot_tuple rfl
theorem tg_nm {i : Nat} (h : PG X e (gName i)) : PG X e (tgT g.K (.nm i)) := by simp only [tgT]; exact h
theorem tgs_nil : PGs X [] (tgT.tgTs g.K []) := by simp only [tgT.tgTs]; exact pgs_nil
theorem tgs_cons {t : Tg} {ts : List Tg} (h1 : PG X e (tgT g.K t)) (h2 : PGs X es (tgT.tgTs g.K ts)) (hs : (assignEach (e :: es) X.env).map (·.2) = assign e X.env :: (assignEach es X.env).map (·.2)) : PGs X (e :: es) (tgT.tgTs g.K (t :: ts)) := by
  simp only [tgT.tgTs]
  exact pgs_cons h1 h2 hs
theorem tgp {ts : List Tg} {k : Nat} (C : Cok g X) (h : PGs X es (tgT.tgTs g.K ts)) (hn : (assignEach es X.env).length = ts.length) (hst : (assignEach es X.env).findIdx? (·.1) = none) : PG X (.Tuple es k pos) (tgT g.K (.tp ts)) := by
  have := pg_tup (pos := pos) (k := k) C.calm h hn hst
  rw [C.K] at this
  simp only [tgT]
  exact this
theorem sp_law {K : PySem.W.Frag} {cl : Nat → Addr} {T : List (Addr × Str)} {F : FS} {ns : List Int} {a : Addr} {H : Hp} {os : Ct} (hF : F [some (.scr ns, false)] = some (.fz (.bl true), os)) (hS : SqL K H a (ns.map V.int)) (hT : Tb T H) : spF ⟨K, cl, T, none, []⟩ 1 F [.ref a] H (fun v _ => v = .bl true) fun _ _ _ => False := by
  refine ⟨rfl, fun _ => False, [], [some (.scr ns, false)], _, os, ⟨rfl, fun i d h => ?_, fun i d h => ?_, fun i j d e b h1 => ?_, fun b z => ?_, nofun, fun b z => ?_, hT⟩, hF, nofun, fun v H' O' _ _ vl => ?_⟩
  · cases i with
    | zero => simp at h; subst h; exact ⟨.ref a, rfl, by simp only [Rep]; exact ⟨a, rfl, fun z => z.elim (fun z => z) (fun z => nomatch z), hS⟩⟩
    | succ i => simp at h
  · cases i with
    | zero => simp at h
    | succ i => simp at h
  · cases i with
    | zero => simp at h1
    | succ i => simp at h1
  · rcases z with z | z
    · exact z.elim
    · cases z
  · rcases z with z | z
    · exact z.elim
    · cases z
  · have vl : Rep _ _ _ _ _ := vl
    simpa only [Rep] using vl
end
end DV

namespace DV
open PySem L2
mutual
theorem eqd_refl : ∀ (d : D) (n : Nat), okB n d = true → eqd d d = true
  | .non, _, _ => by simp [eqd]
  | .bl _, _, _ => by simp [eqd]
  | .int _, _, _ => by simp [eqd]
  | .str _, _, _ => by simp [eqd]
  | .lst ds, n, h => by
    obtain ⟨m, rfl, h⟩ := okB_lst h
    simp only [eqd]
    exact eqds_refl ds m h
  | .tup ds, n, h => by
    obtain ⟨m, rfl, h⟩ := okB_tup h
    simp only [eqd]
    exact eqds_refl ds m h
  | .obj _ _ _, n, h => by rw [okB_obj] at h; cases h
  | .scr _, n, h => by rw [okB_scr] at h; cases h
  | .dct, n, h => by rw [okB_dct] at h; cases h
  | .dic _ _, n, h => by rw [okB_dic] at h; cases h
  | .exc _ _ _, n, h => by rw [okB_exc] at h; cases h
  | .err _ _ _, n, h => by rw [okB_err] at h; cases h
  | .ref _, n, h => by rw [okB_ref] at h; cases h
theorem eqds_refl : ∀ (ds : List D) (n : Nat), ds.all (okB n) = true → eqds ds ds = true
  | [], _, _ => by simp [eqds]
  | d :: ds, n, h => by
    simp only [List.all_cons, Bool.and_eq_true] at h
    simp only [eqds, Bool.and_eq_true]
    exact ⟨eqd_refl d n h.1, eqds_refl ds n h.2⟩
end
theorem cmp_eq_self {d : D} (h : okB 12 d = true) : cmpD .eq d d = some true := by simp only [cmpD, h, eqd_refl d 12 h, Bool.and_self, if_true]
theorem cmp_ne_self {d : D} (h : okB 12 d = true) : cmpD .ne d d = some false := by simp only [cmpD, h, eqd_refl d 12 h, Bool.and_self, if_true, Bool.not_true]
theorem forLoop_step {tg : Tg} {body : Ct → Option Out} {d : D} {ds : List D} {Γ Γ1 Γ2 : Ct} (h1 : asgT tg d Γ = some Γ1) (h2 : body Γ1 = some (.nx Γ2)) : forLoop tg body (d :: ds) Γ = forLoop tg body ds Γ2 := by
  simp only [forLoop, h1, h2, Option.bind_some]
theorem exs_nx {fs : List FS} {pn : List Nat} {s : S} {ss : List S} {Γ Γ1 : Ct} (h : ex fs pn s Γ = some (.nx Γ1)) : exs fs pn (s :: ss) Γ = exs fs pn ss Γ1 := by
  simp only [exs, h, Option.bind_some]
theorem exs_rt {fs : List FS} {pn : List Nat} {s : S} {ss : List S} {Γ Γ1 : Ct} {r : RV} (h : ex fs pn s Γ = some (.rt r Γ1)) : exs fs pn (s :: ss) Γ = some (.rt r Γ1) := by
  simp only [exs, h, Option.bind_some]
theorem compLoop_map {own : List Nat} {tg : Tg} {ct : Ct → Option (Bool × Ct)} {el : Ct → Option (RV × Ct)} {Γ : Ct} (f : D → D) : ∀ {ds acc : List D}, (∀ d ∈ ds, ∀ acc rest, compLoop own tg ct el (d :: rest) acc Γ = compLoop own tg ct el rest (acc ++ [f d]) Γ) → compLoop own tg ct el ds acc Γ = some (acc ++ ds.map f, Γ)
  | [], acc, _ => by simp only [compLoop, List.map_nil, List.append_nil]
  | d :: ds, acc, h => by
    rw [h d List.mem_cons_self acc ds, compLoop_map f fun e he => h e (List.mem_cons_of_mem _ he)]
    simp
theorem runF_by {fs : List FS} {np n : Nat} {body : List S} {G0 : Ct} {o : Out} {r : RV × Ct} (hl : G0.length = np) (e : exs fs (ownPs 0 G0) body (G0 ++ List.replicate (n - np) none) = some o) (f : DV.finish np G0 o = some r) : runF fs np n body G0 = some r := by
  simp only [runF, hl, if_true, e, Option.bind_some, f]
theorem ex_for {fs : List FS} {pn : List Nat} {tg : Tg} {ik : IK} {its : List E} {b : List S} {Γ Γ2 : Ct} {ds : List D} {o : Out} (h1 : ((evs fs its Γ).bind fun p => iterD ik p.1 p.2) = some (ds, Γ2)) (h3 : disjB (tgIx tg) pn = true) (h4 : forLoop tg (exs fs pn b) ds Γ2 = some o) : ex fs pn (.for_ tg ik its b) Γ = some o := by
  obtain ⟨⟨xs, Γ1⟩, e1, e2⟩ := Option.bind_eq_some_iff.mp h1
  simp only [ex, e1, e2, Option.bind_some, h3, if_true, h4]
theorem ex_ite {fs : List FS} {pn : List Nat} {c : E} {a b : List S} {Γ Γ1 : Ct} {x : RV} {t : Bool} {o : Out} (h1 : ev fs c Γ = some (x, Γ1)) (h2 : testD Γ1 x = some t) (h3 : exs fs pn (if t then a else b) Γ1 = some o) : ex fs pn (.ite c a b) Γ = some o := by
  simp only [ex, h1, Option.bind_some, h2]
  cases t <;> simpa using h3
/-- a range's turns -/
@[irreducible] def rngO (Γ : Ct) (ds : List D) : Option (List D × Ct) := iterD .rng (ds.map .fz) Γ
theorem datums_fz (Γ : Ct) : ∀ ds : List D, datums Γ (ds.map .fz) = some ds
  | [] => rfl
  | d :: ds => by simp only [List.map_cons, datums, datum, datums_fz Γ ds, Option.bind_some, Option.map_some]
theorem it_rng (xs : List RV) (Γ : Ct) : iterD .rng xs Γ = (datums Γ xs).bind (rngO Γ) := by
  cases e : datums Γ xs with
  | none => simp only [iterD, e, Option.bind_none]
  | some ds => simp only [iterD, e, Option.bind_some, rngO, datums_fz]
theorem in62_int {n : Int} (h0 : -1000000000 < n) (h : n < 1000000000) : in62 n = true := by
  unfold in62
  refine decide_eq_true ?_
  by_cases z : n.natAbs = 0
  · rw [z]
    decide
  · rw [Nat.log2_lt z]
    omega
theorem in62_nat {n : Nat} (h : n < 1000000000) : in62 (n : Int) = true := in62_int (by omega) (by omega)
theorem rngO1 (Γ : Ct) (b : Int) (h : in62 b = true) : rngO Γ [.int b] = some (rngD 0 1 b.toNat, Γ) := by
  unfold rngO
  simp only [iterD, datums_fz, Option.bind_some]
  rw [if_pos h]
theorem rngN1 (Γ : Ct) (n : Nat) (h : n < 1000000000) : rngO Γ [.int (n : Int)] = some (rngD 0 1 n, Γ) := by
  rw [rngO1 Γ _ (in62_nat h), Int.toNat_natCast]
theorem rngO2 (Γ : Ct) (a b : Int) (h1 : in62 a = true) (h2 : in62 b = true) : rngO Γ [.int a, .int b] = some (rngD a 1 (b - a).toNat, Γ) := by
  unfold rngO
  simp only [iterD, datums_fz, Option.bind_some]
  rw [if_pos (by rw [h1, h2]; rfl)]
theorem mulOk_l {i j : Int} (h1 : -(2 ^ 64) < i) (h2 : i < 2 ^ 64) : mulOk i j = true := by simp only [mulOk, h1, h2, and_self, decide_true, Bool.true_or]
theorem mulOk_r {i j : Int} (h1 : -(2 ^ 64) < j) (h2 : j < 2 ^ 64) : mulOk i j = true := by simp only [mulOk, h1, h2, and_self, decide_true, Bool.true_or, Bool.or_true]
end DV

namespace DV
open PySem L2
variable {Wx : L2.XK}
def plainTy : List String := ["NoneType", "bool", "int", "str", "list", "tuple", "dict"]
/-- a class of the text -/
structure ClsX (g : Gx) (c : Nat) : Prop where
  cl : Cls g.K (g.cl c)
  ha : PySem.W.findIn g.K (.ref (g.cl c)) "__class__" = some (some (.builtin "object.__class__"))
  hn : PySem.W.specialIn g.K (.builtin "object.__class__") "__get__" = some (some (.builtin "getset_descriptor.__get__"))
  htk : PySem.W.takesIn g.K (.builtin "object.__class__") = some true
  hm : PySem.W.mroIn g.K (g.cl c) (.type "object") = some true
  nf : ∀ t ∈ plainTy, PySem.W.subIn g.K (.type t) (.ref (g.cl c)) = some false
theorem ClsX.ty {g : Gx} {c : Nat} (x : ClsX g c) {H : Hp} {a dx : Addr} {fl : List (Str × V)} (e : H a = some (.ins (g.cl c) dx fl)) : TyX g.K H (.ref a) (.ref (g.cl c)) := .base (.ins e x.cl x.ha x.hn x.htk x.hm)
def tyS : D → String
  | .non => "NoneType"
  | .bl _ => "bool"
  | .int _ => "int"
  | .str _ => "str"
  | .lst _ => "list"
  | .tup _ => "tuple"
  | .scr _ => "list"
  | .dct => "dict"
  | .dic _ _ => "dict"
  | .obj _ _ _ => ""
  | .exc _ _ _ => ""
  | .err _ _ _ => ""
  | .ref _ => ""
theorem tyS_mem {d : D} (h : plainB d = true) : tyS d ∈ plainTy := by
  cases d <;> first | (simp only [plainB, Bool.false_eq_true] at h; done) | (simp only [tyS, plainTy]; decide)
theorem tyx_of {g : Gx} {A : Addr → Prop} {H : Hp} {d : D} {v : V} (h : plainB d = true) (r : Rdb g A H d v) : TyX g.K H v (.type (tyS d)) := by
  cases d with
  | obj => simp [plainB] at h
  | scr => simp [plainB] at h
  | dct => simp [plainB] at h
  | exc => simp [plainB] at h
  | err => simp [plainB] at h
  | ref => simp [plainB] at h
  | dic _ _ => simp [plainB] at h
  | non => rw [rdb_non r]; exact .base .non
  | bl b => rw [rdb_bl r]; exact .base (.bl b)
  | int b => rw [rdb_int r]; exact .base (.int b)
  | str b => rw [rdb_str r]; exact .base (.str b)
  | lst b =>
    obtain ⟨a, ws, rfl, e1, r1⟩ := r
    exact .base (.lst e1)
  | tup b =>
    obtain ⟨a, ws, rfl, _, e1, r1⟩ := rdb_tup r
    rcases e1 with (e1 | ⟨o, e1⟩) | ⟨o, its, n, e1, e2, _⟩
    · exact .base (.tup e1)
    · exact .fTuple e1
    · exact .kTuple e1 e2
section
variable {g : Gx} {A : Addr → Prop} {H : Hp}
theorem fldL_ok {nm : Str} : ∀ {ks : List Str} {ds : List D} {vs : List V} {d : D}, ks.length = vs.length → Reps g A H ds vs → fldL nm ks ds = some d → ∃ v, (ks.zip vs).lookup nm = some v ∧ Rep g A H d v
  | [], ds, vs, d, _, _, h => by simp only [fldL, reduceCtorEq] at h
  | k :: ks, [], vs, d, _, _, h => by simp only [fldL, reduceCtorEq] at h
  | k :: ks, e :: ds, vs, d, l, r, h => by
    simp only [Reps] at r
    obtain ⟨v, w, rfl, r1, r2⟩ := r
    simp only [fldL] at h
    rw [List.zip_cons_cons, List.lookup_cons]
    split at h
    · rename_i q
      subst q
      cases h
      exact ⟨v, by simp, r1⟩
    · rename_i q
      obtain ⟨u, h1, h2⟩ := fldL_ok (by simpa using l) r2 h
      have : (nm == k) = false := by simpa using q
      exact ⟨u, by simp only [this]; exact h1, h2⟩
theorem putL_ok {nm : Str} {d : D} {v : V} (rd : Rep g A H d v) : ∀ {ks : List Str} {ds : List D} {vs : List V}, ks.length = vs.length → ks.length = ds.length → Reps g A H ds vs → ∃ ws, (putL nm d ks ds).1.zip ws = putF nm v (ks.zip vs) ∧ (putL nm d ks ds).1.length = ws.length ∧ Reps g A H (putL nm d ks ds).2 ws
  | [], ds, vs, _, l2, r => by
    cases ds with
    | nil => exact ⟨[v], rfl, rfl, Reps.one rd⟩
    | cons => simp at l2
  | k :: ks, [], vs, _, l2, _ => by simp at l2
  | k :: ks, e :: ds, vs, l, l2, r => by
    simp only [Reps] at r
    obtain ⟨u, w, rfl, r1, r2⟩ := r
    simp only [putL, List.zip_cons_cons, putF]
    split
    · exact ⟨v :: w, rfl, by simpa using l, by simp only [Reps]; exact ⟨v, w, rfl, rd, r2⟩⟩
    · obtain ⟨ws, h1, h2, h3⟩ := putL_ok rd (by simpa using l) (by simpa using l2) r2
      exact ⟨u :: ws, by rw [List.zip_cons_cons, h1], by simpa using h2, by simp only [Reps]; exact ⟨u, ws, rfl, r1, h3⟩⟩
end
section
variable {X : Cx} {g : Gx} {fs : List FS} {a : Expr} {ia : E} {nm : Str} {pos : Pos}
theorem p_fld {cs : List Nat} (C : Cok0 g X) (ha : PE X a (tR g fs ia)) (hc : ∀ c ∈ cs, Cls g.K (g.cl c) ∧ NoAttr g.K (g.cl c) nm) (hb : attributeBase a nm X.env (eval a X.env) = eval a X.env) : PE X (.Attribute a nm pos) (tR g fs (.fld cs ia nm)) := by
  refine PE.weak (pe_fld ha hb) ?_
  rintro σ H Q ⟨Bn, Ow, Γ, r, Γ', rs, he, hQ⟩
  simp only [ev] at he
  obtain ⟨⟨x, Γ1⟩, e1, he⟩ := Option.bind_eq_some_iff.mp he
  obtain ⟨d, e2, he⟩ := Option.bind_eq_some_iff.mp he
  obtain ⟨d', e3, he⟩ := Option.map_eq_some_iff.mp he
  simp only [Prod.mk.injEq] at he
  obtain ⟨rfl, rfl⟩ := he
  refine ⟨Bn, Ow, Γ, x, Γ1, rs, e1, fun v H1 O1 s1 r1 v1 => ?_⟩
  have rd := v1.rdb r1 e2
  cases d <;> simp only [fldD, reduceCtorEq] at e3
  rename_i c ks ds
  simp only [Option.ite_none_right_eq_some, List.contains_eq_mem, decide_eq_true_eq] at e3
  obtain ⟨hm, e3⟩ := e3
  obtain ⟨p, dx, vs, rfl, l, hp, rp⟩ := rd
  obtain ⟨v, h1, h2⟩ := fldL_ok l rp e3
  rw [C.K]
  exact ⟨p, g.cl c, dx, _, v, rfl, hp, (hc c hm).1, (hc c hm).2, h1, hQ v H1 O1 s1 r1 h2⟩
/-- an owned object is rewritten -/
theorem RS.mutO {Bn : Addr → Prop} {Ow : List Addr} {H : Hp} {σ : St} {Γ : Ct} {i : Nat} {c : Nat} {d0 : D} {p dx : Addr} {ks : List Str} {ds : List D} {ws : List V} (rs : RS g Bn Ow H σ Γ) (hi : Γ[i]? = some (some (d0, true))) (hs : σ[i]? = some (some (.ref p))) (l : ks.length = ws.length) (r : Reps g (Av Bn Ow) H ds ws) :
    RS g Bn Ow (upd H p (.ins (g.cl c) dx (ks.zip ws))) σ (Γ.set i (some (.obj c ks ds, true))) ∧ Stp Ow H Ow (upd H p (.ins (g.cl c) dx (ks.zip ws))) := by
  have hil : i < Γ.length := (List.getElem?_eq_some_iff.mp hi).1
  obtain ⟨b, e1, m, _⟩ := rs.own i _ hi
  rw [hs] at e1; cases e1
  have vs := ban_vst (g := g) (H := H) (o := .ins (g.cl c) dx (ks.zip ws)) (A := Av Bn Ow) (p := p) (.inr m)
  refine ⟨⟨by rw [List.length_set]; exact rs.len, fun j e h => ?_, fun j e h => ?_, fun j k e f b h1 h2 h3 h4 => ?_, fun b h => ?_, rs.sep, rs.kf, rs.tabs.upd (rs.trl p (.inr m))⟩, ⟨fun b o h _ n => ?_, fun _ h => .inl h⟩⟩
  · have hj : i ≠ j := fun z => by subst z; rw [List.getElem?_set_self hil] at h; cases h
    rw [List.getElem?_set_ne hj] at h
    obtain ⟨v, e1, r1⟩ := rs.slot j e h
    exact ⟨v, e1, rep_mono vs _ _ r1⟩
  · by_cases hj : i = j
    · subst hj
      rw [List.getElem?_set_self hil] at h; cases h
      exact ⟨p, hs, m, dx, ws, l, upd_same, reps_mono vs _ _ r⟩
    · rw [List.getElem?_set_ne hj] at h
      obtain ⟨b, e1, m1, o1⟩ := rs.own j e h
      have nb : b ≠ p := fun z => hj (by subst z; exact rs.dist i j _ _ _ hi h hs e1)
      refine ⟨b, e1, m1, ?_⟩
      cases e with
      | lst es => obtain ⟨us, e2, r2⟩ := o1; exact ⟨us, by rw [upd_ne nb]; exact e2, reps_mono vs _ _ r2⟩
      | obj c ks es => obtain ⟨dx, us, l, e2, r2⟩ := o1; exact ⟨dx, us, l, by rw [upd_ne nb]; exact e2, reps_mono vs _ _ r2⟩
      | _ => exact o1
  · have ex : ∀ (j : Nat) e, (Γ.set i (some (.obj c ks ds, true)))[j]? = some (some (e, true)) → ∃ e', Γ[j]? = some (some (e', true)) := fun j e h => by
      by_cases hj : i = j
      · subst hj; exact ⟨_, hi⟩
      · rw [List.getElem?_set_ne hj] at h; exact ⟨_, h⟩
    obtain ⟨e', h1⟩ := ex j e h1
    obtain ⟨f', h2⟩ := ex k f h2
    exact rs.dist j k _ _ _ h1 h2 h3 h4
  · exact (rs.trl b h).upd fun _ => .inr ⟨_, _, _, upd_same⟩
  · have z : b ≠ p := fun z => n (by rw [z]; exact m)
    rw [upd_ne z]; exact h
theorem s_setf {c i : Nat} {o e : Expr} {ie : E} {tpos : Pos} (C : Cok0 g X) (ho : PE X o (tVar i)) (he : PE X e (tR g fs ie)) (hc : Cls g.K (g.cl c) ∧ NoAttr g.K (g.cl c) nm) (hs : swapsWith e (some (.Attribute o nm tpos)) pos.line X.env = pure false) :
    PS X (.Assign [.Attribute o nm tpos] e pos) (tSt g Wx fs (.setf c i nm ie)) := by
  refine PS.weak (ps_fld ho he hs) ?_
  rintro Dn σ H ⟨pv, Bn, Ow, Γ, o, rs, pn, he, po⟩
  simp only [ex] at he
  obtain ⟨⟨x, Γ1⟩, e1, he⟩ := Option.bind_eq_some_iff.mp he
  obtain ⟨⟨d, Γ2⟩, e2, he⟩ := Option.bind_eq_some_iff.mp he
  refine ⟨Bn, Ow, Γ, x, Γ1, rs, e1, fun v H1 O1 s1 r1 vl => ?_⟩
  obtain ⟨O2, s2, r2, p2⟩ := fre_ok r1 vl e2
  split at he
  · rename_i c0 q
    obtain ⟨c', e3, rfl⟩ := Option.map_eq_some_iff.mp he
    obtain ⟨p, ea, m, ow⟩ := r2.own i _ q
    cases c0 <;> simp only [putD, reduceCtorEq] at e3
    rename_i c1 ks ds
    simp only [Option.ite_none_right_eq_some, Option.some.injEq] at e3
    obtain ⟨⟨rfl, hz, hl⟩, rfl⟩ := e3
    obtain ⟨dx, vs, l, hp, rp⟩ := ow
    obtain ⟨ws, h1, h2, h3⟩ := putL_ok (nm := nm) p2 l hl rp
    have key := r2.mutO (c := c1) (dx := dx) q ea h2 h3
    rw [h1] at key
    rw [C.K]
    exact ⟨_, ea, p, g.cl c1, dx, ks.zip vs, rfl, hp, hc.1, hc.2, by rw [List.length_zip]; omega, po _ _ O2 ((s1.trans s2).trans key.2) key.1 pn⟩
  · cases he
/-! ### calls, by what they do -/
theorem callD_core {F : FS} {xs : List RV} {vs : List V} {Bn : Addr → Prop} {Ow : List Addr} {H : Hp} {σ : St} {Γ Γ' : Ct} {r : RV} {n : Nat} {Q : VK} {E : XK} (rs : RS g Bn Ow H σ Γ) (hv : VlW g Bn Ow H σ Γ xs vs) (he : callD F xs Γ = some (r, Γ')) (hn : vs.length = n)
    (hQ : ∀ v H' Ow', Stp Ow H Ow' H' → RS g Bn Ow' H' σ Γ' → Val g Bn Ow' H' σ Γ' r v → Q v H') : spF g n F vs H Q E := by
  simp only [callD] at he
  obtain ⟨as, e3, he⟩ := Option.bind_eq_some_iff.mp he
  simp only [Option.ite_none_right_eq_some] at he
  obtain ⟨nd, he⟩ := he
  obtain ⟨⟨r', os⟩, e4, he⟩ := Option.bind_eq_some_iff.mp he
  cases r' with
  | sl i => cases he
  | fz d =>
    simp only [Option.some.injEq, Prod.mk.injEq] at he
    obtain ⟨rfl, rfl⟩ := he
    exact call_core rs hv e3 nd e4 (fun i z => nomatch z) hn fun v H' O2 s2 r2 val _ => hQ v H' O2 s2 r2 val
  | nw d =>
    simp only [Option.some.injEq, Prod.mk.injEq] at he
    obtain ⟨rfl, rfl⟩ := he
    exact call_core rs hv e3 nd e4 (fun i z => nomatch z) hn fun v H' O2 s2 r2 val _ => hQ v H' O2 s2 r2 val
theorem evs_len {es : List E} : ∀ {Γ Γ' : Ct} {xs : List RV}, evs fs es Γ = some (xs, Γ') → es.length = xs.length := by
  induction es with
  | nil => intro Γ Γ' xs h; simp only [evs, Option.some.injEq, Prod.mk.injEq] at h; rw [← h.1]; rfl
  | cons a es ih =>
    intro Γ Γ' xs h
    simp only [evs] at h
    obtain ⟨⟨y, G1⟩, _, h⟩ := Option.bind_eq_some_iff.mp h
    obtain ⟨⟨ys, G2⟩, h2, h⟩ := Option.map_eq_some_iff.mp h
    simp only [Prod.mk.injEq] at h
    rw [← h.1, List.length_cons, List.length_cons, ih h2]
theorem lookup_no {nm : Str} : ∀ {ks : List Str} {vs : List V}, ks.contains nm = false → (ks.zip vs).lookup nm = none
  | [], _, _ => by simp
  | k :: ks, [], _ => by simp
  | k :: ks, v :: vs, h => by
    simp only [List.contains_cons, Bool.or_eq_false_iff] at h
    rw [List.zip_cons_cons, List.lookup_cons, h.1]
    exact lookup_no h.2
/-- a method of the class c -/
structure Mtd (P : Program) (w : World) (mg : Str → Option Value) (base : Heap) (g : Gx) (k : Nat) (c : Nat) (x : Str) (n : Nat) (F : FS) : Prop where
  ex : ∃ f fd ps, Cls g.K (g.cl c) ∧ Meth g.K (g.cl c) x f ∧ Binds g.K fd ps [] ∧ FnOk P w g.K mg base CX0 k f fd ps (spF g n F)
theorem Mtd.mono {P : Program} {w : World} {mg : Str → Option Value} {base : Heap} {j k c : Nat} {x : Str} {n : Nat} {F : FS} (h : Mtd P w mg base g j c x n F) (l : j ≤ k) : Mtd P w mg base g k c x n F := by
  obtain ⟨f, fd, ps, h1, h2, h3, h4⟩ := h.ex
  exact ⟨f, fd, ps, h1, h2, h3, h4.mono l⟩
theorem meth_core {c i n : Nat} {io : E} {ies : List E} {F : FS} {m : Str} {σ : St} {H : Hp} {Q : VK} {Ex : XK} (hF : fs[i]? = some F) (hn : ies.length + 1 = n) (h : tR g fs (.meth c m i io ies) σ H Q) : tMeth (g.cl c) m (spF g n F) [] Ex (tR g fs io) (tAw g fs ies) σ H Q := by
  obtain ⟨Bn, Ow, Γ, r, Γ', rs, he, hQ⟩ := h
  simp only [ev] at he
  obtain ⟨⟨x, Γ0⟩, e1, he⟩ := Option.bind_eq_some_iff.mp he
  obtain ⟨⟨d, Γ1⟩, e2, he⟩ := Option.bind_eq_some_iff.mp he
  simp only [Option.ite_none_right_eq_some, Bool.and_eq_true, Bool.not_eq_true'] at he
  obtain ⟨⟨ho, hf⟩, he⟩ := he
  obtain ⟨⟨ys, Γ2⟩, e3, he⟩ := Option.bind_eq_some_iff.mp he
  obtain ⟨F', e4, he⟩ := Option.bind_eq_some_iff.mp he
  rw [hF] at e4; cases e4
  refine ⟨Bn, Ow, Γ, x, Γ0, rs, e1, fun v H1 O1 s1 r1 v1 => ?_⟩
  obtain ⟨O2, s2, r2, p2⟩ := fre_ok r1 v1 e2
  obtain ⟨ks, ds, rfl⟩ : ∃ ks ds, d = .obj c ks ds := by
    cases d <;> simp only [isObj, Bool.false_eq_true, beq_iff_eq] at ho
    exact ⟨_, _, by rw [ho]⟩
  have p3 := p2
  simp only [Rep] at p3
  obtain ⟨p, dx, vs, rfl, _, l, hp, rp⟩ := p3
  refine ⟨p, dx, _, rfl, hp, lookup_no hf, Bn, O2, Γ1, ys, Γ2, r2, e3, fun ws H3 O3 s3 r3 v3 => ?_⟩
  show spF g n F (.ref p :: (ws ++ [])) H3 Q Ex
  rw [List.append_nil]
  have q := p2.step s3 r3
  refine callD_core (xs := .fz (.obj c ks ds) :: ys) r3 ⟨_, ws, rfl, q, nofun, v3⟩ he ?_ fun w H4 O4 s4 r4 v4 => hQ w H4 O4 (((s1.trans s2).trans s3).trans s4) r4 v4
  rw [List.length_cons, ← v3.len, ← evs_len e3]
  exact hn
section
variable {o e : Expr} {es : List Expr} {io : E} {ies : List E} {c k i n : Nat} {F : FS} {m : Str} {apos : Pos}
theorem p_meth0 {pl : Sem Bool} (M : Mtd X.prog X.w X.mg X.base g k c m 1 F) (C : Cok0 g X) (hF : fs[i]? = some F) (hr : Room k X.A) (ho : PE X o (tR g fs io))
    (ht : eval (.Call (.Attribute o m apos) [] [] pos) X.env = (do
      let ov ← eval o X.env
      standAt apos.atName
      let (f, first) ← holding [ov] (getMethod ov m pl)
      callWith pos f first (backTo pos (starEach [] X.env)) (backToKw pos (keywordEach [] X.env)))) : PE X (.Call (.Attribute o m apos) [] [] pos) (tR g fs (.meth c m i io [])) := by
  obtain ⟨f, fd, ps, h1, h2, h3, h4⟩ := M.ex
  rw [← C.K] at h1 h2 h3 h4
  refine PE.weak (pe_meth0 (pl := pl) ho h1 h2 h4 hr h3 .nil pass0 ht) fun σ H Q q => ?_
  obtain ⟨Bn, Ow, Γ, x, Γ0, rs, e1, kk⟩ := meth_core (Ex := E0) hF rfl q
  refine ⟨Bn, Ow, Γ, x, Γ0, rs, e1, fun v H1 O1 s1 r1 v1 => ?_⟩
  obtain ⟨p, dx, fl, h5, h6, h7, Bn', Ow', Γ', xs, Γ'', rs', e2, kk2⟩ := kk v H1 O1 s1 r1 v1
  simp only [evs, Option.some.injEq, Prod.mk.injEq] at e2
  obtain ⟨rfl, rfl⟩ := e2
  exact ⟨p, dx, fl, h5, h6, h7, kk2 [] H1 Ow' (.refl _ _) rs' rfl⟩
end
/-! ### a new object -/
theorem FnOk.kf {P : Program} {w : World} {K : PySem.W.Frag} {mg : Str → Option Value} {base : Heap} {CX : CXT} {k : Nat} {f : Addr} {fd : FuncData} {ps : List Str} {sp : Sp} (F : FnOk P w K mg base CX k f fd ps sp) :
    FnOk P w K mg base CX k f fd ps (fun vs H Q E => vs.length = ps.length ∧ (kfs K H → sp vs H Q E)) :=
  ⟨fun vs H Q E q => q.1, fun A outer s H args us vs Q E hr he hb hv hs => F.run A outer s H args us vs Q E hr he hb hv (hs.2 fun a o l => (he.bs a o (he.mod.kin a o l)).2)⟩
structure Mkd (P : Program) (w : World) (mg : Str → Option Value) (base : Heap) (g : Gx) (k : Nat) (c : Nat) (x : Str) (n : Nat) (F : FS) : Prop where
  ex : ∃ f fd ps, mg x = some (.ref (g.cl c)) ∧ Mk g.K (g.cl c) f ∧ Binds g.K fd ps [] ∧ ps.length = n + 1 ∧ FnOk P w g.K mg base CX0 k f fd ps (spF g (n + 1) F)
theorem Mkd.mono {P : Program} {w : World} {mg : Str → Option Value} {base : Heap} {j k c : Nat} {x : Str} {n : Nat} {F : FS} (h : Mkd P w mg base g j c x n F) (l : j ≤ k) : Mkd P w mg base g k c x n F := by
  obtain ⟨f, fd, ps, h1, h2, h3, h5, h4⟩ := h.ex
  exact ⟨f, fd, ps, h1, h2, h3, h5, h4.mono l⟩
theorem mkD_core {c n np : Nat} {F : FS} {ys : List RV} {vs : List V} {Bn : Addr → Prop} {O1 : List Addr} {H1 : Hp} {σ : St} {Γ1 Γ' : Ct} {r : RV} {Q : VK} {Ex : XK} (r1 : RS g Bn O1 H1 σ Γ1) (v1 : VlW g Bn O1 H1 σ Γ1 ys vs) (he : mkD F c ys Γ1 = some (r, Γ')) (hl : vs.length = n) (hp : np = n + 1)
    (hQ : ∀ v H' Ow', Stp O1 H1 Ow' H' → RS g Bn Ow' H' σ Γ' → Val g Bn Ow' H' σ Γ' r v → Q v H') : ∀ x dx, H1 x = none → H1 dx = none → dx ≠ x →
    (V.ref x :: vs).length = np ∧ (kfs g.K (upd (upd H1 dx (.own x)) x (.ins (g.cl c) dx [])) → spF g (n + 1) F (V.ref x :: vs) (upd (upd H1 dx (.own x)) x (.ins (g.cl c) dx [])) (fun v H2 => v = .non ∧ Q (.ref x) H2) Ex) := by
  simp only [mkD] at he
  obtain ⟨as, e2, he⟩ := Option.bind_eq_some_iff.mp he
  simp only [Option.ite_none_right_eq_some] at he
  obtain ⟨nd, he⟩ := he
  obtain ⟨⟨r', os⟩, e3, he⟩ := Option.bind_eq_some_iff.mp he
  intro p dx np0 ndx ne
  refine ⟨by rw [List.length_cons, hl, hp], fun kf => ?_⟩
  have sm : Same H1 (upd (upd H1 dx (.own p)) p (.ins (g.cl c) dx [])) := fun b x e => by
    rw [upd_ne (ne_of_none e np0), upd_ne (ne_of_none e ndx)]; exact e
  have hp' : (upd (upd H1 dx (.own p)) p (.ins (g.cl c) dx [])) p = some (.ins (g.cl c) dx []) := upd_same
  have hk : g.K.lookup p = none := kf_new kf hp'
  have r2 := r1.add sm np0 (.inr ⟨_, _, _, hp'⟩) hk
  have st2 : Stp O1 H1 (p :: O1) _ := stp_add sm np0
  have nin : ∀ (j : Nat) (e : D), Γ1[j]? = some (some (e, true)) → σ[j]? ≠ some (some (.ref p)) := fun j e h1 h2 => by
    obtain ⟨b, e5, m5, _⟩ := r1.own j e h1
    rw [h2] at e5; cases e5
    exact r1.trk p (.inr m5) np0
  have vw : ∀ {xs : List RV} {ws : List V}, VlW g Bn O1 H1 σ Γ1 xs ws → VlW g Bn (p :: O1) (upd (upd H1 dx (.own p)) p (.ins (g.cl c) dx [])) σ Γ1 xs ws ∧ ∀ (j : Nat) (e : D), xs[j]? = some (.nw e) → ws[j]? ≠ some (.ref p) := by
    intro xs
    induction xs with
    | nil => intro ws h; exact ⟨h, fun j e h => by simp at h⟩
    | cons x xs ih =>
      rintro ws ⟨v, w, rfl, q1, q2, q3⟩
      obtain ⟨i1, i2⟩ := ih q3
      have kstep := step_vst (g := g) (Bn := Bn) st2 fun a h => r2.kf a (.inr h)
      refine ⟨⟨v, w, rfl, ?_, q2, i1⟩, fun j e h => ?_⟩
      · cases x with
        | fz d => exact rep_mono kstep _ _ q1
        | sl j => exact q1
        | nw d =>
          obtain ⟨b, rfl, m, ow, no⟩ := q1
          refine ⟨b, rfl, List.mem_cons_of_mem _ m, ?_, no⟩
          cases d with
          | lst ds => obtain ⟨us, f1, f2⟩ := ow; exact ⟨us, sm _ _ f1, reps_mono kstep _ _ f2⟩
          | obj c ks ds => obtain ⟨dx, us, l, f1, f2⟩ := ow; exact ⟨dx, us, l, sm _ _ f1, reps_mono kstep _ _ f2⟩
          | _ => exact ow
      · cases j with
        | zero =>
          simp at h
          subst h
          obtain ⟨b, rfl, m, _⟩ := q1
          intro z
          simp at z
          subst z
          exact r1.trk b (.inr m) np0
        | succ j => exact i2 j e (by simpa using h)
  obtain ⟨v2, n2⟩ := vw v1
  have v3 : VlW g Bn (p :: O1) (upd (upd H1 dx (.own p)) p (.ins (g.cl c) dx [])) σ Γ1 (.nw (.obj c [] []) :: ys) (.ref p :: vs) :=
    ⟨_, vs, rfl, ⟨p, rfl, List.mem_cons_self, ⟨dx, [], rfl, hp', by simp only [Reps]⟩, nin⟩, fun _ _ j e h1 => n2 j e h1, v2⟩
  have ea : argSs Γ1 (.nw (.obj c [] []) :: ys) = some ((.obj c [] [], true) :: as) := by simp only [argSs, argS, Option.bind_some, e2, Option.map_some]
  have nd2 : nodupB (ownIx Γ1 (.nw (.obj c [] []) :: ys)) = true := by simpa only [ownIx] using nd
  match r', os, he, e3 with
  | .fz .non, some (.obj c' ks ds, true) :: os', he, e3 =>
    simp only [Option.some.injEq, Prod.mk.injEq] at he
    obtain ⟨rfl, rfl⟩ := he
    refine call_core r2 v3 ea nd2 (by simpa using e3) (fun i z => by cases z) (by rw [List.length_cons, hl]) fun v H' O2 s2 r3 val nws => ⟨by simpa only [Val, Rep] using val, ?_⟩
    have w1 := nws 0 _ _ p rfl rfl rfl
    exact hQ _ H' O2 (st2.trans s2) (by simpa only [putOuts] using r3) (by simpa only [putOuts] using w1)
section
variable {e : Expr} {es : List Expr} {ies : List E} {c k i n : Nat} {F : FS} {x : Str} {p : Pos}
end
end
end DV

namespace DV
open PySem L2
section
variable {X : Cx} {g : Gx} {k : Nat} {f C : Addr} {fd : FuncData} {ps : List Str} {sp : Sp}
/-- a def called by values, somewhere below -/
theorem run_sub {A : Around} {pins : List (Addr × Obj)} {σ : St} {H : Hp} {s : Shared} {Q : VK} {us : List Value} {vs : List V} (F : FnOk X.prog X.w X.K X.mg X.base CX0 k f fd ps sp) (sb : L2.Sub X k A) (hb : Binds X.K fd ps [])
    (I : Inv X pins σ H s) (r : Vals vs us) (h : sp vs H Q E0) : wpAny (model X.prog X.w) A (call (.ref f) us) (EP X pins σ Q) X.xe s := by
  have e := I.env0
  have e0 : Env0 X.prog X.w X.K X.mg X.base A X.stack s H := { frames := by rw [sb.fr]; exact e.frames, mod := e.mod, bs := e.bs, bsz := e.bsz, funs := e.funs, frf := e.frf, hok := e.hok, bare := e.bare }
  have hl : us.length = ps.length := by rw [← r.length]; exact F.len _ _ _ _ h
  have b0 := hb s us I.kIn (by rw [List.append_nil]; exact hl)
  rw [List.append_nil] at b0
  refine wpAny_call (codeAny_mono (F.run A X.stack s H ⟨us, []⟩ us vs Q E0 sb.room e0 b0 r h) fun fl s' hq => ?_)
  match fl, hq with
  | .ok (.ret u), hq => exact I.after hq
def rOwn2 (K : PySem.W.Frag) (C : Addr) (sp : Sp) (p : Bool → Bool) : R2 := fun x y H Q => ∃ a dx fl tb, x = .ref a ∧ H a = some (.ins C dx fl) ∧ TyX K H y tb ∧ PySem.W.notFirst K C tb = true ∧ sp [x, y] H (fun v H' => ∃ t, v = .bl t ∧ Q (.bl (p t)) H') E0
theorem op_ownEq (F : FnOk X.prog X.w X.K X.mg X.base CX0 k f fd ps sp) (hr : Room k X.A) (hb : Binds X.K fd ps []) (hm : Meth X.K C "__eq__" f) : OpR X (compareOp .Eq) (rOwn2 X.K C sp id) := by
  intro pins s σ H x y v u Q I rx ry h
  obtain ⟨a, dx, fl, tb, rfl, ha, ty, nf, h⟩ := h
  cases rx
  obtain ⟨mA, J, _⟩ := ins_get I.hok ha
  obtain ⟨od, J, _⟩ := J.look
  obtain ⟨m, hF⟩ := I.fr
  obtain ⟨Pk, Z, pk, _⟩ := kit_of I ry ty
  show wpAny (model X.prog X.w) X.A (richCompare .Eq (.ref a) u) (EP X pins σ Q) X.xe s
  refine PySem.W.cmp_K (op := .Eq) (tb := tb) hr.units0 hF I.ok.mod.kin J (Z.ty _ _ I.kIn pk) nf hm.at_ hm.fn ?_
  refine wpAny_mono (run_sub (vs := [.ref a, y]) F ⟨hr, rfl⟩ hb I (.cons rfl (.cons ry .nil)) h) (fun z s' q => ?_) fun _ _ z => z
  obtain ⟨w, H', I', rz, t, rfl, q⟩ := q
  cases (show z = Value.bool t from rz)
  exact ⟨.bl t, H', I', rfl, q⟩
end
end DV

namespace DV
open PySem L2
section
variable {X : Cx} {g : Gx} {k : Nat} {f C : Addr} {fd : FuncData} {ps : List Str} {sp : Sp}
theorem op_ownNe (F : FnOk X.prog X.w X.K X.mg X.base CX0 k f fd ps sp) (hr : Room (k + 1) X.A) (hb : Binds X.K fd ps []) (hm : Meth X.K C "__eq__" f) (hne : PySem.W.findIn X.K (.ref C) "__ne__" = some (some (.builtin "object.__ne__"))) (hi : PySem.W.mroIn X.K C (.type "object") = some true) :
    OpR X (compareOp .NotEq) (rOwn2 X.K C sp not) := by
  intro pins s σ H x y v u Q I rx ry h
  obtain ⟨a, dx, fl, tb, rfl, ha, ty, nf, h⟩ := h
  cases rx
  obtain ⟨mA, J, _⟩ := ins_get I.hok ha
  obtain ⟨od, J, _⟩ := J.look
  have KX := I.kIn
  obtain ⟨Pk, Z, pk, _⟩ := kit_of I ry ty
  have tyb : PySem.W.Looks (model X.prog X.w) s.heap (typeOf u) tb := Z.ty _ _ KX pk
  have fin : wpAny (model X.prog X.w) X.A.in1 (call (.ref f) [.ref a, u]) (fun z s' => ∃ t, z = Value.bool t ∧ EP X pins σ Q (.bool (!t)) s') X.xe s := by
    refine wpAny_mono (run_sub (vs := [.ref a, y]) F ⟨hr.in1, rfl⟩ hb I (.cons rfl (.cons ry .nil)) h) (fun z s' q => ?_) fun _ _ z => z
    obtain ⟨w, H', I', rz, t, rfl, q⟩ := q
    exact ⟨t, rz, .bl (!t), H', I', rfl, q⟩
  have sub : PySem.W.Looks (model X.prog X.w) s.heap (isInstance (.ref a) (.type "object")) true := J.type.andThen (PySem.W.looks_mroIn KX hi)
  have body : wpAny (model X.prog X.w) X.A (call (.builtin "object.__ne__") [.ref a, u]) (fun v s' => ∃ t, v = Value.bool t ∧ EP X pins σ Q v s') X.xe s := by
    refine wpAny_call (codeAny_call_builtin PySem.F.cmp_object.ne.plain PySem.F.cmpEntry_ne (PySem.W.check_slot PySem.F.cmpKind_ne PySem.F.cmpSplit_ne sub (PySem.F.cmpArgs_ne _ _) ?_))
    unfold Builtin.«object.__ne__»
    refine wpAny_bind (wpAny_pure ?_)
    refine wpAny_bind (wpAny_cRoomFor hr.in1.units0 ?_)
    refine wpAny_bind (PySem.W.ifBound_K KX J hm.at_ hm.fn (wpAny_mono fin (fun z s' q => ?_) fun _ _ z => z))
    obtain ⟨t, rfl, q⟩ := q
    refine wpAny_bind (wpAny_truthy_bool ?_)
    exact wpAny_pure ⟨!t, rfl, q⟩
  show wpAny (model X.prog X.w) X.A (richCompare .NotEq (.ref a) u) (EP X pins σ Q) X.xe s
  unfold richCompare
  simp only [oneThing_ref]
  refine wpAny_holding (wpAny_bind (wpAny_cRoomFor hr.units0 ?_))
  have one : wpAny (model X.prog X.w) X.A (callSpecialIfBound? (.ref a) "__ne__" [u]) (fun r s' => ∃ t, r = some (Value.bool t) ∧ EP X pins σ Q (.bool t) s') X.xe s := by
    simp only [callSpecialIfBound?, bindSpecialIfBound?]
    refine wpAny_holding (wpAny_bind (wpAny_bind (wpAny_bind (J.type.here ((PySem.W.looks_findIn KX hne).here ?_)))))
    refine wpAny_bind (wpAny_askSetting (wpAny_ite ?_))
    have go : wpAny (model X.prog X.w) X.A (call (.builtin "object.__ne__") ([.ref a] ++ [u]) >>= fun v => pure (some v)) (fun r s' => ∃ t, r = some (Value.bool t) ∧ EP X pins σ Q (.bool t) s') X.xe s := wpAny_bind (wpAny_mono body (fun v s' ⟨t, e, h'⟩ => wpAny_pure ⟨t, by rw [e], by rw [← e]; exact h'⟩) fun _ _ h' => h')
    split
    · rw [PySem.F.cmp_object.ne.bind]
      exact wpAny_bind (wpAny_pure (wpAny_pure go))
    · rw [PySem.F.cmp_object.ne.bind]
      exact wpAny_tryCatch (wpAny_bind (wpAny_pure (wpAny_pure go)))
  have two : wpAny (model X.prog X.w) X.A (tryCompare (.ref a) "__ne__" u) (fun r s' => ∃ t, r = some (Value.bool t) ∧ EP X pins σ Q (.bool t) s') X.xe s := by
    unfold tryCompare
    refine wpAny_bind (wpAny_mono one (fun r s' z => ?_) fun _ _ e => e)
    obtain ⟨t, rfl, q⟩ := z
    exact wpAny_pure ⟨t, rfl, q⟩
  refine wpAny_bind (J.type.here (wpAny_bind (tyb.here ?_)))
  split
  · rename_i q
    have e : PySem.W.subIn X.K tb (.ref C) = some false := by
      rcases Bool.or_eq_true_iff.mp nf with e | e
      · rw [beq_iff_eq.mp e] at q; simp at q
      · exact beq_iff_eq.mp e
    refine wpAny_bind ((PySem.W.looks_subIn KX e).here ?_)
    simp only [Bool.false_eq_true, if_false]
    refine wpAny_bind (wpAny_mono two (fun r s' z => ?_) fun _ _ e => e)
    obtain ⟨t, rfl, q⟩ := z
    exact wpAny_pure q
  · refine wpAny_bind (wpAny_pure ?_)
    simp only [Bool.false_eq_true, if_false]
    refine wpAny_bind (wpAny_mono two (fun r s' z => ?_) fun _ _ e => e)
    obtain ⟨t, rfl, q⟩ := z
    exact wpAny_pure q
end
end DV

namespace DV
open PySem L2
section
variable {X : Cx} {g : Gx} {fs : List FS} {a b : Expr} {ia ib : E} {pos : Pos} {c k i : Nat} {F : FS}
theorem obj_of {d : D} (h : isObj c d = true) : ∃ ks ds, d = .obj c ks ds := by
  cases d <;> simp only [isObj, Bool.false_eq_true, beq_iff_eq] at h
  exact ⟨_, _, by rw [h]⟩
theorem rep_ins {A : Addr → Prop} {H : Hp} {d : D} {v : V} (h : isObj c d = true) (r : Rep g A H d v) : ∃ p dx fl, v = .ref p ∧ H p = some (.ins (g.cl c) dx fl) := by
  obtain ⟨ks, ds, rfl⟩ := obj_of h
  simp only [Rep] at r
  obtain ⟨p, dx, vs, rfl, _, _, hp, _⟩ := r
  exact ⟨p, dx, _, rfl, hp⟩
/-- the two ways of a comparison -/
theorem own_bool {o : OOp} {op : COp} {p : Bool → Bool} {Bn : Addr → Prop} {Ow : List Addr} {H : Hp} {σ : St} {Γ Γ' : Ct} {r : RV} {Q : VK} (hpo : ∀ r5 r, postO o r5 = some r → ∃ t, r5 = .fz (.bl t) ∧ r = .fz (.bl (p t))) (hpl : ∀ d e, plainO o d e = (cmpD op d e).map fun b => .fz (.bl b))
    (hF : fs[i]? = some F) (rs : RS g Bn Ow H σ Γ) (he : ev fs (.own o c i ia ib) Γ = some (r, Γ')) (hQ : ∀ v H' Ow', Stp Ow H Ow' H' → RS g Bn Ow' H' σ Γ' → Val g Bn Ow' H' σ Γ' r v → Q v H') :
    tR g fs ia σ H fun v H1 => tR g fs ib σ H1 fun w H2 => rCmp g op v w H2 Q ∨ ∃ A d e, Rep g A H2 d v ∧ Rep g A H2 e w ∧ isObj c (selfO o d e).1 = true ∧ okO o c (selfO o d e).2 = true ∧
      ∀ sv ov, Rep g A H2 (selfO o d e).1 sv → Rep g A H2 (selfO o d e).2 ov → spF g 2 F [sv, ov] H2 (fun z H' => ∃ t, z = .bl t ∧ Q (.bl (p t)) H') E0 := by
  simp only [ev] at he
  obtain ⟨⟨x, Γ1⟩, e1, he⟩ := Option.bind_eq_some_iff.mp he
  obtain ⟨⟨y, Γ2⟩, e2, he⟩ := Option.bind_eq_some_iff.mp he
  obtain ⟨d, ed, he⟩ := Option.bind_eq_some_iff.mp he
  obtain ⟨e, ee, he⟩ := Option.bind_eq_some_iff.mp he
  simp only at ed ee he
  split at he
  · obtain ⟨⟨d', Γ3⟩, f1, he⟩ := Option.bind_eq_some_iff.mp he
    obtain ⟨⟨e', Γ4⟩, f2, he⟩ := Option.bind_eq_some_iff.mp he
    simp only [Option.ite_none_right_eq_some, Bool.and_eq_true] at he
    obtain ⟨⟨ho1, ho2⟩, he⟩ := he
    obtain ⟨F', hF', he⟩ := Option.bind_eq_some_iff.mp he
    rw [hF] at hF'; cases hF'
    obtain ⟨⟨r5, Γ5⟩, e5, he⟩ := Option.bind_eq_some_iff.mp he
    obtain ⟨r', e6, he⟩ := Option.map_eq_some_iff.mp he
    simp only [Prod.mk.injEq] at he
    obtain ⟨rfl, rfl⟩ := he
    obtain ⟨t, rfl, rfl⟩ := hpo _ _ e6
    rw [← fre_dn] at f1 f2
    refine tR_two rs e1 e2 fun v w H2 O2 s2 r2 v2 w2 => .inr ?_
    obtain ⟨O3, s3, r3, p3⟩ := fre_ok r2 v2 f1
    obtain ⟨O4, s4, r4, p4⟩ := fre_ok r3 (w2.step s3 r3) f2
    refine ⟨Av Bn O4, d', e', p3.step s4 r4, p4, ho1, ho2, fun sv ov q1 q2 => ?_⟩
    refine callD_core (xs := [.fz (selfO o d' e').1, .fz (selfO o d' e').2]) (vs := [sv, ov]) r4 ⟨sv, [ov], rfl, q1, nofun, ov, [], rfl, q2, nofun, rfl⟩ e5 rfl fun z H' O5 s5 r5 v5 => ⟨t, ?_, ?_⟩
    · simpa only [Val, Rep] using v5
    · exact hQ _ H' O5 (((s2.trans s3).trans s4).trans s5) r5 (by simp only [Val, Rep])
  · obtain ⟨r', e6, he⟩ := Option.map_eq_some_iff.mp he
    simp only [Prod.mk.injEq] at he
    obtain ⟨rfl, rfl⟩ := he
    rw [hpl] at e6
    obtain ⟨t, e7, rfl⟩ := Option.map_eq_some_iff.mp e6
    rw [← datum_dn] at ed ee
    exact tR_two rs e1 e2 fun v w H2 O2 s2 r2 v2 w2 => .inl ⟨Av Bn O2, d, e, t, v2.rdb r2 ed, w2.rdb r2 ee, e7, hQ _ H2 O2 s2 r2 (by simp only [Val, Rep])⟩
theorem post_eq (r5 r : RV) (h : postO .eq r5 = some r) : ∃ t, r5 = .fz (.bl t) ∧ r = .fz (.bl (id t)) := by
  cases r5 with
  | fz d =>
    cases d with
    | bl t => simp only [postO, Option.some.injEq] at h; exact ⟨t, rfl, h.symm⟩
    | _ => simp only [postO, reduceCtorEq] at h
  | _ => simp only [postO, reduceCtorEq] at h
theorem post_ne (r5 r : RV) (h : postO .ne r5 = some r) : ∃ t, r5 = .fz (.bl t) ∧ r = .fz (.bl (not t)) := by
  cases r5 with
  | fz d =>
    cases d with
    | bl t => simp only [postO, Option.some.injEq] at h; exact ⟨t, rfl, h.symm⟩
    | _ => simp only [postO, reduceCtorEq] at h
  | _ => simp only [postO, reduceCtorEq] at h
section
variable {op : COp} {o : OOp} {p : Bool → Bool}
theorem own2_core {Bn : Addr → Prop} {Ow : List Addr} {H : Hp} {σ : St} {Γ Γ' : Ct} {r : RV} {Q : VK} (hs : ∀ d e, selfO o d e = (d, e)) (hk : ∀ e, okO o c e = (isObj c e || plainB e)) (cx : ClsX g c) (hpo : ∀ r5 r, postO o r5 = some r → ∃ t, r5 = .fz (.bl t) ∧ r = .fz (.bl (p t))) (hpl : ∀ d e, plainO o d e = (cmpD op d e).map fun b => .fz (.bl b))
    (hF : fs[i]? = some F) (rs : RS g Bn Ow H σ Γ) (he : ev fs (.own o c i ia ib) Γ = some (r, Γ')) (hQ : ∀ v H' Ow', Stp Ow H Ow' H' → RS g Bn Ow' H' σ Γ' → Val g Bn Ow' H' σ Γ' r v → Q v H') :
    tOp (fun x y H Q => rCmp g op x y H Q ∨ rOwn2 g.K (g.cl c) (spF g 2 F) p x y H Q) (tR g fs ia) (tR g fs ib) σ H Q := by
  obtain ⟨B, O, G, x, G1, q1, q2, q3⟩ := own_bool hpo hpl hF rs he hQ
  refine ⟨B, O, G, x, G1, q1, q2, fun v H1 O1 s1 r1 v1 => ?_⟩
  obtain ⟨B', O', G', y, G2, t1, t2, t3⟩ := q3 v H1 O1 s1 r1 v1
  refine ⟨B', O', G', y, G2, t1, t2, fun w H2 O2 s2 r2 w2 => ?_⟩
  rcases t3 w H2 O2 s2 r2 w2 with h | ⟨A, d, e, h1, h2, h3, h4, h5⟩
  · exact .inl h
  · rw [hs] at h3 h4 h5
    rw [hk] at h4
    obtain ⟨pa, dx, fl, rfl, e1⟩ := rep_ins h3 h1
    rcases Bool.or_eq_true_iff.mp h4 with h4 | h4
    · obtain ⟨pb, dy, gl, rfl, e2⟩ := rep_ins h4 h2
      exact .inr ⟨pa, dx, fl, _, rfl, e1, cx.ty e2, by simp [PySem.W.notFirst], h5 _ _ h1 h2⟩
    · exact .inr ⟨pa, dx, fl, _, rfl, e1, tyx_of h4 h2.rdb, by simp [PySem.W.notFirst, cx.nf _ (tyS_mem h4)], h5 _ _ h1 h2⟩
end
/-- the facts of an own class with == -/
theorem p_ownEq (cx : ClsX g c) (M : Mtd X.prog X.w X.mg X.base g k c "__eq__" 2 F) (C : Cok0 g X) (hF : fs[i]? = some F) (hr : Room k X.A) (ha : PE X a (tR g fs ia)) (hb : PE X b (tR g fs ib)) (hm : behindInMarks .Eq b = false) : PE X (.Compare a [.Eq] [b] pos) (tR g fs (.own .eq c i ia ib)) := by
  obtain ⟨f, fd, ps, h1, h2, h3, h4⟩ := M.ex
  rw [← C.K] at h1 h2 h3 h4
  refine PE.weak (pe_cmpR ((op_cmp C.K C.hu .eq).or (op_ownEq h4 hr h3 h2)) ha hb hm) ?_
  rintro σ H Q ⟨Bn, Ow, Γ, r, Γ', rs, he, hQ⟩
  rw [C.K]
  exact own2_core (fun _ _ => rfl) (fun _ => rfl) cx post_eq (fun _ _ => rfl) hF rs he hQ
end
end DV

namespace DV
open PySem L2
section
variable {X : Cx} {g : Gx} {k : Nat} {f C : Addr} {fd : FuncData} {ps : List Str} {sp : Sp}
/-! ### o + p -/
/-! ### o[i] -/
/-! ### len(o) -/
end
section
variable {X : Cx} {g : Gx} {fs : List FS} {a b : Expr} {ia ib : E} {pos : Pos} {c k i : Nat} {F : FS}
theorem p_isc {cs : List Nat} {y : Str} {p p2 : Pos} (hcs : ∀ c' ∈ cs, ClsX g c' ∧ PySem.W.kitOne g.K (.ref (g.cl c')) (.ref (g.cl c)) = some (c == c')) (hpl' : ∀ t ∈ plainTy, PySem.W.kitOne g.K (.type t) (.ref (g.cl c)) = some false) (C : Cok0 g X) (ha : PE X a (tR g fs ia)) (hgy : Gl X y) (hmy : X.mg y = some (.ref (g.cl c))) (hdy : (y == ("__debug__" : Str)) = false) (hg : Gl X "isinstance") (hm : X.mg "isinstance" = none)
    (he : starEach (a :: [.Name y p2]) X.env = (false, eval a X.env) :: starEach [.Name y p2] X.env) (hpl : (backTo pos (starEach [.Name y p2] X.env)).any (·.1) = false) : PE X (.Call (.Name "isinstance" p) [a, .Name y p2] [] pos) (tR g fs (.isc cs c ia)) := by
  have hy : PE X (.Name y p2) (tC (.ref (g.cl c))) := pe_glob (v := .ref (g.cl c)) hgy hmy rfl hdy
  refine PE.weak (pe_callB call_isi hg hm PyProof.Rows.boot_isinstance (pa_cons ha (pa_cons hy pa_nil rfl) he) (by decide) (by decide) he hpl) ?_
  rintro σ H Q ⟨Bn, Ow, Γ, r, Γ', rs, he, hQ⟩
  simp only [ev] at he
  obtain ⟨⟨x, Γ1⟩, e1, he⟩ := Option.bind_eq_some_iff.mp he
  obtain ⟨d, ed, he⟩ := Option.bind_eq_some_iff.mp he
  obtain ⟨bb, eb, he⟩ := Option.map_eq_some_iff.mp he
  simp only [Prod.mk.injEq] at he
  obtain ⟨rfl, rfl⟩ := he
  rw [← datum_dn] at ed
  refine tR_one rs e1 fun v H1 O1 s1 r1 v1 => ?_
  show rIsi X.K [v, .ref (g.cl c)] H1 Q
  rw [C.K]
  have rd := v1.rdb r1 ed
  have q := hQ _ H1 O1 s1 r1 (show Val g Bn O1 H1 σ Γ1 (.fz (.bl bb)) (.bl bb) by simp only [Val, Rep])
  by_cases hp : plainB d = true
  · have : bb = false := by cases d <;> simp only [iscD, Option.some.injEq, plainB, Bool.false_eq_true] at eb hp <;> exact eb.symm
    subst this
    exact ⟨v, _, _, _, false, rfl, .own _, tyx_of hp rd, hpl' _ (tyS_mem hp), q⟩
  · by_cases hdc : d = .dct
    · subst hdc
      simp only [iscD, Option.some.injEq] at eb
      subst eb
      obtain ⟨pa, rfl, _, e2⟩ := (show Rep g _ _ .dct v from rd)
      exact ⟨_, _, _, _, false, rfl, .own _, .base (.dK e2), hpl' "dict" (by decide), q⟩
    cases d <;> simp only [iscD, plainB, not_true_eq_false, reduceCtorEq] at eb hp hdc
    rename_i c' ks ds
    simp only [Option.ite_none_right_eq_some, List.contains_eq_mem, decide_eq_true_eq, Option.some.injEq] at eb
    obtain ⟨hm', rfl⟩ := eb
    obtain ⟨pa, dx, vs, rfl, _, e2, _⟩ := rd
    exact ⟨_, _, _, _, _, rfl, .own _, (hcs c' hm').1.ty e2, (hcs c' hm').2, q⟩
end
end DV

namespace DV
open PySem L2
section
variable {g : Gx} {Bn : Addr → Prop} {Ow : List Addr} {H : Hp} {σ : St} {Γ : Ct}
theorem VlW.of : ∀ {xs : List RV} {vs : List V}, xs.length = vs.length → (∀ (i : Nat) x, xs[i]? = some x → ∃ v, vs[i]? = some v ∧ Val g Bn Ow H σ Γ x v) → (∀ (i k : Nat) d e v, xs[i]? = some (.nw d) → xs[k]? = some (.nw e) → vs[i]? = some v → vs[k]? = some v → i = k) → VlW g Bn Ow H σ Γ xs vs
  | [], vs, l, _, _ => by
    have : vs = [] := List.length_eq_zero_iff.mp l.symm
    exact this
  | x :: xs, [], l, _, _ => by simp at l
  | x :: xs, v :: vs, l, h, u => by
    refine ⟨v, vs, rfl, ?_, ?_, VlW.of (by simpa using l) (fun i y e => ?_) fun i k d e w h1 h2 h3 h4 => ?_⟩
    · obtain ⟨w, e1, e2⟩ := h 0 x rfl
      simp at e1; subst e1
      exact e2
    · intro d e j e' h1 h2
      have := u 0 (j + 1) d e' v (by simp [e]) (by simpa using h1) rfl (by simpa using h2)
      omega
    · obtain ⟨w, e1, e2⟩ := h (i + 1) y (by simpa using e)
      exact ⟨w, by simpa using e1, e2⟩
    · have := u (i + 1) (k + 1) d e w (by simpa using h1) (by simpa using h2) (by simpa using h3) (by simpa using h4)
      omega
theorem permL_get {α : Type} : ∀ {p : List Nat} {xs : List α}, (∀ i ∈ p, i < xs.length) → ∀ j : Nat, (permL p xs)[j]? = (p[j]?).bind fun i => xs[i]?
  | [], xs, _, j => by simp [permL]
  | i :: p, xs, h, j => by
    have hi := h i List.mem_cons_self
    have e : permL (i :: p) xs = xs[i] :: permL p xs := by simp [permL, List.getElem?_eq_getElem hi]
    rw [e]
    cases j with
    | zero => simp [List.getElem?_eq_getElem hi]
    | succ j => simpa using permL_get (fun k hk => h k (List.mem_cons_of_mem _ hk)) j
theorem permL_len {α : Type} {p : List Nat} {xs : List α} (h : ∀ i ∈ p, i < xs.length) : (permL p xs).length = p.length := by
  induction p with
  | nil => simp [permL]
  | cons i p ih =>
    have hi := h i List.mem_cons_self
    have e : permL (i :: p) xs = xs[i] :: permL p xs := by simp [permL, List.getElem?_eq_getElem hi]
    rw [e, List.length_cons, List.length_cons, ih fun k hk => h k (List.mem_cons_of_mem _ hk)]
theorem nodupB_iff : ∀ {p : List Nat}, nodupB p = true → p.Nodup
  | [], _ => List.nodup_nil
  | x :: p, h => by
    obtain ⟨h1, h2⟩ := nodupB_cons h
    exact List.nodup_cons.mpr ⟨h1, nodupB_iff h2⟩
theorem VlW.perm {p : List Nat} {xs : List RV} {vs : List V} (h : VlW g Bn Ow H σ Γ xs vs) (hp : permOk p xs.length = true) : VlW g Bn Ow H σ Γ (permL p xs) (permL p vs) := by
  simp only [permOk, Bool.and_eq_true, List.all_eq_true, decide_eq_true_eq] at hp
  obtain ⟨nd, hr⟩ := hp
  have hr' : ∀ i ∈ p, i < vs.length := fun i m => by rw [← h.len]; exact hr i m
  refine VlW.of (by rw [permL_len hr, permL_len hr']) (fun i x e => ?_) fun i k d e v h1 h2 h3 h4 => ?_
  · rw [permL_get hr] at e
    obtain ⟨j, e1, e2⟩ := Option.bind_eq_some_iff.mp e
    obtain ⟨v, e3, e4⟩ := h.get e2
    exact ⟨v, by rw [permL_get hr', e1]; exact e3, e4⟩
  · rw [permL_get hr] at h1 h2
    rw [permL_get hr'] at h3 h4
    obtain ⟨j1, a1, a2⟩ := Option.bind_eq_some_iff.mp h1
    obtain ⟨j2, b1, b2⟩ := Option.bind_eq_some_iff.mp h2
    rw [a1] at h3
    rw [b1] at h4
    have := h.uniq a2 b2 h3 h4
    subst this
    exact ((List.getElem?_inj (List.getElem?_eq_some_iff.mp a1).1 (nodupB_iff nd)).mp (a1.trans b1.symm))
end
section
variable {X : Cx} {g : Gx} {fs : List FS}
/-- one behind another -/
def tFold (g : Gx) (fs : List FS) : List E → TA
  | [] => tNil
  | ie :: ies => tCons (tR g fs ie) (tFold g fs ies)
theorem fold_mono : ∀ {is : List E} {σ : St} {H : Hp} {Q Q' : List V → Hp → Prop}, (∀ vs H', Q vs H' → Q' vs H') → tFold g fs is σ H Q → tFold g fs is σ H Q'
  | [], _, _, _, _, k, h => k _ _ h
  | i :: is, σ, H, Q, Q', k, h => by
    obtain ⟨Bn, Ow, Γ, x, Γ1, rs, e1, kk⟩ := h
    exact ⟨Bn, Ow, Γ, x, Γ1, rs, e1, fun v H1 O1 s1 r1 v1 => fold_mono (fun vs H' q => k _ _ q) (kk v H1 O1 s1 r1 v1)⟩
theorem pf_nil : PA X [] (tFold g fs []) := pa_nil
theorem pf_cons {a : Expr} {es : List Expr} {ia : E} {ies : List E} (ha : PE X a (tR g fs ia)) (hr : PA X es (tFold g fs ies)) (hs : starEach (a :: es) X.env = (false, eval a X.env) :: starEach es X.env) : PA X (a :: es) (tFold g fs (ia :: ies)) := pa_cons ha hr hs
theorem kf_nil : PK X [] (tFold g fs []) := pk_nil
theorem kf_cons {a : Expr} {kws : List Keyword} {nm : Option Str} {kpos : Pos} {ia : E} {ies : List E} (ha : PE X a (tR g fs ia)) (hr : PK X kws (tFold g fs ies)) : PK X (⟨nm, a, kpos⟩ :: kws) (tFold g fs (ia :: ies)) := pk_cons ha hr
theorem fold_one {ies : List E} : ∀ {jes : List E} {σ : St} {H : Hp} {Q : List V → Hp → Prop}, tAw g fs (jes ++ ies) σ H Q → tFold g fs jes σ H fun vs H1 => tAw g fs ies σ H1 fun zs H2 => Q (vs ++ zs) H2
  | [], _, _, _, h => h
  | j :: jes, σ, H, Q, h => by
    obtain ⟨Bn, Ow, Γ, x, Γ1, rs, e1, kk⟩ := aw_split h
    exact ⟨Bn, Ow, Γ, x, Γ1, rs, e1, fun v H1 O1 s1 r1 v1 => fold_one (kk v H1 O1 s1 r1 v1)⟩
theorem aw_done {σ : St} {H : Hp} {Q : List V → Hp → Prop} (h : tAw g fs [] σ H Q) : Q [] H := by
  obtain ⟨Bn, Ow, Γ, xs, Γ', rs, he, hQ⟩ := h
  simp only [evs, Option.some.injEq, Prod.mk.injEq] at he
  obtain ⟨rfl, rfl⟩ := he
  exact hQ [] H Ow (.refl _ _) rs rfl
def dfl (ns : List Int) : List E := ns.map fun n => .cst (.int n)
theorem aw_dfl : ∀ {ns : List Int} {σ : St} {H : Hp} {Q : List V → Hp → Prop}, tAw g fs (dfl ns) σ H Q → Q (ns.map .int) H
  | [], _, _, _, h => aw_done h
  | n :: ns, σ, H, Q, h => by
    obtain ⟨Bn, Ow, Γ, x, Γ1, rs, e1, kk⟩ := aw_split h
    simp only [ev, Option.some.injEq, Prod.mk.injEq] at e1
    obtain ⟨rfl, rfl⟩ := e1
    exact aw_dfl (Q := fun vs H2 => Q (.int n :: vs) H2) (kk (.int n) H Ow (.refl _ _) rs (by simp only [Val, Rep]))
theorem fold_all {ies jes : List E} {ns : List Int} {σ : St} {H : Hp} {Q : List V → Hp → Prop} (h : tAw g fs (ies ++ (jes ++ dfl ns)) σ H Q) : tFold g fs ies σ H fun vs H1 => tFold g fs jes σ H1 fun zs H2 => Q (vs ++ (zs ++ ns.map .int)) H2 := by
  exact fold_mono (fun vs H1 q => fold_mono (fun zs H2 q => aw_dfl q) (fold_one q)) (fold_one h)
theorem fold_len : ∀ {ies : List E} {σ : St} {H : Hp} {Q : List V → Hp → Prop}, tFold g fs ies σ H Q → tFold g fs ies σ H fun vs H1 => vs.length = ies.length ∧ Q vs H1
  | [], _, _, _, h => ⟨rfl, h⟩
  | i :: is, σ, H, Q, h => by
    obtain ⟨Bn, Ow, Γ, x, Γ1, rs, e1, kk⟩ := h
    refine ⟨Bn, Ow, Γ, x, Γ1, rs, e1, fun v H1 O1 s1 r1 v1 => ?_⟩
    have q := fold_len (kk v H1 O1 s1 r1 v1)
    exact fold_mono (fun vs H' q => ⟨by rw [List.length_cons, List.length_cons, q.1], q.2⟩) q
theorem fold_len2 {ies jes : List E} {σ : St} {H : Hp} {Q : List V → List V → Hp → Prop} (h : tFold g fs ies σ H fun vs H1 => tFold g fs jes σ H1 fun zs H2 => Q vs zs H2) : tFold g fs ies σ H fun vs H1 => tFold g fs jes σ H1 fun zs H2 => vs.length = ies.length ∧ zs.length = jes.length ∧ Q vs zs H2 := by
  exact fold_mono (fun vs H1 q => fold_mono (fun zs H2 q2 => ⟨q.1, q2.1, q2.2⟩) (fold_len q.2)) (fold_len h)
/-- a def called with n values and keywords ks; p: where each parameter stands -/
structure CalK (P : Program) (w : World) (mg : Str → Option Value) (base : Heap) (g : Gx) (k : Nat) (x : Str) (n : Nat) (ks : List Str) (p : List Nat) (F : FS) : Prop where
  ex : ∃ f fd ps gg gV, mg x = some (.ref f) ∧ PySem.W.keepIn g.K (.ref f) = true ∧ KBn g.K fd ps n ks gg gV ∧ (∀ vs zs : List V, vs.length = n → zs.length = ks.length → gV vs zs = permL p (vs ++ zs)) ∧ FnOk P w g.K mg base CX0 k f fd ps (spF g p.length F)
theorem CalK.mono {P : Program} {w : World} {mg : Str → Option Value} {base : Heap} {j k n : Nat} {x : Str} {ks : List Str} {p : List Nat} {F : FS} (h : CalK P w mg base g j x n ks p F) (l : j ≤ k) : CalK P w mg base g k x n ks p F := by
  obtain ⟨f, fd, ps, gg, gV, h1, h2, h3, h5, h4⟩ := h.ex
  exact ⟨f, fd, ps, gg, gV, h1, h2, h3, h5, h4.mono l⟩
theorem callp_core {i : Nat} {ies jes : List E} {p : List Nat} {F : FS} {σ : St} {H : Hp} {Q : VK} {Ex : XK} (hF : fs[i]? = some F) (h : tR g fs (.callp i p (ies ++ jes)) σ H Q) :
    tFold g fs ies σ H fun vs H1 => tFold g fs jes σ H1 fun zs H2 => vs.length = ies.length ∧ zs.length = jes.length ∧ spF g p.length F (permL p (vs ++ zs)) H2 Q Ex := by
  obtain ⟨Bn, Ow, Γ, r, Γ', rs, he, hQ⟩ := h
  simp only [ev] at he
  obtain ⟨⟨xs, Γ1⟩, e1, he⟩ := Option.bind_eq_some_iff.mp he
  obtain ⟨F', e4, he⟩ := Option.bind_eq_some_iff.mp he
  rw [hF] at e4; cases e4
  simp only [Option.ite_none_right_eq_some] at he
  obtain ⟨hp, he⟩ := he
  have key : tAw g fs (ies ++ (jes ++ dfl [])) σ H fun ws H2 => spF g p.length F (permL p ws) H2 Q Ex := by
    rw [show dfl [] = ([] : List E) from rfl, List.append_nil]
    refine ⟨Bn, Ow, Γ, xs, Γ1, rs, e1, fun ws H1 O1 s1 r1 v1 => ?_⟩
    have hr : ∀ i ∈ p, i < ws.length := by
      simp only [permOk, Bool.and_eq_true, List.all_eq_true, decide_eq_true_eq] at hp
      rw [← v1.len]; exact hp.2
    exact callD_core r1 (v1.perm hp) he (permL_len hr) fun v H' O' st => hQ v H' O' (s1.trans st)
  have := fold_len2 (fold_all key)
  simpa only [List.map_nil, List.append_nil] using this
section
variable {e : Expr} {es : List Expr} {kws : List Keyword} {ies jes : List E} {c k i n : Nat} {ks : List Str} {F : FS} {x : Str} {p : List Nat} {q pos : Pos} {ns : List Int}
theorem c_callK0 (c : CalK X.prog X.w X.mg X.base g k x 0 ks p F) (C : Cok0 g X) (hF : fs[i]? = some F) (hj : jes.length = ks.length) (hr : Room k X.A) (hg : Gl X x) (hkw : PK X kws (tFold g fs jes))
    (hall : (backToKw pos (keywordEach kws X.env)).all (·.1.isSome) = true) (hks : (backToKw pos (keywordEach kws X.env)).filterMap (·.1) = ks) (hdb : (x == ("__debug__" : Str)) = false)
    (hpl : ((backTo pos (starEach [] X.env)).any (·.1) || (backToKw pos (keywordEach kws X.env)).any (·.1.isNone)) = false) :
    PE X (.Call (.Name x q) [] kws pos) (tR g fs (.callp i p jes)) := by
  obtain ⟨f, fd, ps, gg, gV, h1, h2, h3, h5, h4⟩ := c.ex
  rw [← C.K] at h2 h3 h4
  refine ⟨fun pins s σ H Q I h => ?_⟩
  have core : tFold g fs jes σ H fun zs H2 => zs.length = jes.length ∧ spF g p.length F (permL p zs) H2 Q E0 := by
    have := callp_core (Ex := E0) (ies := []) hF h
    exact fold_mono (fun vs H1 q => ⟨q.2.1, by simpa using q.2.2⟩) this
  refine wpAny_Call_Name_kw (ld_glob I hg h1 ?_ hdb)
  refine PySem.W.callWith_KW0 (h₀ := X.base) I.ok.mod.kin h2 hall ?_ hpl
  refine thn (hkw.run pos pins s σ H _ I core) fun ws s2 ⟨zs, H2, I2, rz, l1, q2⟩ => ⟨I2.kIn, ?_⟩
  rw [hks]
  exact run_fnN (us := []) (vs := []) h4 hr h3 pass0 I2 .nil rz rfl (l1.trans hj) (by rw [h5 [] zs rfl (l1.trans hj)]; exact q2)
/-- a new object, called with n values and keywords ks; ns: the numbers that lack -/
structure MkdK (P : Program) (w : World) (mg : Str → Option Value) (base : Heap) (g : Gx) (k : Nat) (c : Nat) (x : Str) (n : Nat) (ks : List Str) (p : List Nat) (ns : List Int) (F : FS) : Prop where
  ex : ∃ f fd ps gg gV, mg x = some (.ref (g.cl c)) ∧ Mk g.K (g.cl c) f ∧ KBn g.K fd ps (n + 1) ks gg gV ∧ (∀ (s : V) (vs zs : List V), vs.length = n → zs.length = ks.length → gV (s :: vs) zs = s :: permL p (vs ++ (zs ++ ns.map .int))) ∧ ps.length = p.length + 1 ∧ FnOk P w g.K mg base CX0 k f fd ps (spF g (p.length + 1) F)
theorem MkdK.mono {P : Program} {w : World} {mg : Str → Option Value} {base : Heap} {j k c n : Nat} {x : Str} {ks : List Str} {p : List Nat} {ns : List Int} {F : FS} (h : MkdK P w mg base g j c x n ks p ns F) (l : j ≤ k) : MkdK P w mg base g k c x n ks p ns F := by
  obtain ⟨f, fd, ps, gg, gV, h1, h2, h3, h5, h6, h4⟩ := h.ex
  exact ⟨f, fd, ps, gg, gV, h1, h2, h3, h5, h6, h4.mono l⟩
theorem mkp_core {i c np : Nat} {ies jes : List E} {p : List Nat} {F : FS} {σ : St} {H : Hp} {Q : VK} {Ex : XK} (hF : fs[i]? = some F) (hp : np = p.length + 1) (h : tR g fs (.mkp c i p (ies ++ (jes ++ dfl ns))) σ H Q) :
    tFold g fs ies σ H fun vs H1 => tFold g fs jes σ H1 fun zs H2 => vs.length = ies.length ∧ zs.length = jes.length ∧ ∀ x dx, H2 x = none → H2 dx = none → dx ≠ x →
    (V.ref x :: permL p (vs ++ (zs ++ ns.map .int))).length = np ∧ (kfs g.K (upd (upd H2 dx (.own x)) x (.ins (g.cl c) dx [])) → spF g (p.length + 1) F (V.ref x :: permL p (vs ++ (zs ++ ns.map .int))) (upd (upd H2 dx (.own x)) x (.ins (g.cl c) dx [])) (fun v H2 => v = .non ∧ Q (.ref x) H2) Ex) := by
  obtain ⟨Bn, Ow, Γ, r, Γ', rs, he, hQ⟩ := h
  simp only [ev] at he
  obtain ⟨⟨xs, Γ1⟩, e1, he⟩ := Option.bind_eq_some_iff.mp he
  obtain ⟨F', e4, he⟩ := Option.bind_eq_some_iff.mp he
  rw [hF] at e4; cases e4
  simp only [Option.ite_none_right_eq_some] at he
  obtain ⟨hpk, he⟩ := he
  refine fold_len2 (fold_all (Q := fun ws H2 => ∀ x dx, H2 x = none → H2 dx = none → dx ≠ x →
    (V.ref x :: permL p ws).length = np ∧ (kfs g.K (upd (upd H2 dx (.own x)) x (.ins (g.cl c) dx [])) → spF g (p.length + 1) F (V.ref x :: permL p ws) (upd (upd H2 dx (.own x)) x (.ins (g.cl c) dx [])) (fun v H2 => v = .non ∧ Q (.ref x) H2) Ex)) ⟨Bn, Ow, Γ, xs, Γ1, rs, e1, fun ws H1 O1 s1 r1 v1 => ?_⟩)
  have hr : ∀ i ∈ p, i < ws.length := by
    simp only [permOk, Bool.and_eq_true, List.all_eq_true, decide_eq_true_eq] at hpk
    rw [← v1.len]; exact hpk.2
  exact mkD_core r1 (v1.perm hpk) he (permL_len hr) hp fun v H' O' st => hQ v H' O' (s1.trans st)
theorem p_mkK (M : MkdK X.prog X.w X.mg X.base g k c x n ks p ns F) (C : Cok0 g X) (hF : fs[i]? = some F) (hn : ies.length = n) (hj : jes.length = ks.length) (hr : Room (k + 1) X.A) (hg : Gl X x) (ha : PA X (e :: es) (tFold g fs ies)) (hkw : PK X kws (tFold g fs jes))
    (hall : (backToKw pos (keywordEach kws X.env)).all (·.1.isSome) = true) (hks : (backToKw pos (keywordEach kws X.env)).filterMap (·.1) = ks) (hdb : (x == ("__debug__" : Str)) = false) (he : starEach (e :: es) X.env = (false, eval e X.env) :: starEach es X.env)
    (hpl : ((backTo pos (starEach (e :: es) X.env)).any (·.1) || (backToKw pos (keywordEach kws X.env)).any (·.1.isNone)) = false) :
    PE X (.Call (.Name x q) (e :: es) kws pos) (tR g fs (.mkp c i p (ies ++ (jes ++ dfl ns)))) := by
  obtain ⟨f, fd, ps, gg, gV, h1, h2, h3, h5, h6, h4⟩ := M.ex
  have h7 := FnOk.kf h4
  rw [← C.K] at h2 h3 h7
  refine PE.weak (pe_makeK h2 h7 hr hg h1 h3 pass0 ha hkw hall hks hdb he hpl) fun σ H Q h => ?_
  have core := mkp_core (Ex := E0) hF h6 h
  rw [← C.K] at core
  exact fold_mono (fun vs H1 q => fold_mono (fun zs H2 q => ⟨q.1.trans hn, q.2.1.trans hj, fun x dx a1 a2 a3 => by rw [h5 _ vs zs (q.1.trans hn) (q.2.1.trans hj)]; exact q.2.2 x dx a1 a2 a3⟩) q) core
end
end
end DV

namespace DV
open PySem L2
variable {Wx : L2.XK}
section
variable {P : Program} {w : World} {mg : Str → Option Value} {base : Heap} {g : Gx} {fs : List FS}
theorem def_fnD {x qual : Str} {params : Arguments} {body : List Stmt} {scope : Scope} {dvs : List V} {kws : List (Str × V)} {f : Addr} {fd : FuncData} {N ps : List Str} {k np n : Nat} {ir : List S} (F : FunD g.K x qual params body scope dvs kws f fd) (S : FnScope N ps scope) (hp : ps.length = np) (hN : N.length = n) (ge : g.ea = none)
    (hbody : ∀ (cdv : Value) (A : Around) (outer : List Env) (s : Shared) (H : Hp) (E : XK), Room k (cxOf CX0 P w g.K mg base N qual scope f cdv A outer s H E).nox.A → Cok g (cxOf CX0 P w g.K mg base N qual scope f cdv A outer s H E).nox →
      PSs (cxOf CX0 P w g.K mg base N qual scope f cdv A outer s H E).nox body (tSs g Wx fs ir)) : FnOk P w g.K mg base CX0 (k + 1) f fd ps (spF g np (runF fs np n ir)) := by
  refine F.ok S (fun vs H Q E h => by rw [h.1, hp]) fun cdv A outer s H vs Q E hr h => ?_
  refine ⟨_, (hbody cdv A outer s H E hr ⟨rfl, rfl, hr.units, S.nd, ge⟩).nox, ?_⟩
  obtain ⟨hl, Bn, Ow, Γ, r, os, rs, ef, nr, hQ⟩ := h
  have hG : Γ.length = np := by rw [← rs.len, List.length_map, hl]
  have hle : np ≤ n := by
    rw [← hN, ← hp]
    have := congrArg List.length S.pre
    rw [List.length_take] at this
    omega
  simp only [runF, hG, if_true] at ef
  obtain ⟨o, e1, e2⟩ := Option.bind_eq_some_iff.mp ef
  have est : L2.start N vs = vs.map some ++ List.replicate (n - np) none := by rw [← hN, ← hl]; rfl
  refine ⟨(n, (ownPs 0 Γ).map fun i => (i, vs.getD i .non)), Bn, Ow, Γ ++ List.replicate (n - np) none, o, ?_, ⟨?_, fun p hp => ?_⟩, ?_, ?_⟩
  · rw [est]; exact rs.start _
  · rw [est, List.length_append, List.length_map, List.length_replicate, hl]; show np + (n - np) = n; omega
  · obtain ⟨i, hi, rfl⟩ := List.mem_map.mp hp
    obtain ⟨j, d, rfl, h⟩ := ownPs_mem.mp hi
    have hj : j < vs.length := by
      have h1 := (List.getElem?_eq_some_iff.mp h).1
      omega
    rw [est]
    show (vs.map some ++ List.replicate (n - np) none)[0 + j]? = some (some (vs.getD (0 + j) .non))
    rw [Nat.zero_add, List.getElem?_append_left (by rw [List.length_map]; exact hj), List.getElem?_map, List.getElem?_eq_getElem hj, List.getD_eq_getElem?_getD, List.getElem?_eq_getElem hj]
    rfl
  · rw [List.map_map]
    show exs fs ((ownPs 0 Γ).map id) ir _ = some o
    rw [List.map_id]
    exact e1
  · rw [← hG] at e2
    exact finish_ok rs (by omega) e2 hQ
theorem paired_get {α β : Type} {R : α → β → Prop} : ∀ {xs : List α} {ys : List β}, Paired R xs ys → ∀ i : Nat, (∃ x y, xs[i]? = some x ∧ ys[i]? = some y ∧ R x y) ∨ (xs[i]? = none ∧ ys[i]? = none)
  | _, _, .nil, i => .inr ⟨by simp, by simp⟩
  | _, _, .cons r t, 0 => .inl ⟨_, _, rfl, rfl, r⟩
  | _, _, .cons r t, i + 1 => by simpa using paired_get t i
theorem paired_perm {α β : Type} {R : α → β → Prop} {xs : List α} {ys : List β} (h : Paired R xs ys) : ∀ p : List Nat, Paired R (permL p xs) (permL p ys)
  | [] => .nil
  | i :: p => by
    have ih := paired_perm h p
    rcases paired_get h i with ⟨x, y, e1, e2, r⟩ | ⟨e1, e2⟩
    · have a1 : permL (i :: p) xs = x :: permL p xs := by simp [permL, e1]
      have a2 : permL (i :: p) ys = y :: permL p ys := by simp [permL, e2]
      rw [a1, a2]
      exact .cons r ih
    · have a1 : permL (i :: p) xs = permL p xs := by simp [permL, e1]
      have a2 : permL (i :: p) ys = permL p ys := by simp [permL, e2]
      rw [a1, a2]
      exact ih
/-- keywords of a def without defaults -/
theorem fun_kbn {K : PySem.W.Frag} {x qual : Str} {st : Stmt} {f : Addr} {fd : FuncData} {ps : List Str} (F : Fun K x qual st f fd) {n : Nat} {ks : List Str} {p : List Nat}
    (h : ∀ (kV doc pm : Value) (an : Option Addr) (cdv ct : Value) (us ws : List Value), us.length = n → ws.length = ks.length → bindArgs (PySem.W.fnOf x qual (defArgs st) (defBody st) (defScope st) .none kV doc pm an cdv ct) ⟨us, ks.zip ws⟩ = pure (ps.zip (permL p (us ++ ws)))) :
    KBn K fd ps n ks (fun us ws => permL p (us ++ ws)) (fun vs zs => permL p (vs ++ zs)) := by
  obtain ⟨oc, od, kV, doc, pm, an, cdv, ct, osl, rfl, lk, hcd⟩ := F.ex
  exact ⟨fun s us ws _ l1 l2 => .of_eq (h kV doc pm an cdv ct us ws l1 l2), fun r1 r2 => paired_perm (r1.append r2) p⟩
theorem calk_of {x qual : Str} {st : Stmt} {f : Addr} {fd : FuncData} {ps : List Str} {n np k : Nat} {ks : List Str} {p : List Nat} {F : FS} (Fu : Fun g.K x qual st f fd) (hm : mg x = some (.ref f)) (hp : p.length = np) (G : FnOk P w g.K mg base CX0 k f fd ps (spF g np F))
    (h : ∀ (kV doc pm : Value) (an : Option Addr) (cdv ct : Value) (us ws : List Value), us.length = n → ws.length = ks.length → bindArgs (PySem.W.fnOf x qual (defArgs st) (defBody st) (defScope st) .none kV doc pm an cdv ct) ⟨us, ks.zip ws⟩ = pure (ps.zip (permL p (us ++ ws)))) : CalK P w mg base g k x n ks p F := by
  subst hp
  exact ⟨f, fd, ps, _, _, hm, Fu.kp, fun_kbn Fu h, fun vs zs _ _ => rfl, G⟩
/-- the order of an __init__: the object, then p -/
def gI {α : Type} (p : List Nat) (us mv ws : List α) : List α := match us with
  | [] => []
  | s :: r => s :: permL p (r ++ (ws ++ mv))
theorem gI_rel (p : List Nat) {vs mz zs : List V} {us mv ws : List Value} (h1 : Vals vs us) (h2 : Vals mz mv) (h3 : Vals zs ws) : Vals (gI p vs mz zs) (gI p us mv ws) := by
  cases h1 with
  | nil => exact .nil
  | cons r t => exact .cons r (paired_perm (Vals.append t (h3.append h2)) p)
theorem mkdk_of {c k n np : Nat} {x qual : Str} {params : Arguments} {body : List Stmt} {scope : Scope} {kws : List (Str × V)} {f : Addr} {fd : FuncData} {ps ks : List Str} {p : List Nat} {ms : List (Str × V)} {ns : List Int} {F : FS} {y : Str} (Fu : FunD g.K y qual params body scope [] kws f fd) (hk : kws ≠ []) (hms : ∀ q ∈ ms, q ∈ kws) (hns : ms.map (·.2) = ns.map V.int)
    (hm : mg x = some (.ref (g.cl c))) (M : Mk g.K (g.cl c) f) (hp : p.length = np) (hps : ps.length = np + 1) (G : FnOk P w g.K mg base CX0 k f fd ps (spF g (np + 1) F))
    (h : ∀ (D : Addr) (doc pm : Value) (an : Option Addr) (cdv ct : Value) (us mv ws : List Value), us.length = n + 1 → mv.length = ms.length → ws.length = ks.length →
      KwChain D ((ms.map (·.1)).zip mv) (bindArgs (PySem.W.fnOf y qual params body scope .none (.ref D) doc pm an cdv ct) ⟨us, ks.zip ws⟩) (ps.zip (gI p us mv ws))) : MkdK P w mg base g k c x n ks p ns F := by
  subst hp
  obtain ⟨mv, kb⟩ := Fu.kbinds0 (n + 1) ks ms (fun us mv ws => gI p us mv ws) hk hms (fun h1 h2 h3 => gI_rel p h1 h2 h3) h
  refine ⟨f, fd, ps, _, _, hm, M, kb, fun s vs zs _ _ => ?_, hps, G⟩
  show s :: permL p (vs ++ (zs ++ ms.map (·.2))) = _
  rw [hns]
/-- an __init__ with keyword-only numbers -/
theorem fund_mk {K : PySem.W.Frag} {x qual : Str} {st : Stmt} {f D : Addr} {oc : Value} {od an : Option Addr} {osl : Array (Option Value)} {doc pm cdv ct : Value} {y : Str} {n : Int} {t : Tok} (l : K.lookup f = some ⟨oc, od, .func (PySem.W.fnOf x qual (defArgs st) (defBody st) (defScope st) .none (.ref D) doc pm an cdv ct), osl⟩)
    (c : PySem.W.codeIn K cdv qual = true) (k : PySem.W.keepIn K (.ref f) = true) (d : PySem.W.nsIn K D y = some (some (.int n t))) : FunD K x qual (defArgs st) (defBody st) (defScope st) [] [(y, .int n)] f (PySem.W.fnOf x qual (defArgs st) (defBody st) (defScope st) .none (.ref D) doc pm an cdv ct) :=
  ⟨⟨oc, od, .none, .ref D, doc, pm, an, cdv, ct, osl, rfl, l, c, .inl ⟨rfl, rfl⟩, .inr ⟨D, rfl, fun q hq => by
    rcases List.mem_cons.mp hq with rfl | hq
    · exact ⟨_, d, t, rfl⟩
    · cases hq⟩⟩, k⟩
end
section
variable {X : Cx} {g : Gx} {fs : List FS} {x : Str} {pos : Pos}
end
end DV

namespace DV
open PySem L2
theorem all_nil {α : Type} (P : α → Prop) : ∀ c ∈ ([] : List α), P c := fun _ h => nomatch h
theorem all_cons {α : Type} {P : α → Prop} {c : α} {cs : List α} (h : P c) (t : ∀ c ∈ cs, P c) : ∀ d ∈ c :: cs, P d := fun d m => by
  rcases List.mem_cons.mp m with rfl | m
  · exact h
  · exact t d m
theorem kit_pl {K : PySem.W.Frag} {C : Addr} {t : Value} {b : Bool} (h1 : PySem.W.isClsIn K C = true) (h2 : PySem.W.typeIn K (.ref C) = some (.type "type")) (h4 : (t == .ref C) = false) (h3 : PySem.W.subIn K t (.ref C) = some b) : PySem.W.kitOne K t (.ref C) = some b := by
  unfold PySem.W.kitOne PySem.W.kitCls
  unfold PySem.W.isClsIn at h1
  simp only [h4, h1, h2, Bool.false_eq_true, if_false, beq_self_eq_true, Bool.and_self, if_true]
  exact h3
theorem kit_me {K : PySem.W.Frag} {C : Addr} : PySem.W.kitOne K (.ref C) (.ref C) = some true := by
  unfold PySem.W.kitOne
  simp
theorem so_eq (d e : D) : selfO .eq d e = (d, e) := rfl
theorem so_ne (d e : D) : selfO .ne d e = (d, e) := rfl
theorem so_in (d e : D) : selfO .inn d e = (e, d) := rfl
theorem so_ni (d e : D) : selfO .notin d e = (e, d) := rfl
theorem so_ix (d e : D) : selfO .ix d e = (d, e) := rfl
theorem so_ad (d e : D) : selfO .add d e = (d, e) := rfl
theorem oo_eq (c : Nat) (e : D) : okO .eq c e = (isObj c e || plainB e) := rfl
theorem oo_ne (c : Nat) (e : D) : okO .ne c e = (isObj c e || plainB e) := rfl
theorem oo_in (c : Nat) (e : D) : okO .inn c e = true := rfl
theorem oo_ni (c : Nat) (e : D) : okO .notin c e = true := rfl
theorem oo_ix (c : Nat) (e : D) : okO .ix c e = true := rfl
theorem oo_ad (c : Nat) (e : D) : okO .add c e = isObj c e := rfl
theorem pb_non : plainB .non = true := rfl
theorem pb_int (i : Int) : plainB (.int i) = true := rfl
theorem pb_bl (i : Bool) : plainB (.bl i) = true := rfl
theorem pb_str (i : Str) : plainB (.str i) = true := rfl
theorem pb_lst (i : List D) : plainB (.lst i) = true := rfl
theorem pb_tup (i : List D) : plainB (.tup i) = true := rfl
theorem ic_non (cs : List Nat) (c : Nat) : iscD cs c .non = some false := rfl
theorem ic_int (cs : List Nat) (c : Nat) (i : Int) : iscD cs c (.int i) = some false := rfl
theorem ic_bl (cs : List Nat) (c : Nat) (i : Bool) : iscD cs c (.bl i) = some false := rfl
theorem ic_str (cs : List Nat) (c : Nat) (i : Str) : iscD cs c (.str i) = some false := rfl
theorem ic_lst (cs : List Nat) (c : Nat) (i : List D) : iscD cs c (.lst i) = some false := rfl
theorem ic_tup (cs : List Nat) (c : Nat) (i : List D) : iscD cs c (.tup i) = some false := rfl
theorem io_non (c : Nat) : isObj c .non = false := rfl
theorem io_int (c : Nat) (i : Int) : isObj c (.int i) = false := rfl
theorem io_bl (c : Nat) (i : Bool) : isObj c (.bl i) = false := rfl
theorem io_str (c : Nat) (i : Str) : isObj c (.str i) = false := rfl
theorem io_lst (c : Nat) (i : List D) : isObj c (.lst i) = false := rfl
theorem io_tup (c : Nat) (i : List D) : isObj c (.tup i) = false := rfl
def clOf (cs : List Addr) : Nat → Addr := fun c => cs.getD c 0
/-- the law's promise, the classes left open -/
def spN (K : PySem.W.Frag) (F : FS) : Sp := fun vs H Q E => vs.length = 1 ∧ ∀ cl, spF ⟨K, cl, [], none, []⟩ 1 F vs H Q E
theorem spN_of {P : Program} {w : World} {K : PySem.W.Frag} {mg : Str → Option Value} {base : Heap} {k : Nat} {f : Addr} {fd : FuncData} {ps : List Str} {F : FS} {cl : Nat → Addr} (h : FnOk P w K mg base CX0 k f fd ps (spF ⟨K, cl, [], none, []⟩ 1 F)) : FnOk P w K mg base CX0 k f fd ps (spN K F) :=
  ⟨fun vs H Q E q => h.len vs H Q E (q.2 cl), fun A outer s H args us vs Q E hr he hb hv hs => h.run A outer s H args us vs Q E hr he hb hv (hs.2 cl)⟩
theorem sp_lawN {K : PySem.W.Frag} {F : FS} {ns : List Int} {a : Addr} {H : Hp} {os : Ct} (hF : F [some (.scr ns, false)] = some (.fz (.bl true), os)) (hS : SqL K H a (ns.map V.int)) : spN K F [.ref a] H (fun v _ => v = .bl true) fun _ _ _ => False := ⟨rfl, fun cl => sp_law hF hS nofun⟩
section
variable {X : Cx} {g : Gx} {fs : List FS} {a b : Expr} {ia ib : E} {pos : Pos} {c k i : Nat} {F : FS}
theorem own_isb {o : OOp} {op : COp} {p : Bool → Bool} {Γ Γ' : Ct} {r : RV} (hpo : ∀ r5 r, postO o r5 = some r → ∃ t, r5 = .fz (.bl t) ∧ r = .fz (.bl (p t))) (hpl : ∀ d e, plainO o d e = (cmpD op d e).map fun b => .fz (.bl b)) (he : ev fs (.own o c i ia ib) Γ = some (r, Γ')) : ∃ b, r = .fz (.bl b) := by
  simp only [ev] at he
  obtain ⟨⟨x, Γ1⟩, e1, he⟩ := Option.bind_eq_some_iff.mp he
  obtain ⟨⟨y, Γ2⟩, e2, he⟩ := Option.bind_eq_some_iff.mp he
  obtain ⟨d, ed, he⟩ := Option.bind_eq_some_iff.mp he
  obtain ⟨e, ee, he⟩ := Option.bind_eq_some_iff.mp he
  simp only at ed ee he
  split at he
  · obtain ⟨⟨d', Γ3⟩, f1, he⟩ := Option.bind_eq_some_iff.mp he
    obtain ⟨⟨e', Γ4⟩, f2, he⟩ := Option.bind_eq_some_iff.mp he
    simp only [Option.ite_none_right_eq_some, Bool.and_eq_true] at he
    obtain ⟨⟨ho1, ho2⟩, he⟩ := he
    obtain ⟨F', hF', he⟩ := Option.bind_eq_some_iff.mp he
    obtain ⟨⟨r5, Γ5⟩, e5, he⟩ := Option.bind_eq_some_iff.mp he
    obtain ⟨r', e6, he⟩ := Option.map_eq_some_iff.mp he
    simp only [Prod.mk.injEq] at he
    obtain ⟨rfl, rfl⟩ := he
    obtain ⟨t, rfl, rfl⟩ := hpo _ _ e6
    exact ⟨_, rfl⟩
  · obtain ⟨r', e6, he⟩ := Option.map_eq_some_iff.mp he
    simp only [Prod.mk.injEq] at he
    obtain ⟨rfl, rfl⟩ := he
    rw [hpl] at e6
    obtain ⟨t, e7, rfl⟩ := Option.map_eq_some_iff.mp e6
    exact ⟨_, rfl⟩
theorem test_of {Bn : Addr → Prop} {Ow : List Addr} {H : Hp} {σ : St} {Γ' : Ct} {r : RV} {t : Bool} {Q : Bool → Hp → Prop} (hr : ∃ b, r = .fz (.bl b)) (ht : testD Γ' r = some t) (hQ : ∀ H' Ow', Stp Ow H Ow' H' → RS g Bn Ow' H' σ Γ' → Q t H') :
    ∀ v H' Ow', Stp Ow H Ow' H' → RS g Bn Ow' H' σ Γ' → Val g Bn Ow' H' σ Γ' r v → ∃ k, v = .bl k ∧ Q k H' := by
  obtain ⟨b, rfl⟩ := hr
  simp only [testD, datum, Option.bind_some, truthD, Option.some.injEq] at ht
  subst ht
  intro v H' O' s1 r1 v1
  simp only [Val, Rep] at v1
  exact ⟨b, v1, hQ H' O' s1 r1⟩
theorem t_ownNe (cx : ClsX g c) (M : Mtd X.prog X.w X.mg X.base g k c "__eq__" 2 F) (hne : PySem.W.findIn g.K (.ref (g.cl c)) "__ne__" = some (some (.builtin "object.__ne__"))) (C : Cok0 g X) (hF : fs[i]? = some F) (hr : Room (k + 1) X.A) (ha : PE X a (tR g fs ia)) (hb : PE X b (tR g fs ib)) (hm : behindInMarks .NotEq b = false) : PT X (.Compare a [.NotEq] [b] pos) (tT g fs (.own .ne c i ia ib)) := by
  obtain ⟨f, fd, ps, h1, h2, h3, h4⟩ := M.ex
  have hi := cx.hm
  rw [← C.K] at h1 h2 h3 h4 hne hi
  refine PT.weak (pt_cmpR ((op_cmp C.K C.hu .ne).or (op_ownNe h4 hr h3 h2 hne hi)) ha hb hm) ?_
  rintro σ H Q ⟨Bn, Ow, Γ, r, Γ', t, rs, he, ht, hQ⟩
  rw [C.K]
  exact own2_core (fun _ _ => rfl) (fun _ => rfl) cx post_ne (fun _ _ => rfl) hF rs he (test_of (own_isb post_ne (op := .ne) (fun _ _ => rfl) he) ht hQ)
end
end DV

namespace DV
open PySem L2
/-! ### single steps of the evaluation -/
section
variable {fs : List FS} {a b c : E} {es : List E} {Γ Γ1 Γ2 Γ3 Γ4 Γ5 : Ct} {x y r r' : RV} {xs : List RV} {d e d' e' : D} {F : FS} {k i : Nat} {t : Bool}
theorem evs_1 (h : ev fs a Γ = some (x, Γ1)) : evs fs [a] Γ = some ([x], Γ1) := by
  simp only [DV.evs.eq_2, DV.evs.eq_1, h, Option.bind_some, Option.map_some]
theorem ev_or_f (h1 : ev fs a Γ = some (x, Γ1)) (h2 : testD Γ1 x = some false) (h3 : ev fs b Γ1 = some (y, Γ2)) : ev fs (.or a b) Γ = some (y, Γ2) := by
  rw [DV.ev.eq_9]
  simp only [h1, Option.bind_some, h2, Bool.false_eq_true, if_false, h3]
theorem ev_not (h1 : ev fs a Γ = some (x, Γ1)) (h2 : testD Γ1 x = some t) : ev fs (.not a) Γ = some (.fz (.bl (!t)), Γ1) := by
  rw [DV.ev.eq_10]
  simp only [h1, Option.bind_some, h2, Option.map_some]
theorem ev_cmp {o : COp} (h1 : ev fs a Γ = some (x, Γ1)) (h2 : ev fs b Γ1 = some (y, Γ2)) (h3 : datum Γ2 x = some d) (h4 : datum Γ2 y = some e) (h5 : cmpD o d e = some t) : ev fs (.cmp o a b) Γ = some (.fz (.bl t), Γ2) := by
  rw [DV.ev.eq_6]
  simp only [h1, h2, Option.bind_some, h3, h4, h5, Option.map_some]
theorem ev_bin {o : BOp} (h1 : ev fs a Γ = some (x, Γ1)) (h2 : ev fs b Γ1 = some (y, Γ2)) (h3 : datum Γ2 x = some d) (h4 : datum Γ2 y = some e) (h5 : binD o d e = some r) : ev fs (.bin o a b) Γ = some (r, Γ2) := by
  rw [DV.ev.eq_4]
  simp only [h1, h2, Option.bind_some, h3, h4, h5, Option.map_some]
theorem test_b (Γ : Ct) (b : Bool) : testD Γ (.fz (.bl b)) = some b := by simp only [testD, datum, Option.bind_some, truthD]
end
end DV

namespace DV
theorem nrf_s : (∀ d, nrf (.nw d) = true) ∧ (∀ i, nrf (.fz (.int i)) = true) ∧ (∀ i, nrf (.fz (.str i)) = true) ∧ (∀ i, nrf (.fz (.bl i)) = true) ∧ (∀ i, nrf (.fz (.lst i)) = true) ∧ (∀ i, nrf (.fz (.tup i)) = true) ∧ (∀ a b c, nrf (.fz (.obj a b c)) = true) ∧ nrf (.fz .non) = true ∧ (∀ a b, nrf (.fz (.dic a b)) = true) ∧ nrf (.fz .dct) = true ∧ (∀ a b c, nrf (.fz (.err a b c)) = true) ∧ (∀ i, nrf (.fz (.scr i)) = true) ∧ (∀ i, nrf (.sl i) = true) := ⟨fun _ => rfl, fun _ => rfl, fun _ => rfl, fun _ => rfl, fun _ => rfl, fun _ => rfl, fun _ _ _ => rfl, rfl, fun _ _ => rfl, rfl, fun _ _ _ => rfl, fun _ => rfl, fun _ => rfl⟩
/-- the evaluation equations, as one fact -/
def SC := And.intro nrf_s (And.intro (And.intro (And.intro (And.intro (And.intro (And.intro (And.intro (@DV.runF.eq_1) (And.intro (@DV.exs.eq_1) (@DV.exs.eq_2))) (And.intro (And.intro (@DV.ex.eq_1) (@DV.ex.eq_2)) (And.intro (@DV.ex.eq_3) (@DV.ex.eq_4)))) (And.intro (And.intro (And.intro (@DV.ex.eq_5) (@DV.ex.eq_6)) (And.intro (@DV.ex.eq_7) (@DV.ex.eq_8))) (And.intro (And.intro (@DV.ex.eq_9) (@DV.ex.eq_10)) (And.intro (@DV.ex.eq_11) (@DV.ex.eq_12))))) (And.intro (And.intro (And.intro (@DV.ex.eq_13) (And.intro (@DV.ex.eq_14) (@DV.ex.eq_15))) (And.intro (And.intro (@DV.ex.eq_16) (@DV.ev.eq_1)) (And.intro (@DV.ev.eq_2) (@DV.ev.eq_3)))) (And.intro (And.intro (And.intro (@DV.ev.eq_4) (@DV.ev.eq_5)) (And.intro (@DV.ev.eq_6) (@DV.ev.eq_7))) (And.intro (And.intro (@DV.ev.eq_8) (@DV.ev.eq_9)) (And.intro (@DV.ev.eq_10) (@DV.ev.eq_11)))))) (And.intro (And.intro (And.intro (And.intro (@DV.ev.eq_12) (And.intro (@DV.ev.eq_13) (@DV.ev.eq_14))) (And.intro (And.intro (@DV.ev.eq_15) (@DV.ev.eq_16)) (And.intro (@DV.ev.eq_17) (@DV.ev.eq_18)))) (And.intro (And.intro (And.intro (@DV.evs.eq_1) (@DV.evs.eq_2)) (And.intro (@DV.evc.eq_1) (@DV.evc.eq_2))) (And.intro (And.intro (@DV.evn.eq_1) (@DV.evn.eq_2)) (And.intro (@DV.parS.eq_1) (@DV.parS.eq_2))))) (And.intro (And.intro (And.intro (And.intro (@DV.parS.eq_3) (@DV.datums.eq_1)) (And.intro (@DV.datums.eq_2) (@DV.datum.eq_1))) (And.intro (And.intro (@DV.datum.eq_2) (@DV.datum.eq_3)) (And.intro (@DV.fre.eq_1) (@DV.fre.eq_2)))) (And.intro (And.intro (And.intro (@DV.fre.eq_3) (@DV.fres.eq_1)) (And.intro (@DV.fres.eq_2) (@DV.argSs.eq_1))) (And.intro (And.intro (@DV.argSs.eq_2) (@DV.argS.eq_1)) (And.intro (@DV.argS.eq_2) (@DV.argS.eq_3))))))) (And.intro (And.intro (And.intro (And.intro (And.intro (@DV.nodupB.eq_1) (And.intro (@DV.nodupB.eq_2) (@DV.ownIx.eq_1))) (And.intro (And.intro (@DV.ownIx.eq_2) (@DV.ownIx.eq_3)) (And.intro (@DV.putOuts.eq_1) (@DV.putOuts.eq_2)))) (And.intro (And.intro (And.intro (@DV.putOuts.eq_3) (@DV.biD.eq_1)) (And.intro (@DV.biD.eq_2) (@DV.biD.eq_3))) (And.intro (And.intro (@DV.biD.eq_4) (@DV.biD.eq_5)) (And.intro (@DV.biD.eq_6) (@DV.biD.eq_7))))) (And.intro (And.intro (And.intro (And.intro (@DV.biD.eq_8) (@DV.biD.eq_9)) (And.intro (@DV.biD.eq_10) (@DV.biD.eq_11))) (And.intro (And.intro (@DV.biD.eq_12) (@DV.biD.eq_13)) (And.intro (@DV.biD.eq_14) (@DV.biD.eq_15)))) (And.intro (And.intro (And.intro (@DV.biD.eq_16) (@DV.biD.eq_17)) (And.intro (@DV.biD.eq_18) (@DV.biD.eq_19))) (And.intro (And.intro (@DV.isiD.eq_1) (@DV.isiD.eq_2)) (And.intro (@DV.isiD.eq_3) (@DV.isiD.eq_4)))))) (And.intro (And.intro (And.intro (And.intro (@DV.isiD.eq_5) (And.intro (@DV.isiD.eq_6) (@DV.isiD.eq_7))) (And.intro (And.intro (@DV.shallow.eq_1) (@DV.shallow.eq_4)) (And.intro (@DV.shallow.eq_6) (@DV.testD.eq_1)))) (And.intro (And.intro (And.intro (@DV.truthD.eq_1) (@DV.truthD.eq_2)) (And.intro (@DV.truthD.eq_3) (@DV.truthD.eq_4))) (And.intro (And.intro (@DV.truthD.eq_5) (@DV.truthD.eq_6)) (And.intro (@DV.truthD.eq_7) (@DV.truthD.eq_8))))) (And.intro (And.intro (And.intro (And.intro (@DV.finish.eq_1) (@DV.finish.eq_2)) (And.intro (@DV.finish.eq_3) (@DV.finish.eq_4))) (And.intro (And.intro (@DV.finish.eq_5) (@DV.outsOf.eq_1)) (And.intro (@DV.outsOf.eq_2) (@DV.outsOf.eq_3)))) (And.intro (And.intro (And.intro (@DV.ownPs.eq_1) (@DV.ownPs.eq_2)) (And.intro (@DV.ownPs.eq_3) (@DV.disjB.eq_1))) (And.intro (And.intro (@DV.isLst.eq_1) (@DV.appD.eq_1)) (And.intro (@DV.extD.eq_1) (@DV.setD.eq_1)))))))) (And.intro (And.intro (And.intro (And.intro (And.intro (And.intro (@DV.asgT.eq_1) (And.intro (@DV.asgT.eq_2) (@DV.asgT.asgTs.eq_1))) (And.intro (And.intro (@DV.asgT.asgTs.eq_2) (@DV.tgIx.eq_1)) (And.intro (@DV.tgIx.eq_2) (@DV.tgIx.tgIxs.eq_1)))) (And.intro (And.intro (And.intro (@DV.tgIx.tgIxs.eq_2) (@DV.iterD.eq_1)) (And.intro (@DV.iterD.eq_2) (@DV.iterD.eq_3))) (And.intro (And.intro (@DV.it_rng) (@DV.binD.eq_1)) (And.intro (@DV.binD.eq_2) (@DV.binD.eq_3))))) (And.intro (And.intro (And.intro (And.intro (@DV.binD.eq_4) (@DV.binD.eq_5)) (And.intro (@DV.binD.eq_6) (@DV.binD.eq_7))) (And.intro (And.intro (@DV.binD.eq_8) (@DV.binD.eq_9)) (And.intro (@DV.binD.eq_10) (@DV.cmpD.eq_3)))) (And.intro (And.intro (And.intro (@DV.cmpD.eq_4) (@DV.cmpD.eq_5)) (And.intro (@DV.cmpD.eq_6) (@DV.cmpD.eq_7))) (And.intro (And.intro (@DV.cmpD.eq_8) (@DV.cmpD.eq_9)) (And.intro (@DV.cmpD.eq_10) (@DV.cmpD.eq_11)))))) (And.intro (And.intro (And.intro (And.intro (@DV.cmpD.eq_12) (And.intro (@DV.isNonD.eq_1) (@DV.isNonD.eq_2))) (And.intro (And.intro (@DV.ixD.eq_1) (@DV.ixD.eq_2)) (And.intro (@DV.ixD.eq_3) (@DV.ixD.eq_4)))) (And.intro (And.intro (And.intro (@DV.slcD.eq_1) (@DV.slcD.eq_2)) (And.intro (@DV.slcD.eq_3) (@DV.slO.eq_1))) (And.intro (And.intro (@DV.slO.eq_2) (@DV.plainIx.eq_1)) (And.intro (@DV.wipeG.eq_1) (@DV.wipeG.eq_2))))) (And.intro (And.intro (And.intro (And.intro (@DV.restG.eq_1) (@DV.restG.eq_2)) (And.intro (@DV.flatD.eq_1) (@DV.flatD.eq_2))) (And.intro (And.intro (@DV.flatD.eq_3) (@DV.flatD.eq_4)) (And.intro (@DV.flatD.eq_5) (@DV.ex.eq_17)))) (And.intro (And.intro (And.intro (@DV.ev.eq_19) (@DV.ev.eq_20)) (And.intro (@DV.ev.eq_21) (@DV.ev.eq_22))) (And.intro (And.intro (@DV.ev.eq_23) (@DV.ev.eq_24)) (And.intro (@DV.ev.eq_25) (@DV.ev.eq_26))))))) (And.intro (And.intro (And.intro (And.intro (And.intro (@DV.callD.eq_1) (And.intro (@DV.mkD.eq_1) (@DV.fldL.eq_1))) (And.intro (And.intro (@DV.fldL.eq_2) (@DV.fldD.eq_1)) (And.intro (@DV.fldD.eq_2) (@DV.isObj.eq_1)))) (And.intro (And.intro (And.intro (@DV.hasF.eq_1) (@DV.hasF.eq_2)) (And.intro (@DV.postO.eq_1) (@DV.postO.eq_2))) (And.intro (And.intro (@DV.postO.eq_3) (@DV.postO.eq_4)) (And.intro (@DV.postO.eq_5) (@DV.postO.eq_6))))) (And.intro (And.intro (And.intro (And.intro (@DV.plainO.eq_1) (@DV.plainO.eq_2)) (And.intro (@DV.plainO.eq_3) (@DV.plainO.eq_4))) (And.intro (And.intro (@DV.plainO.eq_5) (@DV.plainO.eq_6)) (And.intro (@DV.so_eq) (@DV.so_ne)))) (And.intro (And.intro (And.intro (@DV.so_in) (@DV.so_ni)) (And.intro (@DV.so_ix) (@DV.so_ad))) (And.intro (And.intro (@DV.oo_eq) (@DV.oo_ne)) (And.intro (@DV.oo_in) (@DV.oo_ni)))))) (And.intro (And.intro (And.intro (And.intro (@DV.oo_ix) (And.intro (@DV.oo_ad) (@DV.pb_non))) (And.intro (And.intro (@DV.pb_int) (@DV.pb_bl)) (And.intro (@DV.pb_str) (@DV.pb_lst)))) (And.intro (And.intro (And.intro (@DV.pb_tup) (@DV.ic_non)) (And.intro (@DV.ic_int) (@DV.ic_bl))) (And.intro (And.intro (@DV.ic_str) (@DV.ic_lst)) (And.intro (@DV.ic_tup) (@DV.io_non))))) (And.intro (And.intro (And.intro (And.intro (@DV.io_int) (@DV.io_bl)) (And.intro (@DV.io_str) (@DV.io_lst))) (And.intro (And.intro (@DV.io_tup) (@DV.putL.eq_1)) (And.intro (@DV.putL.eq_2) (@DV.putD.eq_1)))) (And.intro (And.intro (And.intro (@DV.putD.eq_2) (@DV.iscD.eq_1)) (And.intro (@DV.iscD.eq_2) (@DV.plainB.eq_1))) (And.intro (And.intro (@DV.plainB.eq_2) (@DV.permL.eq_1)) (And.intro (@DV.permOk.eq_1) (@DV.dfl.eq_1)))))))))
/-- those of == -/
def SE := And.intro (And.intro (And.intro (And.intro (@DV.cmpD.eq_1) (@DV.cmpD.eq_2)) (And.intro (@DV.okB.eq_1) (@DV.okB.eq_2))) (And.intro (And.intro (@DV.okB.eq_3) (@DV.okB.eq_4)) (And.intro (@DV.okB.eq_5) (And.intro (@DV.okB.eq_6) (@DV.eqd.eq_1))))) (And.intro (And.intro (And.intro (@DV.eqd.eq_2) (@DV.eqd.eq_3)) (And.intro (@DV.eqd.eq_4) (And.intro (@DV.eqd.eq_5) (@DV.eqd.eq_6)))) (And.intro (And.intro (@DV.eqd.eq_7) (@DV.eqd.eq_8)) (And.intro (@DV.eqds.eq_1) (And.intro (@DV.eqds.eq_2) (@DV.eqds.eq_3)))))
end DV

namespace DV
open PySem L2
/-! ### what is pinned matters only where it is stored -/
mutual
def asgOf : S → List Nat
  | .asg tg _ => tgIx tg
  | .asgO i _ => [i]
  | .par is _ => is.map (·.1)
  | .ite _ a b => asgOfs a ++ asgOfs b
  | .whl _ b => asgOfs b
  | .for_ tg _ _ b => tgIx tg ++ asgOfs b
  | .grow _ _ _ _ tg _ _ _ _ => tgIx tg
  | .xex _ (.asg tg) => tgIx tg
  | .xex _ (.asgO i) => [i]
  | .try_ _ _ i b => [i] ++ asgOfs b
  | .sem is _ => is
  | _ => []
def asgOfs : List S → List Nat
  | [] => []
  | s :: ss => asgOf s ++ asgOfs ss
end
theorem disjB_app {a b c : List Nat} (h : disjB (a ++ b) c = true) : disjB a c = true ∧ disjB b c = true := by
  simp only [disjB, List.all_append, Bool.and_eq_true] at h
  exact h
theorem forLoop_imp {tg : Tg} {f g : Ct → Option Out} (h : ∀ Γ o, f Γ = some o → g Γ = some o) : ∀ (ds : List D) (Γ : Ct) (o : Out), forLoop tg f ds Γ = some o → forLoop tg g ds Γ = some o
  | [], Γ, o, e => e
  | d :: ds, Γ, o, e => by
    simp only [forLoop] at e ⊢
    obtain ⟨Γ1, e1, e⟩ := Option.bind_eq_some_iff.mp e
    obtain ⟨o1, e2, e⟩ := Option.bind_eq_some_iff.mp e
    rw [e1]
    simp only [Option.bind_some]
    rw [h Γ1 o1 e2]
    simp only [Option.bind_some]
    cases o1 with
    | nx Γ2 => exact forLoop_imp h ds Γ2 o e
    | ct Γ2 => exact forLoop_imp h ds Γ2 o e
    | bk Γ2 => exact e
    | rt r Γ2 => exact e
    | xc c ks ds Γ2 => exact e
theorem whlLoop_imp {c : Ct → Option (Bool × Ct)} {f g : Ct → Option Out} (h : ∀ Γ o, f Γ = some o → g Γ = some o) : ∀ (n : Nat) (Γ : Ct) (o : Out), whlLoop c f n Γ = some o → whlLoop c g n Γ = some o
  | 0, Γ, o, e => e
  | n + 1, Γ, o, e => by
    simp only [whlLoop] at e ⊢
    obtain ⟨⟨b, Γ1⟩, e1, e⟩ := Option.bind_eq_some_iff.mp e
    rw [e1]
    simp only [Option.bind_some] at e ⊢
    cases b with
    | false => exact e
    | true =>
      simp only [if_true] at e ⊢
      obtain ⟨o1, e2, e⟩ := Option.bind_eq_some_iff.mp e
      rw [h Γ1 o1 e2]
      simp only [Option.bind_some]
      cases o1 with
      | nx Γ2 => exact whlLoop_imp h n Γ2 o e
      | ct Γ2 => exact whlLoop_imp h n Γ2 o e
      | bk Γ2 => exact e
      | rt r Γ2 => exact e
      | xc c ks ds Γ2 => exact e
mutual
theorem ex_pn {fs : List FS} {pn pn' : List Nat} : ∀ (s : S), disjB (asgOf s) pn' = true → ∀ (Γ : Ct) (o : Out), ex fs pn s Γ = some o → ex fs pn' s Γ = some o
  | .stuck, _, Γ, o, e => by simp only [ex, reduceCtorEq] at e
  | .pass, _, Γ, o, e => e
  | .brk, _, Γ, o, e => e
  | .cont, _, Γ, o, e => e
  | .retN, _, Γ, o, e => e
  | .asg tg a, h, Γ, o, e => by
    simp only [asgOf] at h
    simp only [ex] at e ⊢
    obtain ⟨⟨x, Γ1⟩, e1, e⟩ := Option.bind_eq_some_iff.mp e
    obtain ⟨⟨d, Γ2⟩, e2, e⟩ := Option.bind_eq_some_iff.mp e
    simp only [Option.ite_none_right_eq_some] at e
    simp only [e1, Option.bind_some, e2, h, if_true]
    exact e.2
  | .asgO i a, h, Γ, o, e => by
    simp only [asgOf] at h
    simp only [ex] at e ⊢
    obtain ⟨⟨x, Γ1⟩, e1, e⟩ := Option.bind_eq_some_iff.mp e
    simp only [e1, Option.bind_some]
    simp only at e
    cases x with
    | nw d =>
      simp only [Option.ite_none_right_eq_some] at e ⊢
      exact ⟨⟨e.1.1, h⟩, e.2⟩
    | fz d =>
      simp only at e ⊢
      obtain ⟨⟨d, Γ2⟩, e2, e⟩ := Option.bind_eq_some_iff.mp e
      simp only [e2, Option.bind_some, Option.ite_none_right_eq_some] at e ⊢
      exact ⟨⟨e.1.1, h⟩, e.2⟩
    | sl j =>
      simp only at e ⊢
      obtain ⟨⟨d, Γ2⟩, e2, e⟩ := Option.bind_eq_some_iff.mp e
      simp only [e2, Option.bind_some, Option.ite_none_right_eq_some] at e ⊢
      exact ⟨⟨e.1.1, h⟩, e.2⟩
  | .par is es, h, Γ, o, e => by
    simp only [asgOf] at h
    simp only [ex, Option.ite_none_right_eq_some] at e ⊢
    exact ⟨h, e.2⟩
  | .expr a, _, Γ, o, e => e
  | .app i a, _, Γ, o, e => e
  | .ext i a, _, Γ, o, e => e
  | .seti i k a, _, Γ, o, e => e
  | .ret a, _, Γ, o, e => e
  | .ite c a b, h, Γ, o, e => by
    simp only [asgOf] at h
    obtain ⟨h1, h2⟩ := disjB_app h
    simp only [ex] at e ⊢
    obtain ⟨⟨x, Γ1⟩, e1, e⟩ := Option.bind_eq_some_iff.mp e
    obtain ⟨t, e2, e⟩ := Option.bind_eq_some_iff.mp e
    simp only [e1, Option.bind_some, e2]
    simp only at e
    cases t with
    | true => exact exs_pn a h1 _ _ e
    | false => exact exs_pn b h2 _ _ e
  | .whl c b, h, Γ, o, e => by
    simp only [asgOf] at h
    simp only [ex] at e ⊢
    exact whlLoop_imp (fun Γ o => exs_pn b h Γ o) _ _ _ e
  | .for_ tg ik its b, h, Γ, o, e => by
    simp only [asgOf] at h
    obtain ⟨h1, h2⟩ := disjB_app h
    simp only [ex] at e ⊢
    obtain ⟨⟨xs, Γ1⟩, e1, e⟩ := Option.bind_eq_some_iff.mp e
    obtain ⟨⟨ds, Γ2⟩, e2, e⟩ := Option.bind_eq_some_iff.mp e
    simp only [Option.ite_none_right_eq_some] at e
    simp only [e1, Option.bind_some, e2, h1, if_true]
    exact forLoop_imp (fun Γ o => exs_pn b h2 Γ o) _ _ _ e.2
  | .setf c i nm a, _, Γ, o, e => e
  | .xapp a d, _, Γ, o, e => e
  | .grow c i nm e0 tg e1 e2 k a, h, Γ, o, e => by
    simp only [asgOf] at h
    simp only [ex] at e ⊢
    obtain ⟨⟨x, Γ1⟩, q1, e⟩ := Option.bind_eq_some_iff.mp e
    rw [q1]
    simp only [Option.bind_some] at e ⊢
    split at e
    · rename_i L0 c1 ks ds z
      simp only [Option.ite_none_right_eq_some] at e ⊢
      refine ⟨⟨e.1.1, e.1.2.1, e.1.2.2.1, e.1.2.2.2.1, ?_⟩, e.2⟩
      have h2 := e.1.2.2.2.2
      simp only [disjB, List.all_eq_true] at h h2 ⊢
      intro y hy
      have q2 := h y hy
      have q3 := h2 y hy
      simp only [List.contains_cons, Bool.not_or, Bool.and_eq_true] at q3 ⊢
      exact ⟨q3.1, q2⟩
    · cases e
  | .rse c ks es, _, Γ, o, e => e
  | .xex a .drop, _, Γ, o, e => e
  | .xex a .ret, _, Γ, o, e => e
  | .xex a (.asg tg), h, Γ, o, e => by
    simp only [asgOf] at h
    simp only [ex] at e ⊢
    obtain ⟨⟨x, Γ1⟩, e1, e⟩ := Option.bind_eq_some_iff.mp e
    rw [e1]
    simp only [Option.bind_some] at e ⊢
    split at e
    · exact e
    · obtain ⟨⟨d, Γ2⟩, e2, e⟩ := Option.bind_eq_some_iff.mp e
      simp only [Option.ite_none_right_eq_some] at e
      simp only [e2, Option.bind_some, h, if_true]
      exact e.2
  | .xex a (.asgO i), h, Γ, o, e => by
    simp only [asgOf] at h
    simp only [ex] at e ⊢
    obtain ⟨⟨x, Γ1⟩, e1, e⟩ := Option.bind_eq_some_iff.mp e
    rw [e1]
    simp only [Option.bind_some] at e ⊢
    split at e
    · exact e
    · split at e
      · simp only [Option.ite_none_right_eq_some] at e ⊢
        exact ⟨⟨e.1.1, h⟩, e.2⟩
      · obtain ⟨⟨d, Γ2⟩, e2, e⟩ := Option.bind_eq_some_iff.mp e
        simp only [e2, Option.bind_some, Option.ite_none_right_eq_some] at e ⊢
        exact ⟨⟨e.1.1, h⟩, e.2⟩
  | .try_ a all i b, h, Γ, o, e => by
    simp only [asgOf] at h
    obtain ⟨h1, h2⟩ := disjB_app h
    simp only [ex] at e ⊢
    obtain ⟨⟨x, Γ1⟩, e1, e⟩ := Option.bind_eq_some_iff.mp e
    rw [e1]
    simp only [Option.bind_some] at e ⊢
    split at e
    · simp only [Option.ite_none_right_eq_some] at e ⊢
      obtain ⟨⟨h3, _, h4⟩, e⟩ := e
      obtain ⟨o1, e2, e⟩ := Option.bind_eq_some_iff.mp e
      exact ⟨⟨h3, h1, h4⟩, by rw [exs_pn b h2 _ _ e2]; exact e⟩
    · exact e
  | .sem is F, h, Γ, o, e => by
    simp only [asgOf] at h
    simp only [ex, Option.ite_none_right_eq_some] at e ⊢
    exact ⟨h, e.2⟩
theorem exs_pn {fs : List FS} {pn pn' : List Nat} : ∀ (ss : List S), disjB (asgOfs ss) pn' = true → ∀ (Γ : Ct) (o : Out), exs fs pn ss Γ = some o → exs fs pn' ss Γ = some o
  | [], _, Γ, o, e => e
  | s :: ss, h, Γ, o, e => by
    simp only [asgOfs] at h
    obtain ⟨h1, h2⟩ := disjB_app h
    simp only [exs] at e ⊢
    obtain ⟨o1, e1, e⟩ := Option.bind_eq_some_iff.mp e
    rw [ex_pn s h1 Γ o1 e1]
    simp only [Option.bind_some]
    cases o1 with
    | nx Γ1 => exact exs_pn ss h2 Γ1 o e
    | ct Γ2 => exact e
    | bk Γ2 => exact e
    | rt r Γ2 => exact e
    | xc c ks ds Γ2 => exact e
end
/-- a def, whatever of its arguments is owned -/
theorem runF_pn {fs : List FS} {np n : Nat} {body : List S} {G0 : Ct} {o : Out} {r : RV × Ct} {pn : List Nat} (hl : G0.length = np) (hd : disjB (asgOfs body) (ownPs 0 G0) = true) (e : exs fs pn body (G0 ++ List.replicate (n - np) none) = some o) (f : DV.finish np G0 o = some r) : runF fs np n body G0 = some r :=
  runF_by hl (exs_pn body hd _ _ e) f
end DV

namespace DV
open PySem L2 PySem.Spec
/-! ### a op b op c op d -/
section
open PyProof.Rows
variable {X : Cx} {a b c d : Expr} {ta tb tc td : TE} {pos : Pos}
def tChain3 (r r' r'' : R2) (ta tb tc td : TE) : TE := fun σ H Q => ta σ H fun x H1 => tb σ H1 fun y H2 => r x y H2 fun z H3 => ∃ k, z = .bl k ∧
  (if k = true then tc σ H3 fun w' H4 => r' y w' H4 fun z' H5 => ∃ k', z' = .bl k' ∧ (if k' = true then td σ H5 fun u H6 => r'' w' u H6 Q else Q (.bl false) H5) else Q (.bl false) H3)
theorem pe_chain3 {op op' op'' : CmpOp} {r r' r'' : R2} (ho : OpR X (compareOp op) r) (ho' : OpR X (compareOp op') r') (ho'' : OpR X (compareOp op'') r'') (ha : PE X a ta) (hb : PE X b tb) (hc : PE X c tc) (hd : PE X d td)
    (hm : lastMarks [op, op', op''] [b, c, d] = false) : PE X (.Compare a [op, op', op''] [b, c, d] pos) (tChain3 r r' r'' ta tb tc td) := by
  refine ⟨fun pins s σ H Q I h => ?_⟩
  refine Compare_chain (thn (ha.run pins s σ H _ I h) fun v s1 ⟨x, H1, I1, r1, q1⟩ => chain_link (thn (hb.run pins s1 σ H1 _ I1 q1) fun u s2 ⟨y, H2, I2, r2, q2⟩ =>
    thn (ho pins s2 σ H2 x y v u _ I2 r1 r2 q2) fun d s3 ⟨z, H3, I3, r3, k, e, q3⟩ => ?_)) hm
  subst e
  cases r3
  refine wpAny_truthy_bool ?_
  cases k with
  | false => exact ite_ff ⟨.bl false, H3, I3, rfl, q3⟩
  | true =>
    refine ite_tt (chain_link (thn (hc.run pins s3 σ H3 _ I3 q3) fun w' s4 ⟨z', H4, I4, r4, q4⟩ => thn (ho' pins s4 σ H4 y z' u w' _ I4 r2 r4 q4) fun d' s5 ⟨z2, H5, I5, r5, k2, e2, q5⟩ => ?_))
    subst e2
    cases r5
    refine wpAny_truthy_bool ?_
    cases k2 with
    | false => exact ite_ff ⟨.bl false, H5, I5, rfl, q5⟩
    | true => exact ite_tt (chain_last (thn (hd.run pins s5 σ H5 _ I5 q5) fun w3 s6 ⟨z3, H6, I6, r6, q6⟩ => ho'' pins s6 σ H6 z' z3 w' w3 Q I6 r4 r6 q6))
end
section
variable {X : Cx} {g : Gx} {fs : List FS} {a b c d : Expr} {ia ib ic id' : E} {pos : Pos} {Bn : Addr → Prop} {Ow : List Addr} {H : Hp} {σ : St} {Γ Γ' : Ct}
theorem chain3_core {o1 o2 o3 : COp} {Q : VK} (rs : RS g Bn Ow H σ Γ) {r : RV} (he : ev fs (.chain3 o1 o2 o3 ia ib ic id') Γ = some (r, Γ')) (hQ : ∀ v H' Ow' (k : Bool), Stp Ow H Ow' H' → RS g Bn Ow' H' σ Γ' → v = .bl k → r = .fz (.bl k) → Q v H') :
    tChain3 (rCmp g o1) (rCmp g o2) (rCmp g o3) (tR g fs ia) (tR g fs ib) (tR g fs ic) (tR g fs id') σ H Q := by
  simp only [ev] at he
  obtain ⟨⟨x, Γ1⟩, e1, he⟩ := Option.bind_eq_some_iff.mp he
  obtain ⟨⟨y, Γ2⟩, e2, he⟩ := Option.bind_eq_some_iff.mp he
  obtain ⟨d, ed, he⟩ := Option.bind_eq_some_iff.mp he
  obtain ⟨e, ee, he⟩ := Option.bind_eq_some_iff.mp he
  obtain ⟨k, hb, he⟩ := Option.bind_eq_some_iff.mp he
  rw [← datum_dn] at ed ee
  refine tR_two rs e1 e2 fun v w H2 O2 s2 r2 v2 w2 => ⟨Av Bn O2, d, e, k, v2.rdb r2 ed, w2.rdb r2 ee, hb, k, rfl, ?_⟩
  cases k with
  | false =>
    simp only [Bool.false_eq_true, if_false, Option.some.injEq, Prod.mk.injEq] at he ⊢
    obtain ⟨rfl, rfl⟩ := he
    exact hQ _ H2 O2 false s2 r2 rfl rfl
  | true =>
    simp only [if_true] at he ⊢
    obtain ⟨⟨z, Γ3⟩, e3, he⟩ := Option.bind_eq_some_iff.mp he
    obtain ⟨e', ee', he⟩ := Option.bind_eq_some_iff.mp he
    obtain ⟨f, ef, he⟩ := Option.bind_eq_some_iff.mp he
    obtain ⟨k', hb', he⟩ := Option.bind_eq_some_iff.mp he
    rw [← datum_dn] at ee' ef
    refine tR_one r2 e3 fun u H3 O3 s3 r3 u3 => ⟨Av Bn O3, e', f, k', (w2.step s3 r3).rdb r3 ee', u3.rdb r3 ef, hb', k', rfl, ?_⟩
    cases k' with
    | false =>
      simp only [Bool.false_eq_true, if_false, Option.some.injEq, Prod.mk.injEq] at he ⊢
      obtain ⟨rfl, rfl⟩ := he
      exact hQ _ H3 O3 false (s2.trans s3) r3 rfl rfl
    | true =>
      simp only [if_true] at he ⊢
      obtain ⟨⟨u4, Γ4⟩, e4, he⟩ := Option.bind_eq_some_iff.mp he
      obtain ⟨f', ef', he⟩ := Option.bind_eq_some_iff.mp he
      obtain ⟨h, eh, he⟩ := Option.bind_eq_some_iff.mp he
      obtain ⟨k4, hb4, he⟩ := Option.map_eq_some_iff.mp he
      simp only [Prod.mk.injEq] at he
      obtain ⟨rfl, rfl⟩ := he
      rw [← datum_dn] at ef' eh
      exact tR_one r3 e4 fun v5 H5 O5 s5 r5 v6 => ⟨Av Bn O5, f', h, k4, (u3.step s5 r5).rdb r5 ef', v6.rdb r5 eh, hb4, hQ _ H5 O5 k4 ((s2.trans s3).trans s5) r5 rfl rfl⟩
theorem p_chain3 {o1 o2 o3 : COp} (C : Cok0 g X) (ha : PE X a (tR g fs ia)) (hb : PE X b (tR g fs ib)) (hc : PE X c (tR g fs ic)) (hd : PE X d (tR g fs id')) (hm : lastMarks [cmpOf o1, cmpOf o2, cmpOf o3] [b, c, d] = false) :
    PE X (.Compare a [cmpOf o1, cmpOf o2, cmpOf o3] [b, c, d] pos) (tR g fs (.chain3 o1 o2 o3 ia ib ic id')) := by
  refine PE.weak (pe_chain3 (op_cmp C.K C.hu o1) (op_cmp C.K C.hu o2) (op_cmp C.K C.hu o3) ha hb hc hd hm) ?_
  rintro σ H Q ⟨Bn, Ow, Γ, r, Γ', rs, he, hQ⟩
  exact chain3_core rs he fun v H1 O1 k s1 r1 e1 e2 => hQ v H1 O1 s1 r1 (by subst e1 e2; simp only [Val, Rep])
/-! ### xs[::-1] -/
end
end DV

namespace DV
open PySem L2 PySem.Spec
/-! ### sorted pairs of ints -/
section
variable {X : Cx} {g : Gx}
open Classical in
variable {fs : List FS} {e : Expr} {es : List Expr} {ies : List E} {p pos : Pos}
/-! ### X.append(constant), X new -/
theorem RS.updO {Bn : Addr → Prop} {Ow : List Addr} {H : Hp} {σ : St} {Γ : Ct} {p : Addr} {o : HO} (rs : RS g Bn Ow H σ Γ) (hp : p ∈ Ow) (no : ∀ (i : Nat) e, Γ[i]? = some (some (e, true)) → σ[i]? ≠ some (some (.ref p))) (ho : LI (upd H p o) p) : RS g Bn Ow (upd H p o) σ Γ ∧ Stp Ow H Ow (upd H p o) := by
  have v := ban_vst (g := g) (H := H) (o := o) (A := Av Bn Ow) (p := p) (.inr hp)
  refine ⟨⟨rs.len, fun i d h => ?_, fun i d h => ?_, rs.dist, fun a h => ?_, rs.sep, rs.kf, rs.tabs.upd (rs.trl p (.inr hp))⟩, ⟨fun b x h _ n => ?_, fun _ h => .inl h⟩⟩
  · obtain ⟨w, e, q⟩ := rs.slot i d h; exact ⟨w, e, rep_mono v _ _ q⟩
  · obtain ⟨a, e, m, q⟩ := rs.own i d h
    have ne : a ≠ p := fun z => by subst z; exact no i d h e
    refine ⟨a, e, m, ?_⟩
    cases d with
    | lst ds => obtain ⟨ws, z1, z2⟩ := q; exact ⟨ws, by rw [upd_ne ne]; exact z1, reps_mono v _ _ z2⟩
    | obj c ks ds => obtain ⟨dx, ws, l, z1, z2⟩ := q; exact ⟨dx, ws, l, by rw [upd_ne ne]; exact z1, reps_mono v _ _ z2⟩
    | _ => exact q
  · exact (rs.trl a h).upd fun _ => ho
  · have z : b ≠ p := fun z => n (by rw [z]; exact hp)
    rw [upd_ne z]; exact h
theorem s_xapp {o e : Expr} {io : E} {d : D} {v : V} {apos cpos : Pos} (C : Cok0 g X) (ho : PE X o (tR g fs io)) (he : PE X e (tC v)) (hbase : attributeBase o "append" X.env (eval o X.env) = eval o X.env)
    (hline : (apos.endLine == cpos.line) = true) (hs : starEach [e] X.env = [(false, eval e X.env)]) (hsw : swapsWith (.Call (.Attribute o "append" apos) [e] [] cpos) none pos.line X.env = pure false) :
    PS X (.Expr (.Call (.Attribute o "append" apos) [e] [] cpos) pos) (tSt g Wx fs (.xapp io d)) := by
  refine PS.weak (ps_expr (pe_bm PySem.F.plainAttrs_list PySem.F.slot_list_append PySem.F.type_list_append mt_append ho (pa_cons he pa_nil (by rw [hs]; rfl)) hbase (by rw [hs]; rfl) hline (by rw [hs]; rfl) rfl) hsw) ?_
  rintro Dn σ H ⟨pv, Bn, Ow, Γ, o, rs, pn, he, po⟩
  simp only [ex] at he
  obtain ⟨⟨x, Γ1⟩, e1, he⟩ := Option.bind_eq_some_iff.mp he
  match x, he, e1 with
  | .nw (.lst xs), he, e1 =>
    simp only [Option.ite_none_right_eq_some, Option.some.injEq] at he
    obtain ⟨⟨hz, hf⟩, rfl⟩ := he
    refine ⟨Bn, Ow, Γ, _, Γ1, rs, e1, fun w H1 O1 s1 r1 vl => ?_⟩
    obtain ⟨a, rfl, m, ⟨ws, ha, rp⟩, no⟩ := vl
    refine ⟨by rw [C.K]; exact .inl ⟨rfl, ws, .inl (.inl ha)⟩, ?_⟩
    obtain ⟨r2, s2⟩ := r1.updO (o := .lst (ws ++ [v])) m no (.inl ⟨_, upd_same⟩)
    exact ⟨a, ws, v, rfl, rfl, ha, by rw [← rp.len]; exact hz, po _ _ O1 (s1.trans s2) r2 pn⟩
end
/-! ### an empty dict, as a datum that says nothing -/
end DV

namespace DV
open PySem L2
/-! ### an argument that was only read comes back as it was handed over -/
mutual
/-- no list and no object inside -/
def noL : D → Bool
  | .lst _ => false
  | .obj _ _ _ => false
  | .scr _ => false
  | .dct => false
  | .dic _ _ => false
  | .exc _ _ _ => false
  | .err _ _ _ => false
  | .ref _ => false
  | .tup ds => noLs ds
  | _ => true
def noLs : List D → Bool
  | [] => true
  | d :: ds => noL d && noLs ds
end
section
variable {g : Gx} {A : Addr → Prop} {H : Hp} {a : Addr} {ws : List V}
theorem sqT_ne {t : Addr} {vs : List V} (ha : H a = some (.lst ws)) (hk : g.K.lookup a = none) (h : SqT g.K H t vs) : t ≠ a := by
  intro z
  subst z
  rcases h with (h | ⟨o, h⟩) | ⟨o, _, _, h, _⟩
  · rw [ha] at h; cases h
  · rw [ha] at h; cases h
  · rw [hk] at h; cases h
mutual
theorem noL_rep (ha : H a = some (.lst ws)) (hk : g.K.lookup a = none) : ∀ (d : D) (v : V), noL d = true → Rep g A H d v → Rep g (fun x => A x ∨ x = a) H d v
  | .non, _, _, h => by simpa [Rep] using h
  | .bl _, _, _, h => by simpa [Rep] using h
  | .int _, _, _, h => by simpa [Rep] using h
  | .str _, _, _, h => by simpa [Rep] using h
  | .lst ds, v, n, h => by simp [noL] at n
  | .scr ns, v, n, h => by simp [noL] at n
  | .dct, v, n, h => by simp [noL] at n
  | .dic _ _, v, n, h => by simp [noL] at n
  | .exc _ _ _, v, n, h => by simp [noL] at n
  | .err _ _ _, v, n, h => by simp [noL] at n
  | .ref _, v, n, h => by simp [noL] at n
  | .obj c ks ds, v, n, h => by simp [noL] at n
  | .tup ds, v, n, h => by
    simp only [Rep] at h ⊢
    simp only [noL] at n
    obtain ⟨t, vs, e, na, s, r⟩ := h
    exact ⟨t, vs, e, fun z => z.elim na (sqT_ne ha hk s), s, noLs_reps ha hk ds vs n r⟩
theorem noLs_reps (ha : H a = some (.lst ws)) (hk : g.K.lookup a = none) : ∀ (ds : List D) (vs : List V), noLs ds = true → Reps g A H ds vs → Reps g (fun x => A x ∨ x = a) H ds vs
  | [], _, _, h => by simpa [Reps] using h
  | d :: ds, _, n, h => by
    simp only [Reps] at h ⊢
    simp only [noLs, Bool.and_eq_true] at n
    obtain ⟨v, r, e, h1, h2⟩ := h
    exact ⟨v, r, e, noL_rep ha hk d v n.1 h1, noLs_reps ha hk ds r n.2 h2⟩
end
end
def resOk : RV → Bool
  | .fz d => noL d
  | .nw (.lst ds) => noLs ds
  | _ => false
/-- the other slots: owned ones hold lists of plain items and come back owned -/
def othOk (i : Nat) : Nat → Ct → Ct → Bool
  | _, [], [] => true
  | j, x :: xs, y :: ys => (match x, y with
    | some (_, true), some (.lst ds, true) => decide (j = i) || noLs ds
    | some (_, true), _ => decide (j = i)
    | some (_, false), some _ => true
    | _, _ => false) && othOk i (j + 1) xs ys
  | _, _, _ => false
def putBack (i : Nat) (ds : List D) : Nat → Ct → Ct → Ct
  | j, x :: xs, y :: ys => (if j = i then some (.lst ds, true) else match x with
    | some (_, true) => y
    | _ => x) :: putBack i ds (j + 1) xs ys
  | _, _, _ => []
def reown (i : Nat) (F : FS) : FS := fun G => (F G).bind fun (r, os) => match G[i]?, os[i]? with
  | some (some (_, true)), some (some (.lst ds, false)) => if resOk r && noLs ds && othOk i 0 G os then some (r, putBack i ds 0 G os) else some (r, os)
  | _, _ => some (r, os)
theorem putBack_get (i : Nat) (ds : List D) : ∀ {n j : Nat} {G os : Ct} {p : D × Bool}, othOk i n G os = true → (putBack i ds n G os)[j]? = some (some p) → (n + j = i ∧ p = (.lst ds, true)) ∨ (n + j ≠ i ∧ ((∃ c es, G[j]? = some (some (c, true)) ∧ os[j]? = some (some (.lst es, true)) ∧ noLs es = true ∧ p = (.lst es, true)) ∨ (∃ c, G[j]? = some (some (c, false)) ∧ p = (c, false))))
  | n, j, [], [], p, _, h => by simp [putBack] at h
  | n, j, [], y :: ys, p, q, h => by simp [othOk] at q
  | n, j, x :: xs, [], p, q, h => by simp [othOk] at q
  | n, 0, x :: xs, y :: ys, p, q, h => by
    simp only [putBack, List.getElem?_cons_zero, Option.some.injEq] at h
    by_cases e : n = i
    · rw [if_pos e] at h
      simp only [Option.some.injEq] at h
      exact .inl ⟨by omega, h.symm⟩
    · rw [if_neg e] at h
      simp only [othOk, Bool.and_eq_true] at q
      refine .inr ⟨by omega, ?_⟩
      match x, y, q.1, h with
      | some (c, true), some (.lst es, true), q1, h =>
        simp only [Bool.or_eq_true, decide_eq_true_eq] at q1
        simp only [Option.some.injEq] at h
        exact .inl ⟨c, es, rfl, rfl, q1.resolve_left e, h.symm⟩
      | some (c, false), some y', q1, h =>
        simp only [Option.some.injEq] at h
        exact .inr ⟨c, rfl, h.symm⟩
      | some (c, true), none, q1, h => simp at q1; exact absurd q1 e
      | some (c, true), some (.non, _), q1, h => simp at q1; exact absurd q1 e
      | some (c, true), some (.bl _, _), q1, h => simp at q1; exact absurd q1 e
      | some (c, true), some (.int _, _), q1, h => simp at q1; exact absurd q1 e
      | some (c, true), some (.str _, _), q1, h => simp at q1; exact absurd q1 e
      | some (c, true), some (.tup _, _), q1, h => simp at q1; exact absurd q1 e
      | some (c, true), some (.obj _ _ _, _), q1, h => simp at q1; exact absurd q1 e
      | some (c, true), some (.scr _, _), q1, h => simp at q1; exact absurd q1 e
      | some (c, true), some (.dct, _), q1, h => simp at q1; exact absurd q1 e
      | some (c, true), some (.dic _ _, _), q1, h => simp at q1; exact absurd q1 e
      | some (c, true), some (.exc _ _ _, _), q1, h => simp at q1; exact absurd q1 e
      | some (c, true), some (.err _ _ _, _), q1, h => simp at q1; exact absurd q1 e
      | some (c, true), some (.ref _, _), q1, h => simp at q1; exact absurd q1 e
      | some (c, true), some (.lst _, false), q1, h => simp at q1; exact absurd q1 e
      | some (c, false), none, q1, h => simp at q1
      | none, _, q1, h => simp at q1
  | n, j + 1, x :: xs, y :: ys, p, q, h => by
    simp only [putBack, List.getElem?_cons_succ] at h
    simp only [othOk, Bool.and_eq_true] at q
    have := putBack_get i ds (n := n + 1) (j := j) q.2 h
    simp only [List.getElem?_cons_succ]
    rw [show n + (j + 1) = n + 1 + j by omega]
    exact this
theorem putBack_len (i : Nat) (ds : List D) : ∀ {n : Nat} {G os : Ct}, othOk i n G os = true → (putBack i ds n G os).length = G.length
  | n, [], [], _ => rfl
  | n, [], y :: ys, q => by simp [othOk] at q
  | n, x :: xs, [], q => by simp [othOk] at q
  | n, x :: xs, y :: ys, q => by
    simp only [othOk, Bool.and_eq_true] at q
    simp only [putBack, List.length_cons, putBack_len i ds q.2]
theorem spF_reown {g : Gx} {n i : Nat} {F : FS} {vs : List V} {H : Hp} {Q : VK} {E : XK} (h : spF g n (reown i F) vs H Q E) : spF g n F vs H Q E := by
  obtain ⟨hl, Bn, Ow, Γ, r, os, rs, ef, nr, hQ⟩ := h
  simp only [reown] at ef
  obtain ⟨⟨r1, os1⟩, e1, ef⟩ := Option.bind_eq_some_iff.mp ef
  have plain : some (r1, os1) = some (r, os) → spF g n F vs H Q E := fun z => by
    simp only [Option.some.injEq, Prod.mk.injEq] at z
    obtain ⟨rfl, rfl⟩ := z
    exact ⟨hl, Bn, Ow, Γ, _, _, rs, e1, nr, hQ⟩
  simp only at ef
  split at ef
  · rename_i c ds hG hO
    split at ef
    · rename_i cond
      simp only [Bool.and_eq_true] at cond
      obtain ⟨⟨c1, c2⟩, c3⟩ := cond
      simp only [Option.some.injEq, Prod.mk.injEq] at ef
      obtain ⟨rfl, rfl⟩ := ef
      refine ⟨hl, Bn, Ow, Γ, _, _, rs, e1, nr, fun v H' O' st ro vl => ?_⟩
      obtain ⟨a, ea, ma, _⟩ := rs.own i _ hG
      obtain ⟨v', ev', rp⟩ := ro.slot i _ hO
      rw [ea] at ev'
      cases ev'
      simp only [Rep] at rp
      obtain ⟨a', ws, e2, na, ha, rp⟩ := rp
      cases e2
      have hk : g.K.lookup a = none := rs.kf a (.inr ma)
      have naO : a ∉ O' := fun z => na (.inr z)
      have naB : ¬ Bn a := fun z => na (.inl z)
      have av : ∀ x, Av Bn (a :: O') x → Av Bn O' x ∨ x = a := fun x z => by
        rcases z with z | z
        · exact .inl (.inl z)
        · rcases List.mem_cons.mp z with z | z
          · exact .inr z
          · exact .inl (.inr z)
      have inner : ∀ {ds : List D} {us : List V}, noLs ds = true → Reps g (Av Bn O') H' ds us → Reps g (Av Bn (a :: O')) H' ds us := fun n r => reps_less av (noLs_reps ha hk _ _ n r)
      have stp : Stp Ow H (a :: O') H' := ⟨st.keep0, fun x z => (List.mem_cons.mp z).elim (fun z => .inl (by rw [z]; exact ma)) (st.grow x)⟩
      have kf2 : ∀ x, x ∈ a :: O' → g.K.lookup x = none := fun x z => (List.mem_cons.mp z).elim (fun z => by rw [z]; exact hk) fun z => ro.kf x (.inr z)
      refine hQ v H' (a :: O') stp ⟨?_, fun j d h => ?_, fun j d h => ?_, fun j k d e x h1 h2 h3 h4 => ?_, fun x z => ?_, fun x z w => ?_, fun x z => ?_, ro.tabs⟩ ?_
      · rw [putBack_len i ds c3]; exact rs.len
      · rcases putBack_get i ds c3 h with ⟨_, z⟩ | ⟨_, ⟨_, _, _, _, _, z⟩ | ⟨c', z1, z2⟩⟩
        · cases z
        · cases z
        · cases z2
          obtain ⟨w, e3, rp3⟩ := rs.slot j _ z1
          exact ⟨w, e3, rep_mono (step_vst stp kf2) _ _ rp3⟩
      · rcases putBack_get i ds c3 h with ⟨z0, z⟩ | ⟨z0, ⟨c', es, z1, z2, z3, z⟩ | ⟨c', z1, z2⟩⟩
        · cases z
          obtain rfl : j = i := by omega
          exact ⟨a, ea, List.mem_cons_self, ws, ha, inner c2 rp⟩
        · cases z
          obtain ⟨b, e3, m3, us, hb, rb⟩ := ro.own j _ z2
          exact ⟨b, e3, List.mem_cons_of_mem _ m3, us, hb, inner z3 rb⟩
        · cases z2
      · have one : ∀ {j : Nat} {d : D}, (putBack i ds 0 Γ os1)[j]? = some (some (d, true)) → (vs.map some)[j]? = some (some (.ref x)) → (j = i ∧ x = a) ∨ (x ∈ O' ∧ ∃ d', os1[j]? = some (some (d', true))) := fun {j d} h1 h3 => by
          rcases putBack_get i ds c3 h1 with ⟨z0, z⟩ | ⟨z0, ⟨c', es, z1, z2, z3, z⟩ | ⟨c', z1, z2⟩⟩
          · obtain rfl : j = i := by omega
            rw [ea] at h3; cases h3
            exact .inl ⟨rfl, rfl⟩
          · obtain ⟨b, e3, m3, _⟩ := ro.own j _ z2
            rw [h3] at e3; cases e3
            exact .inr ⟨m3, _, z2⟩
          · cases z2
        rcases one h1 h3 with ⟨q1, q2⟩ | ⟨q1, d1, q2⟩
        · rcases one h2 h4 with ⟨q3, q4⟩ | ⟨q3, d2, q4⟩
          · omega
          · rw [q2] at q3; exact absurd q3 naO
        · rcases one h2 h4 with ⟨q3, q4⟩ | ⟨q3, d2, q4⟩
          · rw [q4] at q1; exact absurd q1 naO
          · exact ro.dist j k _ _ x q2 q4 h3 h4
      · rcases z with z | z
        · exact ro.trl x (.inl z)
        · rcases List.mem_cons.mp z with z | z
          · rw [z]; exact .inl ⟨_, ha⟩
          · exact ro.trl x (.inr z)
      · rcases List.mem_cons.mp w with w | w
        · rw [w] at z; exact naB z
        · exact ro.sep x z w
      · rcases z with z | z
        · exact ro.kf x (.inl z)
        · exact kf2 x z
      · match r1, c1, vl with
        | .fz d, c1, vl => exact rep_less av (noL_rep ha hk _ _ c1 vl)
        | .nw (.lst es), c1, vl =>
          obtain ⟨p, e3, m3, ⟨us, hb, rb⟩, no⟩ := vl
          refine ⟨p, e3, List.mem_cons_of_mem _ m3, ⟨us, hb, inner c1 rb⟩, fun j d h1 h2 => ?_⟩
          rcases putBack_get i ds c3 h1 with ⟨z0, z⟩ | ⟨z0, ⟨c', es', z1, z2, z3, z⟩ | ⟨c', z1, z2⟩⟩
          · obtain rfl : j = i := by omega
            rw [ea] at h2; cases h2
            exact naO m3
          · exact no j _ z2 h2
          · cases z2
    · exact plain ef
  · exact plain ef
theorem fnok_reown {P : Program} {w : World} {g : Gx} {mg : Str → Option Value} {base : Heap} {k n : Nat} {f : Addr} {fd : FuncData} {ps : List Str} {F : FS} (i : Nat) (h : FnOk P w g.K mg base CX0 k f fd ps (spF g n F)) : FnOk P w g.K mg base CX0 k f fd ps (spF g n (reown i F)) :=
  ⟨fun vs H Q E q => h.len vs H Q E (spF_reown q), fun A outer s H args us vs Q E hr he hb hv hs => h.run A outer s H args us vs Q E hr he hb hv (spF_reown hs)⟩
end DV

namespace DV
/-- further evaluation equations -/
def SX := And.intro (@DV.tupGt.eq_1) <| And.intro (@DV.cmpD.eq_13) <| And.intro (@DV.ev.eq_36) <| And.intro (@DV.ev.eq_37) <| And.intro (@DV.ev.eq_38) <| And.intro (@DV.ev.eq_39) <| And.intro (@DV.biD.eq_23) <| And.intro (@DV.biD.eq_24) <| And.intro (@DV.lstOf.eq_1) <| And.intro (@DV.ev.eq_35) <| And.intro (@DV.isLD.eq_1) <| And.intro (@DV.idxD.eq_1) <| And.intro (@DV.ev.eq_32) <| And.intro (@DV.ev.eq_33) <| And.intro (@DV.ev.eq_34) <| And.intro (@DV.mxdD.eq_1) <| And.intro (@DV.cntD.eq_1) <| And.intro (@DV.ev.eq_27) (And.intro (@DV.ev.eq_28) (And.intro (@DV.ev.eq_29) (And.intro (@DV.ev.eq_30) (And.intro (@DV.ev.eq_31) (And.intro (@DV.rnglD.eq_1) (And.intro (@DV.tupOf.eq_1) (And.intro (@DV.tneD.eq_1) (And.intro (@DV.tneD.eq_2) (And.intro (@DV.trueR.eq_1) (And.intro (@DV.ex.eq_18) (And.intro (@DV.revD.eq_1) (And.intro (@DV.biD.eq_20) (@DV.sortD.eq_1)))))))))))))
end DV


namespace DV
open PySem L2 PySem.Spec
section
variable {X : Cx} {g : Gx} {fs : List FS} {a b : Expr} {ia ib : E} {pos p p2 pos2 : Pos}
end
end DV

namespace DV
open PySem L2 PySem.Spec
section
variable {X : Cx} {g : Gx} {fs : List FS} {pos : Pos}
theorem VlN.same {Bn : Addr → Prop} {Ow : List Addr} {H H' : Hp} {σ : St} {Γ : Ct} (s : Same H H') : ∀ {xs : List RV} {vs : List V}, VlN g Bn Ow H σ Γ xs vs → VlN g Bn Ow H' σ Γ xs vs
  | [], _, h => h
  | x :: xs, _, ⟨v, r, e, h1, h2, h3, h4⟩ => by
    refine ⟨v, r, e, ?_, h2, h3, VlN.same s h4⟩
    cases x with
    | fz d => exact Rep.same h1 s
    | nw d => obtain ⟨a, e1, m1, o1, n1⟩ := h1; exact ⟨a, e1, m1, o1.same s, n1⟩
    | sl i => exact (h3 i rfl).elim
end
end DV

namespace DV
open PySem L2 PySem.Spec
/-! ### a list in a field of a new object grows -/
theorem Stp.cons {O O' : List Addr} {H H' : Hp} (s : Stp O H O' H') (p : Addr) : Stp (p :: O) H (p :: O') H' where
  keep0 := fun a o h t n => s.keep0 a o h t fun z => n (List.mem_cons_of_mem _ z)
  grow := fun a h => by
    rcases List.mem_cons.mp h with h | h
    · exact .inl (by rw [h]; exact List.mem_cons_self)
    · rcases s.grow a h with z | z
      · exact .inl (List.mem_cons_of_mem _ z)
      · exact .inr z
section
variable {g : Gx} {Bn : Addr → Prop} {Ow Ow' : List Addr} {H H' : Hp} {σ : St} {Γ Γ' : Ct}
theorem RS.drop (rs : RS g Bn Ow H σ Γ) (i : Nat) : RS g Bn Ow H σ (Γ.set i none) := by
  have low : ∀ {j : Nat} {p : D × Bool}, (Γ.set i none)[j]? = some (some p) → Γ[j]? = some (some p) := fun {j p} h => by
    by_cases hj : i = j
    · subst hj
      by_cases hl : i < Γ.length
      · rw [List.getElem?_set_self hl] at h; cases h
      · rw [List.getElem?_eq_none (by rw [List.length_set]; omega)] at h; cases h
    · rw [List.getElem?_set_ne hj] at h; exact h
  exact ⟨by rw [List.length_set]; exact rs.len, fun j d h => rs.slot j d (low h), fun j d h => rs.own j d (low h), fun j k d e a h1 h2 => rs.dist j k d e a (low h1) (low h2), rs.trl, rs.sep, rs.kf, rs.tabs⟩
/-- what stands while the list grows -/
structure GrowS (g : Gx) (B : Addr → Prop) (p L dx : Addr) (c : Nat) (ks : List Str) (ds : List D) (nm : Str) (O : List Addr) (H : Hp) (Ls : List D) : Prop where
  bp : B p
  bL : B L
  ne : L ≠ p
  self : ∃ vs, ks.length = vs.length ∧ H p = some (.ins (g.cl c) dx ((ks ++ [nm]).zip (vs ++ [.ref L]))) ∧ Reps g (Av B O) H ds vs
  list : ∃ ws, H L = some (.lst ws) ∧ Reps g (Av B O) H Ls ws
theorem GrowS.step {B : Addr → Prop} {p L dx : Addr} {c : Nat} {ks : List Str} {ds : List D} {nm : Str} {Ls : List D} (G : GrowS g B p L dx c ks ds nm Ow H Ls) (sp : ∀ a, B a → a ∉ Ow) (s : Stp Ow H Ow' H') (rs : RS g B Ow' H' σ Γ) : GrowS g B p L dx c ks ds nm Ow' H' Ls := by
  obtain ⟨vs, l, h, r⟩ := G.self
  obtain ⟨ws, h2, r2⟩ := G.list
  exact ⟨G.bp, G.bL, G.ne, ⟨vs, l, s.keep _ _ h (sp _ G.bp), r.step s rs⟩, ⟨ws, s.keep _ _ h2 (sp _ G.bL), r2.step s rs⟩⟩
theorem GrowS.app {B : Addr → Prop} {p L dx : Addr} {c : Nat} {ks : List Str} {ds : List D} {nm : Str} {Ls : List D} {d : D} {v : V} {ws : List V} (G : GrowS g B p L dx c ks ds nm Ow H Ls) (hw : H L = some (.lst ws)) (r : Rep g (Av B Ow) H d v) : GrowS g B p L dx c ks ds nm Ow (upd H L (.lst (ws ++ [v]))) (Ls ++ [d]) := by
  obtain ⟨vs, l, h, r1⟩ := G.self
  obtain ⟨ws', h2, r2⟩ := G.list
  rw [hw] at h2; cases h2
  have vst := ban_vst (g := g) (H := H) (o := .lst (ws ++ [v])) (A := Av B Ow) (p := L) (.inl G.bL)
  exact ⟨G.bp, G.bL, G.ne, ⟨vs, l, by rw [upd_ne (fun z => G.ne z.symm)]; exact h, reps_mono vst _ _ r1⟩, ⟨_, upd_same, reps_mono vst _ _ (r2.app (Reps.one r))⟩⟩
end
section
variable {X : Cx} {g : Gx} {fs : List FS}
end
end DV

namespace DV
open PySem L2 PySem.Spec PyProof.Rows
/-! ### max, min with default= -/
section
variable {X : Cx}
end
section
variable {X : Cx} {g : Gx} {fs : List FS} {a b : Expr} {ia ib : E} {pos p kp : Pos} {es : List Expr}
end

/-! ### list.count, list.index of flat items; list.pop() -/
section
variable {X : Cx} {g : Gx} {fs : List FS} {a b : Expr} {ia ib : E} {apos cpos : Pos}
theorem Reps.dropLast {A : Addr → Prop} {H : Hp} {ds : List D} {vs : List V} (h : Reps g A H ds vs) : Reps g A H ds.dropLast vs.dropLast := by
  rw [List.dropLast_eq_take, List.dropLast_eq_take, ← h.len]
  exact h.take _
end
end DV

namespace DV
open PySem L2 PySem.Spec PyProof.Rows
/-! ### min of pairs of ints -/
section
variable {X : Cx} {g : Gx}
end
section
variable {prog : Program} {w : World} {A : Around} {E : Value → Shared → Prop} {s : Shared}
end
section
variable {X : Cx} {g : Gx}
variable {fs : List FS} {e : Expr} {es : List Expr} {ies : List E} {p pos : Pos}
end
end DV


namespace DV
open PySem L2 PySem.Spec
/-! ### dicts that are read -/
section
variable {X : Cx} {g : Gx} {fs : List FS} {a b : Expr} {ia ib : E} {pos : Pos}
end
/-! ### dict(a list of pairs) -/
section
variable {X : Cx} {g : Gx}
variable {fs : List FS} {e : Expr} {es : List Expr} {ies : List E} {p pos : Pos}
end
/-! ### sorted(triples that ascend) -/
section
variable {X : Cx} {g : Gx}
variable {fs : List FS} {e : Expr} {es : List Expr} {ies : List E} {p pos : Pos}
end
/-! ### a op b op c op d, as a test -/
section
open PyProof.Rows
variable {X : Cx} {a b c d : Expr} {ta tb tc td : TE} {pos : Pos}
end
section
variable {X : Cx} {g : Gx} {fs : List FS} {a b c d : Expr} {ia ib ic id' : E} {pos : Pos}
end
end DV

namespace DV
open PySem L2
variable {Wx : L2.XK}
/-! ### defs that may raise -/
/-- the exceptions of the frame are wished for by W -/
abbrev Tk (X : Cx) (W : L2.XK) : Prop := Takes X (fun cls d _ H => W cls d H)
def isXc : RV → Bool
  | .fz (.exc _ _ _) => true
  | _ => false
/-- a def that may raise: what it raises is told as its value -/
def finishX (np : Nat) (G0 : Ct) : Out → Option (RV × Ct)
  | .xc c ks ds _ => some (.fz (.exc c ks ds), List.replicate np none)
  | o => (finish np G0 o).bind fun p => if isXc p.1 then none else some p
def runX (fs : List FS) (np n : Nat) (body : List S) : FS := fun G0 =>
  if G0.length = np then (exs fs (ownPs 0 G0) body (G0 ++ List.replicate (n - np) none)).bind (finishX np G0) else none
/-- what is wished behind a call: an exception is told as its fields -/
def xcQ (g : Gx) (W : L2.XK) (Q : VK) : RV → VK
  | .fz (.exc c _ _) => fun v H' => ∀ d, v = .ref d → W (.ref (g.cl c)) (some d) H'
  | _ => Q
theorem xcQ_no {g : Gx} {W : L2.XK} {Q : VK} {r : RV} (h : isXc r = false) : xcQ g W Q r = Q := by
  cases r with
  | fz d => cases d <;> first | rfl | (simp [isXc] at h)
  | nw d => rfl
  | sl i => rfl
/-- the promise of a def that may raise -/
def spX (g : Gx) (n : Nat) (F : FS) : Sp := fun vs H Q E => spG g n F (xcQ g E Q) vs H
section
variable {g : Gx} {Bn : Addr → Prop} {Ow Ow' : List Addr} {H H' : Hp} {σ : St} {Γ Γ' : Ct}
theorem RS.nones {σ' : St} {k : Nat} (rs : RS g Bn Ow H σ Γ) (hl : σ'.length = k) : RS g Bn Ow H σ' (List.replicate k none) := by
  have no : ∀ (i : Nat) (p : D × Bool), (List.replicate k (none : Sl))[i]? ≠ some (some p) := fun i p h => by
    rw [List.getElem?_replicate] at h
    split at h <;> cases h
  exact ⟨by rw [List.length_replicate]; exact hl, fun i d h => absurd h (no i _), fun i d h => absurd h (no i _), fun i j d e a h => absurd h (no i _), rs.trl, rs.sep, rs.kf, rs.tabs⟩
theorem finishX_ok {vs : List V} {G0 : Ct} {n : Nat} {o : Out} {r : RV} {os : Ct} {Q : VK} (r0 : RS g Bn Ow H (vs.map some) G0) (hn : G0.length ≤ n) (hf : finishX G0.length G0 o = some (r, os))
    (hQ : ∀ v H' Ow', Stp Ow H Ow' H' → RS g Bn Ow' H' (vs.map some) os → Val g Bn Ow' H' (vs.map some) os r v → xcQ g Wx Q r v H') :
    Post g Wx { nx := fun _ H' => Q .non H', rt := Q } (n, (ownPs 0 G0).map fun i => (i, vs.getD i .non)) Bn Ow H o := by
  cases o with
  | xc c ks ds G =>
    simp only [finishX, Option.some.injEq, Prod.mk.injEq] at hf
    obtain ⟨rfl, rfl⟩ := hf
    intro d σ' H' Ow' st rs' pn rp
    exact hQ (.ref d) H' Ow' st (rs'.nones r0.len) rp d rfl
  | nx G =>
    simp only [finishX] at hf
    obtain ⟨⟨r1, o1⟩, f1, f2⟩ := Option.bind_eq_some_iff.mp hf
    split at f2
    · cases f2
    · rename_i n1
      cases f2
      rw [xcQ_no (by simpa using n1)] at hQ
      exact finish_ok r0 hn f1 hQ
  | rt x G =>
    simp only [finishX] at hf
    obtain ⟨⟨r1, o1⟩, f1, f2⟩ := Option.bind_eq_some_iff.mp hf
    split at f2
    · cases f2
    · rename_i n1
      cases f2
      rw [xcQ_no (by simpa using n1)] at hQ
      exact finish_ok r0 hn f1 hQ
  | bk G => simp only [finishX, finish, Option.bind_none, reduceCtorEq] at hf
  | ct G => simp only [finishX, finish, Option.bind_none, reduceCtorEq] at hf
end
/-- a def that can be called, and may raise -/
structure CalX (P : Program) (w : World) (mg : Str → Option Value) (base : Heap) (g : Gx) (k : Nat) (x : Str) (n : Nat) (F : FS) : Prop where
  ex : ∃ f fd ps, mg x = some (.ref f) ∧ PySem.W.keepIn g.K (.ref f) = true ∧ Binds g.K fd ps [] ∧ FnOk P w g.K mg base (L2.CX P w) k f fd ps (spX g n F)
structure MtdX (P : Program) (w : World) (mg : Str → Option Value) (base : Heap) (g : Gx) (k : Nat) (c : Nat) (x : Str) (n : Nat) (F : FS) : Prop where
  ex : ∃ f fd ps, Cls g.K (g.cl c) ∧ Meth g.K (g.cl c) x f ∧ Binds g.K fd ps [] ∧ FnOk P w g.K mg base (L2.CX P w) k f fd ps (spX g n F)
structure MkdX (P : Program) (w : World) (mg : Str → Option Value) (base : Heap) (g : Gx) (k : Nat) (c : Nat) (x : Str) (n : Nat) (F : FS) : Prop where
  ex : ∃ f fd ps, mg x = some (.ref (g.cl c)) ∧ Mk g.K (g.cl c) f ∧ Binds g.K fd ps [] ∧ ps.length = n + 1 ∧ FnOk P w g.K mg base (L2.CX P w) k f fd ps (spX g (n + 1) F)
section
variable {P : Program} {w : World} {mg : Str → Option Value} {base : Heap} {g : Gx} {fs : List FS}
theorem CalX.mono {j k : Nat} {x : Str} {n : Nat} {F : FS} (h : CalX P w mg base g j x n F) (l : j ≤ k) : CalX P w mg base g k x n F := by
  obtain ⟨f, fd, ps, h1, h2, h3, h4⟩ := h.ex
  exact ⟨f, fd, ps, h1, h2, h3, h4.mono l⟩
theorem MtdX.mono {j k c : Nat} {x : Str} {n : Nat} {F : FS} (h : MtdX P w mg base g j c x n F) (l : j ≤ k) : MtdX P w mg base g k c x n F := by
  obtain ⟨f, fd, ps, h1, h2, h3, h4⟩ := h.ex
  exact ⟨f, fd, ps, h1, h2, h3, h4.mono l⟩
theorem MkdX.mono {j k c : Nat} {x : Str} {n : Nat} {F : FS} (h : MkdX P w mg base g j c x n F) (l : j ≤ k) : MkdX P w mg base g k c x n F := by
  obtain ⟨f, fd, ps, h1, h2, h3, h5, h4⟩ := h.ex
  exact ⟨f, fd, ps, h1, h2, h3, h5, h4.mono l⟩
theorem def_fnX {x qual : Str} {st : Stmt} {f : Addr} {fd : FuncData} {N ps : List Str} {k np n : Nat} {ir : List S} (F : Fun g.K x qual st f fd) (S : FnScope N ps (defScope st)) (hp : ps.length = np) (hN : N.length = n) (ge : g.ea = none)
    (hbody : ∀ (cdv : Value) (A : Around) (outer : List Env) (s : Shared) (H : Hp) (E : L2.XK), Room k (cxOf (L2.CX P w) P w g.K mg base N qual (defScope st) f cdv A outer s H E).A → Cok g (cxOf (L2.CX P w) P w g.K mg base N qual (defScope st) f cdv A outer s H E) →
      Tk (cxOf (L2.CX P w) P w g.K mg base N qual (defScope st) f cdv A outer s H E) E → PassesOwn (model P w) (cxOf (L2.CX P w) P w g.K mg base N qual (defScope st) f cdv A outer s H E).A (cxOf (L2.CX P w) P w g.K mg base N qual (defScope st) f cdv A outer s H E).env (cxOf (L2.CX P w) P w g.K mg base N qual (defScope st) f cdv A outer s H E).xe →
      PSs (cxOf (L2.CX P w) P w g.K mg base N qual (defScope st) f cdv A outer s H E) (defBody st) (tSs g E fs ir)) : FnOk P w g.K mg base (L2.CX P w) (k + 1) f fd ps (spX g np (runX fs np n ir)) := by
  refine F.okX S (fun vs H Q E h => by rw [h.1, hp]) fun cdv A outer s H vs Q E hr h => ?_
  refine ⟨_, hbody cdv A outer s H E hr ⟨rfl, rfl, hr.units, S.nd, ge⟩ (takes_of rfl rfl rfl rfl) (passes_of rfl), ?_⟩
  obtain ⟨hl, Bn, Ow, Γ, r, os, rs, ef, nr, hQ⟩ := h
  have hG : Γ.length = np := by rw [← rs.len, List.length_map, hl]
  have hle : np ≤ n := by
    rw [← hN, ← hp]
    have := congrArg List.length S.pre
    rw [List.length_take] at this
    omega
  simp only [runX, hG, if_true] at ef
  obtain ⟨o, e1, e2⟩ := Option.bind_eq_some_iff.mp ef
  have est : L2.start N vs = vs.map some ++ List.replicate (n - np) none := by rw [← hN, ← hl]; rfl
  refine ⟨(n, (ownPs 0 Γ).map fun i => (i, vs.getD i .non)), Bn, Ow, Γ ++ List.replicate (n - np) none, o, ?_, ⟨?_, fun p hp => ?_⟩, ?_, ?_⟩
  · rw [est]; exact rs.start _
  · rw [est, List.length_append, List.length_map, List.length_replicate, hl]; show np + (n - np) = n; omega
  · obtain ⟨i, hi, rfl⟩ := List.mem_map.mp hp
    obtain ⟨j, d, rfl, h⟩ := ownPs_mem.mp hi
    have hj : j < vs.length := by
      have h1 := (List.getElem?_eq_some_iff.mp h).1
      omega
    rw [est]
    show (vs.map some ++ List.replicate (n - np) none)[0 + j]? = some (some (vs.getD (0 + j) .non))
    rw [Nat.zero_add, List.getElem?_append_left (by rw [List.length_map]; exact hj), List.getElem?_map, List.getElem?_eq_getElem hj, List.getD_eq_getElem?_getD, List.getElem?_eq_getElem hj]
    rfl
  · rw [List.map_map]
    show exs fs ((ownPs 0 Γ).map id) ir _ = some o
    rw [List.map_id]
    exact e1
  · rw [← hG] at e2
    exact finishX_ok rs (by omega) e2 hQ
end
/-! ### calls that may raise, as whole statements -/
def tRX (g : Gx) (W : L2.XK) (fs : List FS) (ie : E) : TE := fun σ H Q => ∃ Bn Ow Γ r Γ', RS g Bn Ow H σ Γ ∧ ev fs ie Γ = some (r, Γ') ∧ ∀ v H' Ow', Stp Ow H Ow' H' → RS g Bn Ow' H' σ Γ' → Val g Bn Ow' H' σ Γ' r v → xcQ g W Q r v H'
section
variable {X : Cx} {g : Gx} {fs : List FS} {e : Expr} {es : List Expr} {ie : E} {ies : List E} {x : Str} {p pos : Pos} {c k i n : Nat} {F : FS}
theorem callD_coreG {xs : List RV} {vs : List V} {Bn : Addr → Prop} {Ow : List Addr} {H : Hp} {σ : St} {Γ Γ' : Ct} {r : RV} {R : RV → VK} (rs : RS g Bn Ow H σ Γ) (hv : VlW g Bn Ow H σ Γ xs vs) (he : callD F xs Γ = some (r, Γ')) (hn : vs.length = n)
    (hQ : ∀ v H' Ow', Stp Ow H Ow' H' → RS g Bn Ow' H' σ Γ' → Val g Bn Ow' H' σ Γ' r v → R r v H') : spG g n F R vs H := by
  simp only [callD] at he
  obtain ⟨as, e3, he⟩ := Option.bind_eq_some_iff.mp he
  simp only [Option.ite_none_right_eq_some] at he
  obtain ⟨nd, he⟩ := he
  obtain ⟨⟨r', os⟩, e4, he⟩ := Option.bind_eq_some_iff.mp he
  cases r' with
  | sl i => cases he
  | fz d =>
    simp only [Option.some.injEq, Prod.mk.injEq] at he
    obtain ⟨rfl, rfl⟩ := he
    exact call_coreG rs hv e3 nd e4 (fun i z => nomatch z) hn fun v H' O2 s2 r2 val _ => hQ v H' O2 s2 r2 val
  | nw d =>
    simp only [Option.some.injEq, Prod.mk.injEq] at he
    obtain ⟨rfl, rfl⟩ := he
    exact call_coreG rs hv e3 nd e4 (fun i z => nomatch z) hn fun v H' O2 s2 r2 val _ => hQ v H' O2 s2 r2 val
theorem ev_callD {Γ : Ct} {r : RV × Ct} (h : ev fs (.call k ies) Γ = some r) : ∃ xs Γ1 F, evs fs ies Γ = some (xs, Γ1) ∧ fs[k]? = some F ∧ callD F xs Γ1 = some r := by
  simp only [ev] at h
  obtain ⟨⟨xs, Γ1⟩, e1, h⟩ := Option.bind_eq_some_iff.mp h
  obtain ⟨F, e2, h⟩ := Option.bind_eq_some_iff.mp h
  exact ⟨xs, Γ1, F, e1, e2, h⟩
theorem pass_tk {W : L2.XK} (tk : Tk X W) : Passes (L2.CX X.prog X.w) X W := passes_call tk fun _ _ _ _ h => h
theorem cx_call (c : CalX X.prog X.w X.mg X.base g k x n F) (C : Cok0 g X) (tk : Tk X Wx) (hF : fs[i]? = some F) (hn : ies.length = n) (hr : Room k X.A) (hg : Gl X x)
    (ha : PA X (e :: es) (tAw g fs ies)) (hdb : (x == ("__debug__" : Str)) = false) (he : starEach (e :: es) X.env = (false, eval e X.env) :: starEach es X.env) (hpl : (backTo pos (starEach es X.env)).any (·.1) = false) :
    PE X (.Call (.Name x p) (e :: es) [] pos) (tRX g Wx fs (.call i ies)) := by
  obtain ⟨f, fd, ps, h1, h2, h3, h4⟩ := c.ex
  rw [← C.K] at h2 h3 h4
  refine PE.weak (pe_call h4 hr hg h1 h2 h3 .nil (pass_tk tk) ha hdb he hpl) ?_
  rintro σ H Q ⟨Bn, Ow, Γ, r, Γ', rs, he, hQ⟩
  obtain ⟨xs, Γ1, F', e1, e2, e3⟩ := ev_callD he
  rw [hF] at e2; cases e2
  refine ⟨Bn, Ow, Γ, xs, Γ1, rs, e1, fun vs H1 O1 s1 r1 v1 => ?_⟩
  show spG g n F (xcQ g Wx Q) (vs ++ []) H1
  rw [List.append_nil]
  exact callD_coreG r1 v1 e3 (by rw [← v1.len, ← evs_len e1, hn]) fun v H' O2 s2 r2 val => hQ v H' O2 (s1.trans s2) r2 val
theorem mkX_core {np : Nat} {ys : List RV} {vs : List V} {Bn : Addr → Prop} {O1 : List Addr} {H1 : Hp} {σ : St} {Γ1 Γ' : Ct} {r : RV} {Q : VK} (r1 : RS g Bn O1 H1 σ Γ1) (v1 : VlW g Bn O1 H1 σ Γ1 ys vs) (he : mkX F c ys Γ1 = some (r, Γ')) (hl : vs.length = n) (hp : np = n + 1)
    (hQ : ∀ v H' Ow', Stp O1 H1 Ow' H' → RS g Bn Ow' H' σ Γ' → Val g Bn Ow' H' σ Γ' r v → xcQ g Wx Q r v H') : ∀ x dx, H1 x = none → H1 dx = none → dx ≠ x →
    (V.ref x :: vs).length = np ∧ (kfs g.K (upd (upd H1 dx (.own x)) x (.ins (g.cl c) dx [])) → spX g (n + 1) F (V.ref x :: vs) (upd (upd H1 dx (.own x)) x (.ins (g.cl c) dx [])) (fun v H2 => v = .non ∧ Q (.ref x) H2) Wx) := by
  simp only [mkX] at he
  obtain ⟨as, e2, he⟩ := Option.bind_eq_some_iff.mp he
  simp only [Option.ite_none_right_eq_some] at he
  obtain ⟨nd, he⟩ := he
  obtain ⟨⟨r', os⟩, e3, he⟩ := Option.bind_eq_some_iff.mp he
  intro p dx np0 ndx ne
  refine ⟨by rw [List.length_cons, hl, hp], fun kf => ?_⟩
  have sm : Same H1 (upd (upd H1 dx (.own p)) p (.ins (g.cl c) dx [])) := fun b x e => by
    rw [upd_ne (ne_of_none e np0), upd_ne (ne_of_none e ndx)]; exact e
  have hp' : (upd (upd H1 dx (.own p)) p (.ins (g.cl c) dx [])) p = some (.ins (g.cl c) dx []) := upd_same
  have hk : g.K.lookup p = none := kf_new kf hp'
  have r2 := r1.add sm np0 (.inr ⟨_, _, _, hp'⟩) hk
  have st2 : Stp O1 H1 (p :: O1) _ := stp_add sm np0
  have nin : ∀ (j : Nat) (e : D), Γ1[j]? = some (some (e, true)) → σ[j]? ≠ some (some (.ref p)) := fun j e h1 h2 => by
    obtain ⟨b, e5, m5, _⟩ := r1.own j e h1
    rw [h2] at e5; cases e5
    exact r1.trk p (.inr m5) np0
  have vw : ∀ {xs : List RV} {ws : List V}, VlW g Bn O1 H1 σ Γ1 xs ws → VlW g Bn (p :: O1) (upd (upd H1 dx (.own p)) p (.ins (g.cl c) dx [])) σ Γ1 xs ws ∧ ∀ (j : Nat) (e : D), xs[j]? = some (.nw e) → ws[j]? ≠ some (.ref p) := by
    intro xs
    induction xs with
    | nil => intro ws h; exact ⟨h, fun j e h => by simp at h⟩
    | cons x xs ih =>
      rintro ws ⟨v, w, rfl, q1, q2, q3⟩
      obtain ⟨i1, i2⟩ := ih q3
      have kstep := step_vst (g := g) (Bn := Bn) st2 fun a h => r2.kf a (.inr h)
      refine ⟨⟨v, w, rfl, ?_, q2, i1⟩, fun j e h => ?_⟩
      · cases x with
        | fz d => exact rep_mono kstep _ _ q1
        | sl j => exact q1
        | nw d =>
          obtain ⟨b, rfl, m, ow, no⟩ := q1
          refine ⟨b, rfl, List.mem_cons_of_mem _ m, ?_, no⟩
          cases d with
          | lst ds => obtain ⟨us, f1, f2⟩ := ow; exact ⟨us, sm _ _ f1, reps_mono kstep _ _ f2⟩
          | obj c ks ds => obtain ⟨dx, us, l, f1, f2⟩ := ow; exact ⟨dx, us, l, sm _ _ f1, reps_mono kstep _ _ f2⟩
          | _ => exact ow
      · cases j with
        | zero =>
          simp at h
          subst h
          obtain ⟨b, rfl, m, _⟩ := q1
          intro z
          simp at z
          subst z
          exact r1.trk b (.inr m) np0
        | succ j => exact i2 j e (by simpa using h)
  obtain ⟨v2, n2⟩ := vw v1
  have v3 : VlW g Bn (p :: O1) (upd (upd H1 dx (.own p)) p (.ins (g.cl c) dx [])) σ Γ1 (.nw (.obj c [] []) :: ys) (.ref p :: vs) :=
    ⟨_, vs, rfl, ⟨p, rfl, List.mem_cons_self, ⟨dx, [], rfl, hp', by simp only [Reps]⟩, nin⟩, fun _ _ j e h1 => n2 j e h1, v2⟩
  have ea : argSs Γ1 (.nw (.obj c [] []) :: ys) = some ((.obj c [] [], true) :: as) := by simp only [argSs, argS, Option.bind_some, e2, Option.map_some]
  have nd2 : nodupB (ownIx Γ1 (.nw (.obj c [] []) :: ys)) = true := by simpa only [ownIx] using nd
  match r', os, he, e3 with
  | .fz (.exc c' ks ds), o0 :: os', he, e3 =>
    simp only [Option.some.injEq, Prod.mk.injEq] at he
    obtain ⟨rfl, rfl⟩ := he
    refine call_coreG (R := xcQ g Wx (fun v H2 => v = .non ∧ Q (.ref p) H2)) r2 v3 ea nd2 (by simpa using e3) (fun i z => by cases z) (by rw [List.length_cons, hl]) fun v H' O2 s2 r3 val _ => ?_
    have w : Rep g (Av Bn O2) H' (.exc c' ks ds) v := val
    intro d hd
    exact hQ v H' O2 (st2.trans s2) (by simpa only [putOuts] using r3) w d hd
  | .fz .non, some (.obj c' ks ds, true) :: os', he, e3 =>
    simp only [Option.some.injEq, Prod.mk.injEq] at he
    obtain ⟨rfl, rfl⟩ := he
    refine call_coreG (R := xcQ g Wx (fun v H2 => v = .non ∧ Q (.ref p) H2)) r2 v3 ea nd2 (by simpa using e3) (fun i z => by cases z) (by rw [List.length_cons, hl]) fun v H' O2 s2 r3 val nws => ?_
    show v = .non ∧ Q (.ref p) H'
    refine ⟨by simpa only [Val, Rep] using val, ?_⟩
    have w1 := nws 0 _ _ p rfl rfl rfl
    exact hQ _ H' O2 (st2.trans s2) (by simpa only [putOuts] using r3) (by simpa only [putOuts] using w1)
/-! ### statements -/
theorem sx_drop (h : PE X e (tRX g Wx fs ie)) (hs : swapsWith e none pos.line X.env = pure false) : PS X (.Expr e pos) (tSt g Wx fs (.xex ie .drop)) := by
  refine PS.weak (ps_expr h hs) ?_
  rintro Dn σ H ⟨pv, Bn, Ow, Γ, o, rs, pn, he, po⟩
  simp only [ex] at he
  obtain ⟨⟨x, Γ1⟩, e1, he⟩ := Option.bind_eq_some_iff.mp he
  refine ⟨Bn, Ow, Γ, x, Γ1, rs, e1, fun v H1 O1 s1 r1 vl => ?_⟩
  simp only at he
  split at he
  · simp only [Option.some.injEq] at he; subst he
    intro d hd
    subst hd
    exact po d σ H1 O1 s1 r1 pn vl
  · rename_i z
    simp only [Option.some.injEq] at he; subst he
    rw [xcQ_no (by cases x with
      | fz d => cases d <;> first | rfl | exact absurd rfl (z _ _ _)
      | _ => rfl)]
    exact po σ H1 O1 s1 r1 pn
theorem no_xc {x : RV} (z : ∀ (c : Nat) (ks : List Str) (ds : List D), x = .fz (.exc c ks ds) → False) : isXc x = false := by
  cases x with
  | fz d => cases d <;> first | rfl | exact (z _ _ _ rfl).elim
  | _ => rfl
theorem sx_ret (h : PE X e (tRX g Wx fs ie)) : PS X (.Return (some e) pos) (tSt g Wx fs (.xex ie .ret)) := by
  refine PS.weak (ps_ret h) ?_
  rintro Dn σ H ⟨pv, Bn, Ow, Γ, o, rs, pn, he, po⟩
  simp only [ex] at he
  obtain ⟨⟨x, Γ1⟩, e1, he⟩ := Option.bind_eq_some_iff.mp he
  refine ⟨Bn, Ow, Γ, x, Γ1, rs, e1, fun v H1 O1 s1 r1 vl => ?_⟩
  simp only at he
  split at he
  · simp only [Option.some.injEq] at he; subst he
    intro d hd
    subst hd
    exact po d σ H1 O1 s1 r1 pn vl
  · rename_i z
    simp only [Option.some.injEq] at he; subst he
    rw [xcQ_no (no_xc fun c ks ds q => z c ks ds q)]
    exact po v σ H1 O1 s1 r1 pn vl
theorem sx_asg {tg : Expr} {itg : Tg} (h : PE X e (tRX g Wx fs ie)) (hg : PG X tg (tgT g.K itg)) (hs : swapsWithSole [tg] e pos.line X.env = pure false) (hw : swappedStores [tg] e X.env = pure none)
    (h1 : (assignEach [tg] X.env).map (·.2) = [assign tg X.env]) : PS X (.Assign [tg] e pos) (tSt g Wx fs (.xex ie (.asg itg))) := by
  refine PS.weak (ps_asg h hg hs hw h1) ?_
  rintro Dn σ H ⟨pv, Bn, Ow, Γ, o, rs, pn, he, po⟩
  simp only [ex] at he
  obtain ⟨⟨x, Γ1⟩, e1, he⟩ := Option.bind_eq_some_iff.mp he
  refine ⟨Bn, Ow, Γ, x, Γ1, rs, e1, fun v H1 O1 s1 r1 vl => ?_⟩
  simp only at he
  split at he
  · simp only [Option.some.injEq] at he; subst he
    intro d hd
    subst hd
    exact po d σ H1 O1 s1 r1 pn vl
  · rename_i z
    rw [xcQ_no (no_xc fun c ks ds q => z c ks ds q)]
    obtain ⟨⟨d, Γ2⟩, e2, he⟩ := Option.bind_eq_some_iff.mp he
    simp only [Option.ite_none_right_eq_some] at he
    obtain ⟨dj, he⟩ := he
    obtain ⟨Γ3, e3, rfl⟩ := Option.map_eq_some_iff.mp he
    obtain ⟨O2, s2, r2, p2⟩ := fre_ok r1 vl e2
    exact asgT_ok itg r2 p2 e3 fun σ' q1 q2 q3 => po σ' H1 O2 (s1.trans s2) q1 (pn.keep dj q2 q3)
end
end DV

namespace DV
open PySem L2
variable {Wx : L2.XK}
/-! ### errors of the program: own classes over ArithmeticError whose __init__ stores its arguments -/
abbrev aeT : List Value := [.type "ArithmeticError", .type "Exception", .type "BaseException", .type "object"]
/-- what is written of such a class -/
structure AexC (K : PySem.W.Frag) (C : Addr) : Prop where
  ini : PySem.W.excInitIn K C aeT "ArithmeticError.__new__" = true
  ov : PySem.W.excOver K C aeT = true
  hd : PySem.W.hasDictIn K C = true
  sa : PySem.W.findIn K (.ref C) "__setattr__" = some (some (.builtin "object.__setattr__"))
  exC : PySem.W.subIn K (.ref C) (.type "BaseException") = some true
  tyC : PySem.W.typeIn K (.ref C) = some (.type "type")
  kC : PySem.W.keepIn K (.ref C) = true
/-- the class whose __init__ is called with the text -/
structure BexC (K : PySem.W.Frag) (B : Addr) : Prop where
  ga : PySem.W.specialIn K (.ref B) "__getattribute__" = some (some (.builtin "type.__getattribute__"))
  rd : PySem.W.readsIn K B (.type "type") = true
  at_ : PySem.W.findCls K (.ref B) (.type "type") "__init__" = some (.val (.builtin "ArithmeticError.__init__"))
section
variable {X : Cx} {pins : List (Addr × Obj)} {σ : L2.St} {H : Hp} {s : Shared} {a C dx : Addr} {f : Str} {y : V} {u : Value} {fs : List (Str × V)} {Q : Unit → Shared → Prop} {E : Value → Shared → Prop} {A : Around}
/-- the first field -/
theorem aes_new (T : AexC X.K C) (I : Inv X pins σ H s) (e : H a = some (exo a C none)) (hno : PySem.W.takerIn X.K C f = some none) (ry : RelV y u)
    (go : ∀ d z, H d = none → d ≠ a → Inv X pins σ (upd (upd H d (exd d [(f, y)])) a (exo a C (some d))) z → Q () z) : wpAny (model X.prog X.w) A (setAttr (.ref a) f u) Q E s := by
  obtain ⟨cd, hcd, hdc⟩ := PySem.W.any_some T.hd
  obtain ⟨t1, ho⟩ := exo_at I.hok e
  have KI := I.kIn
  obtain ⟨hp, g, dr, t, os⟩ := s
  have J : PySem.W.InstAt hp a { cls := .ref C, dict := none, data := .fields #[.ref t1, .none, .none, .none, .bool false, .none] } C none := ⟨ho, rfl, rfl, trivial⟩
  refine PySem.W.set_plain KI J T.sa ?_
  refine PySem.W.osa_openX (s := ⟨hp, g, dr, t + 1, os⟩) PySem.F.store_ArithmeticError KI J T.ov hno fun b => ?_
  have hcls : PySem.W.Looks (model X.prog X.w) hp (classData C) cd := PySem.W.looks_clsIn KI hcd
  have hxs : a ≠ hp.objs.size := Nat.ne_of_lt (Heap.lt_size ho)
  have fin : ∀ h1 tk1, h1.Ns1 hp.objs.size (fun z => if z = f then some u else none) → Heap.SameBut hp.objs.size ((hp.push { cls := .type "dict", data := .dict #[] }).update a (fun o => { o with dict := some hp.objs.size })) h1 →
      Q () ⟨h1, g, dr, tk1, os⟩ := fun h1 tk1 hn1 hs1 => by
    have ha1 : (hp.push { cls := .type "dict", data := .dict #[] }).get? a = some { cls := .ref C, data := .fields #[.ref t1, .none, .none, .none, .bool false, .none] } := Heap.get?_push_of_some _ ho
    have dn : hp.objs.size ≤ hp.objs.size := Nat.le_refl _
    have hnd : H hp.objs.size = none := I.hok.fresh dn
    have kp : ∀ b o, b ≠ a → hp.get? b = some o → h1.get? b = some o := fun b o hb z =>
      (hs1.2 b (Nat.ne_of_lt (Heap.lt_size z))).trans ((Heap.get?_update_ne _ _ _ _ hb).trans (Heap.get?_push_of_some _ z))
    have hx1 : h1.get? a = some { cls := .ref C, dict := some hp.objs.size, data := .fields #[.ref t1, .none, .none, .none, .bool false, .none] } :=
      (hs1.2 a hxs).trans (Heap.get?_update_self _ ha1 rfl)
    have nd : ∀ {b : Addr} {o : Obj}, hp.get? b = some o → b ≠ hp.objs.size := fun {b o} z => Nat.ne_of_lt (Heap.lt_size z)
    have na : ∀ {b : Addr}, H b = none → b ≠ a := fun {b} n z => by rw [z, e] at n; cases n
    have dne : hp.objs.size ≠ a := fun z => hxs z.symm
    have U : Un X.fs [] H (upd (upd H hp.objs.size (exd hp.objs.size [(f, y)])) a (exo a C (some hp.objs.size))) hp h1 := {
      keep := fun b o z n _ _ => kp b o (na n) z
      slot := fun b o z n _ _ => ⟨o.slots, kp b o (na n) z⟩
      free := fun b o z n _ => by rw [upd_ne (na n), upd_ne (nd z)]; exact n
      there := fun b o z _ => by
        by_cases hb : b = a
        · rw [hb]; exact ⟨_, hx1⟩
        · exact ⟨o, kp b o hb z⟩
      tups := fun b xs z => by rw [upd_ne (at_ne e z exo_tup), upd_ne (ne_of_none z hnd)]; exact z
      frzs := fun b o v z => by rw [upd_ne (at_ne e z exo_frz), upd_ne (ne_of_none z hnd)]; exact z
      tbls := fun b ps z => ⟨#[], by rw [upd_ne (at_ne e z exo_tbl), upd_ne (ne_of_none z hnd), z]; simp⟩ }
    refine go hp.objs.size _ hnd dne (I.un (t' := tk1) U fun b o z => ?_)
    by_cases hb : b = a
    · subst hb; rw [upd_same] at z; cases z; exact exo_ok hx1
    · rw [upd_ne hb] at z
      by_cases hb2 : b = hp.objs.size
      · subst hb2; rw [upd_same] at z; cases z
        exact exd_ok hn1 (relO_put (fs := []) ry fun _ => True.intro)
      · rw [upd_ne hb2] at z
        refine (I.hok b o z).stay (fun c v hc q => kp c v ?_ q) (fun c hc => ?_) fun c xs hc => ?_
        · rcases hc with hc | hc
          · rw [hc]; exact hb
          · exact at_ne e hc exo_own
        · rw [upd_ne (at_ne e hc exo_own), upd_ne (ne_of_none hc hnd)]; exact hc
        · rw [upd_ne (at_ne e hc exo_tup), upd_ne (ne_of_none hc hnd)]; exact hc
  obtain ⟨nm, bs, mro, ns, qn, hd, sn, sb, ab, col, del⟩ := cd
  dsimp only at hdc
  subst hdc
  unfold Builtin.ObjectAttr.storeInOwnDict Builtin.ObjectAttr.ownDictForStores
  repeat (first | with_reducible refine PySem.HandSPX.store_in_new ?_ ?_ | with_reducible refine wpAny_loadPart_at ho ?_ | with_reducible refine hcls.at ?_ | wp_step)
  · exact ⟨_, #[], _, (Heap.get?_update_ne _ _ _ _ hxs.symm).trans (Heap.get?_push_at rfl rfl), rfl, fun q he => absurd he (by simp), fun _ => rfl⟩
  · exact fin
/-- a further field -/
theorem aes_old (T : AexC X.K C) (I : Inv X pins σ H s) (e : H a = some (exo a C (some dx))) (ed : H dx = some (exd dx fs)) (hl : fs.length ≤ 900) (hno : PySem.W.takerIn X.K C f = some none) (ry : RelV y u)
    (go : ∀ z, Inv X pins σ (upd H dx (exd dx ((f, y) :: fs))) z → Q () z) : wpAny (model X.prog X.w) A (setAttr (.ref a) f u) Q E s := by
  obtain ⟨cd, hcd, hdc⟩ := PySem.W.any_some T.hd
  obtain ⟨t1, ho⟩ := exo_at I.hok e
  obtain ⟨mA, hns, rel⟩ := exd_at I.hok ed
  have hw := within_of rel
  have KI := I.kIn
  obtain ⟨hp, g, dr, t, os⟩ := s
  obtain ⟨oD, esD, epD, hoD, hdD, hcD⟩ := hns.count hw
  have J : PySem.W.InstAt hp a { cls := .ref C, dict := some dx, data := .fields #[.ref t1, .none, .none, .none, .bool false, .none] } C (some oD) := ⟨ho, rfl, rfl, hoD⟩
  refine PySem.W.set_plain KI J T.sa ?_
  refine PySem.W.osa_openX (s := ⟨hp, g, dr, t + 1, os⟩) PySem.F.store_ArithmeticError KI J T.ov hno fun b => ?_
  have hcls : PySem.W.Looks (model X.prog X.w) hp (classData C) cd := PySem.W.looks_clsIn KI hcd
  have fin : ∀ h1 tk1, h1.Ns1 dx (fun z => if z = f then some u else mA z) → Heap.SameBut dx hp h1 → Q () ⟨h1, g, dr, tk1, os⟩ := fun h1 tk1 hn1 hs1 => by
    have hd1 : ∃ o, h1.get? dx = some o := by
      obtain ⟨o, _, _, z, _⟩ := hn1
      exact ⟨o, z⟩
    exact go _ (I.write (t' := tk1) (x := dx) (e := dx) (o := exd dx ((f, y) :: fs)) (by rw [ed]; exact True.intro) (.inl rfl) (fun b o hb z => (hs1.2 b hb).trans z) hd1 (exd_ok hn1 (relO_put ry rel)))
  obtain ⟨nm, bs, mro, ns, qn, hd, sn, sb, ab, col, del⟩ := cd
  dsimp only at hdc
  subst hdc
  unfold Builtin.ObjectAttr.storeInOwnDict Builtin.ObjectAttr.ownDictForStores
  repeat (first | with_reducible refine PySem.OEX.store_in_old hns hw (by rw [List.length_map]; omega) ?_ | with_reducible refine wpAny_loadPart_at ho ?_ | with_reducible refine hcls.at ?_ | wp_step)
  exact fin
/-- the base class' __init__ with a text: nothing of it is told -/
theorem aei_ok {us : List Value} {Q : Value → Shared → Prop} (T : AexC X.K C) (I : Inv X pins σ H s) (e : H a = some (exo a C none)) (hl : us.length ≤ sizeLine) (go : ∀ z, Inv X pins σ H z → Q .none z) :
    wpAny (model X.prog X.w) A (call (.builtin "ArithmeticError.__init__") (.ref a :: us)) Q E s := by
  obtain ⟨nm, N, q, bs, bm, hdct, sn, sub, ab, col, dd, k0, k1, k2, k3, k5, hC, hT⟩ := PySem.W.excInit_of I.kIn T.ini
  obtain ⟨t1, ho⟩ := exo_at I.hok e
  obtain ⟨hp, g, dr, t, os⟩ := s
  refine wpAny_call (PySem.HandSPX.init_base PySem.F.excBase_ArithmeticError hT hC ho hl fun h1 t2 k hx => ?_)
  have I2 := I.write (t' := t) (x := a) (e := a) (o := exo a C none) (by rw [e]; exact True.intro) (.inl rfl) k ⟨_, hx⟩ (exo_ok hx)
  have eu : upd H a (exo a C none) = H := funext fun b => by
    by_cases hb : b = a
    · rw [hb, upd_same, e]
    · rw [upd_ne hb]
  rw [eu] at I2
  exact go _ I2
end
/-! ### readings and rules -/
def tAeI (K : PySem.W.Frag) (ta : TA) : TE := fun σ H Q => ta σ H fun vs H1 => ∃ (a C : Addr) (ws : List V), vs = .ref a :: ws ∧ ws.length ≤ 1000 ∧ AexC K C ∧ H1 a = some (exo a C none) ∧ Q .non H1
def tAes (K : PySem.W.Frag) (f : Str) (to te : TE) : TS := fun D σ H => te σ H fun y H1 => to σ H1 fun x H2 => ∃ a C : Addr, x = .ref a ∧ AexC K C ∧ PySem.W.takerIn K C f = some none ∧
  ((H2 a = some (exo a C none) ∧ ∀ dx, H2 dx = none → dx ≠ a → D.nx σ (upd (upd H2 dx (exd dx [(f, y)])) a (exo a C (some dx)))) ∨
    ∃ (dx : Addr) (fs : List (Str × V)), H2 a = some (exo a C (some dx)) ∧ H2 dx = some (exd dx fs) ∧ fs.length ≤ 900 ∧ D.nx σ (upd H2 dx (exd dx ((f, y) :: fs))))
def tMkA (C : Addr) (sp : Sp) (ta : TA) : L2.St → Hp → L2.XK → Prop := fun σ H Q => ta σ H fun vs H1 => vs.length ≤ 1000 ∧ ∀ a, H1 a = none → sp (.ref a :: vs) (upd H1 a (exo a C none))
  (fun v H2 => v = .non ∧ ∃ (d : Addr) (fs : List (Str × V)), H2 a = some (exo a C (some d)) ∧ H2 d = some (exd d fs) ∧ H1 d = none ∧ Q (.ref C) (some d) (upd (del H2 a) d (.xd fs))) (fun _ _ _ => False)
section
variable {X : Cx} {o e : Expr} {es : List Expr} {to te : TE} {ta : TA} {f x : Str} {p p' p1 p2 pos : Pos} {B : Addr}
theorem pe_aei {pl : Sem Bool} (T : BexC X.K B) (hg : Gl X x) (hm : X.mg x = some (.ref B)) (hdb : (x == ("__debug__" : Str)) = false) (ha : PA X (e :: es) ta)
    (hc : eval (.Call (.Attribute (.Name x p1) "__init__" p2) (e :: es) [] pos) X.env = (do
      let ov ← eval (.Name x p1) X.env
      standAt p2.atName
      let (f, first) ← holding [ov] (getMethod ov "__init__" pl)
      callWith pos f first (backTo pos (starEach (e :: es) X.env)) (backToKw pos (keywordEach [] X.env))))
    (he : starEach (e :: es) X.env = (false, eval e X.env) :: starEach es X.env) (hpl : (backTo pos (starEach es X.env)).any (·.1) = false) :
    PE X (.Call (.Attribute (.Name x p1) "__init__" p2) (e :: es) [] pos) (tAeI X.K ta) := by
  refine ⟨fun pins s σ H Q I h => PySem.W.methodCall_KW (ld_glob I hg hm ?_ hdb) hc⟩
  refine PySem.W.method_cls I.kIn T.ga (PySem.W.cls_value I.kIn T.rd T.at_ rfl ?_)
  show wpAny _ _ (callWith pos (Value.builtin "ArithmeticError.__init__") [] (backTo pos (starEach (e :: es) X.env)) []) _ _ _
  refine PyProof.Rows.callWith_method1 (thn (ha.run pos pins _ σ H _ (I.tok _) h) fun us s1 ⟨vs, H1, I1, r1, a, C, ws, ev, hl, T', ea, q⟩ => ?_) he hpl
  subst ev
  cases r1 with
  | @cons _ u0 _ ur ra rw' =>
    obtain rfl : u0 = Value.ref a := ra
    exact aei_ok T' I1 ea (by rw [← Paired.length rw', sizeLine_eq]; omega) fun s2 J => ⟨.non, H1, J, rfl, q⟩
theorem ps_aes (ho : PE X o to) (he : PE X e te) (hs : swapsWith e (some (.Attribute o f p')) pos.line X.env = pure false) : PS X (.Assign [.Attribute o f p'] e pos) (tAes X.K f to te) := by
  refine ⟨fun pins s σ H D I h => plainObj_wpAny_Assign_Attribute (thn (he.run pins s σ H _ I h) fun v s1 hv => ?_) hs⟩
  obtain ⟨y, H1, I1, r1, q1⟩ := hv
  refine thn (ho.run pins s1 σ H1 _ I1 q1) fun u s2 hu => ?_
  obtain ⟨z, H2, I2, r2, a, C, ex, T, hno, q⟩ := hu
  subst ex
  obtain rfl : u = Value.ref a := r2
  rcases q with ⟨ea, q⟩ | ⟨dx, fs, ea, ed, hl, q⟩
  · exact aes_new T I2 ea hno r1 fun dx z n ne J => ⟨σ, _, J, q dx n ne⟩
  · exact aes_old T I2 ea ed hl hno r1 fun z J => ⟨σ, _, J, q⟩
theorem pmk_aex {CX : CXT} {C fI : Addr} {k : Nat} {fd : FuncData} {ps : List Str} {sp : Sp} (T : AexC X.K C) (iC : PySem.W.findIn X.K (.ref C) "__init__" = some (some (.ref fI))) (tI : PySem.W.typeIn X.K (.ref fI) = some (.type "function"))
    (F1 : FnOk X.prog X.w X.K X.mg X.base CX k fI fd ps sp) (hr : Room (k + 1) X.A) (hb : Binds X.K fd ps []) (hx : Passes CX X (fun _ _ _ => False)) (hg : Gl X x) (hm : X.mg x = some (.ref C)) (ha : PA X (e :: es) ta)
    (hdb : (x == ("__debug__" : Str)) = false) (he : starEach (e :: es) X.env = (false, eval e X.env) :: starEach es X.env) (hpl : (backTo pos (starEach es X.env)).any (·.1) = false) :
    PMk X (.Call (.Name x p) (e :: es) [] pos) (tMkA C sp ta) := by
  intro pins s σ H Q I h
  refine wpAny_Call_Name_kw (ld_glob I hg hm ?_ hdb)
  refine PySem.W.callWith_K (h₀ := X.base) I.ok.mod.kin T.kC (thn (ha.run pos pins s σ H _ I h) fun us s1 hs1 => ?_) he hpl
  obtain ⟨vs, H1, I1, r1, hz, q1⟩ := hs1
  refine ⟨I1.kIn, ?_⟩
  obtain ⟨nm, N, q, bs, bm, hdct, sn, sub, ab, col, dd, k0, k1, k2, k3, k5, hC, hT⟩ := PySem.W.excInit_of I1.kIn T.ini
  show wpAny _ _ (call (.ref C) us) _ _ _
  have KI := I1.kIn
  obtain ⟨hp, g, dr, tk, os⟩ := s1
  have hsz : hp.objs.size ≤ hp.objs.size + 1 := Nat.le_succ _
  have hn : H1 (hp.objs.size + 1) = none := I1.hok.fresh hsz
  have hq := q1 (hp.objs.size + 1) hn
  have kk : ∀ b o, hp.get? b = some o → ((hp.push (PySem.W.kdv_tup us)).push (PySem.HandSPX.excO C hp.objs.size)).get? b = some o := fun b o z => Heap.get?_push_of_some _ (Heap.get?_push_of_some _ z)
  have hget : ((hp.push (PySem.W.kdv_tup us)).push (PySem.HandSPX.excO C hp.objs.size)).get? (hp.objs.size + 1) = some (PySem.HandSPX.excO C hp.objs.size) := by heap_get
  have I2 := I1.laid (t' := tk) (a := hp.objs.size + 1) (o := exo (hp.objs.size + 1) C none) (h' := (hp.push (PySem.W.kdv_tup us)).push (PySem.HandSPX.excO C hp.objs.size)) kk hsz (exo_ok hget)
  have r2 : Vals (V.ref (hp.objs.size + 1) :: vs) (Value.ref (hp.objs.size + 1) :: us) := .cons rfl r1
  have hl : (Value.ref (hp.objs.size + 1) :: us ++ []).length = ps.length := by
    have z := r2.length
    rw [F1.len _ _ _ _ hq] at z
    rw [List.append_nil]
    exact z.symm
  have b0 := hb _ (Value.ref (hp.objs.size + 1) :: us) I2.kIn hl
  rw [List.append_nil] at b0
  have hus : us.length ≤ sizeLine := by rw [← Paired.length r1, sizeLine_eq]; omega
  have run := F1.run _ X.stack _ _ ⟨Value.ref (hp.objs.size + 1) :: us, []⟩ _ _ _ (fun _ _ _ => False) (hr.make C us []) (I2.env0.make C us []) b0 r2 hq
  refine wpAny_call (PySem.HandSPX.call_own PySem.F.excBase_ArithmeticError hT hC (PySem.W.looks_findIn KI iC) (fun self => PySem.W.bind_fn KI self tI) hus (codeAny_mono run fun r s2 hq2 => ?_))
  match r, hq2 with
  | .error er, hq2 => exact hx pins σ _ _ er s2 I2 hq2
  | .ok (.ret u), hq2 =>
    obtain ⟨v, H2, os2, bare2, un2, hok2, rv, ev, d, fs, ea, ed, hd1, q2⟩ := hq2
    subst ev
    obtain ⟨h2, g2, d2, t2, os'⟩ := s2
    exact ⟨rv, mk_end (raises_own T.exC T.tyC) I1 hsz kk un2 hok2 os2 bare2 ea ed hd1 q2⟩
end
end DV

namespace DV
open PySem L2
variable {Wx : L2.XK}
/-! ### raise -/
/-- what the __init__ of an error does: each argument becomes a field -/
def spI (g : Gx) (c : Nat) (ks : List Str) : Sp := fun vs H Q _ => ∃ a ws, vs = V.ref a :: ws ∧ ws.length = ks.length ∧ H a = some (exo a (g.cl c) none) ∧
  ∀ H' d, H' a = some (exo a (g.cl c) (some d)) → H' d = some (exd d (ks.zip ws).reverse) → H d = none → d ≠ a → (∀ b, b ≠ a → b ≠ d → H' b = H b) → Q .non H'
theorem spI_len {g : Gx} {c : Nat} {ks : List Str} {vs : List V} {H : Hp} {Q : VK} {E : L2.XK} (h : spI g c ks vs H Q E) : vs.length = ks.length + 1 := by
  obtain ⟨a, ws, rfl, l, _⟩ := h
  rw [List.length_cons, l]
structure XCls (P : Program) (w : World) (mg : Str → Option Value) (base : Heap) (g : Gx) (k c : Nat) (x : Str) (ks : List Str) : Prop where
  ex : ∃ fI fd ps, mg x = some (.ref (g.cl c)) ∧ AexC g.K (g.cl c) ∧ PySem.W.findIn g.K (.ref (g.cl c)) "__init__" = some (some (.ref fI)) ∧ PySem.W.typeIn g.K (.ref fI) = some (.type "function") ∧ Binds g.K fd ps [] ∧ FnOk P w g.K mg base CX0 k fI fd ps (spI g c ks)
theorem XCls.mono {P : Program} {w : World} {mg : Str → Option Value} {base : Heap} {g : Gx} {j k c : Nat} {x : Str} {ks : List Str} (h : XCls P w mg base g j c x ks) (l : j ≤ k) : XCls P w mg base g k c x ks := by
  obtain ⟨f, fd, ps, h1, h2, h3, h4, h5, h6⟩ := h.ex
  exact ⟨f, fd, ps, h1, h2, h3, h4, h5, h6.mono l⟩
theorem s_rse {X : Cx} {g : Gx} {fs : List FS} {e : Expr} {es : List Expr} {ies : List E} {x : Str} {ks : List Str} {p pos' pos : Pos} {c k : Nat} (M : XCls X.prog X.w X.mg X.base g k c x ks) (C : Cok g X) (tk : Tk X Wx) (hr : Room (k + 1) X.A) (hg : Gl X x)
    (ha : PA X (e :: es) (tAs g fs ies)) (hdb : (x == ("__debug__" : Str)) = false) (he : starEach (e :: es) X.env = (false, eval e X.env) :: starEach es X.env) (hpl : (backTo pos' (starEach es X.env)).any (·.1) = false) (hks : ks.length ≤ 1000) :
    PS X (.Raise (some (.Call (.Name x p) (e :: es) [] pos')) none pos) (tSt g Wx fs (.rse c ks ies)) := by
  obtain ⟨f, fd, ps, h1, h2, h3, h4, h5, h6⟩ := M.ex
  rw [← C.K] at h2 h3 h4 h5 h6
  refine PS.weak (ps_raise C.calm tk (pmk_aex h2 h3 h4 h6 hr h5 (fun _ _ _ _ _ _ _ z => z.elim) hg h1 ha hdb he hpl)) ?_
  rintro Dn σ H ⟨pv, Bn, Ow, Γ, o, rs, pn, he, po⟩
  simp only [ex] at he
  obtain ⟨⟨xs, Γ1⟩, e1, he⟩ := Option.bind_eq_some_iff.mp he
  obtain ⟨⟨ds, Γ2⟩, e2, he⟩ := Option.bind_eq_some_iff.mp he
  simp only [Option.ite_none_right_eq_some, Option.some.injEq, excOk, decide_eq_true_eq] at he
  obtain ⟨hl, rfl⟩ := he
  refine ⟨Bn, Ow, Γ, xs, Γ1, rs, e1, fun vs H1 O1 s1 r1 v1 => ?_⟩
  obtain ⟨O2, s2, r2, rp⟩ := fres_ok r1 v1 e2
  have l2 : ks.length = vs.length := by rw [hl, rp.len]
  refine ⟨by omega, fun a na => ⟨a, vs, rfl, l2.symm, upd_same, fun H' d q1 q2 hd hne hk => ⟨rfl, d, _, q1, q2, ?_, ?_⟩⟩⟩
  · rw [upd_ne hne] at hd; exact hd
  · rw [upd_ne hne] at hd
    have sm : Same H1 (upd (del H' a) d (.xd (ks.zip vs).reverse)) := fun b u hb => by
      have nb : b ≠ a := fun z => by rw [z, na] at hb; cases hb
      have nd : b ≠ d := fun z => by rw [z, hd] at hb; cases hb
      rw [upd_ne nd, del_ne nb, hk b nb nd, upd_ne nb]
      exact hb
    refine po d σ _ O2 ((s1.trans s2).trans (Stp.same sm)) (r2.same sm) pn ?_
    simp only [Rep]
    exact ⟨d, vs, rfl, fun z => r2.trk d z hd, l2, upd_same, rp.same sm⟩
/-! ### the readings of an __init__ -/
section
variable {g : Gx} {c : Nat} {K : PySem.W.Frag} {k1 k2 n0 n1 n2 msg : Str} {vs : List V} {H : Hp} {Q : VK} {E : L2.XK}
theorem xin2 (T : AexC K (g.cl c)) (t1 : PySem.W.takerIn K (g.cl c) k1 = some none) (t2 : PySem.W.takerIn K (g.cl c) k2 = some none) (h : spI g c [k1, k2] vs H Q E) :
    tSeq (tDrop (tAeI K (tCons (tVar 0) (tCons (tC (.str msg)) tNil)))) (tSeq (tAes K k1 (tVar 0) (tVar 1)) (tSeq (tAes K k2 (tVar 0) (tVar 2)) tNext)) { nx := fun _ H' => Q .non H', rt := Q } (L2.start [n0, n1, n2] vs) H := by
  obtain ⟨a, ws, rfl, l, ea, hQ⟩ := h
  match ws, l with
  | [y, z], _ =>
    refine ⟨.ref a, rfl, a, g.cl c, [.str msg], rfl, by simp, T, ea, y, rfl, .ref a, rfl, a, g.cl c, rfl, T, t1, .inl ⟨ea, fun dx nd ne => ?_⟩⟩
    refine ⟨z, rfl, .ref a, rfl, a, g.cl c, rfl, T, t2, .inr ⟨dx, [(k1, y)], upd_same, by rw [upd_ne ne, upd_same], by simp, ?_⟩⟩
    exact hQ _ dx (by rw [upd_ne ne.symm, upd_same]) (by rw [upd_same]; rfl) nd ne fun b b1 b2 => by rw [upd_ne b2, upd_ne b1, upd_ne b2]
end
end DV

namespace DV
open PySem L2
variable {Wx : L2.XK}
/-! ### an error that a suite holds: isinstance(e, C), e.f -/
/-- the suite holds the error -/
abbrev gE (g : Gx) (c : Nat) (e d : Addr) : Gx := ⟨g.K, g.cl, g.T, some (c, e, d), g.A⟩
section
variable {Y : Cx} {X : Cx} {g : Gx} {fs : List FS} {a dd DC : Addr} {oe : Obj} {pn : List (Addr × Obj)} {c0 i : Nat} {n y : Str} {p p2 pe pos : Pos}
end
end DV

namespace DV
open PySem L2
variable {Wx : L2.XK}
/-! ### data without an error inside -/
section
variable {g : Gx} {A : Addr → Prop} {H : Hp} {c : Nat} {e dd : Addr}
mutual
theorem rep_up (h0 : g.ea = none) : ∀ (d : D) (v : V), Rep g A H d v → Rep (gE g c e dd) A H d v
  | .non, _, h => by simpa [Rep] using h
  | .bl _, _, h => by simpa [Rep] using h
  | .int _, _, h => by simpa [Rep] using h
  | .str _, _, h => by simpa [Rep] using h
  | .scr _, _, h => by simpa [Rep] using h
  | .dct, _, h => by simpa [Rep] using h
  | .ref _, _, h => by simpa [Rep] using h
  | .lst ds, v, h => by
    simp only [Rep] at h ⊢
    obtain ⟨a, vs, q, n, s, r⟩ := h
    exact ⟨a, vs, q, n, s, reps_up h0 ds vs r⟩
  | .tup ds, v, h => by
    simp only [Rep] at h ⊢
    obtain ⟨a, vs, q, n, s, r⟩ := h
    exact ⟨a, vs, q, n, s, reps_up h0 ds vs r⟩
  | .obj _ ks ds, v, h => by
    simp only [Rep] at h ⊢
    obtain ⟨a, dx, vs, q, n, l, s, r⟩ := h
    exact ⟨a, dx, vs, q, n, l, s, reps_up h0 ds vs r⟩
  | .dic ks ds, v, h => by
    simp only [Rep] at h ⊢
    obtain ⟨a, vs, q, n, l, s, r⟩ := h
    exact ⟨a, vs, q, n, l, s, reps_up h0 ds vs r⟩
  | .exc _ ks ds, v, h => by
    simp only [Rep] at h ⊢
    obtain ⟨a, vs, q, n, l, s, r⟩ := h
    exact ⟨a, vs, q, n, l, s, reps_up h0 ds vs r⟩
  | .err _ ks ds, v, h => by
    simp only [Rep] at h
    obtain ⟨_, _, _, q, _⟩ := h
    rw [h0] at q; cases q
theorem reps_up (h0 : g.ea = none) : ∀ (ds : List D) (vs : List V), Reps g A H ds vs → Reps (gE g c e dd) A H ds vs
  | [], _, h => by simpa [Reps] using h
  | d :: ds, _, h => by
    simp only [Reps] at h ⊢
    obtain ⟨v, r, q, h1, h2⟩ := h
    exact ⟨v, r, q, rep_up h0 d v h1, reps_up h0 ds r h2⟩
end
mutual
theorem rep_dn : ∀ (d : D) (v : V), noE d = true → Rep (gE g c e dd) A H d v → Rep g A H d v
  | .non, _, _, h => by simpa [Rep] using h
  | .bl _, _, _, h => by simpa [Rep] using h
  | .int _, _, _, h => by simpa [Rep] using h
  | .str _, _, _, h => by simpa [Rep] using h
  | .scr _, _, _, h => by simpa [Rep] using h
  | .dct, _, _, h => by simpa [Rep] using h
  | .ref _, _, _, h => by simpa [Rep] using h
  | .lst ds, v, k, h => by
    simp only [Rep] at h ⊢
    simp only [noE] at k
    obtain ⟨a, vs, q, n, s, r⟩ := h
    exact ⟨a, vs, q, n, s, reps_dn ds vs k r⟩
  | .tup ds, v, k, h => by
    simp only [Rep] at h ⊢
    simp only [noE] at k
    obtain ⟨a, vs, q, n, s, r⟩ := h
    exact ⟨a, vs, q, n, s, reps_dn ds vs k r⟩
  | .obj _ ks ds, v, k, h => by
    simp only [Rep] at h ⊢
    simp only [noE] at k
    obtain ⟨a, dx, vs, q, n, l, s, r⟩ := h
    exact ⟨a, dx, vs, q, n, l, s, reps_dn ds vs k r⟩
  | .dic ks ds, v, k, h => by
    simp only [Rep] at h ⊢
    simp only [noE] at k
    obtain ⟨a, vs, q, n, l, s, r⟩ := h
    exact ⟨a, vs, q, n, l, s, reps_dn ds vs k r⟩
  | .exc _ ks ds, v, k, h => by
    simp only [Rep] at h ⊢
    simp only [noE] at k
    obtain ⟨a, vs, q, n, l, s, r⟩ := h
    exact ⟨a, vs, q, n, l, s, reps_dn ds vs k r⟩
  | .err _ ks ds, v, k, h => by simp [noE] at k
theorem reps_dn : ∀ (ds : List D) (vs : List V), noEs ds = true → Reps (gE g c e dd) A H ds vs → Reps g A H ds vs
  | [], _, _, h => by simpa [Reps] using h
  | d :: ds, _, k, h => by
    simp only [Reps] at h ⊢
    simp only [noEs, Bool.and_eq_true] at k
    obtain ⟨v, r, q, h1, h2⟩ := h
    exact ⟨v, r, q, rep_dn d v k.1 h1, reps_dn ds r k.2 h2⟩
end
end
/-- plain slots without an error inside -/
def plainG (Γ : Ct) : Bool := Γ.all fun s => match s with
  | some (d, false) => noE d
  | some (_, true) => false
  | none => true
section
variable {g : Gx} {Bn : Addr → Prop} {Ow O : List Addr} {H H' : Hp} {σ σs : L2.St} {Γ Γs Γ' : Ct} {c : Nat} {e dd : Addr}
theorem plainG_at {i : Nat} {d : D} {b : Bool} (h : plainG Γ = true) (q : Γ[i]? = some (some (d, b))) : b = false ∧ noE d = true := by
  have := List.all_eq_true.mp h _ (List.mem_of_getElem? q)
  cases b with
  | false => exact ⟨rfl, this⟩
  | true => cases this
/-- plain slots alone -/
theorem RS.plain {σ1 : L2.St} {Γ1 : Ct} (rs : RS g Bn Ow H σ Γ) (hl : σ1.length = Γ1.length) (hp : plainG Γ1 = true) (hs : ∀ (i : Nat) d, Γ1[i]? = some (some (d, false)) → ∃ v, σ1[i]? = some (some v) ∧ Rep g (Av Bn Ow) H d v) : RS g (Av Bn Ow) [] H σ1 Γ1 := by
  have av : ∀ a, Av (Av Bn Ow) [] a → Av Bn Ow a := fun a z => z.elim id fun z => nomatch z
  refine ⟨hl, fun i d h => ?_, fun i d h => ?_, fun i j d f a h => ?_, fun a h => rs.trl a (av a h), fun a _ => by simp, fun a h => rs.kf a (av a h), rs.tabs⟩
  · obtain ⟨v, q, r⟩ := hs i d h
    exact ⟨v, q, rep_less av r⟩
  · exact absurd (plainG_at hp h).1 Bool.noConfusion
  · exact absurd (plainG_at hp h).1 Bool.noConfusion
theorem nones_plain (k : Nat) : plainG (List.replicate k none) = true := by
  simp only [plainG, List.all_eq_true]
  intro x hx
  rw [List.eq_of_mem_replicate hx]
theorem RS.frame {k : Nat} (rs : RS g Bn Ow H σ Γ) (hl : σs.length = k) : RS g (Av Bn Ow) [] H σs (List.replicate k none) :=
  rs.plain (by rw [List.length_replicate]; exact hl) (nones_plain k) fun i d h => by
    rw [List.getElem?_replicate] at h
    split at h <;> cases h
/-- a frame behind what another one did that could not touch it -/
theorem RS.over (r0 : RS g Bn Ow H σ Γ) (s : Stp [] H O H') (t : Tb g.T H') : RS g Bn Ow H' σ Γ := by
  have kp : ∀ a, Vst g (Av Bn Ow) H a → (∀ o, H a = some o → nT o → H' a = some o) ∧ ¬ Av Bn Ow a := fun a z => ⟨fun o h q => s.keep0 a o h q (by simp), z.1⟩
  refine ⟨r0.len, fun i d h => ?_, fun i d h => ?_, r0.dist, fun a h => ?_, r0.sep, r0.kf, t⟩
  · obtain ⟨v, q, r⟩ := r0.slot i d h
    exact ⟨v, q, rep_mono kp _ _ r⟩
  · obtain ⟨a, q, m, r⟩ := r0.own i d h
    refine ⟨a, q, m, ?_⟩
    cases d with
    | lst ds => obtain ⟨ws, z1, z2⟩ := r; exact ⟨ws, s.keep0 a _ z1 nofun (by simp), reps_mono kp _ _ z2⟩
    | obj c ks ds => obtain ⟨dx, ws, l, z1, z2⟩ := r; exact ⟨dx, ws, l, s.keep0 a _ z1 nofun (by simp), reps_mono kp _ _ z2⟩
    | _ => exact r
  · rcases r0.trl a h with ⟨vs, q⟩ | ⟨C, dx, fl, q⟩
    · exact .inl ⟨vs, s.keep0 a _ q nofun (by simp)⟩
    · exact .inr ⟨C, dx, fl, s.keep0 a _ q nofun (by simp)⟩
theorem Stp.any (s : Stp [] H O H') : Stp Ow H Ow H' := ⟨fun a o h t _ => s.keep0 a o h t (by simp), fun _ h => .inl h⟩
theorem RS.up (h0 : g.ea = none) (rs : RS g Bn Ow H σ Γ) : RS (gE g c e dd) Bn Ow H σ Γ := by
  refine ⟨rs.len, fun i d h => ?_, fun i d h => ?_, rs.dist, rs.trl, rs.sep, rs.kf, rs.tabs⟩
  · obtain ⟨v, q, r⟩ := rs.slot i d h
    exact ⟨v, q, rep_up h0 _ _ r⟩
  · obtain ⟨a, q, m, r⟩ := rs.own i d h
    refine ⟨a, q, m, ?_⟩
    cases d with
    | lst ds => obtain ⟨ws, z1, z2⟩ := r; exact ⟨ws, z1, reps_up h0 _ _ z2⟩
    | obj c ks ds => obtain ⟨dx, ws, l, z1, z2⟩ := r; exact ⟨dx, ws, l, z1, reps_up h0 _ _ z2⟩
    | _ => exact r
theorem Vst.eq {a : Addr} {A : Addr → Prop} (h : Vst (gE g c e dd) A H a) : Vst g A H a := h
/-- tables alone: a lambda was made -/
theorem RS.ext (r0 : RS g Bn Ow H σ Γ) (k : LamX.ExtN H H') (t : Tb g.T H') : Stp Ow H Ow H' ∧ RS g Bn Ow H' σ Γ := by
  have s : Stp [] H [] H' := ⟨fun a o h n _ => k a o h n, fun _ h => .inl h⟩
  exact ⟨s.any, r0.over s t⟩
end
end DV

namespace DV
open PySem L2
/-! ### a def that calls what it got, and tells of the error: told(lambda: e) -/
section
variable {g : Gx} {fs0 : List FS} {B : Addr → Prop} {H : Hp} {σ : L2.St} {Γ : Ct}
end
section
variable {X : Cx} {g : Gx} {fs0 : List FS} {Ng : List Str} {x a be n q : Str} {sg : Scope} {g0 BE : Addr} {cdg : Value} {p2 q1 b0 : Stmt} {mid suite : List Stmt} {pa pb pc np pos' pos : Pos} {i2 iq : S} {im isu : List S} {ie nn : Nat} {all : List Nat} {d0 : D}
end
end DV

namespace DV
open PySem L2
/-! ### told(lambda: e), in the frame that asks -/
section
variable {X : Cx} {g : Gx} {fs fs0 : List FS} {d0 : D} {sd : Nat → List Str → List D → Option D} {ie : E} {x a : Str} {g0 c P : Addr} {k : Nat} {pg : Arguments} {bg : List Stmt} {sg : Scope} {dV kV doc pm cdv ct oc : Value} {an od : Option Addr} {osl : Array (Option Value)} {Ng : List Str}
  {params : Arguments} {body : Expr} {scope : Scope} {p lpos pos : Pos}
end
/-! ### a def that makes lambdas: its code object is at c -/
section
variable {P : Program} {w : World} {mg : Str → Option Value} {base : Heap} {g : Gx} {fs : List FS}
end
/-! ### the law behind the top, with tables -/
end DV

namespace DV
open PySem L2
variable {Wx : L2.XK}
section
variable {X : Cx} {g : Gx} {fs : List FS} {a dd : Addr} {oe : Obj} {pn : List (Addr × Obj)} {c0 i : Nat} {n y : Str} {p p2 pe pos tp : Pos} {es : List Expr} {kt : Nat} {Y : Cx} {e : Expr} {v : V} {vs : List V}
end
end DV

namespace DV
open PySem L2
/-- the qualified name of the lambdas of a def -/
abbrev lamQ (qual : Str) : Str := (qual ++ (".<locals>." : Str)) ++ ("<lambda>" : Str)
/-- a def's code object at c has a table, which is told -/
structure LamT (g : Gx) (base : Heap) (mg : Str → Option Value) (c : Addr) (qual : Str) : Prop where
  ex : ∃ P, LamX.TabB base mg c P ∧ (P, lamQ qual) ∈ g.T ∧ ∀ q ∈ g.T, q.1 = P → q.2 = lamQ qual
/-- a def of one parameter that calls it -/
structure Told (g : Gx) (mg : Str → Option Value) (x a : Str) (st : Stmt) : Prop where
  ex : ∃ (g0 : Addr) (oc : Value) (od : Option Addr) (kV doc pm : Value) (an : Option Addr) (cdv ct : Value) (osl : Array (Option Value)), mg x = some (.ref g0) ∧ PySem.W.keepIn g.K (.ref g0) = true ∧
    g.K.lookup g0 = some ⟨oc, od, .func (PySem.W.fnOf x x (defArgs st) (defBody st) (defScope st) .none kV doc pm an cdv ct), osl⟩ ∧ PySem.W.codeIn g.K cdv x = true ∧ L2.Binds g.K (PySem.W.fnOf x x (defArgs st) (defBody st) (defScope st) .none kV doc pm an cdv ct) [a] []
end DV

namespace DV
open PySem L2 PySem.Spec PyProof.Rows
/-! ### sorted list of ints -/
section
variable {X : Cx} {g : Gx}
variable {fs : List FS} {e : Expr} {es : List Expr} {ies : List E} {p pos : Pos}
end
/-! ### min of tuples of an int and a list of ints -/
section
variable {X : Cx} {g : Gx}
variable {fs : List FS} {e : Expr} {es : List Expr} {ies : List E} {p pos : Pos}
end
end DV

namespace DV
open PySem L2
section
variable {g : Gx} {fs : List FS} {H : Hp} {σ : St}
end
section
variable {X : Cx} {g : Gx} {fs : List FS}
end
end DV

namespace DV
open PySem L2 PySem.Spec
section
variable {X : Cx} {g : Gx} {fs : List FS} {a : Expr} {ia : E} {pos p p2 pos2 : Pos}
end
end DV

namespace DV
open PySem PySem.Spec PyProof.Rows L2 LamX
/-- the promise of a def, where no repr is under way -/
structure FnG (P : Program) (w : World) (K : PySem.W.Frag) (mg : Str → Option Value) (base : Heap) (CX : CXT) (k : Nat) (f : Addr) (fd : FuncData) (ps : List Str) (sp : Sp) : Prop where
  len : ∀ vs H Q E, sp vs H Q E → vs.length = ps.length
  run : ∀ (A : Around) (ot : List Env) (s : Shared) (H : Hp) (as : Args) (us : List Value) (vs : List V) (Q : VK) (E : XK), A.guards = some [] → Room k A → Env0 P w K mg base A ot s H → BindsTo s fd as (ps.zip us) → Vals vs us → sp vs H Q E →
    codeAny (model P w) A (.call (.ref f) as) (CR CX ot P w H s Q E) s
/-! ### defs over this promise -/
theorem FnG.mono {P : Program} {w : World} {K : PySem.W.Frag} {mg : Str → Option Value} {base : Heap} {CX : CXT} {j k : Nat} {f : Addr} {fd : FuncData} {ps : List Str} {sp : Sp} (h : FnG P w K mg base CX j f fd ps sp) (l : j ≤ k) : FnG P w K mg base CX k f fd ps sp :=
  ⟨h.len, fun A ot s H as us vs Q E hg hr he hb hv hs => h.run A ot s H as us vs Q E hg (hr.mono l) he hb hv hs⟩
theorem FnG.of {P : Program} {w : World} {K : PySem.W.Frag} {mg : Str → Option Value} {base : Heap} {CX : CXT} {k : Nat} {f : Addr} {fd : FuncData} {ps : List Str} {sp : Sp} (h : FnOk P w K mg base CX k f fd ps sp) : FnG P w K mg base CX k f fd ps sp :=
  ⟨h.len, fun A ot s H as us vs Q E _ hr he hb hv hs => h.run A ot s H as us vs Q E hr he hb hv hs⟩
/-- a def that can be called where no repr is under way -/
structure CalG (P : Program) (w : World) (mg : Str → Option Value) (base : Heap) (g : Gx) (k : Nat) (x : Str) (n : Nat) (F : FS) : Prop where
  ex : ∃ f fd ps, mg x = some (.ref f) ∧ PySem.W.keepIn g.K (.ref f) = true ∧ Binds g.K fd ps [] ∧ FnG P w g.K mg base CX0 k f fd ps (spF g n F)
section
variable {P : Program} {w : World} {mg : Str → Option Value} {base : Heap} {g : Gx} {fs : List FS}
theorem CalG.mono {j k : Nat} {x : Str} {n : Nat} {F : FS} (h : CalG P w mg base g j x n F) (l : j ≤ k) : CalG P w mg base g k x n F := by
  obtain ⟨f, fd, ps, h1, h2, h3, h4⟩ := h.ex
  exact ⟨f, fd, ps, h1, h2, h3, h4.mono l⟩
end
section
variable {X : Cx} {g : Gx} {fs : List FS} {e : Expr} {es : List Expr} {ies : List E} {x : Str} {p pos : Pos} {k i n : Nat} {F : FS}
end
end DV

namespace DV
open PySem L2
/-! ### repr of plain data, where no repr is under way -/
section
variable {X : Cx} {g : Gx} {A : Addr → Prop} {pins : List (Addr × Obj)} {σ : L2.St} {H : Hp} {s : Shared}
variable {fs : List FS} {e : Expr} {es : List Expr} {ies : List E} {p pos : Pos}
end
end DV

namespace DV
open PySem L2
variable {Wx : L2.XK}
/-! ### try: a call / except C as e: .. / further clauses that are never asked -/
section
variable {g : Gx} {Bn : Addr → Prop} {Ow : List Addr} {H : Hp} {σ : L2.St} {Γ : Ct} {c : Nat} {e dd : Addr}
theorem noG_at {i : Nat} {d : D} {b : Bool} (h : noG Γ = true) (q : Γ[i]? = some (some (d, b))) : noE d = true := List.all_eq_true.mp h _ (List.mem_of_getElem? q)
theorem RS.dn (rs : RS (gE g c e dd) Bn Ow H σ Γ) (hn : noG Γ = true) : RS g Bn Ow H σ Γ := by
  refine ⟨rs.len, fun i d h => ?_, fun i d h => ?_, rs.dist, rs.trl, rs.sep, rs.kf, rs.tabs⟩
  · obtain ⟨v, q, r⟩ := rs.slot i d h
    exact ⟨v, q, rep_dn _ _ (noG_at hn h) r⟩
  · have k := noG_at hn h
    obtain ⟨a, q, m, r⟩ := rs.own i d h
    refine ⟨a, q, m, ?_⟩
    cases d with
    | lst ds => obtain ⟨ws, z1, z2⟩ := r; exact ⟨ws, z1, reps_dn _ _ (by simpa only [noE] using k) z2⟩
    | obj c ks ds => obtain ⟨dx, ws, l, z1, z2⟩ := r; exact ⟨dx, ws, l, z1, reps_dn _ _ (by simpa only [noE] using k) z2⟩
    | _ => exact r
end
section
variable {X : Cx} {x n : Str} {cv : Value} {i : Nat} {bdy sui : List Stmt} {st0 : Stmt} {hdl : List ExceptHandler} {npq pos posb : Pos} {tb : WX → TS} {ts : Addr → Value → Option Addr → TS}
end
/-! ### calls that may raise, told at the caller's slots -/
def tRXS (g : Gx) (W : WX) (fs : List FS) (ie : E) : TE := fun σ H Q => tRX g (fun cl0 dx H1 => W cl0 dx σ H1) fs ie σ H Q
section
variable {X : Cx} {W : WX} {g : Gx} {fs : List FS} {e : Expr} {es : List Expr} {ie : E} {ies : List E} {x : Str} {p pos : Pos} {c k i n : Nat} {F : FS} {C f : Addr} {fd : FuncData} {ps : List Str} {sp : Sp} {E : XK}
theorem cs_call (c : CalX X.prog X.w X.mg X.base g k x n F) (C : Cok0 g X) (tk : Takes X W) (hF : fs[i]? = some F) (hn : ies.length = n) (hr : Room k X.A) (hg : Gl X x)
    (ha : PA X (e :: es) (tAw g fs ies)) (hdb : (x == ("__debug__" : Str)) = false) (he : starEach (e :: es) X.env = (false, eval e X.env) :: starEach es X.env) (hpl : (backTo pos (starEach es X.env)).any (·.1) = false) :
    PE X (.Call (.Name x p) (e :: es) [] pos) (tRXS g W fs (.call i ies)) := by
  obtain ⟨f, fd, ps, h1, h2, h3, h4⟩ := c.ex
  rw [← C.K] at h2 h3 h4
  refine PE.weak (pe_callS (E := WE W) h4 hr hg h1 h2 h3 (fun σ => passAt tk σ) ha hdb he hpl) ?_
  rintro σ H Q ⟨Bn, Ow, Γ, r, Γ', rs, he, hQ⟩
  obtain ⟨xs, Γ1, F', e1, e2, e3⟩ := ev_callD he
  rw [hF] at e2; cases e2
  exact ⟨Bn, Ow, Γ, xs, Γ1, rs, e1, fun vs H1 O1 s1 r1 v1 => callD_coreG r1 v1 e3 (by rw [← v1.len, ← evs_len e1, hn]) fun v H' O2 s2 r2 val => hQ v H' O2 (s1.trans s2) r2 val⟩
end
/-! ### the statement -/
section
variable {X : Cx} {g : Gx} {fs : List FS} {e : Expr} {ie : E} {x n : Str} {cv : Value} {i : Nat} {sui : List Stmt} {st0 : Stmt} {hdl : List ExceptHandler} {npq pos posb pc : Pos} {all : List Nat} {isu : List S}
end
end DV

namespace DV
open PySem L2
theorem Cok.tr {g : Gx} {X : Cx} (C : Cok g X) (pn : List (Addr × Obj)) (xe : Value → Shared → Prop) : Cok g (X.tr pn xe) := ⟨C.K, C.calm, C.hu, C.nd, C.ea⟩
end DV

namespace DV
open PySem L2

/-! ### a store: objects that are told by their numbers -/
def Gx.w (g : Gx) (A : List Addr) : Gx := { g with A := A }
section
variable {g : Gx} {A A' : List Addr} {av av' : Addr → Prop} {H H' : Hp}
theorem pre_get {α : Type} {xs ys : List α} {k : Nat} {x : α} (h : xs <+: ys) (e : xs[k]? = some x) : ys[k]? = some x := by
  obtain ⟨zs, rfl⟩ := h
  have hl := (List.getElem?_eq_some_iff.mp e).1
  rw [List.getElem?_append_left hl]
  exact e
mutual
theorem rep_w (p : A <+: A') : ∀ (d : D) (v : V), Rep (g.w A) av H d v → Rep (g.w A') av H d v
  | .non, _, h => by simpa [Rep] using h
  | .bl _, _, h => by simpa [Rep] using h
  | .int _, _, h => by simpa [Rep] using h
  | .str _, _, h => by simpa [Rep] using h
  | .lst ds, v, h => by
    simp only [Rep] at h ⊢
    obtain ⟨a, vs, e, n, s, r⟩ := h
    exact ⟨a, vs, e, n, s, reps_w p ds vs r⟩
  | .scr ns, v, h => by
    simp only [Rep] at h ⊢
    exact h
  | .tup ds, v, h => by
    simp only [Rep] at h ⊢
    obtain ⟨a, vs, e, n, s, r⟩ := h
    exact ⟨a, vs, e, n, s, reps_w p ds vs r⟩
  | .obj c ks ds, v, h => by
    simp only [Rep] at h ⊢
    obtain ⟨a, dx, vs, e, n, l, s, r⟩ := h
    exact ⟨a, dx, vs, e, n, l, s, reps_w p ds vs r⟩
  | .dct, v, h => by
    simp only [Rep] at h ⊢
    exact h
  | .dic ks ds, v, h => by
    simp only [Rep] at h ⊢
    obtain ⟨a, vs, e, n, l, s, r⟩ := h
    exact ⟨a, vs, e, n, l, s, reps_w p ds vs r⟩
  | .exc c ks ds, v, h => by
    simp only [Rep] at h ⊢
    obtain ⟨a, vs, e, n, l, s, r⟩ := h
    exact ⟨a, vs, e, n, l, s, reps_w p ds vs r⟩
  | .err c ks ds, v, h => by
    simp only [Rep] at h ⊢
    obtain ⟨e0, a, vs, e1, e, n, l, s, r⟩ := h
    exact ⟨e0, a, vs, e1, e, n, l, s, reps_w p ds vs r⟩
  | .ref k, v, h => by
    simp only [Rep] at h ⊢
    obtain ⟨a, e, rfl⟩ := h
    exact ⟨a, pre_get p e, rfl⟩
theorem reps_w (p : A <+: A') : ∀ (ds : List D) (vs : List V), Reps (g.w A) av H ds vs → Reps (g.w A') av H ds vs
  | [], _, h => by simpa [Reps] using h
  | d :: ds, _, h => by
    simp only [Reps] at h ⊢
    obtain ⟨v, r, e, h1, h2⟩ := h
    exact ⟨v, r, e, rep_w p d v h1, reps_w p ds r h2⟩
end
theorem own_w (p : A <+: A') {d : D} {a : Addr} (h : OwnA (g.w A) av H d a) : OwnA (g.w A') av H d a := by
  cases d with
  | lst ds => obtain ⟨vs, e, r⟩ := h; exact ⟨vs, e, reps_w p _ _ r⟩
  | obj c ks ds => obtain ⟨dx, vs, l, e, r⟩ := h; exact ⟨dx, vs, l, e, reps_w p _ _ r⟩
  | _ => exact h
theorem RS.w {Bn : Addr → Prop} {Ow : List Addr} {σ : St} {Γ : Ct} (r : RS (g.w A) Bn Ow H σ Γ) (p : A <+: A') : RS (g.w A') Bn Ow H σ Γ where
  len := r.len
  slot := fun i d h => let ⟨v, e, q⟩ := r.slot i d h; ⟨v, e, rep_w p _ _ q⟩
  own := fun i d h => let ⟨a, e, m, q⟩ := r.own i d h; ⟨a, e, m, own_w p q⟩
  dist := r.dist
  trl := r.trl
  sep := r.sep
  kf := r.kf
  tabs := r.tabs
end
abbrev Bx (Bn : Addr → Prop) (A : List Addr) : Addr → Prop := fun a => Bn a ∨ a ∈ A
/-- the frame beside a store -/
structure SS (g : Gx) (A : List Addr) (Bn : Addr → Prop) (Ow : List Addr) (H : Hp) (σ : St) (Γ : Ct) (M : List D) : Prop where
  rs : RS (g.w A) (Bx Bn A) Ow H σ Γ
  len : A.length = M.length
  nd : A.Nodup
  sepA : ∀ a, a ∈ A → ¬ Bn a
  cell : ∀ (k : Nat) d a, M[k]? = some d → A[k]? = some a → OwnA (g.w A) (Av (Bx Bn A) Ow) H d a
/-- a step of frame and store -/
structure Sm (A Ow : List Addr) (H : Hp) (A' Ow' : List Addr) (H' : Hp) : Prop where
  pre : A <+: A'
  keep0 : ∀ a o, H a = some o → nT o → a ∉ Ow → a ∉ A → H' a = some o
  grow : ∀ a, a ∈ Ow' ∨ a ∈ A' → a ∈ Ow ∨ a ∈ A ∨ Nw H a
theorem Sm.refl (A Ow : List Addr) (H : Hp) : Sm A Ow H A Ow H := ⟨List.prefix_refl _, fun _ _ h _ _ _ => h, fun _ h => h.elim .inl fun h => .inr (.inl h)⟩
theorem Sm.trans {A1 O1 A2 O2 A3 O3 : List Addr} {H1 H2 H3 : Hp} (a : Sm A1 O1 H1 A2 O2 H2) (b : Sm A2 O2 H2 A3 O3 H3) : Sm A1 O1 H1 A3 O3 H3 where
  pre := a.pre.trans b.pre
  keep0 := fun x o h t n1 n2 => b.keep0 x o (a.keep0 x o h t n1 n2) t (fun z => by
    rcases a.grow x (.inl z) with q | q | q
    · exact n1 q
    · exact n2 q
    · exact q o h t) fun z => by
    rcases a.grow x (.inr z) with q | q | q
    · exact n1 q
    · exact n2 q
    · exact q o h t
  grow := fun x h => by
    rcases b.grow x h with q | q | q
    · exact a.grow x (.inl q)
    · exact a.grow x (.inr q)
    · by_cases m : x ∈ O1
      · exact .inl m
      · by_cases m2 : x ∈ A1
        · exact .inr (.inl m2)
        · exact .inr (.inr fun o e t => q o (a.keep0 x o e t m m2) t)
theorem Sm.of {A Ow Ow' : List Addr} {H H' : Hp} (s : Stp Ow H Ow' H') : Sm A Ow H A Ow' H' := ⟨List.prefix_refl _, fun a o h t n _ => s.keep0 a o h t n, fun a h => by
  rcases h with h | h
  · exact (s.grow a h).imp id .inr
  · exact .inr (.inl h)⟩
section
variable {g : Gx} {A A' : List Addr} {Bn : Addr → Prop} {Ow Ow' : List Addr} {H H' : Hp} {σ σ' : St} {Γ Γ' : Ct} {M M' : List D}
theorem sm_vst (s : Sm A Ow H A' Ow' H') (kf : ∀ a, a ∈ Ow' ∨ a ∈ A' → g.K.lookup a = none) : ∀ a, Vst g (Av (Bx Bn A) Ow) H a → (∀ o, H a = some o → nT o → H' a = some o) ∧ ¬ Av (Bx Bn A') Ow' a := fun a ⟨n, t⟩ => by
  have n1 : ¬ Bn a := fun z => n (.inl (.inl z))
  have n2 : a ∉ A := fun z => n (.inl (.inr z))
  have n3 : a ∉ Ow := fun z => n (.inr z)
  refine ⟨fun o h t => s.keep0 a o h t n3 n2, fun z => ?_⟩
  have z' : a ∈ Ow' ∨ a ∈ A' := by
    rcases z with (z | z) | z
    · exact absurd z n1
    · exact .inr z
    · exact .inl z
  rcases t with ⟨o, t, nt⟩ | ⟨o, t⟩
  · rcases s.grow a z' with q | q | q
    · exact n3 q
    · exact n2 q
    · exact q o t nt
  · rw [show g.K.lookup a = none from kf a z'] at t; cases t
theorem SS.kf (r : SS g A Bn Ow H σ Γ M) : ∀ a, a ∈ Ow ∨ a ∈ A → g.K.lookup a = none := fun a h => r.rs.kf a (h.elim .inr fun h => .inl (.inr h))
theorem Rep.sm {d : D} {v : V} (h : Rep (g.w A) (Av (Bx Bn A) Ow) H d v) (s : Sm A Ow H A' Ow' H') (r : SS g A' Bn Ow' H' σ' Γ' M') : Rep (g.w A') (Av (Bx Bn A') Ow') H' d v :=
  rep_w s.pre d v (rep_mono (g := g.w A) (sm_vst (g := g) s r.kf) d v h)
theorem Reps.sm {d : List D} {v : List V} (h : Reps (g.w A) (Av (Bx Bn A) Ow) H d v) (s : Sm A Ow H A' Ow' H') (r : SS g A' Bn Ow' H' σ' Γ' M') : Reps (g.w A') (Av (Bx Bn A') Ow') H' d v :=
  reps_w s.pre d v (reps_mono (g := g.w A) (sm_vst (g := g) s r.kf) d v h)
theorem Val.sm {r : RV} {v : V} (h : Val (g.w A) (Bx Bn A) Ow H σ Γ r.dn v) (s : Sm A Ow H A' Ow' H') (rs : SS g A' Bn Ow' H' σ Γ' M') : Val (g.w A') (Bx Bn A') Ow' H' σ Γ' r.dn v := by
  cases r with
  | fz x => exact Rep.sm h s rs
  | nw x => exact Rep.sm h s rs
  | sl i => exact h
theorem SS.ad {k : Nat} {a : Addr} (r : SS g A Bn Ow H σ Γ M) (e : A[k]? = some a) : a ∈ A ∧ a ∉ Ow := by
  have m : a ∈ A := by
    obtain ⟨h, rfl⟩ := List.getElem?_eq_some_iff.mp e
    exact List.getElem_mem h
  exact ⟨m, r.rs.sep a (.inr m)⟩
/-- a step that leaves the store -/
theorem SS.step (r : SS g A Bn Ow H σ Γ M) (s : Stp Ow H Ow' H') (rs : RS (g.w A) (Bx Bn A) Ow' H' σ' Γ') : SS g A Bn Ow' H' σ' Γ' M :=
  ⟨rs, r.len, r.nd, r.sepA, fun k d a h1 h2 => (r.cell k d a h1 h2).step (r.ad h2).2 s rs⟩
theorem SS.same (r : SS g A Bn Ow H σ Γ M) (s : Same H H') : SS g A Bn Ow H' σ Γ M := r.step (Stp.same s) (r.rs.same s)
theorem bx_or {p : Addr} : orB (Bx Bn A) p = Bx Bn (A ++ [p]) := by
  funext a
  simp only [orB, Bx, List.mem_append, List.mem_singleton, or_assoc]
/-- a new owned object becomes one of the store -/
theorem SS.alc {d : D} {v : V} (r : SS g A Bn Ow H σ Γ M) (h : Val (g.w A) (Bx Bn A) Ow H σ Γ (.nw d) v) :
    ∃ A' Ow', Sm A Ow H A' Ow' H ∧ SS g A' Bn Ow' H σ Γ (M ++ [d]) ∧ Rep (g.w A') (Av (Bx Bn A') Ow') H (.ref M.length) v := by
  obtain ⟨a, rfl, m, o, no⟩ := h
  have na : a ∉ A := fun z => r.rs.sep a (.inr z) m
  have nb : ¬ Bn a := fun z => r.rs.sep a (.inl z) m
  have r2 := (r.rs.ban (d := d) m no).w (A' := A ++ [a]) (List.prefix_append _ _)
  rw [bx_or] at r2
  have k1 : ∀ b, Av (Bx Bn (A ++ [a])) (Ow.filter fun x => decide (x ≠ a)) b → Av (Bx Bn A) Ow b := fun b z => by
    rcases z with (z | z) | z
    · exact .inl (.inl z)
    · rcases List.mem_append.mp z with z | z
      · exact .inl (.inr z)
      · rw [List.mem_singleton.mp z]; exact .inr m
    · exact .inr (mem_ne z).1
  refine ⟨A ++ [a], Ow.filter fun x => decide (x ≠ a), ⟨List.prefix_append _ _, fun _ _ h _ _ _ => h, fun b z => ?_⟩, ⟨r2, by simp [r.len], ?_, fun b z => ?_, fun k e b h1 h2 => ?_⟩, ?_⟩
  · rcases z with z | z
    · exact .inl (mem_ne z).1
    · rcases List.mem_append.mp z with z | z
      · exact .inr (.inl z)
      · rw [List.mem_singleton.mp z]; exact .inl m
  · refine List.nodup_append.mpr ⟨r.nd, by simp, fun x hx y hy => ?_⟩
    rw [List.mem_singleton.mp hy]
    exact fun z => na (z ▸ hx)
  · rcases List.mem_append.mp z with z | z
    · exact r.sepA b z
    · rw [List.mem_singleton.mp z]; exact nb
  · by_cases hk : k < M.length
    · rw [List.getElem?_append_left hk] at h1
      rw [List.getElem?_append_left (by rw [r.len]; exact hk)] at h2
      exact own_w (List.prefix_append _ _) (own_less k1 (r.cell k e b h1 h2))
    · rw [List.getElem?_append_right (by omega)] at h1
      rw [List.getElem?_append_right (by rw [r.len]; omega)] at h2
      rw [r.len] at h2
      cases hz : k - M.length with
      | zero =>
        rw [hz] at h1 h2
        simp only [List.getElem?_cons_zero, Option.some.injEq] at h1 h2
        subst h1; subst h2
        exact own_w (List.prefix_append _ _) (own_less k1 o)
      | succ n => rw [hz] at h1; simp at h1
  · simp only [Rep]
    refine ⟨a, ?_, rfl⟩
    show (A ++ [a])[M.length]? = some a
    rw [List.getElem?_append_right (by rw [r.len]; exact Nat.le_refl _), r.len, Nat.sub_self]
    rfl
theorem set_get {α : Type} {xs : List α} {k j : Nat} {x y : α} (h : (xs.set k x)[j]? = some y) : (j = k ∧ y = x) ∨ (j ≠ k ∧ xs[j]? = some y) := by
  by_cases e : k = j
  · subst e
    have hl : k < xs.length := by
      have := (List.getElem?_eq_some_iff.mp h).1
      rwa [List.length_set] at this
    rw [List.getElem?_set_self hl] at h
    cases h
    exact .inl ⟨rfl, rfl⟩
  · rw [List.getElem?_set_ne e] at h
    exact .inr ⟨fun z => e z.symm, h⟩
theorem nd_ne {k j : Nat} {a b : Addr} (nd : A.Nodup) (h1 : A[k]? = some a) (h2 : A[j]? = some b) (n : j ≠ k) : b ≠ a := fun z => by
  subst z
  exact n ((List.getElem?_inj (List.getElem?_eq_some_iff.mp h2).1 nd).mp (h2.trans h1.symm))
/-- an object of the store is rewritten -/
theorem SS.mutG {k : Nat} {a : Addr} {d : D} {o : HO} (r : SS g A Bn Ow H σ Γ M) (ha : A[k]? = some a) (hL : LI (upd H a o) a) (ho : OwnA (g.w A) (Av (Bx Bn A) Ow) (upd H a o) d a) :
    SS g A Bn Ow (upd H a o) σ Γ (M.set k d) ∧ Sm A Ow H A Ow (upd H a o) := by
  have m := (r.ad ha).1
  have vs := ban_vst (g := g.w A) (H := H) (o := o) (A := Av (Bx Bn A) Ow) (p := a) (.inl (.inr m))
  refine ⟨⟨r.rs.updB (.inr m) hL, by rw [List.length_set]; exact r.len, r.nd, r.sepA, fun j e b h1 h2 => ?_⟩, ⟨List.prefix_refl _, fun b x h _ _ n => ?_, fun b z => z.elim .inl fun z => .inr (.inl z)⟩⟩
  · rcases set_get h1 with ⟨rfl, rfl⟩ | ⟨n, h1⟩
    · rw [ha] at h2; cases h2
      exact ho
    · have nb := nd_ne r.nd ha h2 n
      have q := r.cell j e b h1 h2
      cases e with
      | lst es => obtain ⟨us, e2, r2⟩ := q; exact ⟨us, by rw [upd_ne nb]; exact e2, reps_mono vs _ _ r2⟩
      | obj c ks es => obtain ⟨dx, us, l, e2, r2⟩ := q; exact ⟨dx, us, l, by rw [upd_ne nb]; exact e2, reps_mono vs _ _ r2⟩
      | _ => exact q
  · have z : b ≠ a := fun z => n (by rw [z]; exact m)
    rw [upd_ne z]; exact h
theorem SS.mutO {k c : Nat} {a dx : Addr} {ks : List Str} {ds : List D} {ws : List V} (r : SS g A Bn Ow H σ Γ M) (ha : A[k]? = some a) (l : ks.length = ws.length) (q : Reps (g.w A) (Av (Bx Bn A) Ow) H ds ws) :
    SS g A Bn Ow (upd H a (.ins (g.cl c) dx (ks.zip ws))) σ Γ (M.set k (.obj c ks ds)) ∧ Sm A Ow H A Ow (upd H a (.ins (g.cl c) dx (ks.zip ws))) := by
  have vs := ban_vst (g := g.w A) (H := H) (o := .ins (g.cl c) dx (ks.zip ws)) (A := Av (Bx Bn A) Ow) (p := a) (.inl (.inr (r.ad ha).1))
  exact r.mutG ha (.inr ⟨_, _, _, upd_same⟩) ⟨dx, ws, l, upd_same, reps_mono vs _ _ q⟩
/-! ### a look at the store -/
/-- objects in the place of their numbers, down to a depth -/
def snap (M : List D) : Nat → D → D
  | n + 1, .ref k => match M[k]? with
    | some (.obj c ks ds) => .obj c ks (ds.map (snap M n))
    | some (.lst ds) => .lst (ds.map (snap M n))
    | _ => .ref k
  | _, d => d
def snapT (M : List D) (n : Nat) (b : Bool) (d : D) : D := if b then (match d with
  | .lst ds => .lst (ds.map (snap M n))
  | .tup ds => .tup (ds.map (snap M n))
  | d => d) else snap M n d
/-- slots that are looked into: slot, depth, and whether it is its items -/
def snapG (M : List D) : List (Nat × Nat × Bool) → Ct → Ct
  | [], Γ => Γ
  | (i, n, b) :: is, Γ => match Γ[i]? with
    | some (some (d, false)) => snapG M is (Γ.set i (some (snapT M n b d, false)))
    | _ => snapG M is Γ
theorem reps_map {f : D → D} {av : Addr → Prop} {g : Gx} {ds : List D} {vs : List V} (hf : ∀ d v, Rep g av H d v → Rep g av H (f d) v) (h : Reps g av H ds vs) : Reps g av H (ds.map f) vs := by
  induction ds generalizing vs with
  | nil => exact h
  | cons d ds ih =>
    simp only [Reps] at h
    obtain ⟨v, r, rfl, h1, h2⟩ := h
    rw [List.map_cons]
    simp only [Reps]
    exact ⟨v, r, rfl, hf d v h1, ih h2⟩
theorem snap_ok {g : Gx} {av : Addr → Prop} (hc : ∀ (k : Nat) d a, M[k]? = some d → g.A[k]? = some a → ¬ av a ∧ OwnA g av H d a) : ∀ (n : Nat) (d : D) (v : V), Rep g av H d v → Rep g av H (snap M n d) v
  | 0, d, v, h => by cases d <;> exact h
  | n + 1, d, v, h => by
    cases d with
    | ref k =>
      have h' := h
      simp only [Rep] at h'
      obtain ⟨a, ea, rfl⟩ := h'
      simp only [snap]
      split
      · rename_i c ks ds e
        obtain ⟨na, dx, vs, l, s, r⟩ := hc k _ a e ea
        simp only [Rep]
        exact ⟨a, dx, vs, rfl, na, l, s, reps_map (snap_ok hc n) r⟩
      · rename_i ds e
        obtain ⟨na, vs, s, r⟩ := hc k _ a e ea
        simp only [Rep]
        exact ⟨a, vs, rfl, na, s, reps_map (snap_ok hc n) r⟩
      · exact h
    | _ => exact h
theorem snapT_ok {g : Gx} {av : Addr → Prop} (hc : ∀ (k : Nat) d a, M[k]? = some d → g.A[k]? = some a → ¬ av a ∧ OwnA g av H d a) {n : Nat} {b : Bool} {d : D} {v : V} (h : Rep g av H d v) : Rep g av H (snapT M n b d) v := by
  unfold snapT
  split
  · split
    · simp only [Rep] at h ⊢
      obtain ⟨a, vs, e, na, s, r⟩ := h
      exact ⟨a, vs, e, na, s, reps_map (snap_ok hc n) r⟩
    · simp only [Rep] at h ⊢
      obtain ⟨a, vs, e, na, s, r⟩ := h
      exact ⟨a, vs, e, na, s, reps_map (snap_ok hc n) r⟩
    · exact h
  · exact snap_ok hc n d v h
/-- another reading of a plain slot -/
theorem RS.reset {g : Gx} {i : Nat} {d : D} (rs : RS g Bn Ow H σ Γ) (hi : ∃ d0, Γ[i]? = some (some (d0, false))) (h : ∀ v, σ[i]? = some (some v) → Rep g (Av Bn Ow) H d v) : RS g Bn Ow H σ (Γ.set i (some (d, false))) := by
  obtain ⟨d0, hi⟩ := hi
  refine ⟨by rw [List.length_set]; exact rs.len, fun j e q => ?_, fun j e q => ?_, fun j k e f a q1 q2 => ?_, rs.trl, rs.sep, rs.kf, rs.tabs⟩
  · rcases set_get q with ⟨z, w⟩ | ⟨_, w⟩
    · obtain ⟨v, e1, _⟩ := rs.slot i d0 hi
      cases w
      rw [z]
      exact ⟨v, e1, h v e1⟩
    · exact rs.slot j e w
  · rcases set_get q with ⟨_, w⟩ | ⟨_, w⟩
    · cases w
    · exact rs.own j e w
  · rcases set_get q1 with ⟨_, w1⟩ | ⟨_, w1⟩
    · cases w1
    · rcases set_get q2 with ⟨_, w2⟩ | ⟨_, w2⟩
      · cases w2
      · exact rs.dist j k e f a w1 w2
theorem snapG_ok {g : Gx} (hc : ∀ (k : Nat) d a, M[k]? = some d → g.A[k]? = some a → ¬ Av Bn Ow a ∧ OwnA g (Av Bn Ow) H d a) : ∀ (is : List (Nat × Nat × Bool)) {Γ : Ct}, RS g Bn Ow H σ Γ → RS g Bn Ow H σ (snapG M is Γ)
  | [], Γ, rs => rs
  | (i, n, b) :: is, Γ, rs => by
    unfold snapG
    split
    · rename_i d e
      refine snapG_ok hc is (rs.reset ⟨d, e⟩ fun v hv => ?_)
      obtain ⟨w, e1, r1⟩ := rs.slot i d e
      rw [hv] at e1; cases e1
      exact snapT_ok hc r1
    · exact snapG_ok hc is rs
theorem RS.lessB {g : Gx} {Bn' : Addr → Prop} (rs : RS g Bn Ow H σ Γ) (k : ∀ a, Bn' a → Bn a) : RS g Bn' Ow H σ Γ := by
  have kk : ∀ a, Av Bn' Ow a → Av Bn Ow a := fun a h => h.imp (k a) id
  exact ⟨rs.len, fun i d h => let ⟨v, e, q⟩ := rs.slot i d h; ⟨v, e, rep_less kk q⟩, fun i d h => let ⟨a, e, m, q⟩ := rs.own i d h; ⟨a, e, m, own_less kk q⟩, rs.dist, fun a h => rs.trl a (kk a h), fun a h => rs.sep a (k a h), fun a h => rs.kf a (kk a h), rs.tabs⟩
/-! data that stand apart from any list and object -/
mutual
def safe : D → Bool
  | .non => true
  | .bl _ => true
  | .int _ => true
  | .str _ => true
  | .tup ds => safes ds
  | _ => false
def safes : List D → Bool
  | [] => true
  | d :: ds => safe d && safes ds
end
def safeR : RV → Bool
  | .fz d => safe d
  | .nw (.lst ds) => safes ds
  | _ => false
/-- all slots plain -/
def flat (Γ : Ct) : Ct := Γ.map fun s => s.map fun p => (p.1, false)
def lookG (M : List D) (is : List (Nat × Nat × Bool)) (Γ : Ct) : Ct := snapG M is (flat Γ)
theorem flat_get {i : Nat} {d : D} {b : Bool} (h : (flat Γ)[i]? = some (some (d, b))) : b = false ∧ ∃ b', Γ[i]? = some (some (d, b')) := by
  unfold flat at h
  rw [List.getElem?_map] at h
  cases e : Γ[i]? with
  | none => rw [e] at h; simp at h
  | some s =>
    rw [e] at h
    cases s with
    | none => simp at h
    | some p =>
      simp at h
      exact ⟨h.2, p.2, by rw [← h.1]⟩
theorem RS.flt {g : Gx} (rs : RS g Bn Ow H σ Γ) : RS g Bn [] H σ (flat Γ) := by
  have kk : ∀ a, Av Bn [] a → Av Bn Ow a := fun a h => h.elim .inl fun z => (by cases z)
  refine ⟨by unfold flat; rw [List.length_map]; exact rs.len, fun i d q => ?_, fun i d q => ?_, fun i j d e a q1 q2 => ?_, fun a h => rs.trl a (kk a h), fun a h z => (by cases z), fun a h => rs.kf a (kk a h), rs.tabs⟩
  · obtain ⟨_, b, q⟩ := flat_get q
    cases b with
    | false => obtain ⟨v, e, r⟩ := rs.slot i d q; exact ⟨v, e, rep_less kk r⟩
    | true =>
      obtain ⟨a, e, m, r⟩ := rs.own i d q
      refine ⟨_, e, (own_less kk r).rep fun z => ?_⟩
      rcases z with z | z
      · exact rs.sep a z m
      · cases z
  · cases (flat_get q).1
  · cases (flat_get q1).1
theorem SS.look (r : SS g A Bn Ow H σ Γ M) (is : List (Nat × Nat × Bool)) : RS (g.w A) Bn [] H σ (lookG M is Γ) := by
  refine snapG_ok (fun k d a h1 h2 => ⟨fun z => ?_, own_less (fun b z => ?_) (r.cell k d a h1 h2)⟩) is ((r.rs.lessB fun a h => .inl h).flt)
  · have h2 : A[k]? = some a := h2
    rcases z with z | z
    · exact r.sepA a (r.ad h2).1 z
    · cases z
  · rcases z with z | z
    · exact .inl (.inl z)
    · cases z
end
end DV

namespace DV
open PySem L2

/-! ### the language beside a store: expressions -/
abbrev FM := Ct → List D → Option (RV × List D)
inductive XE where
  | stuck
  | raw (e : E)
  | snp (is : List (Nat × Nat × Bool)) (e : E)
  | rfld (o : E) (c : Nat) (nm : Str)
  | callS (k : Nat) (xs : List XE)
  | callM (k : Nat) (xs : List XE)
  | methM (c : Nat) (nm : Str) (k : Nat) (o : E) (xs : List XE)
  | mkM (c k : Nat) (xs : List XE)
  | alc (x : XE)
  | cmp (op : COp) (a b : XE)
  | and (a b : XE)
  | or (a b : XE)
  | not (a : XE)
  | tup (xs : List XE)
  | lst (xs : List XE)
  | ixX (a : XE) (b : E)
  | bor (i : Nat) (e : E)
  | methK (c : Nat) (nm : Str) (k : Nat) (p : List Nat) (o : E) (xs : List XE)
  | ownM (op : OOp) (c k n : Nat) (a b : XE)
  | sem (F : List FS → List (Ct → List D → Option (RV × List D)) → Ct → List D → Option (RV × Ct × List D))
def plG (ds : List D) : Ct := ds.map fun d => some (d, false)
/-- a field of an object of the store -/
def rfldD (M : List D) (c : Nat) (nm : Str) : D → Option D
  | .ref k => match M[k]? with
    | some (.obj c' ks ds) => if c' = c then fldL nm ks ds else none
    | _ => none
  | _ => none
/-- an object of the store, of the class c, without a field of that name -/
def refO (M : List D) (c : Nat) (nm : Str) : D → Bool
  | .ref k => match M[k]? with
    | some (.obj c' ks _) => c' == c && !(ks.contains nm)
    | _ => false
  | _ => false
def noSl : RV → Bool
  | .sl _ => false
  | _ => true
/-- a slot with a list of the store: the list itself, for a while -/
def borG (M : List D) (i : Nat) (Γ : Ct) : Option (Nat × Ct) := match Γ[i]? with
  | some (some (.ref k, false)) => match M[k]? with
    | some (.lst ds) => some (k, Γ.set i (some (.lst ds, true)))
    | _ => none
  | _ => none
/-- and back into the store -/
def bakG (M : List D) (i k : Nat) (Γ : Ct) : Option (Ct × List D) := match Γ[i]? with
  | some (some (.lst ds, true)) => some (Γ.set i (some (.ref k, false)), M.set k (.lst ds))
  | _ => none
def notSl (i : Nat) : RV → Bool
  | .sl j => j != i
  | _ => true
mutual
def evX (fs : List FS) (ms : List FM) : XE → Ct → List D → Option (RV × Ct × List D)
  | .stuck, _, _ => none
  | .raw e, Γ, M => (ev fs e Γ).map fun (r, Γ1) => (r, Γ1, M)
  | .snp is e, Γ, M => (ev fs e (lookG M is Γ)).bind fun (r, _) => if safeR r = true then some (r, Γ, M) else none
  | .rfld o c nm, Γ, M => (ev fs o Γ).bind fun (x, Γ1) => (datum Γ1 x).bind fun d => (rfldD M c nm d).map fun r => (.fz r, Γ1, M)
  | .callS k xs, Γ, M => (evXs fs ms xs Γ M).bind fun (ds, Γ1, M1) => (fs[k]?).bind fun F => (callD F (ds.map .fz) Γ1).map fun (r, Γ2) => (r, Γ2, M1)
  | .callM k xs, Γ, M => (evXs fs ms xs Γ M).bind fun (ds, Γ1, M1) => (ms[k]?).bind fun F => (F (plG ds) M1).bind fun (r, M2) => if noSl r = true then some (r, Γ1, M2) else none
  | .methM c nm k o xs, Γ, M => (ev fs o Γ).bind fun (x, Γ1) => (datum Γ1 x).bind fun d => if refO M c nm d = true then (evXs fs ms xs Γ1 M).bind fun (ds, Γ2, M1) => (ms[k]?).bind fun F => (F (plG (d :: ds)) M1).bind fun (r, M2) => if noSl r = true then some (r, Γ2, M2) else none else none
  | .mkM c k xs, Γ, M => (evXs fs ms xs Γ M).bind fun (ds, Γ1, M1) => (ms[k]?).bind fun F => (F (plG (.ref M1.length :: ds)) (M1 ++ [.obj c [] []])).bind fun (r, M2) => match r with
    | .fz .non => some (.fz (.ref M1.length), Γ1, M2)
    | _ => none
  | .alc x, Γ, M => (evX fs ms x Γ M).bind fun (r, Γ1, M1) => match r with
    | .nw d => some (.fz (.ref M1.length), Γ1, M1 ++ [d])
    | _ => none
  | .cmp op a b, Γ, M => (evX fs ms a Γ M).bind fun (x, Γ1, M1) => (evX fs ms b Γ1 M1).bind fun (y, Γ2, M2) => (datum Γ2 x).bind fun d => (datum Γ2 y).bind fun e => (cmpD op d e).map fun r => (.fz (.bl r), Γ2, M2)
  | .and a b, Γ, M => (evX fs ms a Γ M).bind fun (x, Γ1, M1) => (testD Γ1 x).bind fun t => if t then evX fs ms b Γ1 M1 else some (x, Γ1, M1)
  | .or a b, Γ, M => (evX fs ms a Γ M).bind fun (x, Γ1, M1) => (testD Γ1 x).bind fun t => if t then some (x, Γ1, M1) else evX fs ms b Γ1 M1
  | .not a, Γ, M => (evX fs ms a Γ M).bind fun (x, Γ1, M1) => (testD Γ1 x).map fun t => (.fz (.bl (!t)), Γ1, M1)
  | .tup xs, Γ, M => (evXs fs ms xs Γ M).bind fun (ds, Γ1, M1) => if ds.length ≤ sizeLine then some (.fz (.tup ds), Γ1, M1) else none
  | .lst xs, Γ, M => (evXs fs ms xs Γ M).bind fun (ds, Γ1, M1) => if ds.length ≤ sizeLine then some (.nw (.lst ds), Γ1, M1) else none
  | .ixX a b, Γ, M => (evX fs ms a Γ M).bind fun (x, Γ1, M1) => (ev fs b Γ1).bind fun (y, Γ2) => (datum Γ2 x).bind fun d => (datum Γ2 y).bind fun e => (ixD d e).map fun r => (.fz r, Γ2, M1)
  | .bor i e, Γ, M => (borG M i Γ).bind fun (k, Γb) => (ev fs e Γb).bind fun (r, Γ1) => if notSl i r = true then (bakG M i k Γ1).map fun (Γ2, M2) => (r, Γ2, M2) else none
  | .methK c nm k p o xs, Γ, M => (ev fs o Γ).bind fun (x, Γ1) => (datum Γ1 x).bind fun d => if refO M c nm d = true then (evXs fs ms xs Γ1 M).bind fun (ds, Γ2, M1) => if permOk p ds.length = true then (ms[k]?).bind fun F => (F (plG (d :: permL p ds)) M1).bind fun (r, M2) => if noSl r = true then some (r, Γ2, M2) else none else none else none
  | .ownM op c k n a b, Γ, M => (evX fs ms a Γ M).bind fun (x, Γ1, M1) => (evX fs ms b Γ1 M1).bind fun (y, Γ2, M2) => (datum Γ2 x).bind fun d => (datum Γ2 y).bind fun e =>
      if (isObj c (snap M2 n d) && okO op c (snap M2 n e)) = true then (fs[k]?).bind fun F => (callD F [.fz (snap M2 n d), .fz (snap M2 n e)] (lookG M2 [] Γ2)).bind fun (r, _) => (postO op r).bind fun r' => if safeR r' = true then some (r', Γ2, M2) else none else none
  | .sem F, Γ, M => F fs ms Γ M
def evXs (fs : List FS) (ms : List FM) : List XE → Ct → List D → Option (List D × Ct × List D)
  | [], Γ, M => some ([], Γ, M)
  | x :: xs, Γ, M => (evX fs ms x Γ M).bind fun (r, Γ1, M1) => (fre Γ1 r).bind fun (d, Γ2) => (evXs fs ms xs Γ2 M1).map fun (ds, Γ3, M2) => (d :: ds, Γ3, M2)
end
section
variable {g : Gx} {A A' : List Addr} {Bn : Addr → Prop} {Ow Ow' : List Addr} {H H' : Hp} {σ σ' : St} {Γ Γ' : Ct} {M M' : List D}
theorem SS.fre {x : RV} {v : V} {d : D} (r : SS g A Bn Ow H σ Γ M) (h : Val (g.w A) (Bx Bn A) Ow H σ Γ x v) (e : fre Γ x = some (d, Γ')) : ∃ Ow', Sm A Ow H A Ow' H ∧ SS g A Bn Ow' H σ Γ' M ∧ Rep (g.w A) (Av (Bx Bn A) Ow') H d v := by
  obtain ⟨O2, s2, r2, p2⟩ := fre_ok r.rs h e
  exact ⟨O2, Sm.of s2, r.step s2 r2, p2⟩
theorem SS.dn {x : RV} {v : V} (r : SS g A Bn Ow H σ Γ M) (h : Val (g.w A) (Bx Bn A) Ow H σ Γ x v) : ∃ Ow', Sm A Ow H A Ow' H ∧ SS g A Bn Ow' H σ Γ M ∧ Val (g.w A) (Bx Bn A) Ow' H σ Γ x.dn v := by
  obtain ⟨O2, s2, r2, p2⟩ := dn_ok r.rs h
  exact ⟨O2, Sm.of s2, r.step s2 r2, p2⟩
/-- a call with plain values: the callee's frame -/
theorem SS.sub {ds : List D} {vs : List V} (r : SS g A Bn Ow H σ Γ M) (q : Reps (g.w A) (Av (Bx Bn A) Ow) H ds vs) : SS g A (fun a => Bn a ∨ a ∈ Ow) [] H (vs.map some) (plG ds) M := by
  have kk : ∀ a, Av (Bx (fun a => Bn a ∨ a ∈ Ow) A) [] a → Av (Bx Bn A) Ow a := fun a z => by
    rcases z with ((z | z) | z) | z
    · exact .inl (.inl z)
    · exact .inr z
    · exact .inl (.inr z)
    · cases z
  have pg : ∀ {i : Nat} {d : D} {b : Bool}, (plG ds)[i]? = some (some (d, b)) → b = false ∧ ds[i]? = some d := fun {i d b} h => by
    unfold plG at h
    rw [List.getElem?_map] at h
    cases e : ds[i]? with
    | none => rw [e] at h; simp at h
    | some x => rw [e] at h; simp at h; exact ⟨h.2, by rw [h.1]⟩
  refine ⟨⟨by rw [plG, List.length_map, List.length_map, q.len], fun i d h => ?_, fun i d h => ?_, fun i j d e a h1 => ?_, fun a h => r.rs.trl a (kk a h), fun a _ z => (by cases z), fun a h => r.rs.kf a (kk a h), r.rs.tabs⟩, r.len, r.nd, fun a h z => ?_, fun k d a h1 h2 => own_less kk (r.cell k d a h1 h2)⟩
  · obtain ⟨v, e, rp⟩ := q.get (pg h).2
    exact ⟨v, by rw [List.getElem?_map, e]; rfl, rep_less kk rp⟩
  · cases (pg h).1
  · cases (pg h1).1
  · rcases z with z | z
    · exact r.sepA a h z
    · exact r.rs.sep a (.inr h) z
theorem SS.ret {σ1 : St} {Γ1 : Ct} (r : SS g A Bn Ow H σ Γ M) (s : Sm A [] H A' Ow' H') (r' : SS g A' (fun a => Bn a ∨ a ∈ Ow) Ow' H' σ1 Γ1 M') : SS g A' Bn (Ow ++ Ow') H' σ Γ M' ∧ Sm A Ow H A' (Ow ++ Ow') H' ∧
    ∀ x v, noSl x = true → Val (g.w A') (Bx (fun a => Bn a ∨ a ∈ Ow) A') Ow' H' σ1 Γ1 x v → Val (g.w A') (Bx Bn A') (Ow ++ Ow') H' σ Γ x v := by
  have kk : ∀ a, Av (Bx Bn A') (Ow ++ Ow') a → Av (Bx (fun a => Bn a ∨ a ∈ Ow) A') Ow' a := fun a z => by
    rcases z with (z | z) | z
    · exact .inl (.inl (.inl z))
    · exact .inl (.inr z)
    · rcases List.mem_append.mp z with z | z
      · exact .inl (.inl (.inr z))
      · exact .inr z
  have st : Sm A Ow H A' (Ow ++ Ow') H' := ⟨s.pre, fun a o h t _ n => s.keep0 a o h t (by simp) n, fun a z => by
    have z' : a ∈ Ow ∨ (a ∈ Ow' ∨ a ∈ A') := by
      rcases z with z | z
      · rcases List.mem_append.mp z with z | z
        · exact .inl z
        · exact .inr (.inl z)
      · exact .inr (.inr z)
    rcases z' with z | z
    · exact .inl z
    · rcases s.grow a z with q | q | q
      · cases q
      · exact .inr (.inl q)
      · exact .inr (.inr q)⟩
  have nOA : ∀ a, a ∈ Ow → a ∉ A' := fun a m z => by
    rcases s.grow a (.inr z) with q | q | q
    · cases q
    · exact r.rs.sep a (.inr q) m
    · exact r.rs.trn a (.inr m) q
  have vst : ∀ a, Vst g (Av (Bx Bn A) Ow) H a → (∀ o, H a = some o → nT o → H' a = some o) ∧ ¬ Av (Bx Bn A') (Ow ++ Ow') a := sm_vst (g := g) st fun a z => by
    refine r'.rs.kf a ?_
    rcases z with z | z
    · rcases List.mem_append.mp z with z | z
      · exact .inl (.inl (.inr z))
      · exact .inr z
    · exact .inl (.inr z)
  refine ⟨⟨⟨r.rs.len, fun i d h => ?_, fun i d h => ?_, r.rs.dist, fun a h => r'.rs.trl a (kk a h), fun a h z => ?_, fun a h => r'.rs.kf a (kk a h), r'.rs.tabs⟩, r'.len, r'.nd, fun a h z => r'.sepA a h (.inl z), fun k d a h1 h2 => own_less kk (r'.cell k d a h1 h2)⟩, st, fun x v hs h => ?_⟩
  · obtain ⟨v, e, q⟩ := r.rs.slot i d h
    exact ⟨v, e, rep_w s.pre d v (rep_mono (g := g.w A) vst d v q)⟩
  · obtain ⟨a, e, m, o⟩ := r.rs.own i d h
    have nA : a ∉ A := fun z => r.rs.sep a (.inr z) m
    refine ⟨a, e, List.mem_append_left _ m, own_w s.pre ?_⟩
    cases d with
    | lst es => obtain ⟨us, e2, r2⟩ := o; exact ⟨us, s.keep0 a _ e2 nofun (by simp) nA, reps_mono (g := g.w A) vst _ _ r2⟩
    | obj c ks es => obtain ⟨dx, us, l, e2, r2⟩ := o; exact ⟨dx, us, l, s.keep0 a _ e2 nofun (by simp) nA, reps_mono (g := g.w A) vst _ _ r2⟩
    | _ => exact o
  · rcases List.mem_append.mp z with z | z
    · rcases h with h | h
      · exact r.rs.sep a (.inl h) z
      · exact nOA a z h
    · rcases h with h | h
      · exact r'.rs.sep a (.inl (.inl h)) z
      · exact r'.rs.sep a (.inr h) z
  · cases x with
    | sl i => cases hs
    | fz d => exact rep_less kk h
    | nw d =>
      obtain ⟨a, rfl, m, o, no⟩ := h
      refine ⟨a, rfl, List.mem_append_right _ m, own_less kk o, fun i e q1 q2 => ?_⟩
      obtain ⟨b, e2, m2, _⟩ := r.rs.own i e q1
      rw [q2] at e2; cases e2
      exact r'.rs.sep a (.inl (.inr m2)) m
end
/-- the promise of a def that works on the store -/
def spM (g : Gx) (n : Nat) (F : FM) : Sp := fun vs H Q _ => vs.length = n ∧ ∃ A Bn ds M r M', SS g A Bn [] H (vs.map some) (plG ds) M ∧ F (plG ds) M = some (r, M') ∧ noSl r = true ∧
  ∀ v H' A' Ow', Sm A [] H A' Ow' H' → SS g A' Bn Ow' H' (vs.map some) (plG ds) M' → Val (g.w A') (Bx Bn A') Ow' H' (vs.map some) (plG ds) r v → Q v H'
section
variable {g : Gx} {A : List Addr} {Bn : Addr → Prop} {Ow : List Addr} {H : Hp} {σ : St} {Γ : Ct} {M M' : List D}
end
section
variable {X : Cx} {g : Gx} {fs : List FS} {ms : List FM} {a b : Expr} {ia ib : E} {xa xb : XE} {pos : Pos}
end
end DV

namespace DV
open PySem L2

/-! ### calls beside a store -/
/-- a def that can be called whatever the store is -/
structure CalA (P : Program) (w : World) (mg : Str → Option Value) (base : Heap) (g : Gx) (k : Nat) (x : Str) (n : Nat) (F : FS) : Prop where
  ex : ∃ f fd ps, mg x = some (.ref f) ∧ PySem.W.keepIn g.K (.ref f) = true ∧ Binds g.K fd ps [] ∧ ∀ A, FnOk P w g.K mg base CX0 k f fd ps (spF (g.w A) n F)
/-- a def that works on the store -/
structure CalM (P : Program) (w : World) (mg : Str → Option Value) (base : Heap) (g : Gx) (k : Nat) (x : Str) (n : Nat) (F : FM) : Prop where
  ex : ∃ f fd ps, mg x = some (.ref f) ∧ PySem.W.keepIn g.K (.ref f) = true ∧ Binds g.K fd ps [] ∧ FnOk P w g.K mg base CX0 k f fd ps (spM g n F)
structure MtdM (P : Program) (w : World) (mg : Str → Option Value) (base : Heap) (g : Gx) (k : Nat) (c : Nat) (x : Str) (n : Nat) (F : FM) : Prop where
  ex : ∃ f fd ps, Cls g.K (g.cl c) ∧ Meth g.K (g.cl c) x f ∧ Binds g.K fd ps [] ∧ FnOk P w g.K mg base CX0 k f fd ps (spM g n F)
structure MkdM (P : Program) (w : World) (mg : Str → Option Value) (base : Heap) (g : Gx) (k : Nat) (c : Nat) (x : Str) (n : Nat) (F : FM) : Prop where
  ex : ∃ f fd ps, mg x = some (.ref (g.cl c)) ∧ Mk g.K (g.cl c) f ∧ Binds g.K fd ps [] ∧ ps.length = n + 1 ∧ FnOk P w g.K mg base CX0 k f fd ps (spM g (n + 1) F)
section
variable {P : Program} {w : World} {mg : Str → Option Value} {base : Heap} {g : Gx} {j k c n : Nat} {x : Str}
theorem CalA.mono {F : FS} (h : CalA P w mg base g j x n F) (l : j ≤ k) : CalA P w mg base g k x n F := by
  obtain ⟨f, fd, ps, h1, h2, h3, h4⟩ := h.ex
  exact ⟨f, fd, ps, h1, h2, h3, fun A => (h4 A).mono l⟩
theorem CalA.at {F : FS} (h : CalA P w mg base g k x n F) (A : List Addr) : Cal P w mg base (g.w A) k x n F := by
  obtain ⟨f, fd, ps, h1, h2, h3, h4⟩ := h.ex
  exact ⟨f, fd, ps, h1, h2, h3, h4 A⟩
theorem CalM.mono {F : FM} (h : CalM P w mg base g j x n F) (l : j ≤ k) : CalM P w mg base g k x n F := by
  obtain ⟨f, fd, ps, h1, h2, h3, h4⟩ := h.ex
  exact ⟨f, fd, ps, h1, h2, h3, h4.mono l⟩
theorem MtdM.mono {F : FM} (h : MtdM P w mg base g j c x n F) (l : j ≤ k) : MtdM P w mg base g k c x n F := by
  obtain ⟨f, fd, ps, h1, h2, h3, h4⟩ := h.ex
  exact ⟨f, fd, ps, h1, h2, h3, h4.mono l⟩
theorem MkdM.mono {F : FM} (h : MkdM P w mg base g j c x n F) (l : j ≤ k) : MkdM P w mg base g k c x n F := by
  obtain ⟨f, fd, ps, h1, h2, h3, h5, h4⟩ := h.ex
  exact ⟨f, fd, ps, h1, h2, h3, h5, h4.mono l⟩
end
section
variable {X : Cx} {g : Gx} {fs : List FS} {ms : List FM} {e o : Expr} {es : List Expr} {io : E} {xs : List XE} {x m : Str} {p pos apos : Pos} {c k i n : Nat}
variable {F : FS} {FF : FM}
end
end DV

namespace DV
open PySem L2

/-! ### the language beside a store: statements -/
inductive XIt where
  | raw (ik : IK) (its : List E)
  | seq (x : XE)
inductive TX where
  | nm (i : Nat) | at (i c : Nat) (nm : Str)
inductive MS where
  | stuck
  | old (s : S)
  | asg (tg : Tg) (x : XE)
  | asgO (i : Nat) (x : XE)
  | par (is : List (Nat × Bool)) (xs : List XE)
  | expr (x : XE)
  | ret (x : XE)
  | ite (c : XE) (a b : List MS)
  | whl (c : XE) (b : List MS)
  | for_ (tg : Tg) (it : XIt) (b : List MS)
  | setf (o : E) (c : Nat) (nm : Str) (x : XE)
  | asgT (ts : List TX) (x : XE)
  | app (o x : XE)
  | seti (o : XE) (k : E) (x : XE)
  | oldB (i : Nat) (s : S)
  | appL (i : Nat) (x : XE)
  | forL (tg : Tg) (en : Bool) (o : XE) (b : List MS)
  | sem (F : List FS → List FM → Ct → List D → Option (Out × List D))
def forLoopM (tg : Tg) (body : Ct → List D → Option (Out × List D)) : List D → Ct → List D → Option (Out × List D)
  | [], Γ, M => some (.nx Γ, M)
  | d :: ds, Γ, M => (asgT tg d Γ).bind fun Γ1 => (body Γ1 M).bind fun (o, M1) => match o with
    | .nx Γ2 => forLoopM tg body ds Γ2 M1
    | .ct Γ2 => forLoopM tg body ds Γ2 M1
    | .bk Γ2 => some (.nx Γ2, M1)
    | .rt r Γ2 => some (.rt r Γ2, M1)
    | .xc _ _ _ _ => none
def whlLoopM (c : Ct → List D → Option (Bool × Ct × List D)) (body : Ct → List D → Option (Out × List D)) : Nat → Ct → List D → Option (Out × List D)
  | 0, _, _ => none
  | n + 1, Γ, M => (c Γ M).bind fun (b, Γ1, M1) => if b then (body Γ1 M1).bind fun (o, M2) => match o with
    | .nx Γ2 => whlLoopM c body n Γ2 M2
    | .ct Γ2 => whlLoopM c body n Γ2 M2
    | .bk Γ2 => some (.nx Γ2, M2)
    | .rt r Γ2 => some (.rt r Γ2, M2)
    | .xc _ _ _ _ => none
   else some (.nx Γ1, M1)
/-- a list of the store -/
def isLM (M : List D) : D → Bool
  | .ref k => match M[k]? with
    | some (.lst _) => true
    | _ => false
  | _ => false
def appM (M : List D) (d : D) : D → Option (List D)
  | .ref k => (M[k]?).bind fun o => (appD o d).map fun o' => M.set k o'
  | _ => none
def setM (M : List D) (kd d : D) : D → Option (List D)
  | .ref k => (M[k]?).bind fun o => (setD o kd d).map fun o' => M.set k o'
  | _ => none
def putM (M : List D) (c : Nat) (nm : Str) (d : D) : D → Option (List D)
  | .ref k => (M[k]?).bind fun o => (putD c o nm d).map fun o' => M.set k o'
  | _ => none
def asgX : List TX → List D → Ct → List D → Option (Ct × List D)
  | [], [], Γ, M => some (Γ, M)
  | .nm i :: ts, d :: ds, Γ, M => if i < Γ.length then asgX ts ds (Γ.set i (some (d, false))) M else none
  | .at i c nm :: ts, d :: ds, Γ, M => match Γ[i]? with
    | some (some (e, false)) => (putM M c nm d e).bind fun M1 => asgX ts ds Γ M1
    | _ => none
  | _, _, _, _ => none
def evnX (fs : List FS) (ms : List FM) : List (Nat × Bool) → List XE → Ct → List D → Option (List RV × Ct × List D)
  | [], [], Γ, M => some ([], Γ, M)
  | (i, b) :: is, x :: xs, Γ, M => (evX fs ms x Γ M).bind fun (r, Γ1, M1) => match b, r with
    | true, .nw d => (evnX fs ms is xs Γ1 M1).map fun (ys, Γ2, M2) => (.nw d :: ys, Γ2, M2)
    | _, r => (fre Γ1 r).bind fun (d, Γ2) => (evnX fs ms is xs Γ2 M1).map fun (ys, Γ3, M2) => (.fz d :: ys, Γ3, M2)
  | _, _, _, _ => none
def seqD : D → Option (List D)
  | .lst ds => some ds
  | .tup ds => some ds
  | _ => none
def itM (fs : List FS) (ms : List FM) : XIt → Ct → List D → Option (List D × Ct × List D)
  | .raw ik its, Γ, M => (evs fs its Γ).bind fun (xs, Γ1) => (iterD ik xs Γ1).map fun (ds, Γ2) => (ds, Γ2, M)
  | .seq x, Γ, M => (evX fs ms x Γ M).bind fun (r, Γ1, M1) => (fre Γ1 r).bind fun (d, Γ2) => (seqD d).map fun ds => (ds, Γ2, M1)
def noXc : Out → Bool
  | .xc _ _ _ _ => false
  | _ => true
/-- behind a statement with a list of the store -/
def bakO (M : List D) (i k : Nat) : Out → Option (Out × List D)
  | .nx G => (bakG M i k G).map fun (G2, M2) => (.nx G2, M2)
  | .bk G => (bakG M i k G).map fun (G2, M2) => (.bk G2, M2)
  | .ct G => (bakG M i k G).map fun (G2, M2) => (.ct G2, M2)
  | .rt r G => if notSl i r = true then (bakG M i k G).map fun (G2, M2) => (.rt r G2, M2) else none
  | .xc _ _ _ _ => none
/-- an item, or a pair of its index and it -/
def liveD (en : Bool) (i : Nat) (d : D) : D := if en then .tup [.int (i : Nat), d] else d
/-- the turns over a list of the store -/
def liveLoop (tg : Tg) (en : Bool) (body : Ct → List D → Option (Out × List D)) (k : Nat) : Nat → Nat → Ct → List D → Option (Out × List D)
  | 0, _, _, _ => none
  | n + 1, i, Γ, M => match M[k]? with
    | some (.lst ds) => match ds[i]? with
      | some d => (asgT tg (liveD en i d) Γ).bind fun Γ1 => (body Γ1 M).bind fun (o, M1) => match o with
        | .nx Γ2 => liveLoop tg en body k n (i + 1) Γ2 M1
        | .ct Γ2 => liveLoop tg en body k n (i + 1) Γ2 M1
        | .bk Γ2 => some (.nx Γ2, M1)
        | .rt r Γ2 => some (.rt r Γ2, M1)
        | .xc _ _ _ _ => none
      | none => some (.nx Γ, M)
    | _ => none
mutual
def exM (fs : List FS) (ms : List FM) : MS → Ct → List D → Option (Out × List D)
  | .stuck, _, _ => none
  | .old s, Γ, M => (ex fs [] s Γ).bind fun o => if noXc o = true then some (o, M) else none
  | .asg tg x, Γ, M => (evX fs ms x Γ M).bind fun (r, Γ1, M1) => (fre Γ1 r).bind fun (d, Γ2) => (asgT tg d Γ2).map fun G => (.nx G, M1)
  | .asgO i x, Γ, M => (evX fs ms x Γ M).bind fun (r, Γ1, M1) => match r with
    | .nw d => if i < Γ1.length then some (.nx (Γ1.set i (some (d, true))), M1) else none
    | r => (fre Γ1 r).bind fun (d, Γ2) => if i < Γ2.length then some (.nx (Γ2.set i (some (d, false))), M1) else none
  | .par is xs, Γ, M => (evnX fs ms is xs Γ M).bind fun (ys, Γ2, M1) => (parS is ys Γ2).map fun G => (.nx G, M1)
  | .expr x, Γ, M => (evX fs ms x Γ M).map fun (_, Γ1, M1) => (.nx Γ1, M1)
  | .ret x, Γ, M => (evX fs ms x Γ M).map fun (r, Γ1, M1) => (.rt r Γ1, M1)
  | .ite c a b, Γ, M => (evX fs ms c Γ M).bind fun (r, Γ1, M1) => (testD Γ1 r).bind fun t => if t then exMs fs ms a Γ1 M1 else exMs fs ms b Γ1 M1
  | .whl c b, Γ, M => whlLoopM (fun Γ M => (evX fs ms c Γ M).bind fun (x, Γ1, M1) => (testD Γ1 x).map fun t => (t, Γ1, M1)) (exMs fs ms b) fuel Γ M
  | .for_ tg it b, Γ, M => (itM fs ms it Γ M).bind fun (ds, Γ2, M1) => forLoopM tg (exMs fs ms b) ds Γ2 M1
  | .setf o c nm x, Γ, M => (evX fs ms x Γ M).bind fun (r, Γ1, M1) => (fre Γ1 r).bind fun (d, Γ2) => (ev fs o Γ2).bind fun (y, Γ3) => (datum Γ3 y).bind fun e => (putM M1 c nm d e).map fun M2 => (.nx Γ3, M2)
  | .asgT ts x, Γ, M => (evX fs ms x Γ M).bind fun (r, Γ1, M1) => (fre Γ1 r).bind fun (d, Γ2) => (tupOf d).bind fun ds => (asgX ts ds Γ2 M1).map fun (G, M2) => (.nx G, M2)
  | .app o x, Γ, M => (evX fs ms o Γ M).bind fun (r, Γ1, M1) => (datum Γ1 r).bind fun e => if isLM M1 e = true then (evX fs ms x Γ1 M1).bind fun (y, Γ2, M2) => (fre Γ2 y).bind fun (d, Γ3) => (appM M2 d e).map fun M3 => (.nx Γ3, M3) else none
  | .seti o k x, Γ, M => (evX fs ms x Γ M).bind fun (r, Γ1, M1) => (fre Γ1 r).bind fun (d, Γ2) => (evX fs ms o Γ2 M1).bind fun (y, Γ3, M2) => (datum Γ3 y).bind fun e => if isLM M2 e = true then (ev fs k Γ3).bind fun (z, Γ4) => (datum Γ4 z).bind fun kd => (setM M2 kd d e).map fun M3 => (.nx Γ4, M3) else none
  | .oldB i s, Γ, M => (borG M i Γ).bind fun (k, Γb) => (ex fs [i] s Γb).bind fun o => bakO M i k o
  | .appL i x, Γ, M => if isLst Γ i = true then (evX fs ms x Γ M).bind fun (r, Γ1, M1) => (fre Γ1 r).bind fun (d, Γ2) => match Γ2[i]? with
    | some (some (c, true)) => (appD c d).map fun c' => (.nx (Γ2.set i (some (c', true))), M1)
    | _ => none
   else none
  | .forL tg en o b, Γ, M => (evX fs ms o Γ M).bind fun (r, Γ1, M1) => (fre Γ1 r).bind fun (d, Γ2) => match d with
    | .ref k => liveLoop tg en (exMs fs ms b) k fuel 0 Γ2 M1
    | _ => none
  | .sem F, Γ, M => F fs ms Γ M
def exMs (fs : List FS) (ms : List FM) : List MS → Ct → List D → Option (Out × List D)
  | [], Γ, M => some (.nx Γ, M)
  | s :: ss, Γ, M => (exM fs ms s Γ M).bind fun (o, M1) => match o with
    | .nx Γ1 => exMs fs ms ss Γ1 M1
    | o => some (o, M1)
end
def finM : Out × List D → Option (RV × List D)
  | (.nx _, M) => some (.fz .non, M)
  | (.rt (.fz d) _, M) => some (.fz d, M)
  | (.rt (.nw d) _, M) => some (.nw d, M)
  | (.rt (.sl i) Γ, M) => match Γ[i]? with
    | some (some (d, true)) => some (.nw d, M)
    | some (some (d, false)) => some (.fz d, M)
    | _ => none
  | _ => none
def runM (fs : List FS) (ms : List FM) (np n : Nat) (body : List MS) : FM := fun G0 M => if G0.length = np then (exMs fs ms body (G0 ++ List.replicate (n - np) none) M).bind finM else none

def PostM (g : Gx) (Dn : Ends) (A : List Addr) (Bn : Addr → Prop) (Ow : List Addr) (H : Hp) : Out → List D → Prop
  | .nx Γ', M' => ∀ σ' H' A' Ow', Sm A Ow H A' Ow' H' → SS g A' Bn Ow' H' σ' Γ' M' → Dn.nx σ' H'
  | .bk Γ', M' => ∀ σ' H' A' Ow', Sm A Ow H A' Ow' H' → SS g A' Bn Ow' H' σ' Γ' M' → Dn.bk σ' H'
  | .ct Γ', M' => ∀ σ' H' A' Ow', Sm A Ow H A' Ow' H' → SS g A' Bn Ow' H' σ' Γ' M' → Dn.ct σ' H'
  | .rt r Γ', M' => ∀ v σ' H' A' Ow', Sm A Ow H A' Ow' H' → SS g A' Bn Ow' H' σ' Γ' M' → Val (g.w A') (Bx Bn A') Ow' H' σ' Γ' r v → Dn.rt v H'
  | .xc _ _ _ _, _ => True

/-! ### a target's attribute -/

section
variable {g : Gx} {A A' : List Addr} {Bn : Addr → Prop} {Ow Ow' : List Addr} {H H' : Hp} {σ σ' : St} {Γ Γ' : Ct} {M M' : List D} {fs : List FS} {ms : List FM}
theorem PostM.step {Dn : Ends} {o : Out} (h : PostM g Dn A Bn Ow H o M) (s : Sm A Ow H A' Ow' H') : PostM g Dn A' Bn Ow' H' o M := by
  cases o with
  | nx G => exact fun σ1 H1 A1 O1 s1 r => h σ1 H1 A1 O1 (s.trans s1) r
  | bk G => exact fun σ1 H1 A1 O1 s1 r => h σ1 H1 A1 O1 (s.trans s1) r
  | ct G => exact fun σ1 H1 A1 O1 s1 r => h σ1 H1 A1 O1 (s.trans s1) r
  | rt r G => exact fun v σ1 H1 A1 O1 s1 r => h v σ1 H1 A1 O1 (s.trans s1) r
  | xc c ks ds G => trivial
theorem SS.frm (r : SS g A Bn Ow H σ Γ M) (rs : RS (g.w A) (Bx Bn A) Ow H σ' Γ') : SS g A Bn Ow H σ' Γ' M := ⟨rs, r.len, r.nd, r.sepA, r.cell⟩
/-- a field of an object of the store is set -/
theorem SS.put {k c : Nat} {a : Addr} {nm : Str} {d o o' : D} {v : V} (r : SS g A Bn Ow H σ Γ M) (ha : A[k]? = some a) (ho : M[k]? = some o) (hd : Rep (g.w A) (Av (Bx Bn A) Ow) H d v) (hp : putD c o nm d = some o') :
    ∃ dx fl, H a = some (.ins (g.cl c) dx fl) ∧ fl.length < 1000 ∧ SS g A Bn Ow (upd H a (.ins (g.cl c) dx (putF nm v fl))) σ Γ (M.set k o') ∧ Sm A Ow H A Ow (upd H a (.ins (g.cl c) dx (putF nm v fl))) := by
  have ow := r.cell k o a ho ha
  cases o <;> simp only [putD, reduceCtorEq] at hp
  rename_i c1 ks ds
  simp only [Option.ite_none_right_eq_some, Option.some.injEq] at hp
  obtain ⟨⟨rfl, hz, hl⟩, rfl⟩ := hp
  obtain ⟨dx, vs, l, hh, rp⟩ := ow
  obtain ⟨ws, h1, h2, h3⟩ := putL_ok (nm := nm) hd l hl rp
  have key := r.mutO (c := c1) (dx := dx) ha h2 h3
  rw [h1] at key
  exact ⟨dx, ks.zip vs, hh, by rw [List.length_zip]; omega, key⟩
theorem SS.putM {c : Nat} {nm : Str} {d e : D} {v w : V} (r : SS g A Bn Ow H σ Γ M) (hp : putM M c nm d e = some M') (he : Rep (g.w A) (Av (Bx Bn A) Ow) H e w) (hd : Rep (g.w A) (Av (Bx Bn A) Ow) H d v) :
    ∃ a dx fl, w = .ref a ∧ H a = some (.ins (g.cl c) dx fl) ∧ fl.length < 1000 ∧ SS g A Bn Ow (upd H a (.ins (g.cl c) dx (putF nm v fl))) σ Γ M' ∧ Sm A Ow H A Ow (upd H a (.ins (g.cl c) dx (putF nm v fl))) := by
  cases e <;> simp only [DV.putM, reduceCtorEq] at hp
  rename_i k
  obtain ⟨o, e1, hp⟩ := Option.bind_eq_some_iff.mp hp
  obtain ⟨o', e2, rfl⟩ := Option.map_eq_some_iff.mp hp
  simp only [Rep] at he
  obtain ⟨a, ea, rfl⟩ := he
  obtain ⟨dx, fl, h1, h2, h3, h4⟩ := r.put ea e1 hd e2
  exact ⟨a, dx, fl, rfl, h1, h2, h3, h4⟩
/-! a new owned object is banned while the others are made -/
theorem bx_orB {p : Addr} : orB (Bx Bn A) p = Bx (orB Bn p) A := by
  funext a
  simp only [orB, Bx, or_right_comm]
theorem SS.ban {d : D} {p : Addr} (r : SS g A Bn Ow H σ Γ M) (m : p ∈ Ow) (no : ∀ (i : Nat) e, Γ[i]? = some (some (e, true)) → σ[i]? ≠ some (some (.ref p))) : SS g A (orB Bn p) (Ow.filter (fun x => decide (x ≠ p))) H σ Γ M := by
  have r2 := r.rs.ban (d := d) m no
  rw [bx_orB] at r2
  refine ⟨r2, r.len, r.nd, fun a h z => ?_, fun k e a h1 h2 => own_less (fun b z => ?_) (r.cell k e a h1 h2)⟩
  · rcases z with z | z
    · exact r.sepA a h z
    · rw [z] at h; exact r.rs.sep p (.inr h) m
  · rcases z with ((z | z) | z) | z
    · exact .inl (.inl z)
    · rw [z]; exact .inr m
    · exact .inl (.inr z)
    · exact .inr (mem_ne z).1
theorem SS.unB {p : Addr} (r : SS g A (orB Bn p) Ow H σ Γ M) (nb : ¬ Bn p) : SS g A Bn (p :: Ow) H σ Γ M := by
  have nA : p ∉ A := fun z => r.sepA p z (.inr rfl)
  have r1 : RS (g.w A) (orB (Bx Bn A) p) Ow H σ Γ := by rw [bx_orB]; exact r.rs
  refine ⟨r1.unB fun z => z.elim nb nA, r.len, r.nd, fun a h z => r.sepA a h (.inl z), fun k e a h1 h2 => own_less (fun b z => ?_) (r.cell k e a h1 h2)⟩
  rcases z with (z | z) | z
  · exact .inl (.inl (.inl z))
  · exact .inl (.inr z)
  · rcases List.mem_cons.mp z with z | z
    · exact .inl (.inl (.inr z))
    · exact .inr z
theorem OwnA.sm {d : D} {p : Addr} (o : OwnA (g.w A) (Av (Bx Bn A) Ow) H d p) (np : p ∉ Ow) (nA : p ∉ A) (s : Sm A Ow H A' Ow' H') (r : SS g A' Bn Ow' H' σ Γ M) : OwnA (g.w A') (Av (Bx Bn A') Ow') H' d p := by
  cases d with
  | lst es => obtain ⟨us, e2, r2⟩ := o; exact ⟨us, s.keep0 _ _ e2 nofun np nA, r2.sm s r⟩
  | obj c ks es => obtain ⟨dx, us, l, e2, r2⟩ := o; exact ⟨dx, us, l, s.keep0 _ _ e2 nofun np nA, r2.sm s r⟩
  | _ => exact o
end
section
variable {X : Cx} {g : Gx} {fs : List FS} {ms : List FM} {a : Expr} {es : List Expr} {xa : XE} {st : Stmt} {pos : Pos}
end
/-! ### defs that work on the store -/
section
variable {g : Gx} {A A' : List Addr} {Bn : Addr → Prop} {Ow Ow' : List Addr} {H H' : Hp} {σ σ' : St} {Γ Γ' : Ct} {M M' : List D} {fs : List FS} {ms : List FM}
theorem plG_get {ds : List D} {i : Nat} {d : D} {b : Bool} (h : (plG ds)[i]? = some (some (d, b))) : b = false ∧ ds[i]? = some d := by
  unfold plG at h
  rw [List.getElem?_map] at h
  cases e : ds[i]? with
  | none => rw [e] at h; simp at h
  | some x => rw [e] at h; simp at h; exact ⟨h.2, by rw [h.1]⟩
/-- the arguments behind the body -/
theorem SS.outs {vs : List V} {ds : List D} (r0 : SS g A Bn [] H (vs.map some) (plG ds) M) (s : Sm A [] H A' Ow' H') (r : SS g A' Bn Ow' H' σ Γ M') : SS g A' Bn Ow' H' (vs.map some) (plG ds) M' :=
  r.frm ⟨r0.rs.len, fun i d h => let ⟨v, e, q⟩ := r0.rs.slot i d h; ⟨v, e, q.sm s r⟩, fun i d h => by (cases (plG_get h).1), fun i j d e a h1 => by (cases (plG_get h1).1), r.rs.trl, r.rs.sep, r.rs.kf, r.rs.tabs⟩
theorem SS.start {vs : List V} {G0 : Ct} (k : Nat) (r0 : SS g A Bn Ow H (vs.map some) G0 M) : SS g A Bn Ow H (vs.map some ++ List.replicate k none) (G0 ++ List.replicate k none) M := r0.frm (r0.rs.start k)
end
section
variable {P : Program} {w : World} {mg : Str → Option Value} {base : Heap} {g : Gx} {fs : List FS} {ms : List FM}
end
end DV

namespace DV
open PySem L2
theorem Cok.w {g : Gx} {X : Cx} (C : Cok g X) (A : List Addr) : Cok (g.w A) X := ⟨C.K, C.calm, C.hu, C.nd, C.ea⟩
section
variable {X : Cx} {g : Gx} {e o : Expr} {es : List Expr} {ts : List TX} {i c : Nat} {nm : Str} {pos : Pos}
end
end DV

namespace DV
open PySem L2

/-! ### a list of the store, handed to the language of plain frames for a while -/
abbrev Bo (Bn : Addr → Prop) (A : List Addr) (a : Addr) : Addr → Prop := fun b => Bn b ∨ (b ∈ A ∧ b ≠ a)
section
variable {g : Gx} {A A' : List Addr} {Bn : Addr → Prop} {Ow Ow' : List Addr} {H H' : Hp} {σ σ' : St} {Γ Γ' Γ2 : Ct} {M M2 : List D} {i k : Nat} {a : Addr}
theorem av_bo (m : a ∈ A) : ∀ b, Av (Bo Bn A a) (a :: Ow) b ↔ Av (Bx Bn A) Ow b := fun b => by
  constructor
  · rintro ((h | h) | h)
    · exact .inl (.inl h)
    · exact .inl (.inr h.1)
    · rcases List.mem_cons.mp h with h | h
      · rw [h]; exact .inl (.inr m)
      · exact .inr h
  · rintro ((h | h) | h)
    · exact .inl (.inl h)
    · by_cases e : b = a
      · rw [e]; exact .inr List.mem_cons_self
      · exact .inl (.inr ⟨h, e⟩)
    · exact .inr (List.mem_cons_of_mem _ h)
theorem SS.bor {Γb : Ct} (r : SS g A Bn Ow H σ Γ M) (h : borG M i Γ = some (k, Γb)) : ∃ a, A[k]? = some a ∧ σ[i]? = some (some (.ref a)) ∧ RS (g.w A) (Bo Bn A a) (a :: Ow) H σ Γb := by
  unfold borG at h
  split at h
  · rename_i k0 hi
    split at h
    · rename_i ds hk
      simp only [Option.some.injEq, Prod.mk.injEq] at h
      obtain ⟨rfl, rfl⟩ := h
      obtain ⟨v, e1, q⟩ := r.rs.slot i _ hi
      simp only [Rep] at q
      obtain ⟨a, ea, rfl⟩ := q
      have ea : A[k0]? = some a := ea
      have m := (r.ad ea).1
      have no := (r.ad ea).2
      have av := av_bo (Bn := Bn) (Ow := Ow) m
      have hil : i < Γ.length := (List.getElem?_eq_some_iff.mp hi).1
      refine ⟨a, ea, e1, by rw [List.length_set]; exact r.rs.len, fun j d hj => ?_, fun j d hj => ?_, fun j l d e b h1 h2 h3 h4 => ?_, fun b hb => r.rs.trl b ((av b).mp hb), fun b hb z => ?_, fun b hb => r.rs.kf b ((av b).mp hb), r.rs.tabs⟩
      · rcases set_get hj with ⟨_, w⟩ | ⟨_, w⟩
        · cases w
        · obtain ⟨v, e2, q2⟩ := r.rs.slot j d w
          exact ⟨v, e2, rep_less (fun b hb => (av b).mp hb) q2⟩
      · rcases set_get hj with ⟨z, w⟩ | ⟨_, w⟩
        · cases w
          rw [z]
          exact ⟨a, e1, List.mem_cons_self, own_less (fun b hb => (av b).mp hb) (r.cell k0 _ a hk ea)⟩
        · obtain ⟨b, e2, m2, o2⟩ := r.rs.own j d w
          exact ⟨b, e2, List.mem_cons_of_mem _ m2, own_less (fun b hb => (av b).mp hb) o2⟩
      · rcases set_get h1 with ⟨z1, w1⟩ | ⟨n1, w1⟩ <;> rcases set_get h2 with ⟨z2, w2⟩ | ⟨n2, w2⟩
        · rw [z1, z2]
        · exfalso
          rw [z1, e1] at h3; cases h3
          obtain ⟨c, e2, m2, _⟩ := r.rs.own l e w2
          rw [h4] at e2; cases e2
          exact no m2
        · exfalso
          rw [z2, e1] at h4; cases h4
          obtain ⟨c, e2, m2, _⟩ := r.rs.own j d w1
          rw [h3] at e2; cases e2
          exact no m2
        · exact r.rs.dist j l d e b w1 w2 h3 h4
      · rcases List.mem_cons.mp z with z | z
        · rcases hb with hb | hb
          · rw [z] at hb; exact r.sepA a m hb
          · exact hb.2 z
        · rcases hb with hb | hb
          · exact r.rs.sep b (.inl hb) z
          · exact r.rs.sep b (.inr hb.1) z
    · cases h
  · cases h
end
section
variable {X : Cx} {g : Gx} {fs : List FS} {ms : List FM} {a b : Expr} {ia ib : E} {xa xb : XE} {pos : Pos} {st : Stmt}
theorem PostM.sm {A A' : List Addr} {Bn : Addr → Prop} {Ow Ow' : List Addr} {H H' : Hp} {M : List D} {Dn : Ends} {o : Out} (h : PostM g Dn A Bn Ow H o M) (s : Sm A Ow H A' Ow' H') : PostM g Dn A' Bn Ow' H' o M := h.step s
/-! ### turns over a list of the store -/
end
end DV
namespace DV
open PySem L2
section
variable {X : Cx} {g : Gx} {fs : List FS} {ms : List FM} {a : Expr} {ia : E}
theorem ClsX.un {A : List Addr} {c : Nat} (h : ClsX (g.w A) c) : ClsX g c := ⟨h.cl, h.ha, h.hn, h.htk, h.hm, h.nf⟩
end
end DV

namespace DV
open PySem L2

/-! ### a method of an object of the store, called with keywords alone -/
structure MtdMK (P : Program) (w : World) (mg : Str → Option Value) (base : Heap) (g : Gx) (k : Nat) (c : Nat) (x : Str) (ks : List Str) (p : List Nat) (F : FM) : Prop where
  ex : ∃ f fd ps gg gV, Cls g.K (g.cl c) ∧ Meth g.K (g.cl c) x f ∧ KBn g.K fd ps 1 ks gg gV ∧ (∀ (s : V) (zs : List V), zs.length = ks.length → gV [s] zs = s :: permL p zs) ∧ FnOk P w g.K mg base CX0 k f fd ps (spM g (p.length + 1) F)
section
variable {P : Program} {w : World} {mg : Str → Option Value} {base : Heap} {g : Gx}
theorem MtdMK.mono {j k c : Nat} {x : Str} {ks : List Str} {p : List Nat} {F : FM} (h : MtdMK P w mg base g j c x ks p F) (l : j ≤ k) : MtdMK P w mg base g k c x ks p F := by
  obtain ⟨f, fd, ps, gg, gV, h1, h2, h3, h5, h4⟩ := h.ex
  exact ⟨f, fd, ps, gg, gV, h1, h2, h3, h5, h4.mono l⟩
end
section
variable {X : Cx} {g : Gx} {fs : List FS} {ms : List FM} {a b e o : Expr} {es : List Expr} {io : E} {xa xb : XE} {xs : List XE} {x m : Str} {q pos apos kpos : Pos} {c k i n : Nat} {kws : List Keyword} {ks : List Str} {p : List Nat}
theorem PK.weak {t t' : TA} (h : PK X kws t) (k : ∀ σ H Q, t' σ H Q → t σ H Q) : PK X kws t' := ⟨fun pos pins s σ H Q I q => h.run pos pins s σ H Q I (k σ H Q q)⟩
/-! ### == of objects of the store, looked at -/
end
end DV

namespace DV
open PySem L2 PySem.Spec
section
variable {X : Cx} {g : Gx} {fs : List FS} {ms : List FM} {pos : Pos}
end
end DV

namespace DV
open PySem L2

/-! ### further expressions beside a store -/
section
variable {X : Cx} {g : Gx} {fs : List FS} {ms : List FM} {a e : Expr} {es : List Expr} {xa : XE} {xs : List XE} {p pos : Pos} {k i n : Nat} {x : Str}
end
/-! ### an item of a local list is set to a value of the store's language -/
section
variable {X : Cx} {g : Gx} {fs : List FS} {ms : List FM} {xa : XE} {pos : Pos}
end
end DV

namespace DV
open PySem L2

/-! ### a value picked from a written dict of texts -/
section
variable {X : Cx} {g : Gx} {fs : List FS} {b : Expr} {ib : E} {pos dpos q1 q2 q3 q4 : Pos} {j1 j2 j3 j4 : Nat} {k1 k2 v1 v2 : Str}
end
end DV

namespace DV
open PySem L2

/-! ### a comprehension whose items are made with the store -/
section
variable {g : Gx} {A A' : List Addr} {Bn : Addr → Prop} {Ow Ow' : List Addr} {H H' : Hp} {σ σ' : St} {Γ Γ' : Ct} {M M' : List D} {p : Addr}
theorem SS.wipe (own : List Nat) (r : SS g A Bn Ow H σ Γ M) : SS g A Bn Ow H (L2.wipe σ own) (wipeG Γ own) M := ⟨r.rs.wipe own, r.len, r.nd, r.sepA, r.cell⟩
theorem orB_bx : orB (Bx Bn A) p = Bx (orB Bn p) A := by
  funext a
  simp only [orB, Bx, eq_iff_iff]
  constructor
  · rintro ((h | h) | h)
    · exact .inl (.inl h)
    · exact .inr h
    · exact .inl (.inr h)
  · rintro ((h | h) | h)
    · exact .inl (.inl h)
    · exact .inr h
    · exact .inl (.inr h)
theorem SS.addB (r : SS g A Bn Ow H σ Γ M) (s : Same H H') (np : H p = none) (hp : LI H' p) (hk : g.K.lookup p = none) : SS g A (orB Bn p) Ow H' σ Γ M := by
  have r2 := r.step ⟨fun a o h _ _ => s a o h, fun a h => by
    rcases List.mem_cons.mp h with h | h
    · rw [h]; exact .inr (nw_none np)
    · exact .inl h⟩ (r.rs.add s np hp hk)
  have av : ∀ a, Av (Bx (orB Bn p) A) Ow a → Av (Bx Bn A) (p :: Ow) a := fun a h => by
    rcases h with ((h | h) | h) | h
    · exact .inl (.inl h)
    · exact .inr (by rw [h]; exact List.mem_cons_self)
    · exact .inl (.inr h)
    · exact .inr (List.mem_cons_of_mem _ h)
  refine ⟨?_, r.len, r.nd, fun a m z => ?_, fun k d a h1 h2 => own_less av (r2.cell k d a h1 h2)⟩
  · have := r.rs.addB s np hp hk
    rw [orB_bx] at this
    exact this
  · rcases z with z | z
    · exact r.sepA a m z
    · rw [z] at m
      exact r.rs.trk p (.inl (.inr m)) np
theorem SS.updB {o : HO} (r : SS g A (orB Bn p) Ow H σ Γ M) (ho : LI (upd H p o) p) : SS g A (orB Bn p) Ow (upd H p o) σ Γ M := by
  have v := ban_vst (g := g.w A) (H := H) (o := o) (A := Av (Bx (orB Bn p) A) Ow) (p := p) (.inl (.inl (.inr rfl)))
  refine ⟨r.rs.updB (.inl (.inr rfl)) ho, r.len, r.nd, r.sepA, fun k d a h1 h2 => ?_⟩
  have ne : a ≠ p := fun z => r.sepA a (r.ad h2).1 (.inr z)
  have q := r.cell k d a h1 h2
  cases d with
  | lst ds => obtain ⟨ws, z1, z2⟩ := q; exact ⟨ws, by rw [upd_ne ne]; exact z1, reps_mono v _ _ z2⟩
  | obj c ks ds => obtain ⟨dx, ws, l, z1, z2⟩ := q; exact ⟨dx, ws, l, by rw [upd_ne ne]; exact z1, reps_mono v _ _ z2⟩
  | _ => exact q
theorem SS.rest {own : List Nat} (r0 : SS g A Bn Ow H σ Γ M) (hp : plainIx Γ own = true) (np : H p = none) (hk : g.K.lookup p = none) (s : Sm A Ow H A' Ow' H') (r : SS g A' (orB Bn p) Ow' H' (L2.wipe σ own) Γ' M') : SS g A' (orB Bn p) Ow' H' σ (restG Γ Γ' own) M' := by
  have rs := r.rs
  have hl : σ.length = Γ'.length := by rw [← rs.len, wipe_length]
  have pl : ∀ i, i ∈ own → ∀ d, Γ[i]? ≠ some (some (d, true)) := fun i hi d z => by
    unfold plainIx at hp
    have q := List.all_eq_true.mp hp i hi
    rw [z] at q
    cases q
  have inn : ∀ {i : Nat} {q : D × Bool}, i ∈ own → (restG Γ Γ' own)[i]? = some (some q) → Γ[i]? = some (some q) := fun {i q} hi h => by
    have hlt : i < Γ'.length := by
      rw [← restG_len Γ Γ' own]
      exact (List.getElem?_eq_some_iff.mp h).1
    rw [restG_in hi hlt] at h
    have hlt2 : i < Γ.length := by rw [← r0.rs.len, hl]; exact hlt
    rw [List.getD_eq_getElem?_getD, List.getElem?_eq_getElem hlt2] at h
    rw [List.getElem?_eq_getElem hlt2]
    simpa using h
  have vst : ∀ a, Vst (g.w A) (Av (Bx Bn A) Ow) H a → (∀ o, H a = some o → nT o → H' a = some o) ∧ ¬ Av (Bx (orB Bn p) A') Ow' a := fun a h => by
    have q := sm_vst (g := g) (Bn := Bn) s (fun a z => rs.kf a (z.elim .inr fun z => .inl (.inr z))) a h
    refine ⟨q.1, fun z => ?_⟩
    rcases z with ((z | z) | z) | z
    · exact q.2 (.inl (.inl z))
    · obtain ⟨_, t⟩ := h
      rw [z] at t
      rcases t with ⟨o, t, _⟩ | ⟨o, t⟩
      · rw [np] at t; cases t
      · have t : g.K.lookup p = some o := t
        rw [hk] at t; cases t
    · exact q.2 (.inl (.inr z))
    · exact q.2 (.inr z)
  refine ⟨⟨by rw [restG_len]; exact hl, fun i d h => ?_, fun i d h => ?_, fun i j d e a h1 h2 h3 h4 => ?_, rs.trl, rs.sep, rs.kf, rs.tabs⟩, r.len, r.nd, r.sepA, r.cell⟩
  · by_cases hi : i ∈ own
    · obtain ⟨v, e, q⟩ := r0.rs.slot i d (inn hi h)
      exact ⟨v, e, rep_w s.pre _ _ (rep_mono (g := g.w A) vst _ _ q)⟩
    · rw [restG_out hi] at h
      obtain ⟨v, e, q⟩ := rs.slot i d h
      rw [wipe_nout hi] at e
      exact ⟨v, e, q⟩
  · by_cases hi : i ∈ own
    · exact absurd (inn hi h) (pl i hi d)
    · rw [restG_out hi] at h
      obtain ⟨v, e, q⟩ := rs.own i d h
      rw [wipe_nout hi] at e
      exact ⟨v, e, q⟩
  · have n1 : i ∉ own := fun z => pl i z d (inn z h1)
    have n2 : j ∉ own := fun z => pl j z e (inn z h2)
    rw [restG_out n1] at h1
    rw [restG_out n2] at h2
    exact rs.dist i j _ _ _ h1 h2 (by rw [wipe_nout n1]; exact h3) (by rw [wipe_nout n2]; exact h4)
end
section
variable {g : Gx} {fs : List FS} {ms : List FM}
end
section
variable {X : Cx} {g : Gx} {fs : List FS} {ms : List FM}
end
end DV

namespace DV
open PySem L2

/-! ### an item of a list of the store -/
section
variable {X : Cx} {g : Gx} {fs : List FS} {ms : List FM} {a b : Expr} {xa : XE} {ib : E} {pos : Pos}
end
/-! ### a comprehension over a list of the store -/
section
variable {g : Gx} {fs : List FS} {ms : List FM}
end
section
variable {X : Cx} {g : Gx} {fs : List FS} {ms : List FM}
end
end DV

namespace DV
open PySem PySem.SeqAt
open AutoSeq1 (wpAny_loadPart')
open MeetsSeq MeetsSeq2 MeetsSeq3 SeqRoads2
section
variable {prog : Program} {w : World} {A : Around} {R : Result → Shared → Prop}
end
section
variable {prog : Program} {w : World} {A : Around} {E : Value → Shared → Prop} {s : Shared}
end
open L2
section
/-- all stays but tables, which stay in order -/
structure Ex (g : Gx) (H H' : Hp) : Prop where
  k : LamX.ExtN H H'
  t : Tb g.T H → Tb g.T H'
theorem Ex.refl (g : Gx) (H : Hp) : Ex g H H := ⟨LamX.ExtN.refl H, id⟩
theorem Ex.trans {g : Gx} {H H1 H2 : Hp} (a : Ex g H H1) (b : Ex g H1 H2) : Ex g H H2 := ⟨a.k.trans b.k, fun t => b.t (a.t t)⟩
variable {X : Cx} {g : Gx} {n m : Nat} {E E' : Eqv}
def MonN (g : Gx) (E : Eqv) : Prop := ∀ x y H H', Ex g H H' → E x y H → E x y H'
def EqN (X : Cx) (g : Gx) (n : Nat) (E : Eqv) : Prop :=
  ∀ (A : Around) (pins : List (Addr × Obj)) (s : Shared) (σ : St) (H : Hp) (x y : V) (u v : Value), L2.Sub X n A → Inv X pins σ H s → RelV x u → RelV y v → E x y H →
    wpAny (model X.prog X.w) A (eqBool u v) (fun r s' => r = true ∧ ∃ H', Inv X pins σ H' s' ∧ Ex g H H') X.xe s
theorem EqN.mono (h : EqN X g n E) (hn : n ≤ m) : EqN X g m E := fun A pins s σ H x y u v sb => h A pins s σ H x y u v (sb.mono hn)
theorem EqN.or (h : EqN X g n E) (h' : EqN X g n E') : EqN X g n (fun x y H => E x y H ∨ E' x y H) := fun A pins s σ H x y u v sb I rx ry d => by
  rcases d with d | d
  · exact h A pins s σ H x y u v sb I rx ry d
  · exact h' A pins s σ H x y u v sb I rx ry d
theorem MonN.or (h : MonN g E) (h' : MonN g E') : MonN g (fun x y H => E x y H ∨ E' x y H) := fun x y H H' e d => d.elim (fun d => .inl (h x y H H' e d)) fun d => .inr (h' x y H H' e d)
end
/-! ### data that are equal, objects by their own == -/
section
variable {X : Cx} {g : Gx} {n k c : Nat} {F : FS}
end
section
variable {g : Gx} {c : Nat} {F : FS} {H : Hp}
end
section
variable {X : Cx} {g : Gx} {fs : List FS} {ms : List FM} {a b : Expr} {xa xb : XE} {pos : Pos} {c k i : Nat} {F : FS}
end
end DV

namespace DV
open PySem L2

/-! ### the own == of a class, asked with an object of another class, too -/
section
variable {X : Cx} {g : Gx} {fs : List FS} {a b : Expr} {ia ib : E} {pos : Pos} {c c2 k i : Nat} {F : FS}
end
end DV

namespace DV
open PySem L2

/-! ### a name gets a comprehension whose variable is a name of the function, too -/
section
variable {X : Cx} {g : Gx} {fs : List FS} {ms : List FM}
end
end DV

namespace DV
open PySem L2 PySem.W PyProof.Rows
/-! ### lambdas as values: made, kept, called later -/
/-- nothing is asked of it -/
def anyO : HO := .ext fun _ => True
/-- the lambda's object -/
abbrev lamO (X : Cx) (params : Arguments) (body : Expr) (scope : Scope) (dV doc pm : Value) (c' : Addr) (ctv : Value) : Obj :=
  kdv_obj "<lambda>" (X.env.qual ++ "<lambda>") params (.expr body) scope (cloFrom X.env.cells scope.names []) dV doc pm c' ctv
/-- f is the lambda -/
def LamAt (X : Cx) (H : Hp) (f : Addr) (params : Arguments) (body : Expr) (scope : Scope) : Prop :=
  ∃ c' dV doc pm ctv, H f = some (.frz (lamO X params body scope dV doc pm c' ctv) anyO) ∧ H c' = some (LamX.CodeO c' (X.env.qual ++ "<lambda>")) ∧ ((params.defaults = [] ∧ dV = .none) ∨ (params.defaults ≠ [] ∧ ∃ t d, dV = .ref t ∧ H t = some (.tup [d])))
section
variable {X : Cx} {pins : List (Addr × Obj)} {σ : L2.St} {H : Hp} {s : Shared}
end
/-! ### the lambda's frame -/
section
variable {X : Cx} {pins : List (Addr × Obj)} {σ : L2.St} {H HZ : Hp} {s s1 : Shared}
end
end DV

namespace DV
open PySem L2 PySem.W PyProof.Rows
/-! ### a comprehension over a list of known values, its parts told of the very state it starts in -/
section
variable {X : Cx} {pins : List (Addr × Obj)} {σ : L2.St} {H : Hp} {s : Shared}
end
end DV

namespace DV
open PySem L2 PySem.W PyProof.Rows
/-! ### [told(a) for a in asks], asks a list of lambdas -/
/-- a lambda: its text and what it computes -/
structure LS where
  params : Arguments
  body : Expr
  scope : Scope
  e : E
/-- the lambdas of a list -/
def Lams (X : Cx) (H : Hp) : List LS → List V → Prop
  | [], vs => vs = []
  | l :: ls, vs => ∃ f r, vs = .ref f :: r ∧ LamAt X H f l.params l.body l.scope ∧ Lams X H ls r
section
variable {X : Cx} {g : Gx} {fs fs0 : List FS}
theorem LamAt.keep {H H' : Hp} {f : Addr} {p : Arguments} {b : Expr} {sc : Scope} (h : LamAt X H f p b sc) (k : ∀ a o, H a = some o → nT o → ¬ LI H a → H' a = some o) : LamAt X H' f p b sc := by
  obtain ⟨c', dV, doc, pm, ctv, h1, h2, h3⟩ := h
  have nl : ∀ {a : Addr} {o : HO}, H a = some o → (∀ vs, o ≠ .lst vs) → (∀ C dx fl, o ≠ .ins C dx fl) → ¬ LI H a := fun e n1 n2 z => by
    rcases z with ⟨vs, q⟩ | ⟨C, dx, fl, q⟩
    · rw [e] at q; cases q; exact n1 _ rfl
    · rw [e] at q; cases q; exact n2 _ _ _ rfl
  refine ⟨c', dV, doc, pm, ctv, k _ _ h1 nofun (nl h1 nofun nofun), k _ _ h2 (fun ps => LamX.codeO_ne ps) (nl h2 (by unfold LamX.CodeO; nofun) (by unfold LamX.CodeO; nofun)), h3.imp id fun ⟨h4, t, d, e, h5⟩ => ⟨h4, t, d, e, k _ _ h5 nofun (nl h5 nofun nofun)⟩⟩
theorem Lams.keep {H H' : Hp} (k : ∀ a o, H a = some o → nT o → ¬ LI H a → H' a = some o) : ∀ {ls : List LS} {vs : List V}, Lams X H ls vs → Lams X H' ls vs
  | [], _, h => h
  | l :: ls, _, ⟨f, r, e, h1, h2⟩ => ⟨f, r, e, h1.keep k, Lams.keep k h2⟩
theorem Lams.len {H : Hp} : ∀ {ls : List LS} {vs : List V}, Lams X H ls vs → vs.length = ls.length
  | [], _, h => by rw [show _ = [] from h]; rfl
  | l :: ls, _, ⟨f, r, e, h1, h2⟩ => by rw [e, List.length_cons, List.length_cons, h2.len]
theorem Lams.at_ {H : Hp} : ∀ {ls : List LS} {vs : List V} {i : Nat} {x : V}, Lams X H ls vs → vs[i]? = some x → ∃ l f, ls[i]? = some l ∧ x = .ref f ∧ LamAt X H f l.params l.body l.scope
  | [], _, _, _, h, e => by rw [show _ = [] from h] at e; cases e
  | l :: ls, _, 0, _, ⟨f, r, e, h1, h2⟩, q => by subst e; cases q; exact ⟨l, f, rfl, rfl, h1⟩
  | l :: ls, _, i + 1, _, ⟨f, r, e, h1, h2⟩, q => by subst e; exact h2.at_ (by simpa using q)
theorem Lams.app {H : Hp} : ∀ {ls ms : List LS} {vs ws : List V}, Lams X H ls vs → Lams X H ms ws → Lams X H (ls ++ ms) (vs ++ ws)
  | [], _, _, _, h, h2 => by rw [show _ = [] from h]; exact h2
  | l :: ls, _, _, _, ⟨f, r, e, h1, h2⟩, h3 => by subst e; exact ⟨f, _, rfl, h1, h2.app h3⟩
end
section
variable {X : Cx} {g : Gx} {fs fs0 : List FS} {d0 : D} {sd : Nat → List Str → List D → Option D}
end
end DV

namespace DV
open PySem L2 PySem.W PyProof.Rows
/-! ### statements that make and use a list of lambdas -/
section
variable {g : Gx} {Bn : Addr → Prop} {Ow Ow' : List Addr} {H H' : Hp} {σ : L2.St} {Γ Γ' : Ct}
end
section
variable {X : Cx} {g : Gx} {fs fs0 : List FS} {Wx : L2.XK} {d0 : D} {sd : Nat → List Str → List D → Option D}
section
variable {il : Nat} {ls : List LS} {ia ib : E} {a b : Expr} {pos : Pos}
end
end
end DV

namespace DV
open PySem L2 PySem.W PyProof.Rows
/-! ### the rules as the generator prints them -/
section
variable {X : Cx} {g : Gx} {fs fs0 : List FS} {d0 : D} {sd : Nat → List Str → List D → Option D}
end
end DV

namespace DV
open PySem L2
variable {Wx : L2.XK}
/-! ### methods that may raise -/
section
variable {X : Cx} {g : Gx} {fs : List FS} {o e : Expr} {es : List Expr} {io ie : E} {ies : List E} {c k i n : Nat} {F : FS} {m : Str} {apos pos : Pos}
/-! ### an expression of which a part raises -/
open PyProof.Rows in
end
end DV

namespace DV
open PySem L2 PySem.W PyProof.Rows
variable {Wx : L2.XK}
/-! ### a def as the value of a name -/
section
variable {X : Cx} {g : Gx} {fs fs0 : List FS} {d0 : D} {sd : Nat → List Str → List D → Option D} {i : Nat} {y : Str}
/-- statements while slot i holds the def -/
def tSF (X : Cx) (g : Gx) (Wx : L2.XK) (fs : List FS) (i : Nat) (y : Str) (irs : List S) : TS := fun Dn σ H =>
  ∃ pv Bn Ow Γ o f, X.mg y = some (.ref f) ∧ (i, V.ref f) ∈ pv.2 ∧ RS g Bn Ow H σ Γ ∧ Pin pv σ ∧ exs fs (pv.2.map (·.1)) irs Γ = some o ∧ Post g Wx Dn pv Bn Ow H o
end
end DV

namespace DV
open PySem L2 PySem.W PyProof.Rows
variable {Wx : L2.XK}
/-! ### turns over defs: for ask in (f, g, h) -/
def FnVs (mg : Str → Option Value) : List Str → List V → Prop
  | [], vs => vs = []
  | y :: ys, vs => ∃ f ws, mg y = some (.ref f) ∧ vs = .ref f :: ws ∧ FnVs mg ys ws
theorem FnVs.len {mg : Str → Option Value} : ∀ {ys : List Str} {vs : List V}, FnVs mg ys vs → vs.length = ys.length
  | [], _, h => by have h : _ = [] := h; subst h; rfl
  | y :: ys, _, ⟨f, ws, _, e, h⟩ => by subst e; rw [List.length_cons, List.length_cons, h.len]
theorem FnVs.at {mg : Str → Option Value} : ∀ {ys : List Str} {vs : List V} {k : Nat} {y : Str}, FnVs mg ys vs → ys[k]? = some y → ∃ f, mg y = some (.ref f) ∧ vs[k]? = some (.ref f)
  | [], _, k, y, _, h => by simp at h
  | z :: ys, _, 0, y, ⟨f, ws, m, e, _⟩, h => by
    subst e
    simp only [List.getElem?_cons_zero, Option.some.injEq] at h ⊢
    subst h
    exact ⟨f, m, rfl⟩
  | z :: ys, _, k + 1, y, ⟨f, ws, m, e, r⟩, h => by
    subst e
    simp only [List.getElem?_cons_succ] at h ⊢
    exact r.at h
/-- each statement is: if ..: return .. -/
def plainIfs : List S → Bool
  | [] => true
  | .ite _ [.ret _] [] :: ss => plainIfs ss
  | _ => false
section
variable {X : Cx} {g : Gx} {fs : List FS} {i : Nat}
/-- the body, for each def -/
def AllB (X : Cx) (g : Gx) (Wx : L2.XK) (fs : List FS) (i : Nat) (body : List Stmt) : List Str → List (List S) → Prop
  | [], [] => True
  | y :: ys, b :: bs => PSs X body (tSF X g Wx fs i y b) ∧ plainIfs b = true ∧ AllB X g Wx fs i body ys bs
  | _, _ => False
theorem AllB.at {body : List Stmt} : ∀ {ys : List Str} {bs : List (List S)} {k : Nat}, AllB X g Wx fs i body ys bs → k < ys.length → ∃ y b, ys[k]? = some y ∧ bs.drop k = b :: bs.drop (k + 1) ∧ PSs X body (tSF X g Wx fs i y b) ∧ plainIfs b = true
  | [], [], k, _, h => by simp at h
  | y :: ys, b :: bs, 0, ⟨h1, h2, _⟩, _ => ⟨y, b, rfl, rfl, h1, h2⟩
  | y :: ys, b :: bs, k + 1, ⟨_, _, h⟩, hk => by
    obtain ⟨y', b', e1, e2, e3, e4⟩ := h.at (k := k) (by simpa using hk)
    exact ⟨y', b', by simpa using e1, by simpa using e2, e3, e4⟩
theorem AllB.len {body : List Stmt} : ∀ {ys : List Str} {bs : List (List S)}, AllB X g Wx fs i body ys bs → bs.length = ys.length
  | [], [], _ => rfl
  | y :: ys, b :: bs, ⟨_, _, h⟩ => by rw [List.length_cons, List.length_cons, h.len]
end
end DV

namespace DV
open PySem L2
variable {Wx : L2.XK}
end DV

namespace DV
open PySem L2
/-! ### try with several clauses: except C as e -/
section
variable {X : Cx} {n : Str} {i : Nat} {bdy : List Stmt} {h₀ : ExceptHandler} {hdl : List ExceptHandler} {pos : Pos} {tb : WX → TS} {l : List (Value × (Addr → Value → Option Addr → TS))}
end
end DV

namespace DV
open PySem L2
/-! ### a def that calls what it got, with several clauses -/
section
variable {X : Cx} {g : Gx} {fs0 : List FS} {Ng : List Str} {x a n q : Str} {sg : Scope} {g0 : Addr} {cdg : Value} {p2 q1 : Stmt} {mid : List Stmt} {pa pb pc pos : Pos} {i2 iq : S} {im : List S} {ie nn : Nat} {cls : List (List Nat × List S)} {BEs : List Addr} {d0 : D} {h₀ : ExceptHandler} {hdl : List ExceptHandler}
end
end DV

namespace DV
open PySem L2
/-! ### several clauses, as the generator prints them -/
end DV

namespace DV
open PySem L2
/-! ### o + x, an own + that may raise; x of any kind -/
def addB : D → Bool
  | .dct => true
  | d => plainB d
section
open PySem.W PyProof.Rows
variable {prog : Program} {w : World} {A : Around} {E : Value → Shared → Prop} {s : Shared} {K : Frag} {x C L f : Addr} {h₀ : Heap} {m : Str → Option Value} {ox : Obj} {od : Option Obj} {T : String}
end
section
variable {X : Cx} {g : Gx} {k : Nat} {Wx : L2.XK}
end
section
variable {X : Cx} {g : Gx} {fs : List FS} {a b : Expr} {ia ib : E} {pos : Pos} {c k i : Nat} {F : FS} {Wx : L2.XK}
end
end DV

namespace DV
open PySem L2
/-! ### == of two tuples of objects that are equal by their own == -/
section
variable {X : Cx} {g : Gx} {fs : List FS} {a b : Expr} {ia ib : E} {pos : Pos} {c i k : Nat} {F : FS}
end
end DV

namespace DV
open PySem L2
/-! ### a def beside a store, where no repr is under way; the law with tables -/
section
variable {P : Program} {w : World} {mg : Str → Option Value} {base : Heap} {g : Gx} {fs : List FS} {ms : List FM}
end
theorem LamT.w {g : Gx} {base : Heap} {mg : Str → Option Value} {c : Addr} {q : Str} (h : LamT g base mg c q) (A : List Addr) : LamT (g.w A) base mg c q := ⟨h.ex⟩
theorem Told.w {g : Gx} {mg : Str → Option Value} {x a : Str} {st : Stmt} (h : Told g mg x a st) (A : List Addr) : Told (g.w A) mg x a st := ⟨h.ex⟩
end DV

namespace DV
open PySem L2 PySem.W PyProof.Rows
/-! ### a def that asks what it got of each item of a list: [test(item) for item in value] if isinstance(value, list) else [] -/
section
variable {g : Gx} {Bn : Addr → Prop} {Ow : List Addr} {H : Hp} {σ : L2.St} {Γ : Ct}
end
/-- all but lists and objects stay -/
abbrev Stays (Kp : Hp → Prop) : Prop := ∀ (H H' : Hp), (∀ a o, H a = some o → nT o → ¬ LI H a → H' a = some o) → Kp H → Kp H'
theorem Stays.step {Kp : Hp → Prop} (k : Stays Kp) {g : Gx} {Bn : Addr → Prop} {Ow Ow' : List Addr} {H H' : Hp} {σ : L2.St} {Γ : Ct} (rs : RS g Bn Ow H σ Γ) (s : Stp Ow H Ow' H') (h : Kp H) : Kp H' := k H H' (fun a o e t n => s.keep0 a o e t fun z => n (rs.trl a (.inr z))) h
section
variable {Z : Cx} {g : Gx} {fs : List FS}
end
end DV

namespace DV
open PySem L2 PySem.W PyProof.Rows
section
variable {Z : Cx} {g : Gx} {fs : List FS}
end
end DV

namespace DV
open PySem L2 PySem.W PyProof.Rows
/-! ### a lambda of one parameter, asked by the def that got it -/
section
variable {X : Cx} {pins : List (Addr × Obj)} {σ : L2.St} {H HZ : Hp} {s s1 : Shared}
end
end DV

namespace DV
open PySem L2 PySem.W PyProof.Rows
/-! ### marked(e, test), test a def or a lambda of one parameter -/
/-- where it stands -/
structure Told2 (g : Gx) (mg : Str → Option Value) (x va te : Str) (st : Stmt) : Prop where
  ex : ∃ (g0 : Addr) (oc : Value) (od : Option Addr) (kV doc pm : Value) (an : Option Addr) (cdv ct : Value) (osl : Array (Option Value)), mg x = some (.ref g0) ∧ PySem.W.keepIn g.K (.ref g0) = true ∧
    g.K.lookup g0 = some ⟨oc, od, .func (PySem.W.fnOf x x (defArgs st) (defBody st) (defScope st) .none kV doc pm an cdv ct), osl⟩ ∧ PySem.W.codeIn g.K cdv x = true ∧ L2.Binds g.K (PySem.W.fnOf x x (defArgs st) (defBody st) (defScope st) .none kV doc pm an cdv ct) [va, te] []
theorem Told2.w {g : Gx} {mg : Str → Option Value} {x va te : Str} {st : Stmt} (T : Told2 g mg x va te st) {g' : Gx} (h : g'.K = g.K) : Told2 g' mg x va te st := by
  obtain ⟨g0, oc, od, kV, doc, pm, an, cdv, ct, osl, h1, h2, h3, h4, h5⟩ := T.ex
  exact ⟨g0, oc, od, kV, doc, pm, an, cdv, ct, osl, h1, by rw [h]; exact h2, by rw [h]; exact h3, by rw [h]; exact h4, by rw [h]; exact h5⟩
section
variable {X : Cx} {g : Gx} {fs : List FS}
end
end DV

namespace DV
open PySem L2 PySem.W PyProof.Rows
variable {Wx : L2.XK}
/-! ### try: f(..) / except C: return e -/
section
variable {X : Cx} {g : Gx} {fs : List FS} {e e2 : Expr} {ie ir : E} {x : Str} {cv : Value} {np pos pos' pc p2 : Pos} {all : List Nat}
end
end DV

namespace DV
open PySem L2
/-! ### a comprehension whose test works on the store; enumerate of a value of the store's language -/
section
variable {g : Gx} {fs : List FS} {ms : List FM}
end
section
variable {X : Cx} {g : Gx} {fs : List FS} {ms : List FM}
end
end DV

namespace DV
open PySem L2
/-! ### methods that make lambdas: their tables are seen behind the top -/
end DV

namespace DV
open PySem L2 PySem.Spec PyProof.Rows
/-! ### sorted(set(xs)), xs a list of ints -/
section
variable {P : Program} {w : World} {A : Around} {E : Value → Shared → Prop} {s : Shared}
end
end DV

namespace DV
open PySem L2 PySem.Spec PyProof.Rows
/-! ### sorted(set(xs)), as a form -/
section
variable {X : Cx}
end
section
variable {X : Cx} {g : Gx} {fs : List FS} {a : Expr} {ia : E} {p p2 q pos : Pos}
end
end DV

namespace DV
open PySem L2
section
variable {P : Program} {w : World} {mg : Str → Option Value} {base : Heap} {g : Gx} {fs : List FS}
end
end DV

namespace DV
open PySem L2 PySem.W PyProof.Rows
/-! ### texts -/
/-- of one value, by its datum -/
def uniF (ia : E) (f : D → Option D) : List FS → Ct → Option (RV × Ct) := fun fs Γ => (ev fs ia Γ).bind fun (x, Γ1) => (datum Γ1 x).bind fun d => (f d).map fun r => (.fz r, Γ1)
def strD : D → Option D
  | .int i => if i.natAbs.log2 < 1920 then some (.str (toString i)) else none
  | _ => none
def fmtD : D → Option D
  | .str y => if y.length ≤ sizeLine then some (.str y) else none
  | .int i => if i.natAbs.log2 < 1920 then some (.str (toString i)) else none
  | _ => none
def strsD : List D → Option (List Str)
  | [] => some []
  | .str x :: r => (strsD r).map (x :: ·)
  | _ => none
def joinS (b : Str) (ys : List Str) : Option D := if (ys.map (·.length)).sum + ys.length * b.length ≤ 16777216 then some (.str (Txt.join b ys)) else none
def joinD (b : Str) : D → Option D
  | .lst ds => (strsD ds).bind (joinS b)
  | .tup ds => (strsD ds).bind (joinS b)
  | _ => none
def splD (b : Str) : D → Option (List D)
  | .str a => if (b.length == 0) = false ∧ a.length + 2 ≤ sizeLine then some ((Txt.split a b).map D.str) else none
  | _ => none
def splF (ia : E) (b : Str) : List FS → Ct → Option (RV × Ct) := fun fs Γ => (ev fs ia Γ).bind fun (x, Γ1) => (datum Γ1 x).bind fun d => (splD b d).map fun r => (.nw (.lst r), Γ1)
def inD (b : Str) : D → Option D
  | .str i => some (.bl (!(Builtin.Str.occurrences b i 0 b.length 1).isEmpty))
  | _ => none
def sixD (b : Str) : D → Option D
  | .str s => match Builtin.Str.occurrences b s 0 b.length 1 with
    | i :: _ => some (.int (i : Nat))
    | [] => none
  | _ => none
def chD (x : Str) : List D := x.cps.toList.map fun c => .str ⟨#[c]⟩
def chF (ia : E) : List FS → Ct → Option (RV × Ct) := fun fs Γ => (ev fs ia Γ).bind fun (x, Γ1) => (datum Γ1 x).bind fun d => match d with
  | .str y => some (.fz (.tup (chD y)), Γ1)
  | _ => none
def jsF (fs : List FS) : List E → Str → Ct → Option (Str × Ct)
  | [], acc, Γ => some (acc, Γ)
  | e :: es, acc, Γ => (ev fs e Γ).bind fun (x, Γ1) => (datum Γ1 x).bind fun d => match d with
    | .str y => if (acc ++ y).length ≤ sizeLine then jsF fs es (acc ++ y) Γ1 else none
    | _ => none
def fsF (ies : List E) : List FS → Ct → Option (RV × Ct) := fun fs Γ => (jsF fs ies Str.empty Γ).map fun (y, Γ1) => (.fz (.str y), Γ1)
/-- try: return f(..) / except C: return e -/
def tryRR (ie : E) (all : List Nat) (ir : E) : List FS → Ct → Option Out := fun fs Γ => (ev fs ie Γ).bind fun (x, Γ1) => match x with
  | .fz (.exc c _ _) => if all.contains c then (ev fs ir Γ1).map fun (r, Γ2) => .rt r Γ2 else none
  | _ => some (.rt x Γ1)
section
variable {X : Cx} {g : Gx} {fs : List FS} {a e : Expr} {ia ie : E} {pos apos p : Pos}
theorem uni_core {f : D → Option D} {r : V → Hp → VK → Prop} {σ : L2.St} {H : Hp} {Q : VK}
    (k : ∀ (A : Addr → Prop) (H : Hp) (d r' : D) (v : V) (Q : VK), Rdb g A H d v → f d = some r' → (∀ u, Rep g A H r' u → Q u H) → r v H Q)
    (h : tR g fs (.sem (uniF ia f)) σ H Q) : tR g fs ia σ H fun x H1 => r x H1 Q := by
  obtain ⟨Bn, Ow, Γ, rr, Γ', rs, he, hQ⟩ := h
  rw [show ev fs (.sem (uniF ia f)) Γ = uniF ia f fs Γ by simp only [ev]] at he
  unfold uniF at he
  obtain ⟨⟨x, Γ1⟩, e1, he⟩ := Option.bind_eq_some_iff.mp he
  obtain ⟨d, e2, he⟩ := Option.bind_eq_some_iff.mp he
  obtain ⟨r', e3, he⟩ := Option.map_eq_some_iff.mp he
  simp only [Prod.mk.injEq] at he
  obtain ⟨rfl, rfl⟩ := he
  rw [← datum_dn] at e2
  refine tR_one rs e1 fun v H1 O1 s1 r1 v1 => ?_
  exact k _ _ _ _ _ _ (v1.rdb r1 e2) e3 fun u ru => hQ u H1 O1 s1 r1 ru
theorem rep_str {A : Addr → Prop} {H : Hp} {y : Str} : Rep g A H (.str y) (.str y) := by simp only [Rep]
theorem rep_int {A : Addr → Prop} {H : Hp} {y : Int} : Rep g A H (.int y) (.int y) := by simp only [Rep]
theorem rep_bl {A : Addr → Prop} {H : Hp} {y : Bool} : Rep g A H (.bl y) (.bl y) := by simp only [Rep]
theorem k_strI (ha : PE X e (tR g fs ie)) (hm : X.mg "str" = none) (hg : Gl X "str") (he : starEach [e] X.env = (false, eval e X.env) :: starEach [] X.env) :
    PE X (.Call (.Name "str" p) [e] [] pos) (tR g fs (.sem (uniF ie strD))) := by
  refine PE.weak (pe_callTy call_str_int hg hm boot_str (pa_cons ha pa_nil he) (by decide) (by decide) he) ?_
  intro σ H Q h
  refine uni_core (r := fun v H1 Q => ∃ i, [v] = [V.int i] ∧ i.natAbs.log2 < 1920 ∧ Q (.str (toString i)) H1) (fun A H d r' v Q hv hf q => ?_) h
  cases d <;> simp only [strD, reduceCtorEq, Option.ite_none_right_eq_some, Option.some.injEq] at hf
  obtain ⟨hz, rfl⟩ := hf
  exact ⟨_, by rw [rdb_int hv], hz, q _ rep_str⟩
theorem k_fmt (ha : PE X e (tR g fs ie)) : PE X (.FormattedValue e (-1) none pos) (tR g fs (.sem (uniF ie fmtD))) := by
  refine PE.weak (pe_fmt ha) ?_
  intro σ H Q h
  refine uni_core (r := fun x H1 Q => (∃ y : Str, x = .str y ∧ y.length ≤ sizeLine ∧ Q (.str y) H1) ∨ ∃ i : Int, x = .int i ∧ i.natAbs.log2 < 1920 ∧ Q (.str (toString i)) H1) (fun A H d r' v Q hv hf q => ?_) h
  cases d <;> simp only [fmtD, reduceCtorEq, Option.ite_none_right_eq_some, Option.some.injEq] at hf
  · obtain ⟨hz, rfl⟩ := hf
    exact .inr ⟨_, rdb_int hv, hz, q _ rep_str⟩
  · obtain ⟨hz, rfl⟩ := hf
    exact .inl ⟨_, rdb_str hv, hz, q _ rep_str⟩
inductive PJR (X : Cx) (g : Gx) (fs : List FS) : List Expr → List E → Prop where
  | nil : PJR X g fs [] []
  | cons {e : Expr} {ie : E} {es : List Expr} {ies : List E} (h : PE X e (tR g fs ie)) (r : PJR X g fs es ies) : PJR X g fs (e :: es) (ie :: ies)
theorem PJR.pj {es : List Expr} {ies : List E} (h : PJR X g fs es ies) : PJ X es (ies.map (tR g fs)) := by
  induction h with
  | nil => exact .nil
  | cons h _ ih => exact .cons h ih
theorem tJs_ok {σ : L2.St} : ∀ (ies : List E) (acc : Str) {Bn : Addr → Prop} {Ow : List Addr} {H : Hp} {Γ Γ' : Ct} {out : Str} {Q : Str → Hp → Prop}, RS g Bn Ow H σ Γ → jsF fs ies acc Γ = some (out, Γ') →
    (∀ H' Ow', Stp Ow H Ow' H' → RS g Bn Ow' H' σ Γ' → Q out H') → tJs (ies.map (tR g fs)) acc σ H Q
  | [], acc, Bn, Ow, H, Γ, Γ', out, Q, rs, he, hQ => by
    simp only [jsF, Option.some.injEq, Prod.mk.injEq] at he
    obtain ⟨rfl, rfl⟩ := he
    exact hQ H Ow (.refl _ _) rs
  | i :: ies, acc, Bn, Ow, H, Γ, Γ', out, Q, rs, he, hQ => by
    simp only [jsF] at he
    obtain ⟨⟨x, Γ1⟩, e1, he⟩ := Option.bind_eq_some_iff.mp he
    obtain ⟨d, e2, he⟩ := Option.bind_eq_some_iff.mp he
    rw [← datum_dn] at e2
    cases d <;> simp only [reduceCtorEq, Option.ite_none_right_eq_some] at he
    obtain ⟨hz, he⟩ := he
    refine tR_one rs e1 fun v H1 O1 s1 r1 v1 => ?_
    exact ⟨_, rdb_str (v1.rdb r1 e2), hz, tJs_ok ies _ r1 he fun H' O' s' r' => hQ H' O' (s1.trans s') r'⟩
theorem k_fstr {v1 v2 : Expr} {rest : List Expr} {ies : List E} (h : PJR X g fs (v1 :: v2 :: rest) ies) : PE X (.JoinedStr (v1 :: v2 :: rest) pos) (tR g fs (.sem (fsF ies))) := by
  refine PE.weak (pe_joined h.pj) ?_
  rintro σ H Q ⟨Bn, Ow, Γ, rr, Γ', rs, he, hQ⟩
  rw [show ev fs (.sem (fsF ies)) Γ = fsF ies fs Γ by simp only [ev]] at he
  unfold fsF at he
  obtain ⟨⟨y, Γ1⟩, e1, he⟩ := Option.map_eq_some_iff.mp he
  simp only [Prod.mk.injEq] at he
  obtain ⟨rfl, rfl⟩ := he
  exact tJs_ok (Q := fun out H1 => Q (.str out) H1) ies _ rs e1 fun H' O' s' r' => hQ _ H' O' s' r' (show Rep g (Av Bn O') H' (.str y) (.str y) from rep_str)
theorem strs_reps : ∀ {ds : List D} {A : Addr → Prop} {H : Hp} {vs : List V} {ys : List Str}, Reps g A H ds vs → strsD ds = some ys → vs = ys.map V.str
  | [], _, _, _, ys, h, e => by simp only [Reps] at h; simp only [strsD, Option.some.injEq] at e; subst h e; rfl
  | d :: ds, _, _, _, ys, h, e => by
    simp only [Reps] at h
    obtain ⟨v, r, rfl, h1, h2⟩ := h
    cases d <;> simp only [strsD, reduceCtorEq] at e
    obtain ⟨ms, e1, rfl⟩ := Option.map_eq_some_iff.mp e
    simp only [Rep] at h1
    rw [List.map_cons, h1, strs_reps h2 e1]
theorem reps_strs {A : Addr → Prop} {H : Hp} : ∀ ys : List Str, Reps g A H (ys.map D.str) (ys.map V.str)
  | [] => by simp only [List.map_nil, Reps]
  | n :: ns => by
    simp only [List.map_cons, Reps]
    exact ⟨_, _, rfl, rep_str, reps_strs ns⟩
theorem p_joinS {b : Str} {j : Nat} {cp : Pos} (C : Cok0 g X) (ha : PE X e (tR g fs ie)) (hs : starEach [e] X.env = [(false, eval e X.env)]) (hbase : attributeBase (.Constant (.str b) j cp) "join" X.env (eval (.Constant (.str b) j cp) X.env) = eval (.Constant (.str b) j cp) X.env) (hline : (apos.endLine == pos.line) = true) :
    PE X (.Call (.Attribute (.Constant (.str b) j cp) "join" apos) [e] [] pos) (tR g fs (.sem (uniF ie (joinD b)))) := by
  refine PE.weak (pe_join pe_str ha hs hbase hline) ?_
  intro σ H Q h
  refine ⟨⟨b, rfl⟩, uni_core (f := joinD b) (r := fun y H2 Q => ∃ a p, ∃ ys : List Str, V.str b = .str a ∧ [y] = [V.ref p] ∧ (SqL X.K H2 p (ys.map V.str) ∨ SqT X.K H2 p (ys.map V.str)) ∧
      (ys.map (·.length)).sum + ys.length * a.length ≤ 16777216 ∧ Q (.str (Txt.join a ys)) H2) (fun A H d r' v Q hv hf q => ?_) h⟩
  rw [C.K]
  cases d <;> simp only [joinD, reduceCtorEq] at hf
  · obtain ⟨ys, e1, hf⟩ := Option.bind_eq_some_iff.mp hf
    simp only [joinS, Option.ite_none_right_eq_some, Option.some.injEq] at hf
    obtain ⟨hz, rfl⟩ := hf
    obtain ⟨l, vs, rfl, hl, rr⟩ := hv
    obtain rfl := strs_reps rr e1
    exact ⟨b, l, ys, rfl, rfl, .inl (.inl (.inl hl)), hz, q _ rep_str⟩
  · obtain ⟨ys, e1, hf⟩ := Option.bind_eq_some_iff.mp hf
    simp only [joinS, Option.ite_none_right_eq_some, Option.some.injEq] at hf
    obtain ⟨hz, rfl⟩ := hf
    obtain ⟨l, vs, rfl, _, hl, rr⟩ := rdb_tup hv
    obtain rfl := strs_reps rr e1
    exact ⟨b, l, ys, rfl, rfl, .inr hl, hz, q _ rep_str⟩
theorem p_inS {b : Str} {j : Nat} {cp : Pos} (ha : PE X e (tR g fs ie)) (hm : behindInMarks .In (.Constant (.str b) j cp) = false) : PE X (.Compare e [.In] [.Constant (.str b) j cp] pos) (tR g fs (.sem (uniF ie (inD b)))) := by
  refine PE.weak (pe_cmpR op_in_str ha pe_str hm) ?_
  intro σ H Q h
  refine uni_core (f := inD b) (r := fun x H Q => ∃ i j, x = .str i ∧ V.str b = .str j ∧ Q (.bl (!(Builtin.Str.occurrences j i 0 j.length 1).isEmpty)) H) (fun A H d r' v Q hv hf q => ?_) h
  cases d <;> simp only [inD, reduceCtorEq, Option.some.injEq] at hf
  subst hf
  exact ⟨_, b, rdb_str hv, rfl, q _ rep_bl⟩
theorem p_sixS {b : Str} {j : Nat} {cp : Pos} (ha : PE X e (tR g fs ie)) (hs : starEach [e] X.env = [(false, eval e X.env)]) (hbase : attributeBase (.Constant (.str b) j cp) "index" X.env (eval (.Constant (.str b) j cp) X.env) = eval (.Constant (.str b) j cp) X.env) (hline : (apos.endLine == pos.line) = true) :
    PE X (.Call (.Attribute (.Constant (.str b) j cp) "index" apos) [e] [] pos) (tR g fs (.sem (uniF ie (sixD b)))) := by
  refine PE.weak (pe_m1 F.slot_str_index F.type_str_index mt_sindex pe_str ha hs hbase hline) ?_
  intro σ H Q h
  refine ⟨⟨b, rfl⟩, uni_core (f := sixD b) (r := fun y H2 Q => ∃ a b' i rest, V.str b = .str a ∧ [y] = [V.str b'] ∧ Builtin.Str.occurrences a b' 0 a.length 1 = i :: rest ∧ Q (.int (i : Nat)) H2) (fun A H d r' v Q hv hf q => ?_) h⟩
  cases d <;> simp only [sixD, reduceCtorEq] at hf
  split at hf
  · rename_i i rest ho
    simp only [Option.some.injEq] at hf
    subst hf
    exact ⟨b, _, i, rest, rfl, by rw [rdb_str hv], ho, q _ rep_int⟩
  · cases hf
theorem p_splS {b : Str} {j : Nat} {cp : Pos} (C : Cok0 g X) (ha : PE X a (tR g fs ia)) (hs : starEach [.Constant (.str b) j cp] X.env = [(false, eval (.Constant (.str b) j cp) X.env)]) (hbase : attributeBase a "split" X.env (eval a X.env) = eval a X.env) (hline : (apos.endLine == pos.line) = true) :
    PE X (.Call (.Attribute a "split" apos) [.Constant (.str b) j cp] [] pos) (tR g fs (.sem (splF ia b))) := by
  refine PE.weak (PE.kf (pe_split ha pe_str hs hbase hline)) ?_
  rintro σ H Q ⟨Bn, Ow, Γ, rr, Γ', rs, he, hQ⟩
  rw [show ev fs (.sem (splF ia b)) Γ = splF ia b fs Γ by simp only [ev]] at he
  unfold splF at he
  obtain ⟨⟨x, Γ1⟩, e1, he⟩ := Option.bind_eq_some_iff.mp he
  obtain ⟨d, e2, he⟩ := Option.bind_eq_some_iff.mp he
  obtain ⟨r', e3, he⟩ := Option.map_eq_some_iff.mp he
  simp only [Prod.mk.injEq] at he
  obtain ⟨rfl, rfl⟩ := he
  rw [← datum_dn] at e2
  refine tR_one rs e1 fun v H1 O1 s1 r1 v1 => ?_
  have hv := v1.rdb r1 e2
  cases d <;> simp only [splD, reduceCtorEq, Option.ite_none_right_eq_some, Option.some.injEq] at e3
  obtain ⟨⟨h0, hz⟩, rfl⟩ := e3
  obtain rfl := rdb_str hv
  refine ⟨⟨_, rfl⟩, _, b, rfl, rfl, h0, hz, fun p np kf => ?_⟩
  have hk : g.K.lookup p = none := by rw [← C.K]; exact kf_new kf upd_same
  obtain ⟨O3, s3, r3, v3⟩ := Res.val r1 (same_new np) (new_lst (A := Av Bn O1) np hk (reps_strs _))
  exact hQ _ _ O3 (s1.trans s3) r3 v3
theorem walk_txt {Bn : Addr → Prop} {Ow : List Addr} {H : Hp} (x : Str) : WalkD g Bn Ow H (Its x) (chD x) where
  goW := fun i H' hi k => by
    unfold chD at hi
    rw [List.length_map, Array.length_toList] at hi
    exact hi
  stopW := fun H' k => by
    show x.cps.size ≤ (chD x).length
    unfold chD
    rw [List.length_map, Array.length_toList]
    exact Nat.le_refl _
  same := fun i H' x H'' y => by obtain ⟨rfl, _⟩ := y; exact same_rfl _
  yldW := fun i d A' H' v H'' e vv tr y => by
    obtain ⟨rfl, c, e1, rfl⟩ := y
    unfold chD at e
    rw [List.getElem?_map, Array.getElem?_toList, e1] at e
    simp only [Option.map_some, Option.some.injEq] at e
    subst e
    exact ⟨same_rfl _, rep_str⟩
theorem i_txt {tg : Expr} (hl : PE X a (tR g fs ia)) : PI X tg a (tI g fs .seq [.sem (chF ia)]) := by
  refine PI.weak (pi_str hl) ?_
  rintro σ H R ⟨Bn, Ow, Γ, xs, Γ1, ds, Γ2, rs, e1, e2, k⟩
  obtain ⟨x, rfl, e9⟩ := evs_one e1
  rw [show ev fs (.sem (chF ia)) Γ = chF ia fs Γ by simp only [ev]] at e9
  unfold chF at e9
  obtain ⟨⟨x1, G1⟩, e3, e9⟩ := Option.bind_eq_some_iff.mp e9
  obtain ⟨d, e4, e9⟩ := Option.bind_eq_some_iff.mp e9
  rw [← datum_dn] at e4
  cases d <;> simp only [reduceCtorEq, Option.some.injEq, Prod.mk.injEq] at e9
  obtain ⟨rfl, rfl⟩ := e9
  simp only [iterD, fre, Option.bind_some, Option.some.injEq, Prod.mk.injEq] at e2
  obtain ⟨rfl, rfl⟩ := e2
  refine tR_one rs e3 fun v H1 O1 s1 r1 v1 => ?_
  exact ⟨_, rdb_str (v1.rdb r1 e4), k _ H1 O1 s1 r1 (walk_txt _)⟩
end
section
variable {X : Cx} {g : Gx} {Wx : L2.XK} {fs : List FS} {e e2 : Expr} {ie ir : E} {x : Str} {cv : Value} {np pos pos' pc p2 : Pos} {all : List Nat}
theorem s_tryRR (C : Cok g X) (hst : X.stack = X.env :: X.outer) (hfm : X.env.frame = some X.env.locals) (hcn : Names X x cv) (hall : ∀ c ∈ all, PySem.W.exmOne X.K (.ref (g.cl c)) cv = some true)
    (hb : ∀ (W : WX) (pnl : List (Addr × Obj)) (xe : Value → Shared → Prop), Takes (X.tr pnl xe) W → PE (X.tr pnl xe) e (tRXS g W fs ie))
    (hsu : ∀ (a : Addr) (oe : Obj) (pnl : List (Addr × Obj)), PE (X.suite a ((a, oe) :: pnl)) e2 (tR g fs ir)) :
    PS X (.Try [.Return (some e) pc] [.ExceptHandler (some (.Name x np)) none [.Return (some e2) p2] pos'] [] [] pos) (tSt g Wx fs (.sem [] (tryRR ie all ir))) := by
  let ts : Addr → Value → Option Addr → TS := fun _ _ _ Dn σ H => tR g fs ir σ H Dn.rt
  let tb : WX → TS := fun W D σ H => tRXS g W fs ie σ H D.rt
  refine PS.weak (ps_try_only (ts := ts) (tb := tb) hst hfm hcn LamX.takes0 (fun W pnl xe tk _ => ⟨fun pnz s σ H D I h => (pss_one (ps_ret (hb W pnl xe tk))).run pnz s σ H D I h⟩) (fun ea oe cls d pnl hz hf => ⟨fun pnz s σ H D I h => ?_⟩)) ?_
  · exact (pss_one (ps_ret (hsu ea oe pnl))).run pnz s σ H D I h
  · rintro Dn σ H ⟨pv, Bn, Ow, Γ, o, rs, pn, he, po⟩
    simp only [ex, Option.ite_none_right_eq_some] at he
    obtain ⟨_, he⟩ := he
    unfold tryRR at he
    obtain ⟨⟨x1, Γ1⟩, e1, he⟩ := Option.bind_eq_some_iff.mp he
    refine ⟨Bn, Ow, Γ, x1, Γ1, rs, e1, fun v H1 O1 s1 r1 vl => ?_⟩
    simp only at he
    split at he
    · rename_i c ks ds
      simp only [Option.ite_none_right_eq_some] at he
      obtain ⟨ha, he⟩ := he
      obtain ⟨⟨r, Γ2⟩, e3, rfl⟩ := Option.map_eq_some_iff.mp he
      intro dd hv
      subst hv
      exact ⟨true, hall c (by simpa using ha), fun _ ea na => ⟨Bn, O1, Γ1, r, Γ2, r1, e3, fun w H' O' s' r' v' => po w σ H' O' (s1.trans s') r' pn v'⟩, fun z => nomatch z⟩
    · rename_i z
      simp only [Option.some.injEq] at he; subst he
      rw [xcQ_no (no_xc fun c ks ds q => z c ks ds q)]
      exact po v σ H1 O1 s1 r1 pn vl
end
end DV

namespace DV
open PySem L2
/-! ### an object made by keywords, which may raise; list.append of a call that may raise -/
structure MkdKX (P : Program) (w : World) (mg : Str → Option Value) (base : Heap) (g : Gx) (k : Nat) (c : Nat) (x : Str) (n : Nat) (ks : List Str) (p : List Nat) (ns : List Int) (F : FS) : Prop where
  ex : ∃ f fd ps gg gV, mg x = some (.ref (g.cl c)) ∧ Mk g.K (g.cl c) f ∧ KBn g.K fd ps (n + 1) ks gg gV ∧ (∀ (s : V) (vs zs : List V), vs.length = n → zs.length = ks.length → gV (s :: vs) zs = s :: permL p (vs ++ (zs ++ ns.map .int))) ∧ ps.length = p.length + 1 ∧ FnOk P w g.K mg base (L2.CX P w) k f fd ps (spX g (p.length + 1) F)
theorem MkdKX.mono {P : Program} {w : World} {mg : Str → Option Value} {base : Heap} {g : Gx} {j k c n : Nat} {x : Str} {ks : List Str} {p : List Nat} {ns : List Int} {F : FS} (h : MkdKX P w mg base g j c x n ks p ns F) (l : j ≤ k) : MkdKX P w mg base g k c x n ks p ns F := by
  obtain ⟨f, fd, ps, gg, gV, h1, h2, h3, h5, h6, h4⟩ := h.ex
  exact ⟨f, fd, ps, gg, gV, h1, h2, h3, h5, h6, h4.mono l⟩
def mkpxF (c k : Nat) (p : List Nat) (es : List E) : List FS → Ct → Option (RV × Ct) := fun fs Γ => (evs fs es Γ).bind fun (xs, Γ1) => (fs[k]?).bind fun F => if permOk p xs.length then mkX F c (permL p xs) Γ1 else none
def appXF (i : Nat) (ie : E) : List FS → Ct → Option Out := fun fs Γ => if isLst Γ i then (ev fs ie Γ).bind fun (x, Γ1) => match x with
  | .fz (.exc c ks ds) => some (.xc c ks ds Γ1)
  | x => (fre Γ1 x).bind fun (d, Γ2) => match Γ2[i]? with
    | some (some (c, true)) => (appD c d).map fun c' => .nx (Γ2.set i (some (c', true)))
    | _ => none
  else none
section
variable {X : Cx} {g : Gx} {Wx : L2.XK} {fs : List FS} {e : Expr} {es : List Expr} {kws : List Keyword} {ie : E} {ies jes : List E} {x : Str} {p : List Nat} {q pos : Pos} {c k i n : Nat} {F : FS} {ks : List Str} {ns : List Int}
theorem mkpx_core {np : Nat} {σ : St} {H : Hp} {Q : VK} (hF : fs[i]? = some F) (hp : np = p.length + 1) (h : tRX g Wx fs (.sem (mkpxF c i p (ies ++ (jes ++ dfl ns)))) σ H Q) :
    tFold g fs ies σ H fun vs H1 => tFold g fs jes σ H1 fun zs H2 => vs.length = ies.length ∧ zs.length = jes.length ∧ ∀ x dx, H2 x = none → H2 dx = none → dx ≠ x →
    (V.ref x :: permL p (vs ++ (zs ++ ns.map .int))).length = np ∧ (kfs g.K (upd (upd H2 dx (.own x)) x (.ins (g.cl c) dx [])) → spX g (p.length + 1) F (V.ref x :: permL p (vs ++ (zs ++ ns.map .int))) (upd (upd H2 dx (.own x)) x (.ins (g.cl c) dx [])) (fun v H2 => v = .non ∧ Q (.ref x) H2) Wx) := by
  obtain ⟨Bn, Ow, Γ, r, Γ', rs, he, hQ⟩ := h
  rw [show ev fs (.sem (mkpxF c i p (ies ++ (jes ++ dfl ns)))) Γ = mkpxF c i p (ies ++ (jes ++ dfl ns)) fs Γ by simp only [ev]] at he
  unfold mkpxF at he
  obtain ⟨⟨xs, Γ1⟩, e1, he⟩ := Option.bind_eq_some_iff.mp he
  obtain ⟨F', e4, he⟩ := Option.bind_eq_some_iff.mp he
  rw [hF] at e4; cases e4
  simp only [Option.ite_none_right_eq_some] at he
  obtain ⟨hpk, he⟩ := he
  refine fold_len2 (fold_all (Q := fun ws H2 => ∀ x dx, H2 x = none → H2 dx = none → dx ≠ x →
    (V.ref x :: permL p ws).length = np ∧ (kfs g.K (upd (upd H2 dx (.own x)) x (.ins (g.cl c) dx [])) → spX g (p.length + 1) F (V.ref x :: permL p ws) (upd (upd H2 dx (.own x)) x (.ins (g.cl c) dx [])) (fun v H2 => v = .non ∧ Q (.ref x) H2) Wx)) ⟨Bn, Ow, Γ, xs, Γ1, rs, e1, fun ws H1 O1 s1 r1 v1 => ?_⟩)
  have hr : ∀ i ∈ p, i < ws.length := by
    simp only [permOk, Bool.and_eq_true, List.all_eq_true, decide_eq_true_eq] at hpk
    rw [← v1.len]; exact hpk.2
  exact mkX_core r1 (v1.perm hpk) he (permL_len hr) hp fun v H' O' st => hQ v H' O' (s1.trans st)
theorem px_mkK (M : MkdKX X.prog X.w X.mg X.base g k c x n ks p ns F) (C : Cok0 g X) (tk : Tk X Wx) (hF : fs[i]? = some F) (hn : ies.length = n) (hj : jes.length = ks.length) (hr : Room (k + 1) X.A) (hg : Gl X x) (ha : PA X (e :: es) (tFold g fs ies)) (hkw : PK X kws (tFold g fs jes))
    (hall : (backToKw pos (keywordEach kws X.env)).all (·.1.isSome) = true) (hks : (backToKw pos (keywordEach kws X.env)).filterMap (·.1) = ks) (hdb : (x == ("__debug__" : Str)) = false) (he : starEach (e :: es) X.env = (false, eval e X.env) :: starEach es X.env)
    (hpl : ((backTo pos (starEach (e :: es) X.env)).any (·.1) || (backToKw pos (keywordEach kws X.env)).any (·.1.isNone)) = false) :
    PE X (.Call (.Name x q) (e :: es) kws pos) (tRX g Wx fs (.sem (mkpxF c i p (ies ++ (jes ++ dfl ns))))) := by
  obtain ⟨f, fd, ps, gg, gV, h1, h2, h3, h5, h6, h4⟩ := M.ex
  have h7 := FnOk.kf h4
  rw [← C.K] at h2 h3 h7
  refine PE.weak (pe_makeK h2 h7 hr hg h1 h3 (pass_tk tk) ha hkw hall hks hdb he hpl) fun σ H Q h => ?_
  have core := mkpx_core hF h6 h
  rw [← C.K] at core
  exact fold_mono (fun vs H1 q => fold_mono (fun zs H2 q => ⟨q.1.trans hn, q.2.1.trans hj, fun x dx a1 a2 a3 => by rw [h5 _ vs zs (q.1.trans hn) (q.2.1.trans hj)]; exact q.2.2 x dx a1 a2 a3⟩) q) core
theorem s_appX {o : Expr} {apos cpos : Pos} (C : Cok0 g X) (ho : PE X o (tVar i)) (he : PE X e (tRX g Wx fs ie)) (hbase : attributeBase o "append" X.env (eval o X.env) = eval o X.env)
    (hline : (apos.endLine == cpos.line) = true) (hs : starEach [e] X.env = [(false, eval e X.env)]) (hsw : swapsWith (.Call (.Attribute o "append" apos) [e] [] cpos) none pos.line X.env = pure false) :
    PS X (.Expr (.Call (.Attribute o "append" apos) [e] [] cpos) pos) (tSt g Wx fs (.sem [] (appXF i ie))) := by
  refine PS.weak (ps_expr (pe_bm PySem.F.plainAttrs_list PySem.F.slot_list_append PySem.F.type_list_append mt_append ho (pa_cons he pa_nil (by rw [hs]; rfl)) hbase (by rw [hs]; rfl) hline (by rw [hs]; rfl) rfl) hsw) ?_
  rintro Dn σ H ⟨pv, Bn, Ow, Γ, o, rs, pn, he, po⟩
  simp only [ex, Option.ite_none_right_eq_some] at he
  obtain ⟨_, he⟩ := he
  unfold appXF at he
  simp only [Option.ite_none_right_eq_some] at he
  obtain ⟨hl, he⟩ := he
  obtain ⟨⟨x, Γ1⟩, e1, he⟩ := Option.bind_eq_some_iff.mp he
  obtain ⟨a, ea, ty⟩ := isLst_ty rs hl
  refine ⟨_, ea, by rw [C.K]; exact ty, Bn, Ow, Γ, x, Γ1, rs, e1, fun v H1 O1 s1 r1 vl => ?_⟩
  simp only at he
  split at he
  · simp only [Option.some.injEq] at he; subst he
    intro d hd
    subst hd
    exact po d σ H1 O1 s1 r1 pn vl
  · rename_i z
    rw [xcQ_no (no_xc fun c ks ds q => z c ks ds q)]
    obtain ⟨⟨d, Γ2⟩, e2, he⟩ := Option.bind_eq_some_iff.mp he
    obtain ⟨O2, s2, r2, p2⟩ := fre_ok r1 vl e2
    split at he
    · rename_i c q
      obtain ⟨c', e3, rfl⟩ := Option.map_eq_some_iff.mp he
      obtain ⟨b, eb, m, ow⟩ := r2.own i _ q
      rw [ea] at eb; cases eb
      cases c <;> simp only [appD, reduceCtorEq, Option.ite_none_right_eq_some, Option.some.injEq] at e3
      rename_i xs
      obtain ⟨hz, rfl⟩ := e3
      obtain ⟨vs, hv, rp⟩ := ow
      obtain ⟨r3, s3⟩ := r2.mut q ea (rp.app (Reps.one p2))
      exact ⟨a, vs, v, rfl, rfl, hv, by rw [← rp.len]; exact hz, po _ _ O2 ((s1.trans s2).trans s3) r3 pn⟩
    · cases he
end
section
variable {P : Program} {w : World} {mg : Str → Option Value} {base : Heap} {g : Gx}
theorem def_fnXD {fs : List FS} {x qual : Str} {params : Arguments} {body : List Stmt} {scope : Scope} {dvs : List V} {kws : List (Str × V)} {f : Addr} {fd : FuncData} {N ps : List Str} {k np n : Nat} {ir : List S} (F : FunD g.K x qual params body scope dvs kws f fd) (S : FnScope N ps scope) (hp : ps.length = np) (hN : N.length = n) (ge : g.ea = none)
    (hbody : ∀ (cdv : Value) (A : Around) (outer : List Env) (s : Shared) (H : Hp) (E : L2.XK), Room k (cxOf (L2.CX P w) P w g.K mg base N qual scope f cdv A outer s H E).A → Cok g (cxOf (L2.CX P w) P w g.K mg base N qual scope f cdv A outer s H E) →
      Tk (cxOf (L2.CX P w) P w g.K mg base N qual scope f cdv A outer s H E) E → PassesOwn (model P w) (cxOf (L2.CX P w) P w g.K mg base N qual scope f cdv A outer s H E).A (cxOf (L2.CX P w) P w g.K mg base N qual scope f cdv A outer s H E).env (cxOf (L2.CX P w) P w g.K mg base N qual scope f cdv A outer s H E).xe →
      PSs (cxOf (L2.CX P w) P w g.K mg base N qual scope f cdv A outer s H E) body (tSs g E fs ir)) : FnOk P w g.K mg base (L2.CX P w) (k + 1) f fd ps (spX g np (runX fs np n ir)) := by
  refine F.ok (CX := L2.CX P w) S (fun vs H Q E h => by rw [h.1, hp]) fun cdv A outer s H vs Q E hr h => ?_
  refine ⟨_, hbody cdv A outer s H E hr ⟨rfl, rfl, hr.units, S.nd, ge⟩ (takes_of rfl rfl rfl rfl) (passes_of rfl), ?_⟩
  obtain ⟨hl, Bn, Ow, Γ, r, os, rs, ef, nr, hQ⟩ := h
  have hG : Γ.length = np := by rw [← rs.len, List.length_map, hl]
  have hle : np ≤ n := by
    rw [← hN, ← hp]
    have := congrArg List.length S.pre
    rw [List.length_take] at this
    omega
  simp only [runX, hG, if_true] at ef
  obtain ⟨o, e1, e2⟩ := Option.bind_eq_some_iff.mp ef
  have est : L2.start N vs = vs.map some ++ List.replicate (n - np) none := by rw [← hN, ← hl]; rfl
  refine ⟨(n, (ownPs 0 Γ).map fun i => (i, vs.getD i .non)), Bn, Ow, Γ ++ List.replicate (n - np) none, o, ?_, ⟨?_, fun p hp => ?_⟩, ?_, ?_⟩
  · rw [est]; exact rs.start _
  · rw [est, List.length_append, List.length_map, List.length_replicate, hl]; show np + (n - np) = n; omega
  · obtain ⟨i, hi, rfl⟩ := List.mem_map.mp hp
    obtain ⟨j, d, rfl, h⟩ := ownPs_mem.mp hi
    have hj : j < vs.length := by
      have h1 := (List.getElem?_eq_some_iff.mp h).1
      omega
    rw [est]
    show (vs.map some ++ List.replicate (n - np) none)[0 + j]? = some (some (vs.getD (0 + j) .non))
    rw [Nat.zero_add, List.getElem?_append_left (by rw [List.length_map]; exact hj), List.getElem?_map, List.getElem?_eq_getElem hj, List.getD_eq_getElem?_getD, List.getElem?_eq_getElem hj]
    rfl
  · rw [List.map_map]
    show exs fs ((ownPs 0 Γ).map id) ir _ = some o
    rw [List.map_id]
    exact e1
  · rw [← hG] at e2
    exact finishX_ok rs (by omega) e2 hQ
theorem mkdkx_of {c k n np : Nat} {x qual : Str} {params : Arguments} {body : List Stmt} {scope : Scope} {kws : List (Str × V)} {f : Addr} {fd : FuncData} {ps ks : List Str} {p : List Nat} {ms : List (Str × V)} {ns : List Int} {F : FS} {y : Str} (Fu : FunD g.K y qual params body scope [] kws f fd) (hk : kws ≠ []) (hms : ∀ q ∈ ms, q ∈ kws) (hns : ms.map (·.2) = ns.map V.int)
    (hm : mg x = some (.ref (g.cl c))) (M : Mk g.K (g.cl c) f) (hp : p.length = np) (hps : ps.length = np + 1) (G : FnOk P w g.K mg base (L2.CX P w) k f fd ps (spX g (np + 1) F))
    (h : ∀ (D : Addr) (doc pm : Value) (an : Option Addr) (cdv ct : Value) (us mv ws : List Value), us.length = n + 1 → mv.length = ms.length → ws.length = ks.length →
      KwChain D ((ms.map (·.1)).zip mv) (bindArgs (PySem.W.fnOf y qual params body scope .none (.ref D) doc pm an cdv ct) ⟨us, ks.zip ws⟩) (ps.zip (gI p us mv ws))) : MkdKX P w mg base g k c x n ks p ns F := by
  subst hp
  obtain ⟨mv, kb⟩ := Fu.kbinds0 (n + 1) ks ms (fun us mv ws => gI p us mv ws) hk hms (fun h1 h2 h3 => gI_rel p h1 h2 h3) h
  refine ⟨f, fd, ps, _, _, hm, M, kb, fun s vs zs _ _ => ?_, hps, G⟩
  show s :: permL p (vs ++ (zs ++ ms.map (·.2))) = _
  rw [hns]
end
end DV

namespace DV
open PySem L2
/-! ### isinstance(value, str), the value an object, too -/
theorem kit_bt {K : PySem.W.Frag} {C : Addr} {T : String} {b : Bool} (hm : PySem.W.kitMeta T = true) (hn : (Value.ref C == Value.type T) = false) (h : PySem.W.subIn K (.ref C) (.type T) = some b) : PySem.W.kitOne K (.ref C) (.type T) = some b := by
  unfold PySem.W.kitOne PySem.W.kitCls
  simp only [hn, hm, Bool.false_eq_true, if_false, if_true]
  exact h
def isoD (cs : List Nat) (t : Ty) : D → Option Bool
  | .obj c _ _ => if cs.contains c then some false else none
  | d => if shallow d then some (isiD t d) else none
def isoF (cs : List Nat) (t : Ty) (ia : E) : List FS → Ct → Option (RV × Ct) := fun fs Γ => (ev fs ia Γ).bind fun (x, Γ1) => (datum Γ1 x).bind fun d => (isoD cs t d).map fun b => (.fz (.bl b), Γ1)
section
variable {X : Cx} {g : Gx} {fs : List FS} {a : Expr} {ia : E} {p p2 pos : Pos} {t : Ty} {y : Str}
theorem p_iso {cs : List Nat} (hcs : ∀ c' ∈ cs, ClsX g c' ∧ PySem.W.kitOne g.K (.ref (g.cl c')) (.type (tyN t)) = some false) (C : Cok0 g X) (ha : PE X a (tR g fs ia)) (hy : PE X (.Name y p2) (tC (.ty (tyN t)))) (hg : Gl X "isinstance") (hm : X.mg "isinstance" = none)
    (he : starEach (a :: [.Name y p2]) X.env = (false, eval a X.env) :: starEach [.Name y p2] X.env) (hpl : (backTo pos (starEach [.Name y p2] X.env)).any (·.1) = false) : PE X (.Call (.Name "isinstance" p) [a, .Name y p2] [] pos) (tR g fs (.sem (isoF cs t ia))) := by
  refine PE.weak (pe_callB call_isi hg hm PyProof.Rows.boot_isinstance (pa_cons ha (pa_cons hy pa_nil rfl) he) (by decide) (by decide) he hpl) ?_
  rintro σ H Q ⟨Bn, Ow, Γ, r, Γ', rs, he, hQ⟩
  rw [show ev fs (.sem (isoF cs t ia)) Γ = isoF cs t ia fs Γ by simp only [ev]] at he
  unfold isoF at he
  obtain ⟨⟨x, Γ1⟩, e1, he⟩ := Option.bind_eq_some_iff.mp he
  obtain ⟨d, ed, he⟩ := Option.bind_eq_some_iff.mp he
  obtain ⟨bb, eb, he⟩ := Option.map_eq_some_iff.mp he
  simp only [Prod.mk.injEq] at he
  obtain ⟨rfl, rfl⟩ := he
  rw [← datum_dn] at ed
  refine tR_one rs e1 fun v H1 O1 s1 r1 v1 => ?_
  show rIsi X.K [v, .ty (tyN t)] H1 Q
  rw [C.K]
  have rd := v1.rdb r1 ed
  have q := hQ _ H1 O1 s1 r1 (show Val g Bn O1 H1 σ Γ1 (.fz (.bl bb)) (.bl bb) by simp only [Val, Rep])
  cases d
  case obj c' ks ds =>
    simp only [isoD, Option.ite_none_right_eq_some, List.contains_eq_mem, decide_eq_true_eq, Option.some.injEq] at eb
    obtain ⟨hm', rfl⟩ := eb
    obtain ⟨pa, dx, vs, rfl, _, e2, _⟩ := rd
    exact ⟨_, _, _, _, _, rfl, .ty _, (hcs c' hm').1.ty e2, (hcs c' hm').2, q⟩
  all_goals
    simp only [isoD, Option.ite_none_right_eq_some, Option.some.injEq] at eb
    obtain ⟨hs, rfl⟩ := eb
    exact isi_core hs rd q
end
end DV

namespace DV
open PySem L2
theorem noXc_s : (∀ Γ, noXc (.nx Γ) = true) ∧ (∀ r Γ, noXc (.rt r Γ) = true) ∧ (∀ Γ, noXc (.bk Γ) = true) ∧ (∀ Γ, noXc (.ct Γ) = true) := ⟨fun _ => rfl, fun _ _ => rfl, fun _ => rfl, fun _ => rfl⟩
theorem noSl_s : (∀ d, noSl (.fz d) = true) ∧ (∀ d, noSl (.nw d) = true) := ⟨fun _ => rfl, fun _ => rfl⟩
theorem plG_s : plG [] = [] ∧ ∀ d ds, plG (d :: ds) = some (d, false) :: plG ds := ⟨rfl, fun _ _ => rfl⟩
theorem safe_s : safe .non = true ∧ (∀ b, safe (.bl b) = true) ∧ (∀ i, safe (.int i) = true) ∧ (∀ s, safe (.str s) = true) ∧ (∀ ds, safe (.tup ds) = safes ds) := ⟨by simp [safe], fun _ => by simp [safe], fun _ => by simp [safe], fun _ => by simp [safe], fun _ => by simp [safe]⟩
theorem notSl_s : (∀ i d, notSl i (.fz d) = true) ∧ (∀ i d, notSl i (.nw d) = true) := ⟨fun _ _ => rfl, fun _ _ => rfl⟩
/-- the equations of the language beside a store -/
def XC := (And.intro (And.intro (And.intro (And.intro (And.intro (And.intro (@DV.evX.eq_2) (@DV.evX.eq_3)) (And.intro (@DV.evX.eq_4) (@DV.evX.eq_5))) (And.intro (And.intro (@DV.evX.eq_6) (@DV.evX.eq_7)) (And.intro (@DV.evX.eq_8) (@DV.evX.eq_9)))) (And.intro (And.intro (And.intro (@DV.evX.eq_10) (@DV.evX.eq_11)) (And.intro (@DV.evX.eq_12) (@DV.evX.eq_13))) (And.intro (And.intro (@DV.evX.eq_14) (@DV.evX.eq_15)) (And.intro (@DV.evX.eq_16) (And.intro (@DV.evX.eq_17) (@DV.evX.eq_18)))))) (And.intro (And.intro (And.intro (And.intro (@DV.evX.eq_19) (@DV.evXs.eq_1)) (And.intro (@DV.evXs.eq_2) (@DV.exM.eq_2))) (And.intro (And.intro (@DV.exM.eq_3) (@DV.exM.eq_4)) (And.intro (@DV.exM.eq_5) (@DV.exM.eq_6)))) (And.intro (And.intro (And.intro (@DV.exM.eq_7) (@DV.exM.eq_8)) (And.intro (@DV.exM.eq_11) (@DV.exM.eq_12))) (And.intro (And.intro (@DV.exM.eq_13) (@DV.exM.eq_14)) (And.intro (@DV.exM.eq_15) (And.intro (@DV.exM.eq_16) (@DV.exMs.eq_1))))))) (And.intro (And.intro (And.intro (And.intro (And.intro (@DV.exMs.eq_2) (@DV.finM.eq_1)) (And.intro (@DV.finM.eq_2) (@DV.finM.eq_3))) (And.intro (And.intro (@DV.finM.eq_4) (@DV.runM.eq_1)) (And.intro (@DV.evnX.eq_1) (@DV.evnX.eq_2)))) (And.intro (And.intro (And.intro (@DV.putM.eq_1) (@DV.appM.eq_1)) (And.intro (@DV.setM.eq_1) (@DV.isLM.eq_1))) (And.intro (And.intro (@DV.asgX.eq_1) (@DV.asgX.eq_2)) (And.intro (@DV.asgX.eq_3) (And.intro (@DV.itM.eq_1) (@DV.itM.eq_2)))))) (And.intro (And.intro (And.intro (And.intro (@DV.seqD.eq_1) (@DV.seqD.eq_2)) (And.intro (@DV.noXc_s) (@DV.rfldD.eq_1))) (And.intro (And.intro (@DV.refO.eq_1) (@DV.noSl_s)) (And.intro (@DV.plG_s) (@DV.safeR.eq_1)))) (And.intro (And.intro (And.intro (@DV.safeR.eq_2) (@DV.safe_s)) (And.intro (@DV.safes.eq_1) (@DV.safes.eq_2))) (And.intro (And.intro (@DV.borG.eq_1) (@DV.bakG.eq_1)) (And.intro (@DV.notSl.eq_1) (And.intro (@DV.notSl_s) (@DV.bakO.eq_1))))))))

section
variable {fs : List FS} {ms : List FM} {Γ Γ1 Γ2 : Ct} {M M1 M2 : List D}
end
end DV

namespace L
open PySem L2 DV
def F_is_integer : FS := runF [] 1 1 [.ret (.and (.bi (.isi .int) [.var 0]) (.not (.bi (.isi .bool) [.var 0])))]
def F_is_outage : FS := runF [F_is_integer] 2 3 [.ite (.or (.not (.bi (.isi .tuple) [.var 0])) (.or (.cmp .ne (.bi .len [.var 0]) (.cst (.int 2))) (.not (.bi .alll [.comp [2] (.nm 2) .seq [.var 0] [] (.call 0 [.var 2])])))) [.ret (.cst (.bl false))] [],
  .ret (.chain3 .le .lt .le (.var 1) (.ix (.var 0) (.cst (.int 0))) (.ix (.var 0) (.cst (.int 1))) (.cst (.int 1000000000000000000000000000000)))]
def B_check_outages_1 : List S := [.ite (.not (.call 0 [.var 3, .var 1])) [.stuck] [],
  .asgO 1 (.bin .add (.ix (.var 3) (.cst (.int 1))) (.cst (.int 1)))]
def F_check_outages : FS := runF [F_is_outage] 1 4 [.ite (.or (.not (.bi (.isi .list) [.var 0])) (.cmp .gt (.bi .len [.var 0]) (.cst (.int 50)))) [.stuck] [],
  .asgO 1 (.cst (.int 0)),
  .for_ (.tp [.nm 2, .nm 3]) .enum [.var 0] B_check_outages_1]
def F_check_time : FS := runF [F_is_integer] 1 1 [.ite (.or (.not (.call 0 [.var 0])) (.cmp .lt (.var 0) (.cst (.int 0)))) [.stuck] []]
def F_round_up : FS := runF [] 2 2 [.ret (.bin .mul (.bin .fdiv (.bin .sub (.bin .add (.var 0) (.var 1)) (.cst (.int 1))) (.var 1)) (.var 1))]
def F_first_request : FS := runF [F_check_time, F_round_up] 2 2 [.expr (.call 0 [.var 1]),
  .ret (.bi .max2 [.cst (.int 0), .bin .fdiv (.call 1 [.bin .sub (.var 1) (.fld [1] (.var 0) "shift"), .fld [1] (.var 0) "pace"]) (.fld [1] (.var 0) "pace")])]
def F_request_time : FS := runF [F_is_integer] 2 2 [.ite (.or (.not (.call 0 [.var 1])) (.cmp .lt (.var 1) (.cst (.int 0)))) [.stuck] [],
  .ret (.bin .add (.fld [1] (.var 0) "shift") (.bin .mul (.var 1) (.fld [1] (.var 0) "pace")))]
def F_Row___len__ : FS := runF [] 1 1 [.ret (.bi .len [.fld [1] (.var 0) "specs"])]
def F_passes_left : FS := runF [] 2 2 [.ret (.ite (.cmp .eq (.var 1) (.cst (.tup [.str "closed", .int 0]))) (.ix (.var 0) (.cst (.int 0))) (.cst (.int 1)))]
def B_Trains___getitem___1 : List S := [.ite (.or (.cmp .is (.var 5) (.cst .non)) (.cmp .lt (.var 1) (.bin .add (.var 2) (.var 5)))) [.ret (.bin .add (.var 3) (.bin .mul (.bin .sub (.var 1) (.var 2)) (.var 4)))] [],
  .asgO 2 (.bin .add (.var 2) (.var 5))]
def F_Trains___getitem__ : FS := runF [F_is_integer] 2 6 [.ite (.or (.not (.call 0 [.var 1])) (.cmp .lt (.var 1) (.cst (.int 0)))) [.stuck] [],
  .asgO 2 (.cst (.int 0)),
  .for_ (.tp [.nm 3, .nm 4, .nm 5]) .seq [.fld [0] (.var 0) "listed"] B_Trains___getitem___1,
  .stuck]
def F_Spell_opening : FS := runF [F_passes_left, F_Trains___getitem__] 3 4 [.asgO 3 (.own .ix 0 1 (.ix (.fld [2] (.var 0) "trains") (.bin .add (.var 2) (.cst (.int 1)))) (.bin .sub (.call 0 [.ix (.fld [1] (.var 1) "specs") (.var 2), .ix (.fld [2] (.var 0) "states") (.var 2)]) (.cst (.int 1)))),
  .ret (.ite (.cmp .lt (.var 3) (.fld [2] (.var 0) "recovered")) (.var 3) (.cst .non))]
def B_Spell_states_at_1 : List S := [.asgO 7 (.and (.cmp .isnot (.meth 2 "opening" 0 (.var 0) [.var 1, .var 5]) (.cst .non)) (.cmp .lt (.var 4) (.ix (.var 6) (.cst (.int 2))))),
  .app 3 (.ite (.var 7) (.tup [.cst (.str "half"), .var 4]) (.cst (.tup [.str "closed", .int 0])))]
def F_Spell_states_at : FS := runF [F_Spell_opening] 3 8 [.asgO 3 (.lst []),
  .asgO 4 (.bin .fdiv (.bin .sub (.var 2) (.fld [2] (.var 0) "recovered")) (.fld [1] (.var 1) "pace")),
  .for_ (.tp [.nm 5, .nm 6]) .enum [.fld [1] (.var 1) "specs"] B_Spell_states_at_1,
  .ret (.var 3)]
def F_is_train : FS := runF [F_is_integer] 1 1 [.ite (.or (.not (.bi (.isi .tuple) [.var 0])) (.or (.cmp .ne (.bi .len [.var 0]) (.cst (.int 3))) (.or (.not (.call 0 [.ix (.var 0) (.cst (.int 0))])) (.not (.call 0 [.ix (.var 0) (.cst (.int 1))]))))) [.ret (.cst (.bl false))] [],
  .ite (.or (.cmp .lt (.ix (.var 0) (.cst (.int 0))) (.cst (.int 0))) (.cmp .lt (.ix (.var 0) (.cst (.int 1))) (.cst (.int 1)))) [.ret (.cst (.bl false))] [],
  .ret (.or (.cmp .is (.ix (.var 0) (.cst (.int 2))) (.cst .non)) (.and (.call 0 [.ix (.var 0) (.cst (.int 2))]) (.cmp .ge (.ix (.var 0) (.cst (.int 2))) (.cst (.int 1)))))]
def F_last_of : FS := runF [] 1 1 [.ret (.bin .add (.ix (.var 0) (.cst (.int 0))) (.bin .mul (.ix (.var 0) (.cst (.int 1))) (.bin .sub (.ix (.var 0) (.cst (.int 2))) (.cst (.int 1)))))]
def B_check_trains_1 : List S := [.ite (.not (.call 0 [.var 2])) [.stuck] [],
  .ite (.and (.cmp .gt (.var 1) (.cst (.int 0))) (.or (.cmp .is (.ix (.ix (.var 0) (.bin .sub (.var 1) (.cst (.int 1)))) (.cst (.int 2))) (.cst .non)) (.cmp .ge (.call 1 [.ix (.var 0) (.bin .sub (.var 1) (.cst (.int 1)))]) (.ix (.var 2) (.cst (.int 0)))))) [.stuck] []]
def F_check_trains : FS := runF [F_is_train, F_last_of] 1 3 [.ite (.or (.not (.bi (.isi .list) [.var 0])) (.cmp .gt (.bi .len [.var 0]) (.cst (.int 1000)))) [.stuck] [],
  .for_ (.tp [.nm 1, .nm 2]) .enum [.var 0] B_check_trains_1]
def F_without_first : FS := runF [] 1 4 [.asg (.tp [.nm 1, .nm 2, .nm 3]) (.var 0),
  .ite (.cmp .eq (.var 3) (.cst (.int 1))) [.ret (.lst [])] [],
  .ret (.lst [.tup [.bin .add (.var 1) (.var 2), .ite (.cmp .ne (.var 3) (.cst (.int 2))) (.var 2) (.cst (.int 1)), .ite (.cmp .is (.var 3) (.cst .non)) (.cst .non) (.bin .sub (.var 3) (.cst (.int 1)))]])]
def F_joined : FS := runF [F_last_of, F_without_first] 2 9 [.asg (.tp [.nm 3, .nm 4, .nm 5]) (.var 1),
  .ite (.cmp .eq (.var 0) (.lst [])) [.ret (.lst [.tup [.var 3, .ite (.cmp .eq (.var 5) (.cst (.int 1))) (.cst (.int 1)) (.var 4), .var 5]])] [],
  .asg (.tp [.nm 6, .nm 7, .nm 8]) (.ix (.var 0) (.neg (.cst (.int 1)))),
  .asgO 2 (.bin .sub (.var 3) (.call 0 [.ix (.var 0) (.neg (.cst (.int 1)))])),
  .ite (.and (.cmp .gt (.var 8) (.cst (.int 1))) (.cmp .ne (.var 2) (.var 7))) [.ret (.bin .add (.var 0) (.lst [.tup [.var 3, .ite (.cmp .eq (.var 5) (.cst (.int 1))) (.cst (.int 1)) (.var 4), .var 5]]))] [],
  .ite (.and (.cmp .eq (.var 4) (.var 2)) (.cmp .ne (.var 5) (.cst (.int 1)))) [.ret (.bin .add (.slc (.var 0) [] [.neg (.cst (.int 1))]) (.lst [.tup [.var 6, .var 2, .ite (.cmp .is (.var 5) (.cst .non)) (.cst .non) (.bin .add (.var 8) (.var 5))]]))] [],
  .ret (.bin .add (.bin .add (.slc (.var 0) [] [.neg (.cst (.int 1))]) (.lst [.tup [.var 6, .var 2, .bin .add (.var 8) (.cst (.int 1))]])) (.call 1 [.var 1]))]
def B_all_joined_1 : List S := [.asgO 1 (.bin .add (.slc (.var 1) [] [.neg (.cst (.int 1))]) (.call 0 [.slc (.var 1) [.neg (.cst (.int 1))] [], .var 2]))]
def F_all_joined : FS := runF [F_joined] 1 3 [.asgO 1 (.lst []),
  .for_ (.nm 2) .seq [.var 0] B_all_joined_1,
  .ret (.var 1)]
def F_Trains___init__ : FS := runF [F_check_trains, F_all_joined] 2 2 [.expr (.call 0 [.var 1]),
  .setf 0 0 "listed" (.call 1 [.var 1])]
def F_check_bound : FS := runF [F_is_integer] 3 3 [.ite (.or (.not (.call 0 [.var 1])) (.cmp .lt (.var 1) (.var 2))) [.stuck] []]
def F_slice_of : FS := runF [] 3 6 [.asg (.tp [.nm 3, .nm 4, .nm 5]) (.var 0),
  .ite (.or (.cmp .is (.var 2) (.cst .non)) (.and (.cmp .isnot (.var 5) (.cst .non)) (.cmp .gt (.var 2) (.var 5)))) [.asgO 2 (.var 5)] [],
  .ite (.and (.cmp .isnot (.var 2) (.cst .non)) (.cmp .le (.var 2) (.var 1))) [.ret (.lst [])] [],
  .ret (.lst [.tup [.bin .add (.var 3) (.bin .mul (.var 1) (.var 4)), .var 4, .ite (.cmp .is (.var 2) (.cst .non)) (.cst .non) (.bin .sub (.var 2) (.var 1))]])]
def F_made : FS := runF [F_all_joined, F_Trains___init__] 1 2 [.asgO 1 (.call 0 [.var 0]),
  .ite (.cmp .gt (.bi .len [.var 1]) (.cst (.int 1000))) [.stuck] [],
  .ret (.mk 0 1 [.var 1])]
def B_split_after_1 : List S := [.ite (.cmp .gt (.var 5) (.cst (.int 0))) [.ext 3 (.call 1 [.var 2, .cst (.int 0), .var 5])] [],
  .ext 4 (.call 1 [.var 2, .var 5, .cst .non]),
  .asgO 5 (.ite (.cmp .is (.ix (.var 2) (.cst (.int 2))) (.cst .non)) (.cst (.int 0)) (.bi .max2 [.cst (.int 0), .bin .sub (.var 5) (.ix (.var 2) (.cst (.int 2)))]))]
def F_split_after : FS := runF [F_check_bound, F_slice_of, F_made] 2 6 [.expr (.call 0 [.cst (.str "count"), .var 1, .cst (.int 0)]),
  .par [(3, true), (4, true), (5, true)] [.lst [], .lst [], .var 1],
  .for_ (.nm 2) .seq [.fld [0] (.var 0) "listed"] B_split_after_1,
  .ret (.tup [.call 2 [.var 3], .call 2 [.var 4]])]
def B_thinned_1 : List S := [.asgO 8 (.bi .max2 [.cst (.int 0), .bin .fdiv (.bin .sub (.bin .add (.bin .sub (.bin .add (.var 4) (.var 1)) (.var 5)) (.var 6)) (.cst (.int 1))) (.var 6)]),
  .asgO 9 (.bin .fdiv (.bin .sub (.bin .add (.var 1) (.var 6)) (.cst (.int 1))) (.var 6)),
  .ite (.or (.cmp .is (.var 7) (.cst .non)) (.cmp .lt (.var 8) (.var 7))) [.asgO 10 (.ite (.cmp .is (.var 7) (.cst .non)) (.cst .non) (.bin .add (.bin .fdiv (.bin .sub (.bin .sub (.var 7) (.cst (.int 1))) (.var 8)) (.var 9)) (.cst (.int 1)))),
  .app 3 (.tup [.bin .add (.var 5) (.bin .mul (.var 8) (.var 6)), .bin .mul (.var 6) (.var 9), .var 10]),
  .asgO 4 (.ite (.cmp .is (.var 10) (.cst .non)) (.var 4) (.call 2 [.ix (.var 3) (.neg (.cst (.int 1)))]))] []]
def F_thinned : FS := runF [F_check_bound, F_check_time, F_last_of, F_made] 3 11 [.expr (.call 0 [.cst (.str "wait"), .var 1, .cst (.int 1)]),
  .expr (.call 1 [.var 2]),
  .par [(3, true), (4, true)] [.lst [], .var 2],
  .for_ (.tp [.nm 5, .nm 6, .nm 7]) .seq [.fld [0] (.var 0) "listed"] B_thinned_1,
  .ret (.call 3 [.var 3])]
def F_Trains___add__ : FS := runF [F_last_of, F_made] 2 2 [.ite (.not (.isc [0] 0 (.var 1))) [.stuck] [],
  .ite (.and (.cmp .ne (.fld [0] (.var 0) "listed") (.lst [])) (.cmp .ne (.fld [0] (.var 1) "listed") (.lst []))) [.ite (.or (.cmp .is (.ix (.ix (.fld [0] (.var 0) "listed") (.neg (.cst (.int 1)))) (.cst (.int 2))) (.cst .non)) (.cmp .ge (.call 0 [.ix (.fld [0] (.var 0) "listed") (.neg (.cst (.int 1)))]) (.ix (.ix (.fld [0] (.var 1) "listed") (.cst (.int 0))) (.cst (.int 0))))) [.stuck] []] [],
  .ret (.call 1 [.bin .add (.fld [0] (.var 0) "listed") (.fld [0] (.var 1) "listed")])]
def F_passed : FS := runF [F_split_after, F_Trains___getitem__, F_thinned, F_Trains___add__] 3 5 [.asg (.tp [.nm 3, .nm 4]) (.call 0 [.var 0, .var 1]),
  .ret (.own .add 0 3 (.var 3) (.call 2 [.var 4, .var 2, .own .ix 0 1 (.var 0) (.bin .sub (.var 1) (.cst (.int 1)))]))]
def F_Spell___init__ : FS := runF [F_Trains___init__, F_passes_left, F_passed] 4 6 [.setf 2 0 "first" (.var 2),
  .setf 2 0 "recovered" (.var 2),
  .setf 2 0 "states" (.var 3),
  .grow 2 0 "trains" (.lst [.mk 0 0 [.lst [.tup [.var 2, .fld [1] (.var 1) "pace", .cst .non]]]]) (.tp [.nm 4, .nm 5]) (.fld [1] (.var 1) "specs") (.var 3) 2 [.call 1 [.var 4, .var 5], .ix (.var 4) (.cst (.int 1))]]
def F_is_between : FS := runF [F_is_integer] 3 3 [.ret (.and (.call 0 [.var 0]) (.chain .le .le (.var 1) (.var 0) (.var 2)))]
def F_is_breaker : FS := runF [F_is_between] 1 1 [.ite (.or (.not (.bi (.isi .tuple) [.var 0])) (.cmp .ne (.bi .len [.var 0]) (.cst (.int 3)))) [.ret (.cst (.bl false))] [],
  .ite (.or (.not (.call 0 [.ix (.var 0) (.cst (.int 0)), .cst (.int 1), .cst (.int 1000000000000)])) (.not (.call 0 [.ix (.var 0) (.cst (.int 1)), .cst (.int 1), .cst (.int 1000000000000000000000000000000)]))) [.ret (.cst (.bl false))] [],
  .ret (.call 0 [.ix (.var 0) (.cst (.int 2)), .cst (.int 1), .cst (.int 1000000000000)])]
def B_check_breakers_1 : List S := [.ite (.not (.call 0 [.var 2])) [.stuck] []]
def F_check_breakers : FS := runF [F_is_breaker] 1 3 [.ite (.or (.not (.bi (.isi .list) [.var 0])) (.cmp .gt (.bi .len [.var 0]) (.cst (.int 12)))) [.stuck] [],
  .for_ (.tp [.nm 1, .nm 2]) .enum [.var 0] B_check_breakers_1]
def F_Row___init__ : FS := runF [F_check_breakers, F_is_between] 4 4 [.expr (.call 0 [.var 1]),
  .ite (.not (.call 1 [.var 2, .cst (.int 1), .cst (.int 1000000000000000000000000000000)])) [.stuck] [],
  .ite (.not (.call 1 [.var 3, .cst (.int 0), .cst (.int 1000000000000000000000000000000)])) [.stuck] [],
  .setf 1 0 "specs" (.bi .list [.var 1]),
  .setf 1 0 "pace" (.var 2),
  .setf 1 0 "shift" (.var 3)]
def F_Row_step_length : FS := runF [] 1 1 [.ret (.fld [1] (.var 0) "pace")]
def F_Row_breaker_list : FS := runF [] 1 1 [.ret (.bi .list [.fld [1] (.var 0) "specs"])]
def F_Row_phase_time : FS := runF [] 1 1 [.ret (.fld [1] (.var 0) "shift")]
def F__law_cell_at : FS := runF [] 2 2 [.ite (.cmp .lt (.var 1) (.bi .len [.var 0])) [.ret (.ix (.var 0) (.var 1))] [],
  .ret (.cst (.int 0))]
def F__law_source_of : FS := runF [] 1 1 [.ret (.lst [.bin .mul (.var 0) (.bi .int1 [.cmp .ge (.var 0) (.bin .pow (.cst (.int 10)) (.cst (.int 18)))]), .bin .mod (.bi .int1 [.var 0]) (.cst (.int 2147483647)), .cst (.int 0)])]
def F__law_next : FS := runF [] 2 5 [.ite (.cmp .gt (.ix (.var 0) (.cst (.int 0))) (.cst (.int 0))) [.asgO 4 (.bin .mod (.bi .int1 [.ix (.var 0) (.cst (.int 0))]) (.var 1)),
  .seti 0 (.cst (.int 0)) (.bin .fdiv (.ix (.var 0) (.cst (.int 0))) (.var 1)),
  .ret (.var 4)] [],
  .seti 0 (.cst (.int 2)) (.bin .add (.ix (.var 0) (.cst (.int 2))) (.cst (.int 1))),
  .asg (.nm 2) (.ix (.lst [.cst (.int 2147483647), .cst (.int 2147483629), .cst (.int 2147483587), .cst (.int 2147483579), .cst (.int 2147483563), .cst (.int 2147483549), .cst (.int 2147483543)]) (.bin .mod (.bi .int1 [.ix (.var 0) (.cst (.int 2))]) (.cst (.int 7)))),
  .asgO 3 (.bin .mod (.bi .int1 [.bin .pow (.bin .add (.bin .add (.ix (.var 0) (.cst (.int 1))) (.bin .mul (.cst (.int 7919)) (.ix (.var 0) (.cst (.int 2))))) (.cst (.int 1))) (.cst (.int 5))]) (.var 2)),
  .asgO 3 (.bin .mod (.bi .int1 [.bin .mul (.bin .add (.var 3) (.ix (.var 0) (.cst (.int 2)))) (.bin .add (.bin .fdiv (.var 3) (.cst (.int 1009))) (.cst (.int 69621)))]) (.var 2)),
  .ret (.bin .mod (.bi .int1 [.bin .fdiv (.var 3) (.cst (.int 7))]) (.var 1))]
def F__law_one : FS := runF [F__law_next] 2 2 [.ret (.ix (.var 1) (.call 0 [.var 0, .bi .len [.var 1]]))]
def B__law_specs_1 : List S := [.asg (.nm 6) (.bin .add (.cst (.int 1)) (.call 0 [.var 0, .call 1 [.var 0, .lst [.cst (.int 3), .var 2]]])),
  .asg (.nm 7) (.bin .add (.cst (.int 1)) (.call 0 [.var 0, .call 1 [.var 0, .lst [.cst (.int 2), .var 3]]])),
  .app 4 (.tup [.var 7, .var 6, .bin .add (.cst (.int 1)) (.call 0 [.var 0, .call 1 [.var 0, .lst [.cst (.int 2), .var 3]]])])]
def F__law_specs : FS := runF [F__law_next, F__law_one] 4 8 [.asgO 4 (.lst []),
  .for_ (.nm 5) .rng [.call 0 [.var 0, .bin .add (.var 1) (.cst (.int 1))]] B__law_specs_1,
  .ret (.var 4)]
def B_format_row_1 : List S := [.app 1 (.sem (fsF [.cst (.str "breaker "), .sem (uniF (.var 2) fmtD), .cst (.str " "), .sem (uniF (.var 3) fmtD), .cst (.str " "), .sem (uniF (.var 4) fmtD)]))]
def F_format_row : FS := runF [F_Row_step_length, F_Row_phase_time, F_Row_breaker_list] 1 5 [.asgO 1 (.lst [.sem (fsF [.cst (.str "row "), .sem (uniF (.meth 1 "step_length" 0 (.var 0) []) fmtD), .cst (.str " "), .sem (uniF (.meth 1 "phase_time" 1 (.var 0) []) fmtD)])]),
  .for_ (.tp [.nm 2, .nm 3, .nm 4]) .seq [.meth 1 "breaker_list" 2 (.var 0) []] B_format_row_1,
  .ret (.sem (uniF (.var 1) (joinD "\n")))]
def F_is_number : FS := runF [] 1 2 [.ite (.or (.cmp .eq (.var 0) (.cst (.str ""))) (.not (.bi .alll [.comp [1] (.nm 1) .seq [.sem (chF (.var 0))] [] (.sem (uniF (.var 1) (inD "0123456789")))]))) [.ret (.cst (.bl false))] [],
  .ret (.or (.cmp .eq (.var 0) (.cst (.str "0"))) (.cmp .ne (.ix (.var 0) (.cst (.int 0))) (.cst (.str "0"))))]
def B_value_of_1 : List S := [.asgO 1 (.bin .add (.bin .mul (.var 1) (.cst (.int 10))) (.sem (uniF (.var 2) (sixD "0123456789"))))]
def F_value_of : FS := runF [] 1 3 [.asgO 1 (.cst (.int 0)),
  .for_ (.nm 2) .seq [.sem (chF (.var 0))] B_value_of_1,
  .ret (.var 1)]
def B_numbers_of_1 : List S := [.ite (.or (.cmp .eq (.var 5) (.bi .len [.var 4])) (.not (.call 0 [.ix (.var 4) (.var 5)]))) [.stuck] []]
def F_numbers_of : FS := runF [F_is_number, F_value_of] 4 7 [.asgO 4 (.sem (splF (.var 0) " ")),
  .ite (.cmp .ne (.ix (.var 4) (.cst (.int 0))) (.var 2)) [.stuck] [],
  .for_ (.nm 5) .rng [.cst (.int 1), .bin .add (.var 3) (.cst (.int 1))] B_numbers_of_1,
  .ite (.cmp .gt (.bi .len [.var 4]) (.bin .add (.var 3) (.cst (.int 1)))) [.stuck] [],
  .ret (.bi .tuple [.comp [6] (.nm 6) .seq [.slc (.var 4) [.cst (.int 1)] []] [] (.call 1 [.var 6])])]
def B_parse_row_1 : List S := [.app 2 (.call 0 [.var 6, .bin .add (.var 5) (.cst (.int 1)), .cst (.str "breaker"), .cst (.int 3)])]
def F_parse_row : FS := runF [F_numbers_of, F_Row___init__] 1 7 [.ite (.not (.bi (.isi .str) [.var 0])) [.stuck] [],
  .asgO 1 (.sem (splF (.var 0) "\n")),
  .asg (.tp [.nm 3, .nm 4]) (.call 0 [.ix (.var 1) (.cst (.int 0)), .cst (.int 0), .cst (.str "row"), .cst (.int 2)]),
  .asgO 2 (.lst []),
  .for_ (.tp [.nm 5, .nm 6]) .enum [.slc (.var 1) [.cst (.int 1)] []] B_parse_row_1,
  .ret (.mkp 1 1 [0, 1, 2] ([.var 2, .var 3] ++ ([.var 4] ++ dfl [])))]
def F_Row_facts : FS := runF [] 1 1 [.ret (.tup [.fld [1] (.var 0) "specs", .fld [1] (.var 0) "pace", .fld [1] (.var 0) "shift"])]
def F_Row___eq__ : FS := runF [F_Row_facts] 2 2 [.ret (.and (.isc [1] 1 (.var 1)) (.cmp .eq (.meth 1 "facts" 0 (.var 0) []) (.meth 1 "facts" 0 (.var 1) [])))]
def B_check_outages_r_1 : List S := [.ite (.not (.call 0 [.var 3, .var 1])) [.stuck] [],
  .asgO 1 (.bin .add (.ix (.var 3) (.cst (.int 1))) (.cst (.int 1)))]
def F_check_outages_r : FS := reown 0 (runF [F_is_outage] 1 4 [.ite (.or (.not (.bi (.isi .list) [.var 0])) (.cmp .gt (.bi .len [.var 0]) (.cst (.int 50)))) [.stuck] [],
  .asgO 1 (.cst (.int 0)),
  .for_ (.tp [.nm 2, .nm 3]) .enum [.var 0] B_check_outages_r_1])
def F_format_outages : FS := runF [F_check_outages_r] 1 3 [.expr (.call 0 [.var 0]),
  .ret (.sem (uniF (.comp [1, 2] (.tp [.nm 1, .nm 2]) .seq [.var 0] [] (.sem (fsF [.cst (.str "outage "), .sem (uniF (.var 1) fmtD), .cst (.str " "), .sem (uniF (.var 2) fmtD)]))) (joinD "\n")))]
def F_parse_outages : FS := runF [F_numbers_of, F_check_outages_r] 1 5 [.ite (.not (.bi (.isi .str) [.var 0])) [.stuck] [],
  .asgO 1 (.ite (.cmp .eq (.var 0) (.cst (.str ""))) (.lst []) (.sem (splF (.var 0) "\n"))),
  .asgO 2 (.comp [3, 4] (.tp [.nm 3, .nm 4]) .enum [.var 1] [] (.call 0 [.var 4, .var 3, .cst (.str "outage"), .cst (.int 2)])),
  .expr (.call 1 [.var 2]),
  .ret (.var 2)]
def B__law_outages_right_1 : List S := [.asg (.nm 6) (.bin .add (.bin .add (.var 2) (.call 0 [.var 0, .call 1 [.var 0, .lst [.cst (.int 3), .bin .pow (.cst (.int 10)) (.cst (.int 28))]]])) (.bi .int1 [.cmp .gt (.var 3) (.cst (.int 0))])),
  .asg (.nm 2) (.bin .add (.bin .add (.var 6) (.cst (.int 1))) (.call 0 [.var 0, .call 1 [.var 0, .lst [.cst (.int 3), .bin .pow (.cst (.int 10)) (.cst (.int 28))]]])),
  .app 1 (.tup [.var 6, .var 2])]
def F__law_outages_right : FS := runF [F__law_next, F__law_one, F_format_outages, F_parse_outages] 1 8 [.asgO 1 (.lst []),
  .asgO 2 (.cst (.int 0)),
  .for_ (.nm 3) .rng [.call 0 [.var 0, .cst (.int 7)]] B__law_outages_right_1,
  .asg (.nm 4) (.sem (uniF (.comp [6, 7] (.tp [.nm 6, .nm 7]) .seq [.var 1] [] (.bin .add (.bin .add (.bin .add (.cst (.str "outage ")) (.sem (uniF (.var 6) strD))) (.cst (.str " "))) (.sem (uniF (.var 7) strD)))) (joinD "\n"))),
  .asg (.nm 5) (.bi .list [.var 1]),
  .ite (.or (.cmp .ne (.call 2 [.var 1]) (.var 4)) (.or (.cmp .ne (.callp 2 [0] [.var 1]) (.var 4)) (.cmp .ne (.var 1) (.var 5)))) [.ret (.cst (.bl false))] [],
  .ite (.or (.cmp .ne (.call 3 [.var 4]) (.var 1)) (.cmp .ne (.callp 3 [0] [.var 4]) (.var 1))) [.ret (.cst (.bl false))] [],
  .xapp (.call 3 [.var 4]) .non,
  .ret (.cmp .eq (.call 3 [.var 4]) (.var 1))]
def B_numbers_of_x_1 : List S := [.ite (.or (.cmp .eq (.var 5) (.bi .len [.var 4])) (.not (.call 0 [.ix (.var 4) (.var 5)]))) [.rse 17 ["line", "word"] [.var 1, .var 5]] []]
def F_numbers_of_x : FS := runX [F_is_number, F_value_of] 4 7 [.asgO 4 (.sem (splF (.var 0) " ")),
  .ite (.cmp .ne (.ix (.var 4) (.cst (.int 0))) (.var 2)) [.rse 17 ["line", "word"] [.var 1, .cst (.int 0)]] [],
  .for_ (.nm 5) .rng [.cst (.int 1), .bin .add (.var 3) (.cst (.int 1))] B_numbers_of_x_1,
  .ite (.cmp .gt (.bi .len [.var 4]) (.bin .add (.var 3) (.cst (.int 1)))) [.rse 17 ["line", "word"] [.var 1, .bin .add (.var 3) (.cst (.int 1))]] [],
  .ret (.bi .tuple [.comp [6] (.nm 6) .seq [.slc (.var 4) [.cst (.int 1)] []] [] (.call 1 [.var 6])])]
def B_check_breakers_x_1 : List S := [.ite (.not (.call 0 [.var 2])) [.rse 9 ["part", "at"] [.cst (.str "breakers"), .var 1]] []]
def F_check_breakers_x : FS := runX [F_is_breaker] 1 3 [.ite (.or (.not (.bi (.isi .list) [.var 0])) (.cmp .gt (.bi .len [.var 0]) (.cst (.int 12)))) [.rse 9 ["part", "at"] [.cst (.str "breakers"), .neg (.cst (.int 1))]] [],
  .for_ (.tp [.nm 1, .nm 2]) .enum [.var 0] B_check_breakers_x_1]
def F_Row___init___x : FS := runX [F_check_breakers_x, F_is_between] 4 4 [.xex (.call 0 [.var 1]) .drop,
  .ite (.not (.call 1 [.var 2, .cst (.int 1), .cst (.int 1000000000000000000000000000000)])) [.rse 9 ["part", "at"] [.cst (.str "step"), .neg (.cst (.int 1))]] [],
  .ite (.not (.call 1 [.var 3, .cst (.int 0), .cst (.int 1000000000000000000000000000000)])) [.rse 9 ["part", "at"] [.cst (.str "phase"), .neg (.cst (.int 1))]] [],
  .setf 1 0 "specs" (.bi .list [.var 1]),
  .setf 1 0 "pace" (.var 2),
  .setf 1 0 "shift" (.var 3)]
def B_parse_row_x_1 : List S := [.sem [] (appXF 2 (.call 0 [.var 6, .bin .add (.var 5) (.cst (.int 1)), .cst (.str "breaker"), .cst (.int 3)]))]
def F_parse_row_x : FS := runX [F_numbers_of_x, F_Row___init___x] 1 7 [.ite (.not (.sem (isoF [1] .str (.var 0)))) [.rse 17 ["line", "word"] [.neg (.cst (.int 1)), .neg (.cst (.int 1))]] [],
  .asgO 1 (.sem (splF (.var 0) "\n")),
  .xex (.call 0 [.ix (.var 1) (.cst (.int 0)), .cst (.int 0), .cst (.str "row"), .cst (.int 2)]) (.asg (.tp [.nm 3, .nm 4])),
  .asgO 2 (.lst []),
  .for_ (.tp [.nm 5, .nm 6]) .enum [.slc (.var 1) [.cst (.int 1)] []] B_parse_row_x_1,
  .xex (.sem (mkpxF 1 1 [0, 1, 2] ([.var 2, .var 3] ++ ([.var 4] ++ dfl [])))) .ret]
def F_row_of : FS := runF [F_parse_row_x] 1 1 [.sem [] (tryRR (.call 0 [.var 0]) [13, 9, 17] (.cst .non))]
def F_same_text : FS := runF [F_row_of, F_Row___eq__] 2 3 [.asgO 2 (.call 0 [.var 0]),
  .ret (.and (.cmp .isnot (.var 2) (.cst .non)) (.own .eq 1 1 (.var 2) (.call 0 [.var 1])))]
def B__law_same_right_1 : List S := [.ite (.or (.cmp .isnot (.call 0 [.var 1, .var 3]) (.cst (.bl false))) (.or (.cmp .isnot (.call 0 [.var 3, .var 1]) (.cst (.bl false))) (.cmp .isnot (.call 0 [.var 3, .var 3]) (.cst (.bl false))))) [.ret (.cst (.bl false))] []]
def F__law_same_right : FS := runF [F_same_text] 3 4 [.ite (.or (.cmp .isnot (.call 0 [.var 1, .var 1]) (.cst (.bl true))) (.cmp .ne (.call 0 [.var 1, .var 2]) (.cmp .eq (.var 1) (.var 2)))) [.ret (.cst (.bl false))] [],
  .ite (.cmp .ne (.callp 0 [1, 0] [.var 1, .var 2]) (.cmp .eq (.var 1) (.var 2))) [.ret (.cst (.bl false))] [],
  .for_ (.nm 3) .seq [.lst [.cst .non, .cst (.int 5), .bin .add (.var 1) (.cst (.str "\n")), .cst (.str ""), .lst [.var 1], .var 0, .cst (.bl true), .cst (.str "x"), .cst (.str "row 0 0"), .cst (.str "row 1 0\nbreaker 0 1 1")]] B__law_same_right_1,
  .ret (.cst (.bl true))]
def B_law_1 : List S := [.app 8 (.bin .add (.cst (.str "breaker ")) (.sem (uniF (.comp [12] (.nm 12) .seq [.var 9] [] (.sem (uniF (.var 12) strD))) (joinD " "))))]
def B_law_2 : List S := [.asgO 3 (.call 1 [.var 2]),
  .asg (.nm 4) (.call 3 [.var 3, .cst (.int 12), .call 2 [.var 3, .lst [.cst (.int 9), .bin .pow (.cst (.int 10)) (.cst (.int 30))]], .call 2 [.var 3, .lst [.cst (.int 5), .bin .pow (.cst (.int 10)) (.cst (.int 12))]]]),
  .asg (.nm 5) (.bin .add (.cst (.int 1)) (.call 4 [.var 3, .call 2 [.var 3, .lst [.cst (.int 9), .bin .pow (.cst (.int 10)) (.cst (.int 30))]]])),
  .asg (.nm 6) (.call 4 [.var 3, .call 2 [.var 3, .lst [.cst (.int 2), .bin .pow (.cst (.int 10)) (.cst (.int 30))]]]),
  .asg (.nm 7) (.mkp 1 5 [0, 1, 2] ([.var 4, .var 5] ++ ([.var 6] ++ dfl []))),
  .asgO 8 (.lst [.bin .add (.bin .add (.bin .add (.cst (.str "row ")) (.sem (uniF (.var 5) strD))) (.cst (.str " "))) (.sem (uniF (.var 6) strD))]),
  .for_ (.nm 9) .seq [.var 4] B_law_1,
  .asg (.nm 10) (.sem (uniF (.var 8) (joinD "\n"))),
  .ite (.or (.cmp .ne (.call 6 [.var 7]) (.var 10)) (.cmp .ne (.callp 6 [0] [.var 7]) (.var 10))) [.ret (.cst (.bl false))] [],
  .ite (.or (.own .ne 1 8 (.call 7 [.var 10]) (.var 7)) (.own .ne 1 8 (.callp 7 [0] [.var 10]) (.var 7))) [.ret (.cst (.bl false))] [],
  .asg (.nm 11) (.call 7 [.var 10]),
  .ite (.cmp .ne (.tup [.meth 1 "breaker_list" 9 (.var 11) [], .meth 1 "step_length" 10 (.var 11) [], .meth 1 "phase_time" 11 (.var 11) []]) (.tup [.var 4, .var 5, .var 6])) [.ret (.cst (.bl false))] [],
  .ite (.or (.not (.call 12 [.var 3])) (.not (.call 13 [.var 7, .var 10, .var 1]))) [.ret (.cst (.bl false))] [],
  .asgO 1 (.var 10)]
def F_law : FS := runF [F__law_cell_at, F__law_source_of, F__law_one, F__law_specs, F__law_next, F_Row___init__, F_format_row, F_parse_row, F_Row___eq__, F_Row_breaker_list, F_Row_step_length, F_Row_phase_time, F__law_outages_right, F__law_same_right] 1 13 [.asgO 1 (.cst (.str "row 1 0")),
  .for_ (.nm 2) .seq [.bin .add (.lst [.call 0 [.var 0, .cst (.int 0)]]) (.slc (.var 0) [.cst (.int 1)] [.cst (.int 6)])] B_law_2,
  .ret (.cst (.bl true))]
end L
namespace L
open PySem L2 DV
def topS (i : Nat) : Stmt := PySem.Challenge.pw_breakerrow_k63_texts_of_rows_and_outages.main.body.getD i (.Pass ⟨0, 0, 0, 0⟩)
structure Txt (g : Gx) (mg : Str → Option Value) : Prop where
  tt : g.ea = none
  z_all : mg "all" = none
  z_bool : mg "bool" = none
  z_enumerate : mg "enumerate" = none
  z_int : mg "int" = none
  z_isinstance : mg "isinstance" = none
  z_len : mg "len" = none
  z_list : mg "list" = none
  z_range : mg "range" = none
  z_str : mg "str" = none
  z_tuple : mg "tuple" = none
  g_MOST_BREAKERS : GInt mg "MOST_BREAKERS" 12
  g_MOST_COUNT : GInt mg "MOST_COUNT" 1000000000000
  g_MOST_WAIT : GInt mg "MOST_WAIT" 1000000000000000000000000000000
  g_MOST_OUTAGES : GInt mg "MOST_OUTAGES" 50
  g_MOST_END : GInt mg "MOST_END" 1000000000000000000000000000000
  x_Row : ClsX g 1
  na_Row_specs : NoAttr g.K (g.cl 1) "specs"
  na_Row_pace : NoAttr g.K (g.cl 1) "pace"
  na_Row_shift : NoAttr g.K (g.cl 1) "shift"
  kit_Row_Row : PySem.W.kitOne g.K (.ref (g.cl 1)) (.ref (g.cl 1)) = some (1 == 1)
  kp_Row : ∀ t ∈ plainTy, PySem.W.kitOne g.K (.type t) (.ref (g.cl 1)) = some false
  n_Row : mg "Row" = some (.ref (g.cl 1))
  ne_Row : PySem.W.findIn g.K (.ref (g.cl 1)) "__ne__" = some (some (.builtin "object.__ne__"))
  kt_Row_str : PySem.W.kitOne g.K (.ref (g.cl 1)) (.type "str") = some false
  ax_InvalidText : AexC g.K (g.cl 17)
  bx_BreakerError : BexC g.K (g.cl 8)
  n_BreakerError : mg "BreakerError" = some (.ref (g.cl 8))
  n_InvalidText : mg "InvalidText" = some (.ref (g.cl 17))
  tx_InvalidText_line : PySem.W.takerIn g.K (g.cl 17) "line" = some none
  tx_InvalidText_word : PySem.W.takerIn g.K (g.cl 17) "word" = some none
  ax_InvalidRow : AexC g.K (g.cl 9)
  n_InvalidRow : mg "InvalidRow" = some (.ref (g.cl 9))
  tx_InvalidRow_part : PySem.W.takerIn g.K (g.cl 9) "part" = some none
  tx_InvalidRow_at : PySem.W.takerIn g.K (g.cl 9) "at" = some none
  xm_InvalidIndex_BreakerError : PySem.W.exmOne g.K (.ref (g.cl 13)) (.ref (g.cl 8)) = some true
  xm_InvalidRow_BreakerError : PySem.W.exmOne g.K (.ref (g.cl 9)) (.ref (g.cl 8)) = some true
  xm_InvalidText_BreakerError : PySem.W.exmOne g.K (.ref (g.cl 17)) (.ref (g.cl 8)) = some true
section
variable {P : Program} {w : World} {mg : Str → Option Value} {base : Heap} {g : Gx}
abbrev s__law_cell_at : Stmt := topS 35
theorem sc__law_cell_at : FnScope ["_law_script", "_law_k"] ["_law_script", "_law_k"] (defScope s__law_cell_at) := ⟨rfl, rfl, rfl, by decide +kernel, rfl, by decide +kernel, by decide +kernel⟩
theorem ok__law_cell_at {k : Nat} {f : Addr} {fd : FuncData} (T : Txt g mg) (F : Fun g.K "_law_cell_at" "_law_cell_at" s__law_cell_at f fd)  : FnOk P w g.K mg base CX0 (k + 1) f fd ["_law_script", "_law_k"] (spF g 2 F__law_cell_at) := by
  refine def_fn (fs := []) F sc__law_cell_at rfl rfl T.tt fun cdv A outer s H E hr C => ?_
  exact (ss_cons (s_ite (t_cmp (op := .lt) C (k_var 1 rfl (by first | exact .inl rfl | exact .inr (.inl rfl) | exact .inr (.inr rfl)) rfl rfl) (k_len C (a_cons (k_var 0 rfl (by first | exact .inl rfl | exact .inr (.inl rfl) | exact .inr (.inr rfl)) rfl rfl) a_nil rfl) rfl rfl (T.z_len) rfl) rfl) (ss_cons (s_ret (p_ix C (k_var 0 rfl (by first | exact .inl rfl | exact .inr (.inl rfl) | exact .inr (.inr rfl)) rfl rfl) (k_var 1 rfl (by first | exact .inl rfl | exact .inr (.inl rfl) | exact .inr (.inr rfl)) rfl rfl) (fun _ _ => rfl)))
  ss_nil) ss_nil)
  (ss_cons (s_ret (k_int C))
  ss_nil))
abbrev s__law_source_of : Stmt := topS 32
theorem sc__law_source_of : FnScope ["_law_cell"] ["_law_cell"] (defScope s__law_source_of) := ⟨rfl, rfl, rfl, by decide +kernel, rfl, by decide +kernel, by decide +kernel⟩
theorem ok__law_source_of {k : Nat} {f : Addr} {fd : FuncData} (T : Txt g mg) (F : Fun g.K "_law_source_of" "_law_source_of" s__law_source_of f fd)  : FnOk P w g.K mg base CX0 (k + 1) f fd ["_law_cell"] (spF g 1 F__law_source_of) := by
  refine def_fn (fs := []) F sc__law_source_of rfl rfl T.tt fun cdv A outer s H E hr C => ?_
  exact (ss_cons (s_ret (p_lst C (a_cons (p_bin (op := .mul) C (k_var 0 rfl (by first | exact .inl rfl | exact .inr (.inl rfl) | exact .inr (.inr rfl)) rfl rfl) (k_int1 C (a_cons (p_cmp (op := .ge) C (k_var 0 rfl (by first | exact .inl rfl | exact .inr (.inl rfl) | exact .inr (.inr rfl)) rfl rfl) (p_bin (op := .pow) C (k_int C) (k_int C)) rfl) a_nil rfl) rfl rfl (T.z_int) rfl)) (a_cons (p_bin (op := .mod) C (k_int1 C (a_cons (k_var 0 rfl (by first | exact .inl rfl | exact .inr (.inl rfl) | exact .inr (.inr rfl)) rfl rfl) a_nil rfl) rfl rfl (T.z_int) rfl) (k_int C)) (a_cons (k_int C) a_nil rfl) rfl) rfl)))
  ss_nil)
abbrev s__law_next : Stmt := topS 33
theorem sc__law_next : FnScope ["_law_source", "_law_many", "_law_prime", "_law_figure", "_law_found"] ["_law_source", "_law_many"] (defScope s__law_next) := ⟨rfl, rfl, rfl, by decide +kernel, rfl, by decide +kernel, by decide +kernel⟩
theorem ok__law_next {k : Nat} {f : Addr} {fd : FuncData} (T : Txt g mg) (F : Fun g.K "_law_next" "_law_next" s__law_next f fd)  : FnOk P w g.K mg base CX0 (k + 1) f fd ["_law_source", "_law_many"] (spF g 2 F__law_next) := by
  refine def_fn (fs := []) F sc__law_next rfl rfl T.tt fun cdv A outer s H E hr C => ?_
  exact (ss_cons (s_ite (t_cmp (op := .gt) C (p_ix C (k_var 0 rfl (by first | exact .inl rfl | exact .inr (.inl rfl) | exact .inr (.inr rfl)) rfl rfl) (k_int C) (fun _ _ => rfl)) (k_int C) rfl) (ss_cons (s_asgO (i := 4) C rfl (by first | exact .inl rfl | exact .inr rfl) (p_bin (op := .mod) C (k_int1 C (a_cons (p_ix C (k_var 0 rfl (by first | exact .inl rfl | exact .inr (.inl rfl) | exact .inr (.inr rfl)) rfl rfl) (k_int C) (fun _ _ => rfl)) a_nil rfl) rfl rfl (T.z_int) rfl) (k_var 1 rfl (by first | exact .inl rfl | exact .inr (.inl rfl) | exact .inr (.inr rfl)) rfl rfl)) rfl (by first | exact .inr rfl | exact .inl rfl))
  (ss_cons (s_seti C (pe_var (i := 0) rfl (by first | exact .inl rfl | exact .inr (.inl rfl) | exact .inr (.inr rfl)) rfl rfl) (k_int C) (p_bin (op := .fdiv) C (p_ix C (k_var 0 rfl (by first | exact .inl rfl | exact .inr (.inl rfl) | exact .inr (.inr rfl)) rfl rfl) (k_int C) (fun _ _ => rfl)) (k_var 1 rfl (by first | exact .inl rfl | exact .inr (.inl rfl) | exact .inr (.inr rfl)) rfl rfl)) rfl rfl rfl (fun _ => rfl))
  (ss_cons (s_ret (k_var 4 rfl (by first | exact .inl rfl | exact .inr (.inl rfl) | exact .inr (.inr rfl)) rfl rfl))
  ss_nil))) ss_nil)
  (ss_cons (s_seti C (pe_var (i := 0) rfl (by first | exact .inl rfl | exact .inr (.inl rfl) | exact .inr (.inr rfl)) rfl rfl) (k_int C) (p_bin (op := .add) C (p_ix C (k_var 0 rfl (by first | exact .inl rfl | exact .inr (.inl rfl) | exact .inr (.inr rfl)) rfl rfl) (k_int C) (fun _ _ => rfl)) (k_int C)) rfl rfl rfl (fun _ => rfl))
  (ss_cons (s_asg (p_ix C (p_lst C (a_cons (k_int C) (a_cons (k_int C) (a_cons (k_int C) (a_cons (k_int C) (a_cons (k_int C) (a_cons (k_int C) (a_cons (k_int C) a_nil rfl) rfl) rfl) rfl) rfl) rfl) rfl)) (p_bin (op := .mod) C (k_int1 C (a_cons (p_ix C (k_var 0 rfl (by first | exact .inl rfl | exact .inr (.inl rfl) | exact .inr (.inr rfl)) rfl rfl) (k_int C) (fun _ _ => rfl)) a_nil rfl) rfl rfl (T.z_int) rfl) (k_int C)) (fun _ _ => rfl)) (tg_nm (pg_name (i := 2) C.nd rfl (by first | exact .inl rfl | exact .inr rfl) (by first | exact .inr rfl | exact .inl rfl))) rfl rfl rfl)
  (ss_cons (s_asgO (i := 3) C rfl (by first | exact .inl rfl | exact .inr rfl) (p_bin (op := .mod) C (k_int1 C (a_cons (p_bin (op := .pow) C (p_bin (op := .add) C (p_bin (op := .add) C (p_ix C (k_var 0 rfl (by first | exact .inl rfl | exact .inr (.inl rfl) | exact .inr (.inr rfl)) rfl rfl) (k_int C) (fun _ _ => rfl)) (p_bin (op := .mul) C (k_int C) (p_ix C (k_var 0 rfl (by first | exact .inl rfl | exact .inr (.inl rfl) | exact .inr (.inr rfl)) rfl rfl) (k_int C) (fun _ _ => rfl)))) (k_int C)) (k_int C)) a_nil rfl) rfl rfl (T.z_int) rfl) (k_var 2 rfl (by first | exact .inl rfl | exact .inr (.inl rfl) | exact .inr (.inr rfl)) rfl rfl)) rfl (by first | exact .inr rfl | exact .inl rfl))
  (ss_cons (s_asgO (i := 3) C rfl (by first | exact .inl rfl | exact .inr rfl) (p_bin (op := .mod) C (k_int1 C (a_cons (p_bin (op := .mul) C (p_bin (op := .add) C (k_var 3 rfl (by first | exact .inl rfl | exact .inr (.inl rfl) | exact .inr (.inr rfl)) rfl rfl) (p_ix C (k_var 0 rfl (by first | exact .inl rfl | exact .inr (.inl rfl) | exact .inr (.inr rfl)) rfl rfl) (k_int C) (fun _ _ => rfl))) (p_bin (op := .add) C (p_bin (op := .fdiv) C (k_var 3 rfl (by first | exact .inl rfl | exact .inr (.inl rfl) | exact .inr (.inr rfl)) rfl rfl) (k_int C)) (k_int C))) a_nil rfl) rfl rfl (T.z_int) rfl) (k_var 2 rfl (by first | exact .inl rfl | exact .inr (.inl rfl) | exact .inr (.inr rfl)) rfl rfl)) rfl (by first | exact .inr rfl | exact .inl rfl))
  (ss_cons (s_ret (p_bin (op := .mod) C (k_int1 C (a_cons (p_bin (op := .fdiv) C (k_var 3 rfl (by first | exact .inl rfl | exact .inr (.inl rfl) | exact .inr (.inr rfl)) rfl rfl) (k_int C)) a_nil rfl) rfl rfl (T.z_int) rfl) (k_var 1 rfl (by first | exact .inl rfl | exact .inr (.inl rfl) | exact .inr (.inr rfl)) rfl rfl)))
  ss_nil))))))
abbrev s__law_one : Stmt := topS 34
theorem sc__law_one : FnScope ["_law_source", "_law_options"] ["_law_source", "_law_options"] (defScope s__law_one) := ⟨rfl, rfl, rfl, by decide +kernel, rfl, by decide +kernel, by decide +kernel⟩
theorem ok__law_one {k : Nat} {f : Addr} {fd : FuncData} (T : Txt g mg) (F : Fun g.K "_law_one" "_law_one" s__law_one f fd) (c__law_next : Cal P w mg base g k "_law_next" 2 F__law_next) : FnOk P w g.K mg base CX0 (k + 1) f fd ["_law_source", "_law_options"] (spF g 2 F__law_one) := by
  refine def_fn (fs := [F__law_next]) F sc__law_one rfl rfl T.tt fun cdv A outer s H E hr C => ?_
  exact (ss_cons (s_ret (p_ix C (k_var 1 rfl (by first | exact .inl rfl | exact .inr (.inl rfl) | exact .inr (.inr rfl)) rfl rfl) (c_call c__law_next C rfl rfl hr rfl (aw_cons (k_var 0 rfl (by first | exact .inl rfl | exact .inr (.inl rfl) | exact .inr (.inr rfl)) rfl rfl) (aw_cons (k_len C (a_cons (k_var 1 rfl (by first | exact .inl rfl | exact .inr (.inl rfl) | exact .inr (.inr rfl)) rfl rfl) a_nil rfl) rfl rfl (T.z_len) rfl) aw_nil rfl) rfl) rfl rfl rfl) (fun _ _ => rfl)))
  ss_nil)
abbrev s__law_specs : Stmt := topS 36
theorem sc__law_specs : FnScope ["_law_source", "_law_most", "_law_wide", "_law_many", "_law_found", "_law_k", "_law_wait", "_law_fails"] ["_law_source", "_law_most", "_law_wide", "_law_many"] (defScope s__law_specs) := ⟨rfl, rfl, rfl, by decide +kernel, rfl, by decide +kernel, by decide +kernel⟩
theorem ok__law_specs {k : Nat} {f : Addr} {fd : FuncData} (T : Txt g mg) (F : Fun g.K "_law_specs" "_law_specs" s__law_specs f fd) (c__law_next : Cal P w mg base g k "_law_next" 2 F__law_next) (c__law_one : Cal P w mg base g k "_law_one" 2 F__law_one) : FnOk P w g.K mg base CX0 (k + 1) f fd ["_law_source", "_law_most", "_law_wide", "_law_many"] (spF g 4 F__law_specs) := by
  refine def_fn (fs := [F__law_next, F__law_one]) F sc__law_specs rfl rfl T.tt fun cdv A outer s H E hr C => ?_
  exact (ss_cons (s_asgO (i := 4) C rfl (by first | exact .inl rfl | exact .inr rfl) (p_lst C a_nil) rfl (by first | exact .inr rfl | exact .inl rfl))
  (ss_cons (s_for C PassesOwn.never (i_rng1 C rfl (T.z_range) (a_cons (c_call c__law_next C rfl rfl hr rfl (aw_cons (k_var 0 rfl (by first | exact .inl rfl | exact .inr (.inl rfl) | exact .inr (.inr rfl)) rfl rfl) (aw_cons (p_bin (op := .add) C (k_var 1 rfl (by first | exact .inl rfl | exact .inr (.inl rfl) | exact .inr (.inr rfl)) rfl rfl) (k_int C)) aw_nil rfl) rfl) rfl rfl rfl) a_nil rfl) rfl) (tg_nm (pg_name (i := 5) C.nd rfl (by first | exact .inl rfl | exact .inr rfl) (by first | exact .inr rfl | exact .inl rfl))) (ss_cons (s_asg (p_bin (op := .add) C (k_int C) (c_call c__law_next C rfl rfl hr rfl (aw_cons (k_var 0 rfl (by first | exact .inl rfl | exact .inr (.inl rfl) | exact .inr (.inr rfl)) rfl rfl) (aw_cons (c_call c__law_one C rfl rfl hr rfl (aw_cons (k_var 0 rfl (by first | exact .inl rfl | exact .inr (.inl rfl) | exact .inr (.inr rfl)) rfl rfl) (aw_cons (p_lst C (a_cons (k_int C) (a_cons (k_var 2 rfl (by first | exact .inl rfl | exact .inr (.inl rfl) | exact .inr (.inr rfl)) rfl rfl) a_nil rfl) rfl)) aw_nil rfl) rfl) rfl rfl rfl) aw_nil rfl) rfl) rfl rfl rfl)) (tg_nm (pg_name (i := 6) C.nd rfl (by first | exact .inl rfl | exact .inr rfl) (by first | exact .inr rfl | exact .inl rfl))) rfl rfl rfl)
  (ss_cons (s_asg (p_bin (op := .add) C (k_int C) (c_call c__law_next C rfl rfl hr rfl (aw_cons (k_var 0 rfl (by first | exact .inl rfl | exact .inr (.inl rfl) | exact .inr (.inr rfl)) rfl rfl) (aw_cons (c_call c__law_one C rfl rfl hr rfl (aw_cons (k_var 0 rfl (by first | exact .inl rfl | exact .inr (.inl rfl) | exact .inr (.inr rfl)) rfl rfl) (aw_cons (p_lst C (a_cons (k_int C) (a_cons (k_var 3 rfl (by first | exact .inl rfl | exact .inr (.inl rfl) | exact .inr (.inr rfl)) rfl rfl) a_nil rfl) rfl)) aw_nil rfl) rfl) rfl rfl rfl) aw_nil rfl) rfl) rfl rfl rfl)) (tg_nm (pg_name (i := 7) C.nd rfl (by first | exact .inl rfl | exact .inr rfl) (by first | exact .inr rfl | exact .inl rfl))) rfl rfl rfl)
  (ss_cons (s_app C (pe_var (i := 4) rfl (by first | exact .inl rfl | exact .inr (.inl rfl) | exact .inr (.inr rfl)) rfl rfl) (p_tup C (a_cons (k_var 7 rfl (by first | exact .inl rfl | exact .inr (.inl rfl) | exact .inr (.inr rfl)) rfl rfl) (a_cons (k_var 6 rfl (by first | exact .inl rfl | exact .inr (.inl rfl) | exact .inr (.inr rfl)) rfl rfl) (a_cons (p_bin (op := .add) C (k_int C) (c_call c__law_next C rfl rfl hr rfl (aw_cons (k_var 0 rfl (by first | exact .inl rfl | exact .inr (.inl rfl) | exact .inr (.inr rfl)) rfl rfl) (aw_cons (c_call c__law_one C rfl rfl hr rfl (aw_cons (k_var 0 rfl (by first | exact .inl rfl | exact .inr (.inl rfl) | exact .inr (.inr rfl)) rfl rfl) (aw_cons (p_lst C (a_cons (k_int C) (a_cons (k_var 3 rfl (by first | exact .inl rfl | exact .inr (.inl rfl) | exact .inr (.inr rfl)) rfl rfl) a_nil rfl) rfl)) aw_nil rfl) rfl) rfl rfl rfl) aw_nil rfl) rfl) rfl rfl rfl)) a_nil rfl) rfl) rfl)) rfl rfl rfl rfl)
  ss_nil))) (fun _ => rfl))
  (ss_cons (s_ret (k_var 4 rfl (by first | exact .inl rfl | exact .inr (.inl rfl) | exact .inr (.inr rfl)) rfl rfl))
  ss_nil)))
abbrev s_is_integer : Stmt := topS 7
theorem sc_is_integer : FnScope ["value"] ["value"] (defScope s_is_integer) := ⟨rfl, rfl, rfl, by decide +kernel, rfl, by decide +kernel, by decide +kernel⟩
theorem ok_is_integer {k : Nat} {f : Addr} {fd : FuncData} (T : Txt g mg) (F : Fun g.K "is_integer" "is_integer" s_is_integer f fd)  : FnOk P w g.K mg base CX0 (k + 1) f fd ["value"] (spF g 1 F_is_integer) := by
  refine def_fn (fs := []) F sc_is_integer rfl rfl T.tt fun cdv A outer s H E hr C => ?_
  exact (ss_cons (s_ret (p_and C (p_isi (t := .int) C (k_var 0 rfl (by first | exact .inl rfl | exact .inr (.inl rfl) | exact .inr (.inr rfl)) rfl rfl) (ty_int (T.z_int) rfl) rfl (T.z_isinstance) rfl rfl) (p_one (p_not C (p_isi (t := .bool) C (k_var 0 rfl (by first | exact .inl rfl | exact .inr (.inl rfl) | exact .inr (.inr rfl)) rfl rfl) (ty_bool (T.z_bool) rfl) rfl (T.z_isinstance) rfl rfl)))))
  ss_nil)
abbrev s_is_between : Stmt := topS 8
theorem sc_is_between : FnScope ["value", "low", "high"] ["value", "low", "high"] (defScope s_is_between) := ⟨rfl, rfl, rfl, by decide +kernel, rfl, by decide +kernel, by decide +kernel⟩
theorem ok_is_between {k : Nat} {f : Addr} {fd : FuncData} (T : Txt g mg) (F : Fun g.K "is_between" "is_between" s_is_between f fd) (c_is_integer : Cal P w mg base g k "is_integer" 1 F_is_integer) : FnOk P w g.K mg base CX0 (k + 1) f fd ["value", "low", "high"] (spF g 3 F_is_between) := by
  refine def_fn (fs := [F_is_integer]) F sc_is_between rfl rfl T.tt fun cdv A outer s H E hr C => ?_
  exact (ss_cons (s_ret (p_and C (c_call c_is_integer C rfl rfl hr rfl (aw_cons (k_var 0 rfl (by first | exact .inl rfl | exact .inr (.inl rfl) | exact .inr (.inr rfl)) rfl rfl) aw_nil rfl) rfl rfl rfl) (p_one (p_chain (o1 := .le) (o2 := .le) C (k_var 1 rfl (by first | exact .inl rfl | exact .inr (.inl rfl) | exact .inr (.inr rfl)) rfl rfl) (k_var 0 rfl (by first | exact .inl rfl | exact .inr (.inl rfl) | exact .inr (.inr rfl)) rfl rfl) (k_var 2 rfl (by first | exact .inl rfl | exact .inr (.inl rfl) | exact .inr (.inr rfl)) rfl rfl) rfl))))
  ss_nil)
abbrev s_is_breaker : Stmt := topS 13
theorem sc_is_breaker : FnScope ["value"] ["value"] (defScope s_is_breaker) := ⟨rfl, rfl, rfl, by decide +kernel, rfl, by decide +kernel, by decide +kernel⟩
theorem ok_is_breaker {k : Nat} {f : Addr} {fd : FuncData} (T : Txt g mg) (F : Fun g.K "is_breaker" "is_breaker" s_is_breaker f fd) (c_is_between : Cal P w mg base g k "is_between" 3 F_is_between) : FnOk P w g.K mg base CX0 (k + 1) f fd ["value"] (spF g 1 F_is_breaker) := by
  refine def_fn (fs := [F_is_between]) F sc_is_breaker rfl rfl T.tt fun cdv A outer s H E hr C => ?_
  exact (ss_cons (s_ite (PW.pt (w_or (t_not (t_val C (p_isi (t := .tuple) C (k_var 0 rfl (by first | exact .inl rfl | exact .inr (.inl rfl) | exact .inr (.inr rfl)) rfl rfl) (ty_tuple (T.z_tuple) rfl) rfl (T.z_isinstance) rfl rfl) (fun _ => rfl))) (w_or1 (t_cmp (op := .ne) C (k_len C (a_cons (k_var 0 rfl (by first | exact .inl rfl | exact .inr (.inl rfl) | exact .inr (.inr rfl)) rfl rfl) a_nil rfl) rfl rfl (T.z_len) rfl) (k_int C) rfl)))) (ss_cons (s_ret (k_bl C))
  ss_nil) ss_nil)
  (ss_cons (s_ite (PW.pt (w_or (t_not (t_val C (c_call c_is_between C rfl rfl hr rfl (aw_cons (p_ix C (k_var 0 rfl (by first | exact .inl rfl | exact .inr (.inl rfl) | exact .inr (.inr rfl)) rfl rfl) (k_int C) (fun _ _ => rfl)) (aw_cons (k_int C) (aw_cons (k_gint C T.g_MOST_COUNT rfl rfl) aw_nil rfl) rfl) rfl) rfl rfl rfl) (fun _ => rfl))) (w_or1 (t_not (t_val C (c_call c_is_between C rfl rfl hr rfl (aw_cons (p_ix C (k_var 0 rfl (by first | exact .inl rfl | exact .inr (.inl rfl) | exact .inr (.inr rfl)) rfl rfl) (k_int C) (fun _ _ => rfl)) (aw_cons (k_int C) (aw_cons (k_gint C T.g_MOST_WAIT rfl rfl) aw_nil rfl) rfl) rfl) rfl rfl rfl) (fun _ => rfl)))))) (ss_cons (s_ret (k_bl C))
  ss_nil) ss_nil)
  (ss_cons (s_ret (c_call c_is_between C rfl rfl hr rfl (aw_cons (p_ix C (k_var 0 rfl (by first | exact .inl rfl | exact .inr (.inl rfl) | exact .inr (.inr rfl)) rfl rfl) (k_int C) (fun _ _ => rfl)) (aw_cons (k_int C) (aw_cons (k_gint C T.g_MOST_COUNT rfl rfl) aw_nil rfl) rfl) rfl) rfl rfl rfl))
  ss_nil)))
abbrev s_check_breakers : Stmt := topS 14
theorem sc_check_breakers : FnScope ["breakers", "at", "breaker"] ["breakers"] (defScope s_check_breakers) := ⟨rfl, rfl, rfl, by decide +kernel, rfl, by decide +kernel, by decide +kernel⟩
theorem ok_check_breakers {k : Nat} {f : Addr} {fd : FuncData} (T : Txt g mg) (F : Fun g.K "check_breakers" "check_breakers" s_check_breakers f fd) (c_is_breaker : Cal P w mg base g k "is_breaker" 1 F_is_breaker) : FnOk P w g.K mg base CX0 (k + 1) f fd ["breakers"] (spF g 1 F_check_breakers) := by
  refine def_fn (fs := [F_is_breaker]) F sc_check_breakers rfl rfl T.tt fun cdv A outer s H E hr C => ?_
  exact (ss_cons (s_ite (PW.pt (w_or (t_not (t_val C (p_isi (t := .list) C (k_var 0 rfl (by first | exact .inl rfl | exact .inr (.inl rfl) | exact .inr (.inr rfl)) rfl rfl) (ty_list (T.z_list) rfl) rfl (T.z_isinstance) rfl rfl) (fun _ => rfl))) (w_or1 (t_cmp (op := .gt) C (k_len C (a_cons (k_var 0 rfl (by first | exact .inl rfl | exact .inr (.inl rfl) | exact .inr (.inr rfl)) rfl rfl) a_nil rfl) rfl rfl (T.z_len) rfl) (k_gint C T.g_MOST_BREAKERS rfl rfl) rfl)))) (ss_cons s_stuck
  ss_nil) ss_nil)
  (ss_cons (s_for C PassesOwn.never (i_enum C rfl (T.z_enumerate) (a_cons (k_var 0 rfl (by first | exact .inl rfl | exact .inr (.inl rfl) | exact .inr (.inr rfl)) rfl rfl) a_nil rfl) rfl) (tgp C (tgs_cons (tg_nm (pg_name (i := 1) C.nd rfl (by first | exact .inl rfl | exact .inr rfl) (by first | exact .inr rfl | exact .inl rfl))) (tgs_cons (tg_nm (pg_name (i := 2) C.nd rfl (by first | exact .inl rfl | exact .inr rfl) (by first | exact .inr rfl | exact .inl rfl))) tgs_nil rfl) rfl) rfl rfl) (ss_cons (s_ite (t_not (t_val C (c_call c_is_breaker C rfl rfl hr rfl (aw_cons (k_var 2 rfl (by first | exact .inl rfl | exact .inr (.inl rfl) | exact .inr (.inr rfl)) rfl rfl) aw_nil rfl) rfl rfl rfl) (fun _ => rfl))) (ss_cons s_stuck
  ss_nil) ss_nil)
  ss_nil) (fun _ => rfl))
  ss_nil))
abbrev s_Row___init__ : Stmt := inClass (topS 15) 0
theorem sc_Row___init__ : FnScope ["self", "breakers", "step", "phase"] ["self", "breakers", "step", "phase"] (defScope s_Row___init__) := ⟨rfl, rfl, rfl, by decide +kernel, rfl, by decide +kernel, by decide +kernel⟩
theorem ok_Row___init__ {k : Nat} {f : Addr} {fd : FuncData} (T : Txt g mg) (F : FunD g.K "__init__" "Row.__init__" (defArgs s_Row___init__) (defBody s_Row___init__) (defScope s_Row___init__) [] [("phase", V.int 0)] f fd) (c_check_breakers : Cal P w mg base g k "check_breakers" 1 F_check_breakers) (c_is_between : Cal P w mg base g k "is_between" 3 F_is_between) : FnOk P w g.K mg base CX0 (k + 1) f fd ["self", "breakers", "step", "phase"] (spF g 4 F_Row___init__) := by
  refine def_fnD (Wx := fun _ _ _ => False) (fs := [F_check_breakers, F_is_between]) F sc_Row___init__ rfl rfl T.tt fun cdv A outer s H E hr C => ?_
  exact (ss_cons (s_expr (c_call c_check_breakers C rfl rfl hr rfl (aw_cons (k_var 1 rfl (by first | exact .inl rfl | exact .inr (.inl rfl) | exact .inr (.inr rfl)) rfl rfl) aw_nil rfl) rfl rfl rfl) rfl)
  (ss_cons (s_ite (t_not (t_val C (c_call c_is_between C rfl rfl hr rfl (aw_cons (k_var 2 rfl (by first | exact .inl rfl | exact .inr (.inl rfl) | exact .inr (.inr rfl)) rfl rfl) (aw_cons (k_int C) (aw_cons (k_gint C T.g_MOST_WAIT rfl rfl) aw_nil rfl) rfl) rfl) rfl rfl rfl) (fun _ => rfl))) (ss_cons s_stuck
  ss_nil) ss_nil)
  (ss_cons (s_ite (t_not (t_val C (c_call c_is_between C rfl rfl hr rfl (aw_cons (k_var 3 rfl (by first | exact .inl rfl | exact .inr (.inl rfl) | exact .inr (.inr rfl)) rfl rfl) (aw_cons (k_int C) (aw_cons (k_gint C T.g_MOST_WAIT rfl rfl) aw_nil rfl) rfl) rfl) rfl rfl rfl) (fun _ => rfl))) (ss_cons s_stuck
  ss_nil) ss_nil)
  (ss_cons (s_setf (c := 1) (i := 0) C (pe_var (i := 0) rfl (by first | exact .inl rfl | exact .inr (.inl rfl) | exact .inr (.inr rfl)) rfl rfl) (k_list C (a_cons (k_var 1 rfl (by first | exact .inl rfl | exact .inr (.inl rfl) | exact .inr (.inr rfl)) rfl rfl) a_nil rfl) rfl rfl (T.z_list) rfl) ⟨T.x_Row.cl, T.na_Row_specs⟩ rfl)
  (ss_cons (s_setf (c := 1) (i := 0) C (pe_var (i := 0) rfl (by first | exact .inl rfl | exact .inr (.inl rfl) | exact .inr (.inr rfl)) rfl rfl) (k_var 2 rfl (by first | exact .inl rfl | exact .inr (.inl rfl) | exact .inr (.inr rfl)) rfl rfl) ⟨T.x_Row.cl, T.na_Row_pace⟩ rfl)
  (ss_cons (s_setf (c := 1) (i := 0) C (pe_var (i := 0) rfl (by first | exact .inl rfl | exact .inr (.inl rfl) | exact .inr (.inr rfl)) rfl rfl) (k_var 3 rfl (by first | exact .inl rfl | exact .inr (.inl rfl) | exact .inr (.inr rfl)) rfl rfl) ⟨T.x_Row.cl, T.na_Row_shift⟩ rfl)
  ss_nil))))))
abbrev s_Row_step_length : Stmt := inClass (topS 15) 9
theorem sc_Row_step_length : FnScope ["self"] ["self"] (defScope s_Row_step_length) := ⟨rfl, rfl, rfl, by decide +kernel, rfl, by decide +kernel, by decide +kernel⟩
theorem ok_Row_step_length {k : Nat} {f : Addr} {fd : FuncData} (T : Txt g mg) (F : Fun g.K "step_length" "Row.step_length" s_Row_step_length f fd)  : FnOk P w g.K mg base CX0 (k + 1) f fd ["self"] (spF g 1 F_Row_step_length) := by
  refine def_fn (fs := []) F sc_Row_step_length rfl rfl T.tt fun cdv A outer s H E hr C => ?_
  exact (ss_cons (s_ret (p_fld C (k_var 0 rfl (by first | exact .inl rfl | exact .inr (.inl rfl) | exact .inr (.inr rfl)) rfl rfl) (all_cons ⟨T.x_Row.cl, T.na_Row_pace⟩ (all_nil _)) rfl))
  ss_nil)
abbrev s_Row_phase_time : Stmt := inClass (topS 15) 10
theorem sc_Row_phase_time : FnScope ["self"] ["self"] (defScope s_Row_phase_time) := ⟨rfl, rfl, rfl, by decide +kernel, rfl, by decide +kernel, by decide +kernel⟩
theorem ok_Row_phase_time {k : Nat} {f : Addr} {fd : FuncData} (T : Txt g mg) (F : Fun g.K "phase_time" "Row.phase_time" s_Row_phase_time f fd)  : FnOk P w g.K mg base CX0 (k + 1) f fd ["self"] (spF g 1 F_Row_phase_time) := by
  refine def_fn (fs := []) F sc_Row_phase_time rfl rfl T.tt fun cdv A outer s H E hr C => ?_
  exact (ss_cons (s_ret (p_fld C (k_var 0 rfl (by first | exact .inl rfl | exact .inr (.inl rfl) | exact .inr (.inr rfl)) rfl rfl) (all_cons ⟨T.x_Row.cl, T.na_Row_shift⟩ (all_nil _)) rfl))
  ss_nil)
abbrev s_Row_breaker_list : Stmt := inClass (topS 15) 8
theorem sc_Row_breaker_list : FnScope ["self"] ["self"] (defScope s_Row_breaker_list) := ⟨rfl, rfl, rfl, by decide +kernel, rfl, by decide +kernel, by decide +kernel⟩
theorem ok_Row_breaker_list {k : Nat} {f : Addr} {fd : FuncData} (T : Txt g mg) (F : Fun g.K "breaker_list" "Row.breaker_list" s_Row_breaker_list f fd)  : FnOk P w g.K mg base CX0 (k + 1) f fd ["self"] (spF g 1 F_Row_breaker_list) := by
  refine def_fn (fs := []) F sc_Row_breaker_list rfl rfl T.tt fun cdv A outer s H E hr C => ?_
  exact (ss_cons (s_ret (k_list C (a_cons (p_fld C (k_var 0 rfl (by first | exact .inl rfl | exact .inr (.inl rfl) | exact .inr (.inr rfl)) rfl rfl) (all_cons ⟨T.x_Row.cl, T.na_Row_specs⟩ (all_nil _)) rfl) a_nil rfl) rfl rfl (T.z_list) rfl))
  ss_nil)
abbrev s_format_row : Stmt := topS 22
theorem sc_format_row : FnScope ["row", "lines", "failures", "wait", "successes"] ["row"] (defScope s_format_row) := ⟨rfl, rfl, rfl, by decide +kernel, rfl, by decide +kernel, by decide +kernel⟩
theorem ok_format_row {k : Nat} {f : Addr} {fd : FuncData} (T : Txt g mg) (F : Fun g.K "format_row" "format_row" s_format_row f fd) (m_Row_step_length : Mtd P w mg base g k 1 "step_length" 1 F_Row_step_length) (m_Row_phase_time : Mtd P w mg base g k 1 "phase_time" 1 F_Row_phase_time) (m_Row_breaker_list : Mtd P w mg base g k 1 "breaker_list" 1 F_Row_breaker_list) : FnOk P w g.K mg base CX0 (k + 1) f fd ["row"] (spF g 1 F_format_row) := by
  refine def_fn (fs := [F_Row_step_length, F_Row_phase_time, F_Row_breaker_list]) F sc_format_row rfl rfl T.tt fun cdv A outer s H E hr C => ?_
  exact (ss_cons (s_asgO (i := 1) C rfl (by first | exact .inl rfl | exact .inr rfl) (p_lst C (a_cons (k_fstr (.cons (k_str C) (.cons (k_fmt (p_meth0 m_Row_step_length C rfl hr (k_var 0 rfl (by first | exact .inl rfl | exact .inr (.inl rfl) | exact .inr (.inr rfl)) rfl rfl) rfl)) (.cons (k_str C) (.cons (k_fmt (p_meth0 m_Row_phase_time C rfl hr (k_var 0 rfl (by first | exact .inl rfl | exact .inr (.inl rfl) | exact .inr (.inr rfl)) rfl rfl) rfl)) .nil))))) a_nil rfl)) rfl (by first | exact .inr rfl | exact .inl rfl))
  (ss_cons (s_for C PassesOwn.never (i_seq C (p_meth0 m_Row_breaker_list C rfl hr (k_var 0 rfl (by first | exact .inl rfl | exact .inr (.inl rfl) | exact .inr (.inr rfl)) rfl rfl) rfl)) (tgp C (tgs_cons (tg_nm (pg_name (i := 2) C.nd rfl (by first | exact .inl rfl | exact .inr rfl) (by first | exact .inr rfl | exact .inl rfl))) (tgs_cons (tg_nm (pg_name (i := 3) C.nd rfl (by first | exact .inl rfl | exact .inr rfl) (by first | exact .inr rfl | exact .inl rfl))) (tgs_cons (tg_nm (pg_name (i := 4) C.nd rfl (by first | exact .inl rfl | exact .inr rfl) (by first | exact .inr rfl | exact .inl rfl))) tgs_nil rfl) rfl) rfl) rfl rfl) (ss_cons (s_app C (pe_var (i := 1) rfl (by first | exact .inl rfl | exact .inr (.inl rfl) | exact .inr (.inr rfl)) rfl rfl) (k_fstr (.cons (k_str C) (.cons (k_fmt (k_var 2 rfl (by first | exact .inl rfl | exact .inr (.inl rfl) | exact .inr (.inr rfl)) rfl rfl)) (.cons (k_str C) (.cons (k_fmt (k_var 3 rfl (by first | exact .inl rfl | exact .inr (.inl rfl) | exact .inr (.inr rfl)) rfl rfl)) (.cons (k_str C) (.cons (k_fmt (k_var 4 rfl (by first | exact .inl rfl | exact .inr (.inl rfl) | exact .inr (.inr rfl)) rfl rfl)) .nil))))))) rfl rfl rfl rfl)
  ss_nil) (fun _ => rfl))
  (ss_cons (s_ret (p_joinS C (k_var 1 rfl (by first | exact .inl rfl | exact .inr (.inl rfl) | exact .inr (.inr rfl)) rfl rfl) rfl rfl rfl))
  ss_nil)))
abbrev s_is_number : Stmt := topS 24
theorem sc_is_number : FnScope ["word", "sign"] ["word"] (defScope s_is_number) := ⟨rfl, rfl, rfl, by decide +kernel, rfl, by decide +kernel, by decide +kernel⟩
theorem ok_is_number {k : Nat} {f : Addr} {fd : FuncData} (T : Txt g mg) (F : Fun g.K "is_number" "is_number" s_is_number f fd)  : FnOk P w g.K mg base CX0 (k + 1) f fd ["word"] (spF g 1 F_is_number) := by
  refine def_fn (fs := []) F sc_is_number rfl rfl T.tt fun cdv A outer s H E hr C => ?_
  exact (ss_cons (s_ite (PW.pt (w_or (t_cmp (op := .eq) C (k_var 0 rfl (by first | exact .inl rfl | exact .inr (.inl rfl) | exact .inr (.inr rfl)) rfl rfl) (k_str C) rfl) (w_or1 (t_not (t_val C (k_all C (a_cons (p_comp C (i_txt (k_var 0 rfl (by first | exact .inl rfl | exact .inr (.inl rfl) | exact .inr (.inr rfl)) rfl rfl)) (blkOk_by (own := [("sign", 1)]) rfl) (fun _ _ _ _ _ => (tg_nm (pg_name (i := 1) (C.blk _ _ _ _ _).nd rfl (by first | exact .inl rfl | exact .inr rfl) (by first | exact .inr rfl | exact .inl rfl)))) (fun _ _ _ _ _ => c_nil) (fun _ _ _ _ _ => (p_inS (k_var 1 rfl (by first | exact .inl rfl | exact .inr (.inl rfl) | exact .inr (.inr rfl)) rfl rfl) (by with_unfolding_all rfl))) (fun _ => rfl)) a_nil rfl) rfl rfl (T.z_all) rfl) (fun _ => rfl)))))) (ss_cons (s_ret (k_bl C))
  ss_nil) ss_nil)
  (ss_cons (s_ret (p_or C (p_cmp (op := .eq) C (k_var 0 rfl (by first | exact .inl rfl | exact .inr (.inl rfl) | exact .inr (.inr rfl)) rfl rfl) (k_str C) rfl) (p_one (p_cmp (op := .ne) C (p_ix C (k_var 0 rfl (by first | exact .inl rfl | exact .inr (.inl rfl) | exact .inr (.inr rfl)) rfl rfl) (k_int C) (fun _ _ => rfl)) (k_str C) rfl))))
  ss_nil))
abbrev s_value_of : Stmt := topS 25
theorem sc_value_of : FnScope ["word", "value", "sign"] ["word"] (defScope s_value_of) := ⟨rfl, rfl, rfl, by decide +kernel, rfl, by decide +kernel, by decide +kernel⟩
theorem ok_value_of {k : Nat} {f : Addr} {fd : FuncData} (T : Txt g mg) (F : Fun g.K "value_of" "value_of" s_value_of f fd)  : FnOk P w g.K mg base CX0 (k + 1) f fd ["word"] (spF g 1 F_value_of) := by
  refine def_fn (fs := []) F sc_value_of rfl rfl T.tt fun cdv A outer s H E hr C => ?_
  exact (ss_cons (s_asgO (i := 1) C rfl (by first | exact .inl rfl | exact .inr rfl) (k_int C) rfl (by first | exact .inr rfl | exact .inl rfl))
  (ss_cons (s_for C PassesOwn.never (i_txt (k_var 0 rfl (by first | exact .inl rfl | exact .inr (.inl rfl) | exact .inr (.inr rfl)) rfl rfl)) (tg_nm (pg_name (i := 2) C.nd rfl (by first | exact .inl rfl | exact .inr rfl) (by first | exact .inr rfl | exact .inl rfl))) (ss_cons (s_asgO (i := 1) C rfl (by first | exact .inl rfl | exact .inr rfl) (p_bin (op := .add) C (p_bin (op := .mul) C (k_var 1 rfl (by first | exact .inl rfl | exact .inr (.inl rfl) | exact .inr (.inr rfl)) rfl rfl) (k_int C)) (p_sixS (k_var 2 rfl (by first | exact .inl rfl | exact .inr (.inl rfl) | exact .inr (.inr rfl)) rfl rfl) rfl rfl rfl)) rfl (by first | exact .inr rfl | exact .inl rfl))
  ss_nil) (fun _ => rfl))
  (ss_cons (s_ret (k_var 1 rfl (by first | exact .inl rfl | exact .inr (.inl rfl) | exact .inr (.inr rfl)) rfl rfl))
  ss_nil)))
abbrev s_numbers_of : Stmt := topS 26
theorem sc_numbers_of : FnScope ["line", "at", "name", "many", "words", "place", "word"] ["line", "at", "name", "many"] (defScope s_numbers_of) := ⟨rfl, rfl, rfl, by decide +kernel, rfl, by decide +kernel, by decide +kernel⟩
theorem ok_numbers_of {k : Nat} {f : Addr} {fd : FuncData} (T : Txt g mg) (F : Fun g.K "numbers_of" "numbers_of" s_numbers_of f fd) (c_is_number : Cal P w mg base g k "is_number" 1 F_is_number) (c_value_of : Cal P w mg base g k "value_of" 1 F_value_of) : FnOk P w g.K mg base CX0 (k + 1) f fd ["line", "at", "name", "many"] (spF g 4 F_numbers_of) := by
  refine def_fn (fs := [F_is_number, F_value_of]) F sc_numbers_of rfl rfl T.tt fun cdv A outer s H E hr C => ?_
  exact (ss_cons (s_asgO (i := 4) C rfl (by first | exact .inl rfl | exact .inr rfl) (p_splS C (k_var 0 rfl (by first | exact .inl rfl | exact .inr (.inl rfl) | exact .inr (.inr rfl)) rfl rfl) rfl rfl rfl) rfl (by first | exact .inr rfl | exact .inl rfl))
  (ss_cons (s_ite (t_cmp (op := .ne) C (p_ix C (k_var 4 rfl (by first | exact .inl rfl | exact .inr (.inl rfl) | exact .inr (.inr rfl)) rfl rfl) (k_int C) (fun _ _ => rfl)) (k_var 2 rfl (by first | exact .inl rfl | exact .inr (.inl rfl) | exact .inr (.inr rfl)) rfl rfl) rfl) (ss_cons s_stuck
  ss_nil) ss_nil)
  (ss_cons (s_for C PassesOwn.never (i_rng2 C rfl (T.z_range) (a_cons (k_int C) (a_cons (p_bin (op := .add) C (k_var 3 rfl (by first | exact .inl rfl | exact .inr (.inl rfl) | exact .inr (.inr rfl)) rfl rfl) (k_int C)) a_nil rfl) rfl) rfl rfl) (tg_nm (pg_name (i := 5) C.nd rfl (by first | exact .inl rfl | exact .inr rfl) (by first | exact .inr rfl | exact .inl rfl))) (ss_cons (s_ite (PW.pt (w_or (t_cmp (op := .eq) C (k_var 5 rfl (by first | exact .inl rfl | exact .inr (.inl rfl) | exact .inr (.inr rfl)) rfl rfl) (k_len C (a_cons (k_var 4 rfl (by first | exact .inl rfl | exact .inr (.inl rfl) | exact .inr (.inr rfl)) rfl rfl) a_nil rfl) rfl rfl (T.z_len) rfl) rfl) (w_or1 (t_not (t_val C (c_call c_is_number C rfl rfl hr rfl (aw_cons (p_ix C (k_var 4 rfl (by first | exact .inl rfl | exact .inr (.inl rfl) | exact .inr (.inr rfl)) rfl rfl) (k_var 5 rfl (by first | exact .inl rfl | exact .inr (.inl rfl) | exact .inr (.inr rfl)) rfl rfl) (fun _ _ => rfl)) aw_nil rfl) rfl rfl rfl) (fun _ => rfl)))))) (ss_cons s_stuck
  ss_nil) ss_nil)
  ss_nil) (fun _ => rfl))
  (ss_cons (s_ite (t_cmp (op := .gt) C (k_len C (a_cons (k_var 4 rfl (by first | exact .inl rfl | exact .inr (.inl rfl) | exact .inr (.inr rfl)) rfl rfl) a_nil rfl) rfl rfl (T.z_len) rfl) (p_bin (op := .add) C (k_var 3 rfl (by first | exact .inl rfl | exact .inr (.inl rfl) | exact .inr (.inr rfl)) rfl rfl) (k_int C)) rfl) (ss_cons s_stuck
  ss_nil) ss_nil)
  (ss_cons (s_ret (k_tuple C (a_cons (p_comp C (i_seq C (p_slc C (k_var 4 rfl (by first | exact .inl rfl | exact .inr (.inl rfl) | exact .inr (.inr rfl)) rfl rfl) (part1 (k_int C)) part0)) (blkOk_by (own := [("word", 6)]) rfl) (fun _ _ _ _ _ => (tg_nm (pg_name (i := 6) (C.blk _ _ _ _ _).nd rfl (by first | exact .inl rfl | exact .inr rfl) (by first | exact .inr rfl | exact .inl rfl)))) (fun _ _ _ _ _ => c_nil) (fun _ _ _ _ _ => (c_call c_value_of (by first | exact ((C.blk _ _ _ _ _)).c0 | exact (C.blk _ _ _ _ _)) rfl rfl hr rfl (aw_cons (k_var 6 rfl (by first | exact .inl rfl | exact .inr (.inl rfl) | exact .inr (.inr rfl)) rfl rfl) aw_nil rfl) rfl rfl rfl)) (fun _ => rfl)) a_nil rfl) rfl rfl (T.z_tuple) rfl))
  ss_nil)))))
abbrev s_parse_row : Stmt := topS 27
theorem sc_parse_row : FnScope ["text", "lines", "breakers", "step", "phase", "at", "line"] ["text"] (defScope s_parse_row) := ⟨rfl, rfl, rfl, by decide +kernel, rfl, by decide +kernel, by decide +kernel⟩
theorem ok_parse_row {k : Nat} {f : Addr} {fd : FuncData} (T : Txt g mg) (F : Fun g.K "parse_row" "parse_row" s_parse_row f fd) (c_numbers_of : Cal P w mg base g k "numbers_of" 4 F_numbers_of) (ik_Row_2_phase : MkdK P w mg base g k 1 "Row" 2 ["phase"] [0, 1, 2] [] F_Row___init__) : FnOk P w g.K mg base CX0 (k + 2) f fd ["text"] (spF g 1 F_parse_row) := by
  refine def_fn (fs := [F_numbers_of, F_Row___init__]) F sc_parse_row rfl rfl T.tt fun cdv A outer s H E hr1 C => ?_
  have hr := hr1.mono (Nat.le_succ k)
  exact (ss_cons (s_ite (t_not (t_val C (p_isi (t := .str) C (k_var 0 rfl (by first | exact .inl rfl | exact .inr (.inl rfl) | exact .inr (.inr rfl)) rfl rfl) (ty_str (T.z_str) rfl) rfl (T.z_isinstance) rfl rfl) (fun _ => rfl))) (ss_cons s_stuck
  ss_nil) ss_nil)
  (ss_cons (s_asgO (i := 1) C rfl (by first | exact .inl rfl | exact .inr rfl) (p_splS C (k_var 0 rfl (by first | exact .inl rfl | exact .inr (.inl rfl) | exact .inr (.inr rfl)) rfl rfl) rfl rfl rfl) rfl (by first | exact .inr rfl | exact .inl rfl))
  (ss_cons (s_asg (c_call c_numbers_of C rfl rfl hr rfl (aw_cons (p_ix C (k_var 1 rfl (by first | exact .inl rfl | exact .inr (.inl rfl) | exact .inr (.inr rfl)) rfl rfl) (k_int C) (fun _ _ => rfl)) (aw_cons (k_int C) (aw_cons (k_str C) (aw_cons (k_int C) aw_nil rfl) rfl) rfl) rfl) rfl rfl rfl) (tgp C (tgs_cons (tg_nm (pg_name (i := 3) C.nd rfl (by first | exact .inl rfl | exact .inr rfl) (by first | exact .inr rfl | exact .inl rfl))) (tgs_cons (tg_nm (pg_name (i := 4) C.nd rfl (by first | exact .inl rfl | exact .inr rfl) (by first | exact .inr rfl | exact .inl rfl))) tgs_nil rfl) rfl) rfl rfl) rfl rfl rfl)
  (ss_cons (s_asgO (i := 2) C rfl (by first | exact .inl rfl | exact .inr rfl) (p_lst C a_nil) rfl (by first | exact .inr rfl | exact .inl rfl))
  (ss_cons (s_for C PassesOwn.never (i_enum C rfl (T.z_enumerate) (a_cons (p_slc C (k_var 1 rfl (by first | exact .inl rfl | exact .inr (.inl rfl) | exact .inr (.inr rfl)) rfl rfl) (part1 (k_int C)) part0) a_nil rfl) rfl) (tgp C (tgs_cons (tg_nm (pg_name (i := 5) C.nd rfl (by first | exact .inl rfl | exact .inr rfl) (by first | exact .inr rfl | exact .inl rfl))) (tgs_cons (tg_nm (pg_name (i := 6) C.nd rfl (by first | exact .inl rfl | exact .inr rfl) (by first | exact .inr rfl | exact .inl rfl))) tgs_nil rfl) rfl) rfl rfl) (ss_cons (s_app C (pe_var (i := 2) rfl (by first | exact .inl rfl | exact .inr (.inl rfl) | exact .inr (.inr rfl)) rfl rfl) (c_call c_numbers_of C rfl rfl hr rfl (aw_cons (k_var 6 rfl (by first | exact .inl rfl | exact .inr (.inl rfl) | exact .inr (.inr rfl)) rfl rfl) (aw_cons (p_bin (op := .add) C (k_var 5 rfl (by first | exact .inl rfl | exact .inr (.inl rfl) | exact .inr (.inr rfl)) rfl rfl) (k_int C)) (aw_cons (k_str C) (aw_cons (k_int C) aw_nil rfl) rfl) rfl) rfl) rfl rfl rfl) rfl rfl rfl rfl)
  ss_nil) (fun _ => rfl))
  (ss_cons (s_ret (p_mkK ik_Row_2_phase C rfl rfl rfl hr1 rfl (pf_cons (k_var 2 rfl (by first | exact .inl rfl | exact .inr (.inl rfl) | exact .inr (.inr rfl)) rfl rfl) (pf_cons (k_var 3 rfl (by first | exact .inl rfl | exact .inr (.inl rfl) | exact .inr (.inr rfl)) rfl rfl) pf_nil rfl) rfl) (kf_cons (k_var 4 rfl (by first | exact .inl rfl | exact .inr (.inl rfl) | exact .inr (.inr rfl)) rfl rfl) kf_nil) rfl rfl rfl rfl rfl))
  ss_nil))))))
abbrev s_Row_facts : Stmt := inClass (topS 15) 7
theorem sc_Row_facts : FnScope ["self"] ["self"] (defScope s_Row_facts) := ⟨rfl, rfl, rfl, by decide +kernel, rfl, by decide +kernel, by decide +kernel⟩
theorem ok_Row_facts {k : Nat} {f : Addr} {fd : FuncData} (T : Txt g mg) (F : Fun g.K "facts" "Row.facts" s_Row_facts f fd)  : FnOk P w g.K mg base CX0 (k + 1) f fd ["self"] (spF g 1 F_Row_facts) := by
  refine def_fn (fs := []) F sc_Row_facts rfl rfl T.tt fun cdv A outer s H E hr C => ?_
  exact (ss_cons (s_ret (p_tup C (a_cons (p_fld C (k_var 0 rfl (by first | exact .inl rfl | exact .inr (.inl rfl) | exact .inr (.inr rfl)) rfl rfl) (all_cons ⟨T.x_Row.cl, T.na_Row_specs⟩ (all_nil _)) rfl) (a_cons (p_fld C (k_var 0 rfl (by first | exact .inl rfl | exact .inr (.inl rfl) | exact .inr (.inr rfl)) rfl rfl) (all_cons ⟨T.x_Row.cl, T.na_Row_pace⟩ (all_nil _)) rfl) (a_cons (p_fld C (k_var 0 rfl (by first | exact .inl rfl | exact .inr (.inl rfl) | exact .inr (.inr rfl)) rfl rfl) (all_cons ⟨T.x_Row.cl, T.na_Row_shift⟩ (all_nil _)) rfl) a_nil rfl) rfl) rfl)))
  ss_nil)
abbrev s_Row___eq__ : Stmt := inClass (topS 15) 1
theorem sc_Row___eq__ : FnScope ["self", "other"] ["self", "other"] (defScope s_Row___eq__) := ⟨rfl, rfl, rfl, by decide +kernel, rfl, by decide +kernel, by decide +kernel⟩
theorem ok_Row___eq__ {k : Nat} {f : Addr} {fd : FuncData} (T : Txt g mg) (F : Fun g.K "__eq__" "Row.__eq__" s_Row___eq__ f fd) (m_Row_facts : Mtd P w mg base g k 1 "facts" 1 F_Row_facts) : FnOk P w g.K mg base CX0 (k + 1) f fd ["self", "other"] (spF g 2 F_Row___eq__) := by
  refine def_fn (fs := [F_Row_facts]) F sc_Row___eq__ rfl rfl T.tt fun cdv A outer s H E hr C => ?_
  exact (ss_cons (s_ret (p_and C (p_isc (all_cons ⟨T.x_Row, T.kit_Row_Row⟩ (all_nil _)) T.kp_Row C (k_var 1 rfl (by first | exact .inl rfl | exact .inr (.inl rfl) | exact .inr (.inr rfl)) rfl rfl) rfl T.n_Row rfl rfl (T.z_isinstance) rfl rfl) (p_one (p_cmp (op := .eq) C (p_meth0 m_Row_facts C rfl hr (k_var 0 rfl (by first | exact .inl rfl | exact .inr (.inl rfl) | exact .inr (.inr rfl)) rfl rfl) rfl) (p_meth0 m_Row_facts C rfl hr (k_var 1 rfl (by first | exact .inl rfl | exact .inr (.inl rfl) | exact .inr (.inr rfl)) rfl rfl) rfl) rfl))))
  ss_nil)
abbrev s_is_outage : Stmt := topS 19
theorem sc_is_outage : FnScope ["value", "low", "part"] ["value", "low"] (defScope s_is_outage) := ⟨rfl, rfl, rfl, by decide +kernel, rfl, by decide +kernel, by decide +kernel⟩
theorem ok_is_outage {k : Nat} {f : Addr} {fd : FuncData} (T : Txt g mg) (F : Fun g.K "is_outage" "is_outage" s_is_outage f fd) (c_is_integer : Cal P w mg base g k "is_integer" 1 F_is_integer) : FnOk P w g.K mg base CX0 (k + 1) f fd ["value", "low"] (spF g 2 F_is_outage) := by
  refine def_fn (fs := [F_is_integer]) F sc_is_outage rfl rfl T.tt fun cdv A outer s H E hr C => ?_
  exact (ss_cons (s_ite (PW.pt (w_or (t_not (t_val C (p_isi (t := .tuple) C (k_var 0 rfl (by first | exact .inl rfl | exact .inr (.inl rfl) | exact .inr (.inr rfl)) rfl rfl) (ty_tuple (T.z_tuple) rfl) rfl (T.z_isinstance) rfl rfl) (fun _ => rfl))) (w_or (t_cmp (op := .ne) C (k_len C (a_cons (k_var 0 rfl (by first | exact .inl rfl | exact .inr (.inl rfl) | exact .inr (.inr rfl)) rfl rfl) a_nil rfl) rfl rfl (T.z_len) rfl) (k_int C) rfl) (w_or1 (t_not (t_val C (k_all C (a_cons (p_comp C (i_seq C (k_var 0 rfl (by first | exact .inl rfl | exact .inr (.inl rfl) | exact .inr (.inr rfl)) rfl rfl)) (blkOk_by (own := [("part", 2)]) rfl) (fun _ _ _ _ _ => (tg_nm (pg_name (i := 2) (C.blk _ _ _ _ _).nd rfl (by first | exact .inl rfl | exact .inr rfl) (by first | exact .inr rfl | exact .inl rfl)))) (fun _ _ _ _ _ => c_nil) (fun _ _ _ _ _ => (c_call c_is_integer (by first | exact ((C.blk _ _ _ _ _)).c0 | exact (C.blk _ _ _ _ _)) rfl rfl hr rfl (aw_cons (k_var 2 rfl (by first | exact .inl rfl | exact .inr (.inl rfl) | exact .inr (.inr rfl)) rfl rfl) aw_nil rfl) rfl rfl rfl)) (fun _ => rfl)) a_nil rfl) rfl rfl (T.z_all) rfl) (fun _ => rfl))))))) (ss_cons (s_ret (k_bl C))
  ss_nil) ss_nil)
  (ss_cons (s_ret (p_chain3 (o1 := .le) (o2 := .lt) (o3 := .le) C (k_var 1 rfl (by first | exact .inl rfl | exact .inr (.inl rfl) | exact .inr (.inr rfl)) rfl rfl) (p_ix C (k_var 0 rfl (by first | exact .inl rfl | exact .inr (.inl rfl) | exact .inr (.inr rfl)) rfl rfl) (k_int C) (fun _ _ => rfl)) (p_ix C (k_var 0 rfl (by first | exact .inl rfl | exact .inr (.inl rfl) | exact .inr (.inr rfl)) rfl rfl) (k_int C) (fun _ _ => rfl)) (k_gint C T.g_MOST_END rfl rfl) rfl))
  ss_nil))
abbrev s_check_outages_r : Stmt := topS 20
theorem sc_check_outages_r : FnScope ["outages", "low", "at", "outage"] ["outages"] (defScope s_check_outages_r) := ⟨rfl, rfl, rfl, by decide +kernel, rfl, by decide +kernel, by decide +kernel⟩
theorem ok_check_outages_r {k : Nat} {f : Addr} {fd : FuncData} (T : Txt g mg) (F : Fun g.K "check_outages" "check_outages" s_check_outages_r f fd) (c_is_outage : Cal P w mg base g k "is_outage" 2 F_is_outage) : FnOk P w g.K mg base CX0 (k + 1) f fd ["outages"] (spF g 1 F_check_outages_r) := by
  refine fnok_reown 0 ?_
  refine def_fn (fs := [F_is_outage]) F sc_check_outages_r rfl rfl T.tt fun cdv A outer s H E hr C => ?_
  exact (ss_cons (s_ite (PW.pt (w_or (t_not (t_val C (p_isi (t := .list) C (k_var 0 rfl (by first | exact .inl rfl | exact .inr (.inl rfl) | exact .inr (.inr rfl)) rfl rfl) (ty_list (T.z_list) rfl) rfl (T.z_isinstance) rfl rfl) (fun _ => rfl))) (w_or1 (t_cmp (op := .gt) C (k_len C (a_cons (k_var 0 rfl (by first | exact .inl rfl | exact .inr (.inl rfl) | exact .inr (.inr rfl)) rfl rfl) a_nil rfl) rfl rfl (T.z_len) rfl) (k_gint C T.g_MOST_OUTAGES rfl rfl) rfl)))) (ss_cons s_stuck
  ss_nil) ss_nil)
  (ss_cons (s_asgO (i := 1) C rfl (by first | exact .inl rfl | exact .inr rfl) (k_int C) rfl (by first | exact .inr rfl | exact .inl rfl))
  (ss_cons (s_for C PassesOwn.never (i_enum C rfl (T.z_enumerate) (a_cons (k_var 0 rfl (by first | exact .inl rfl | exact .inr (.inl rfl) | exact .inr (.inr rfl)) rfl rfl) a_nil rfl) rfl) (tgp C (tgs_cons (tg_nm (pg_name (i := 2) C.nd rfl (by first | exact .inl rfl | exact .inr rfl) (by first | exact .inr rfl | exact .inl rfl))) (tgs_cons (tg_nm (pg_name (i := 3) C.nd rfl (by first | exact .inl rfl | exact .inr rfl) (by first | exact .inr rfl | exact .inl rfl))) tgs_nil rfl) rfl) rfl rfl) (ss_cons (s_ite (t_not (t_val C (c_call c_is_outage C rfl rfl hr rfl (aw_cons (k_var 3 rfl (by first | exact .inl rfl | exact .inr (.inl rfl) | exact .inr (.inr rfl)) rfl rfl) (aw_cons (k_var 1 rfl (by first | exact .inl rfl | exact .inr (.inl rfl) | exact .inr (.inr rfl)) rfl rfl) aw_nil rfl) rfl) rfl rfl rfl) (fun _ => rfl))) (ss_cons s_stuck
  ss_nil) ss_nil)
  (ss_cons (s_asgO (i := 1) C rfl (by first | exact .inl rfl | exact .inr rfl) (p_bin (op := .add) C (p_ix C (k_var 3 rfl (by first | exact .inl rfl | exact .inr (.inl rfl) | exact .inr (.inr rfl)) rfl rfl) (k_int C) (fun _ _ => rfl)) (k_int C)) rfl (by first | exact .inr rfl | exact .inl rfl))
  ss_nil)) (fun _ => rfl))
  ss_nil)))
abbrev s_format_outages : Stmt := topS 23
theorem sc_format_outages : FnScope ["outages", "begin", "end"] ["outages"] (defScope s_format_outages) := ⟨rfl, rfl, rfl, by decide +kernel, rfl, by decide +kernel, by decide +kernel⟩
theorem ok_format_outages {k : Nat} {f : Addr} {fd : FuncData} (T : Txt g mg) (F : Fun g.K "format_outages" "format_outages" s_format_outages f fd) (c_check_outages_r : Cal P w mg base g k "check_outages" 1 F_check_outages_r) : FnOk P w g.K mg base CX0 (k + 1) f fd ["outages"] (spF g 1 F_format_outages) := by
  refine def_fn (fs := [F_check_outages_r]) F sc_format_outages rfl rfl T.tt fun cdv A outer s H E hr C => ?_
  exact (ss_cons (s_expr (c_call c_check_outages_r C rfl rfl hr rfl (aw_cons (k_var 0 rfl (by first | exact .inl rfl | exact .inr (.inl rfl) | exact .inr (.inr rfl)) rfl rfl) aw_nil rfl) rfl rfl rfl) rfl)
  (ss_cons (s_ret (p_joinS C (p_comp C (i_seq C (k_var 0 rfl (by first | exact .inl rfl | exact .inr (.inl rfl) | exact .inr (.inr rfl)) rfl rfl)) (blkOk_by (own := [("begin", 1), ("end", 2)]) rfl) (fun _ _ _ _ _ => (tgp (by first | exact ((C.blk _ _ _ _ _)).c0 | exact (C.blk _ _ _ _ _)) (tgs_cons (tg_nm (pg_name (i := 1) (C.blk _ _ _ _ _).nd rfl (by first | exact .inl rfl | exact .inr rfl) (by first | exact .inr rfl | exact .inl rfl))) (tgs_cons (tg_nm (pg_name (i := 2) (C.blk _ _ _ _ _).nd rfl (by first | exact .inl rfl | exact .inr rfl) (by first | exact .inr rfl | exact .inl rfl))) tgs_nil rfl) rfl) rfl rfl)) (fun _ _ _ _ _ => c_nil) (fun _ _ _ _ _ => (k_fstr (.cons (k_str (by first | exact ((C.blk _ _ _ _ _)).c0 | exact (C.blk _ _ _ _ _))) (.cons (k_fmt (k_var 1 rfl (by first | exact .inl rfl | exact .inr (.inl rfl) | exact .inr (.inr rfl)) rfl rfl)) (.cons (k_str (by first | exact ((C.blk _ _ _ _ _)).c0 | exact (C.blk _ _ _ _ _))) (.cons (k_fmt (k_var 2 rfl (by first | exact .inl rfl | exact .inr (.inl rfl) | exact .inr (.inr rfl)) rfl rfl)) .nil)))))) (fun _ => rfl)) rfl rfl rfl))
  ss_nil))
abbrev s_parse_outages : Stmt := topS 28
theorem sc_parse_outages : FnScope ["text", "lines", "found", "at", "line"] ["text"] (defScope s_parse_outages) := ⟨rfl, rfl, rfl, by decide +kernel, rfl, by decide +kernel, by decide +kernel⟩
theorem ok_parse_outages {k : Nat} {f : Addr} {fd : FuncData} (T : Txt g mg) (F : Fun g.K "parse_outages" "parse_outages" s_parse_outages f fd) (c_numbers_of : Cal P w mg base g k "numbers_of" 4 F_numbers_of) (c_check_outages_r : Cal P w mg base g k "check_outages" 1 F_check_outages_r) : FnOk P w g.K mg base CX0 (k + 1) f fd ["text"] (spF g 1 F_parse_outages) := by
  refine def_fn (fs := [F_numbers_of, F_check_outages_r]) F sc_parse_outages rfl rfl T.tt fun cdv A outer s H E hr C => ?_
  exact (ss_cons (s_ite (t_not (t_val C (p_isi (t := .str) C (k_var 0 rfl (by first | exact .inl rfl | exact .inr (.inl rfl) | exact .inr (.inr rfl)) rfl rfl) (ty_str (T.z_str) rfl) rfl (T.z_isinstance) rfl rfl) (fun _ => rfl))) (ss_cons s_stuck
  ss_nil) ss_nil)
  (ss_cons (s_asgO (i := 1) C rfl (by first | exact .inl rfl | exact .inr rfl) (p_ite (t_cmp (op := .eq) C (k_var 0 rfl (by first | exact .inl rfl | exact .inr (.inl rfl) | exact .inr (.inr rfl)) rfl rfl) (k_str C) rfl) (p_lst C a_nil) (p_splS C (k_var 0 rfl (by first | exact .inl rfl | exact .inr (.inl rfl) | exact .inr (.inr rfl)) rfl rfl) rfl rfl rfl)) rfl (by first | exact .inr rfl | exact .inl rfl))
  (ss_cons (s_setLc (i := 2) C rfl rfl (sw_true rfl rfl rfl rfl) (i_enum C rfl (T.z_enumerate) (a_cons (k_var 1 rfl (by first | exact .inl rfl | exact .inr (.inl rfl) | exact .inr (.inr rfl)) rfl rfl) a_nil rfl) rfl) (blkOk_by (own := [("at", 3), ("line", 4)]) rfl) (fun _ _ _ _ _ => (tgp (by first | exact ((C.blk _ _ _ _ _)).c0 | exact (C.blk _ _ _ _ _)) (tgs_cons (tg_nm (pg_name (i := 3) (C.blk _ _ _ _ _).nd rfl (by first | exact .inl rfl | exact .inr rfl) (by first | exact .inr rfl | exact .inl rfl))) (tgs_cons (tg_nm (pg_name (i := 4) (C.blk _ _ _ _ _).nd rfl (by first | exact .inl rfl | exact .inr rfl) (by first | exact .inr rfl | exact .inl rfl))) tgs_nil rfl) rfl) rfl rfl)) (fun _ _ _ _ _ => c_nil) (fun _ _ _ _ _ => (c_call c_numbers_of (by first | exact ((C.blk _ _ _ _ _)).c0 | exact (C.blk _ _ _ _ _)) rfl rfl hr rfl (aw_cons (k_var 4 rfl (by first | exact .inl rfl | exact .inr (.inl rfl) | exact .inr (.inr rfl)) rfl rfl) (aw_cons (k_var 3 rfl (by first | exact .inl rfl | exact .inr (.inl rfl) | exact .inr (.inr rfl)) rfl rfl) (aw_cons (k_str (by first | exact ((C.blk _ _ _ _ _)).c0 | exact (C.blk _ _ _ _ _))) (aw_cons (k_int (by first | exact ((C.blk _ _ _ _ _)).c0 | exact (C.blk _ _ _ _ _))) aw_nil rfl) rfl) rfl) rfl) rfl rfl rfl)) (fun _ => rfl))
  (ss_cons (s_expr (c_call c_check_outages_r C rfl rfl hr rfl (aw_cons (k_var 2 rfl (by first | exact .inl rfl | exact .inr (.inl rfl) | exact .inr (.inr rfl)) rfl rfl) aw_nil rfl) rfl rfl rfl) rfl)
  (ss_cons (s_ret (k_var 2 rfl (by first | exact .inl rfl | exact .inr (.inl rfl) | exact .inr (.inr rfl)) rfl rfl))
  ss_nil)))))
abbrev s__law_outages_right : Stmt := topS 37
theorem sc__law_outages_right : FnScope ["_law_source", "_law_gaps", "_law_time", "_law_k", "_law_told", "_law_kept", "_law_begin", "_law_end"] ["_law_source"] (defScope s__law_outages_right) := ⟨rfl, rfl, rfl, by decide +kernel, rfl, by decide +kernel, by decide +kernel⟩
theorem ok__law_outages_right {k : Nat} {f : Addr} {fd : FuncData} (T : Txt g mg) (F : Fun g.K "_law_outages_right" "_law_outages_right" s__law_outages_right f fd) (c__law_next : Cal P w mg base g k "_law_next" 2 F__law_next) (c__law_one : Cal P w mg base g k "_law_one" 2 F__law_one) (c_format_outages : Cal P w mg base g k "format_outages" 1 F_format_outages) (ck_format_outages_0_outages : CalK P w mg base g k "format_outages" 0 ["outages"] [0] F_format_outages) (c_parse_outages : Cal P w mg base g k "parse_outages" 1 F_parse_outages) (ck_parse_outages_0_text : CalK P w mg base g k "parse_outages" 0 ["text"] [0] F_parse_outages) : FnOk P w g.K mg base CX0 (k + 1) f fd ["_law_source"] (spF g 1 F__law_outages_right) := by
  refine def_fn (fs := [F__law_next, F__law_one, F_format_outages, F_parse_outages]) F sc__law_outages_right rfl rfl T.tt fun cdv A outer s H E hr C => ?_
  exact (ss_cons (s_asgO (i := 1) C rfl (by first | exact .inl rfl | exact .inr rfl) (p_lst C a_nil) rfl (by first | exact .inr rfl | exact .inl rfl))
  (ss_cons (s_asgO (i := 2) C rfl (by first | exact .inl rfl | exact .inr rfl) (k_int C) rfl (by first | exact .inr rfl | exact .inl rfl))
  (ss_cons (s_for C PassesOwn.never (i_rng1 C rfl (T.z_range) (a_cons (c_call c__law_next C rfl rfl hr rfl (aw_cons (k_var 0 rfl (by first | exact .inl rfl | exact .inr (.inl rfl) | exact .inr (.inr rfl)) rfl rfl) (aw_cons (k_int C) aw_nil rfl) rfl) rfl rfl rfl) a_nil rfl) rfl) (tg_nm (pg_name (i := 3) C.nd rfl (by first | exact .inl rfl | exact .inr rfl) (by first | exact .inr rfl | exact .inl rfl))) (ss_cons (s_asg (p_bin (op := .add) C (p_bin (op := .add) C (k_var 2 rfl (by first | exact .inl rfl | exact .inr (.inl rfl) | exact .inr (.inr rfl)) rfl rfl) (c_call c__law_next C rfl rfl hr rfl (aw_cons (k_var 0 rfl (by first | exact .inl rfl | exact .inr (.inl rfl) | exact .inr (.inr rfl)) rfl rfl) (aw_cons (c_call c__law_one C rfl rfl hr rfl (aw_cons (k_var 0 rfl (by first | exact .inl rfl | exact .inr (.inl rfl) | exact .inr (.inr rfl)) rfl rfl) (aw_cons (p_lst C (a_cons (k_int C) (a_cons (p_bin (op := .pow) C (k_int C) (k_int C)) a_nil rfl) rfl)) aw_nil rfl) rfl) rfl rfl rfl) aw_nil rfl) rfl) rfl rfl rfl)) (k_int1 C (a_cons (p_cmp (op := .gt) C (k_var 3 rfl (by first | exact .inl rfl | exact .inr (.inl rfl) | exact .inr (.inr rfl)) rfl rfl) (k_int C) rfl) a_nil rfl) rfl rfl (T.z_int) rfl)) (tg_nm (pg_name (i := 6) C.nd rfl (by first | exact .inl rfl | exact .inr rfl) (by first | exact .inr rfl | exact .inl rfl))) rfl rfl rfl)
  (ss_cons (s_asg (p_bin (op := .add) C (p_bin (op := .add) C (k_var 6 rfl (by first | exact .inl rfl | exact .inr (.inl rfl) | exact .inr (.inr rfl)) rfl rfl) (k_int C)) (c_call c__law_next C rfl rfl hr rfl (aw_cons (k_var 0 rfl (by first | exact .inl rfl | exact .inr (.inl rfl) | exact .inr (.inr rfl)) rfl rfl) (aw_cons (c_call c__law_one C rfl rfl hr rfl (aw_cons (k_var 0 rfl (by first | exact .inl rfl | exact .inr (.inl rfl) | exact .inr (.inr rfl)) rfl rfl) (aw_cons (p_lst C (a_cons (k_int C) (a_cons (p_bin (op := .pow) C (k_int C) (k_int C)) a_nil rfl) rfl)) aw_nil rfl) rfl) rfl rfl rfl) aw_nil rfl) rfl) rfl rfl rfl)) (tg_nm (pg_name (i := 2) C.nd rfl (by first | exact .inl rfl | exact .inr rfl) (by first | exact .inr rfl | exact .inl rfl))) rfl rfl rfl)
  (ss_cons (s_app C (pe_var (i := 1) rfl (by first | exact .inl rfl | exact .inr (.inl rfl) | exact .inr (.inr rfl)) rfl rfl) (p_tup C (a_cons (k_var 6 rfl (by first | exact .inl rfl | exact .inr (.inl rfl) | exact .inr (.inr rfl)) rfl rfl) (a_cons (k_var 2 rfl (by first | exact .inl rfl | exact .inr (.inl rfl) | exact .inr (.inr rfl)) rfl rfl) a_nil rfl) rfl)) rfl rfl rfl rfl)
  ss_nil))) (fun _ => rfl))
  (ss_cons (s_asg (p_joinS C (p_comp C (i_seq C (k_var 1 rfl (by first | exact .inl rfl | exact .inr (.inl rfl) | exact .inr (.inr rfl)) rfl rfl)) (blkOk_by (own := [("_law_begin", 6), ("_law_end", 7)]) rfl) (fun _ _ _ _ _ => (tgp (by first | exact ((C.blk _ _ _ _ _)).c0 | exact (C.blk _ _ _ _ _)) (tgs_cons (tg_nm (pg_name (i := 6) (C.blk _ _ _ _ _).nd rfl (by first | exact .inl rfl | exact .inr rfl) (by first | exact .inr rfl | exact .inl rfl))) (tgs_cons (tg_nm (pg_name (i := 7) (C.blk _ _ _ _ _).nd rfl (by first | exact .inl rfl | exact .inr rfl) (by first | exact .inr rfl | exact .inl rfl))) tgs_nil rfl) rfl) rfl rfl)) (fun _ _ _ _ _ => c_nil) (fun _ _ _ _ _ => (p_bin (op := .add) (by first | exact ((C.blk _ _ _ _ _)).c0 | exact (C.blk _ _ _ _ _)) (p_bin (op := .add) (by first | exact ((C.blk _ _ _ _ _)).c0 | exact (C.blk _ _ _ _ _)) (p_bin (op := .add) (by first | exact ((C.blk _ _ _ _ _)).c0 | exact (C.blk _ _ _ _ _)) (k_str (by first | exact ((C.blk _ _ _ _ _)).c0 | exact (C.blk _ _ _ _ _))) (k_strI (k_var 6 rfl (by first | exact .inl rfl | exact .inr (.inl rfl) | exact .inr (.inr rfl)) rfl rfl) (T.z_str) rfl rfl)) (k_str (by first | exact ((C.blk _ _ _ _ _)).c0 | exact (C.blk _ _ _ _ _)))) (k_strI (k_var 7 rfl (by first | exact .inl rfl | exact .inr (.inl rfl) | exact .inr (.inr rfl)) rfl rfl) (T.z_str) rfl rfl))) (fun _ => rfl)) rfl rfl rfl) (tg_nm (pg_name (i := 4) C.nd rfl (by first | exact .inl rfl | exact .inr rfl) (by first | exact .inr rfl | exact .inl rfl))) rfl rfl rfl)
  (ss_cons (s_asg (k_list C (a_cons (k_var 1 rfl (by first | exact .inl rfl | exact .inr (.inl rfl) | exact .inr (.inr rfl)) rfl rfl) a_nil rfl) rfl rfl (T.z_list) rfl) (tg_nm (pg_name (i := 5) C.nd rfl (by first | exact .inl rfl | exact .inr rfl) (by first | exact .inr rfl | exact .inl rfl))) rfl rfl rfl)
  (ss_cons (s_ite (PW.pt (w_or (t_cmp (op := .ne) C (c_call c_format_outages C rfl rfl hr rfl (aw_cons (k_var 1 rfl (by first | exact .inl rfl | exact .inr (.inl rfl) | exact .inr (.inr rfl)) rfl rfl) aw_nil rfl) rfl rfl rfl) (k_var 4 rfl (by first | exact .inl rfl | exact .inr (.inl rfl) | exact .inr (.inr rfl)) rfl rfl) rfl) (w_or (t_cmp (op := .ne) C (c_callK0 ck_format_outages_0_outages C rfl rfl hr rfl (kf_cons (k_var 1 rfl (by first | exact .inl rfl | exact .inr (.inl rfl) | exact .inr (.inr rfl)) rfl rfl) kf_nil) rfl rfl rfl rfl) (k_var 4 rfl (by first | exact .inl rfl | exact .inr (.inl rfl) | exact .inr (.inr rfl)) rfl rfl) rfl) (w_or1 (t_cmp (op := .ne) C (k_var 1 rfl (by first | exact .inl rfl | exact .inr (.inl rfl) | exact .inr (.inr rfl)) rfl rfl) (k_var 5 rfl (by first | exact .inl rfl | exact .inr (.inl rfl) | exact .inr (.inr rfl)) rfl rfl) rfl))))) (ss_cons (s_ret (k_bl C))
  ss_nil) ss_nil)
  (ss_cons (s_ite (PW.pt (w_or (t_cmp (op := .ne) C (c_call c_parse_outages C rfl rfl hr rfl (aw_cons (k_var 4 rfl (by first | exact .inl rfl | exact .inr (.inl rfl) | exact .inr (.inr rfl)) rfl rfl) aw_nil rfl) rfl rfl rfl) (k_var 1 rfl (by first | exact .inl rfl | exact .inr (.inl rfl) | exact .inr (.inr rfl)) rfl rfl) rfl) (w_or1 (t_cmp (op := .ne) C (c_callK0 ck_parse_outages_0_text C rfl rfl hr rfl (kf_cons (k_var 4 rfl (by first | exact .inl rfl | exact .inr (.inl rfl) | exact .inr (.inr rfl)) rfl rfl) kf_nil) rfl rfl rfl rfl) (k_var 1 rfl (by first | exact .inl rfl | exact .inr (.inl rfl) | exact .inr (.inr rfl)) rfl rfl) rfl)))) (ss_cons (s_ret (k_bl C))
  ss_nil) ss_nil)
  (ss_cons (s_xapp C (c_call c_parse_outages C rfl rfl hr rfl (aw_cons (k_var 4 rfl (by first | exact .inl rfl | exact .inr (.inl rfl) | exact .inr (.inr rfl)) rfl rfl) aw_nil rfl) rfl rfl rfl) pe_non rfl rfl rfl rfl)
  (ss_cons (s_ret (p_cmp (op := .eq) C (c_call c_parse_outages C rfl rfl hr rfl (aw_cons (k_var 4 rfl (by first | exact .inl rfl | exact .inr (.inl rfl) | exact .inr (.inr rfl)) rfl rfl) aw_nil rfl) rfl rfl rfl) (k_var 1 rfl (by first | exact .inl rfl | exact .inr (.inl rfl) | exact .inr (.inr rfl)) rfl rfl) rfl))
  ss_nil)))))))))
abbrev s_InvalidText___init__ : Stmt := inClass (topS 5) 0
theorem sc_InvalidText___init__ : FnScope ["self", "line", "word"] ["self", "line", "word"] (defScope s_InvalidText___init__) := ⟨rfl, rfl, rfl, by decide +kernel, rfl, by decide +kernel, by decide +kernel⟩
theorem ok_InvalidText___init__ {k : Nat} {f : Addr} {fd : FuncData} (T : Txt g mg) (F : Fun g.K "__init__" "InvalidText.__init__" s_InvalidText___init__ f fd) : FnOk P w g.K mg base CX0 (k + 1) f fd ["self", "line", "word"] (spI g 17 ["line", "word"]) := by
  refine F.ok sc_InvalidText___init__ (fun vs H Q E h => spI_len h) fun cdv A outer s H vs Q E hr h => ?_
  exact ⟨_, pss_cons (ps_expr (pe_aei T.bx_BreakerError rfl T.n_BreakerError rfl (pa_cons (pe_var (i := 0) rfl (.inl rfl) rfl rfl) (pa_cons pe_str pa_nil rfl) rfl) rfl rfl rfl) rfl) (pss_cons (ps_aes (pe_var (i := 0) rfl (.inl rfl) rfl rfl) (pe_var (i := 1) rfl (.inl rfl) rfl rfl) rfl) (pss_cons (ps_aes (pe_var (i := 0) rfl (.inl rfl) rfl rfl) (pe_var (i := 2) rfl (.inl rfl) rfl rfl) rfl) pss_nil)), xin2 T.ax_InvalidText T.tx_InvalidText_line T.tx_InvalidText_word h⟩
abbrev s_numbers_of_x : Stmt := topS 26
theorem sc_numbers_of_x : FnScope ["line", "at", "name", "many", "words", "place", "word"] ["line", "at", "name", "many"] (defScope s_numbers_of_x) := ⟨rfl, rfl, rfl, by decide +kernel, rfl, by decide +kernel, by decide +kernel⟩
theorem ok_numbers_of_x {k : Nat} {f : Addr} {fd : FuncData} (T : Txt g mg) (F : Fun g.K "numbers_of" "numbers_of" s_numbers_of_x f fd) (xc_InvalidText : XCls P w mg base g k 17 "InvalidText" ["line", "word"]) (c_is_number : Cal P w mg base g k "is_number" 1 F_is_number) (c_value_of : Cal P w mg base g k "value_of" 1 F_value_of) : FnOk P w g.K mg base (L2.CX P w) (k + 2) f fd ["line", "at", "name", "many"] (spX g 4 F_numbers_of_x) := by
  refine def_fnX (fs := [F_is_number, F_value_of]) F sc_numbers_of_x rfl rfl T.tt fun cdv A outer s H E hr1 C tk hp => ?_
  have hr := hr1.mono (Nat.le_succ k)
  exact (ss_cons (s_asgO (i := 4) C rfl (by first | exact .inl rfl | exact .inr rfl) (p_splS C (k_var 0 rfl (by first | exact .inl rfl | exact .inr (.inl rfl) | exact .inr (.inr rfl)) rfl rfl) rfl rfl rfl) rfl (by first | exact .inr rfl | exact .inl rfl))
  (ss_cons (s_ite (t_cmp (op := .ne) C (p_ix C (k_var 4 rfl (by first | exact .inl rfl | exact .inr (.inl rfl) | exact .inr (.inr rfl)) rfl rfl) (k_int C) (fun _ _ => rfl)) (k_var 2 rfl (by first | exact .inl rfl | exact .inr (.inl rfl) | exact .inr (.inr rfl)) rfl rfl) rfl) (ss_cons (s_rse xc_InvalidText C tk hr1 rfl (a_cons (k_var 1 rfl (by first | exact .inl rfl | exact .inr (.inl rfl) | exact .inr (.inr rfl)) rfl rfl) (a_cons (k_int C) a_nil rfl) rfl) rfl rfl rfl (by decide))
  ss_nil) ss_nil)
  (ss_cons (s_for C hp (i_rng2 C rfl (T.z_range) (a_cons (k_int C) (a_cons (p_bin (op := .add) C (k_var 3 rfl (by first | exact .inl rfl | exact .inr (.inl rfl) | exact .inr (.inr rfl)) rfl rfl) (k_int C)) a_nil rfl) rfl) rfl rfl) (tg_nm (pg_name (i := 5) C.nd rfl (by first | exact .inl rfl | exact .inr rfl) (by first | exact .inr rfl | exact .inl rfl))) (ss_cons (s_ite (PW.pt (w_or (t_cmp (op := .eq) C (k_var 5 rfl (by first | exact .inl rfl | exact .inr (.inl rfl) | exact .inr (.inr rfl)) rfl rfl) (k_len C (a_cons (k_var 4 rfl (by first | exact .inl rfl | exact .inr (.inl rfl) | exact .inr (.inr rfl)) rfl rfl) a_nil rfl) rfl rfl (T.z_len) rfl) rfl) (w_or1 (t_not (t_val C (c_call c_is_number C rfl rfl hr rfl (aw_cons (p_ix C (k_var 4 rfl (by first | exact .inl rfl | exact .inr (.inl rfl) | exact .inr (.inr rfl)) rfl rfl) (k_var 5 rfl (by first | exact .inl rfl | exact .inr (.inl rfl) | exact .inr (.inr rfl)) rfl rfl) (fun _ _ => rfl)) aw_nil rfl) rfl rfl rfl) (fun _ => rfl)))))) (ss_cons (s_rse xc_InvalidText C tk hr1 rfl (a_cons (k_var 1 rfl (by first | exact .inl rfl | exact .inr (.inl rfl) | exact .inr (.inr rfl)) rfl rfl) (a_cons (k_var 5 rfl (by first | exact .inl rfl | exact .inr (.inl rfl) | exact .inr (.inr rfl)) rfl rfl) a_nil rfl) rfl) rfl rfl rfl (by decide))
  ss_nil) ss_nil)
  ss_nil) (fun _ => rfl))
  (ss_cons (s_ite (t_cmp (op := .gt) C (k_len C (a_cons (k_var 4 rfl (by first | exact .inl rfl | exact .inr (.inl rfl) | exact .inr (.inr rfl)) rfl rfl) a_nil rfl) rfl rfl (T.z_len) rfl) (p_bin (op := .add) C (k_var 3 rfl (by first | exact .inl rfl | exact .inr (.inl rfl) | exact .inr (.inr rfl)) rfl rfl) (k_int C)) rfl) (ss_cons (s_rse xc_InvalidText C tk hr1 rfl (a_cons (k_var 1 rfl (by first | exact .inl rfl | exact .inr (.inl rfl) | exact .inr (.inr rfl)) rfl rfl) (a_cons (p_bin (op := .add) C (k_var 3 rfl (by first | exact .inl rfl | exact .inr (.inl rfl) | exact .inr (.inr rfl)) rfl rfl) (k_int C)) a_nil rfl) rfl) rfl rfl rfl (by decide))
  ss_nil) ss_nil)
  (ss_cons (s_ret (k_tuple C (a_cons (p_comp C (i_seq C (p_slc C (k_var 4 rfl (by first | exact .inl rfl | exact .inr (.inl rfl) | exact .inr (.inr rfl)) rfl rfl) (part1 (k_int C)) part0)) (blkOk_by (own := [("word", 6)]) rfl) (fun _ _ _ _ _ => (tg_nm (pg_name (i := 6) (C.blk _ _ _ _ _).nd rfl (by first | exact .inl rfl | exact .inr rfl) (by first | exact .inr rfl | exact .inl rfl)))) (fun _ _ _ _ _ => c_nil) (fun _ _ _ _ _ => (c_call c_value_of (by first | exact ((C.blk _ _ _ _ _)).c0 | exact (C.blk _ _ _ _ _)) rfl rfl hr rfl (aw_cons (k_var 6 rfl (by first | exact .inl rfl | exact .inr (.inl rfl) | exact .inr (.inr rfl)) rfl rfl) aw_nil rfl) rfl rfl rfl)) (fun _ => rfl)) a_nil rfl) rfl rfl (T.z_tuple) rfl))
  ss_nil)))))
abbrev s_InvalidRow___init__ : Stmt := inClass (topS 2) 0
theorem sc_InvalidRow___init__ : FnScope ["self", "part", "at"] ["self", "part", "at"] (defScope s_InvalidRow___init__) := ⟨rfl, rfl, rfl, by decide +kernel, rfl, by decide +kernel, by decide +kernel⟩
theorem ok_InvalidRow___init__ {k : Nat} {f : Addr} {fd : FuncData} (T : Txt g mg) (F : Fun g.K "__init__" "InvalidRow.__init__" s_InvalidRow___init__ f fd) : FnOk P w g.K mg base CX0 (k + 1) f fd ["self", "part", "at"] (spI g 9 ["part", "at"]) := by
  refine F.ok sc_InvalidRow___init__ (fun vs H Q E h => spI_len h) fun cdv A outer s H vs Q E hr h => ?_
  exact ⟨_, pss_cons (ps_expr (pe_aei T.bx_BreakerError rfl T.n_BreakerError rfl (pa_cons (pe_var (i := 0) rfl (.inl rfl) rfl rfl) (pa_cons pe_str pa_nil rfl) rfl) rfl rfl rfl) rfl) (pss_cons (ps_aes (pe_var (i := 0) rfl (.inl rfl) rfl rfl) (pe_var (i := 1) rfl (.inl rfl) rfl rfl) rfl) (pss_cons (ps_aes (pe_var (i := 0) rfl (.inl rfl) rfl rfl) (pe_var (i := 2) rfl (.inl rfl) rfl rfl) rfl) pss_nil)), xin2 T.ax_InvalidRow T.tx_InvalidRow_part T.tx_InvalidRow_at h⟩
abbrev s_check_breakers_x : Stmt := topS 14
theorem sc_check_breakers_x : FnScope ["breakers", "at", "breaker"] ["breakers"] (defScope s_check_breakers_x) := ⟨rfl, rfl, rfl, by decide +kernel, rfl, by decide +kernel, by decide +kernel⟩
theorem ok_check_breakers_x {k : Nat} {f : Addr} {fd : FuncData} (T : Txt g mg) (F : Fun g.K "check_breakers" "check_breakers" s_check_breakers_x f fd) (xc_InvalidRow : XCls P w mg base g k 9 "InvalidRow" ["part", "at"]) (c_is_breaker : Cal P w mg base g k "is_breaker" 1 F_is_breaker) : FnOk P w g.K mg base (L2.CX P w) (k + 2) f fd ["breakers"] (spX g 1 F_check_breakers_x) := by
  refine def_fnX (fs := [F_is_breaker]) F sc_check_breakers_x rfl rfl T.tt fun cdv A outer s H E hr1 C tk hp => ?_
  have hr := hr1.mono (Nat.le_succ k)
  exact (ss_cons (s_ite (PW.pt (w_or (t_not (t_val C (p_isi (t := .list) C (k_var 0 rfl (by first | exact .inl rfl | exact .inr (.inl rfl) | exact .inr (.inr rfl)) rfl rfl) (ty_list (T.z_list) rfl) rfl (T.z_isinstance) rfl rfl) (fun _ => rfl))) (w_or1 (t_cmp (op := .gt) C (k_len C (a_cons (k_var 0 rfl (by first | exact .inl rfl | exact .inr (.inl rfl) | exact .inr (.inr rfl)) rfl rfl) a_nil rfl) rfl rfl (T.z_len) rfl) (k_gint C T.g_MOST_BREAKERS rfl rfl) rfl)))) (ss_cons (s_rse xc_InvalidRow C tk hr1 rfl (a_cons (k_str C) (a_cons (p_neg (k_int C)) a_nil rfl) rfl) rfl rfl rfl (by decide))
  ss_nil) ss_nil)
  (ss_cons (s_for C hp (i_enum C rfl (T.z_enumerate) (a_cons (k_var 0 rfl (by first | exact .inl rfl | exact .inr (.inl rfl) | exact .inr (.inr rfl)) rfl rfl) a_nil rfl) rfl) (tgp C (tgs_cons (tg_nm (pg_name (i := 1) C.nd rfl (by first | exact .inl rfl | exact .inr rfl) (by first | exact .inr rfl | exact .inl rfl))) (tgs_cons (tg_nm (pg_name (i := 2) C.nd rfl (by first | exact .inl rfl | exact .inr rfl) (by first | exact .inr rfl | exact .inl rfl))) tgs_nil rfl) rfl) rfl rfl) (ss_cons (s_ite (t_not (t_val C (c_call c_is_breaker C rfl rfl hr rfl (aw_cons (k_var 2 rfl (by first | exact .inl rfl | exact .inr (.inl rfl) | exact .inr (.inr rfl)) rfl rfl) aw_nil rfl) rfl rfl rfl) (fun _ => rfl))) (ss_cons (s_rse xc_InvalidRow C tk hr1 rfl (a_cons (k_str C) (a_cons (k_var 1 rfl (by first | exact .inl rfl | exact .inr (.inl rfl) | exact .inr (.inr rfl)) rfl rfl) a_nil rfl) rfl) rfl rfl rfl (by decide))
  ss_nil) ss_nil)
  ss_nil) (fun _ => rfl))
  ss_nil))
abbrev s_Row___init___x : Stmt := inClass (topS 15) 0
theorem sc_Row___init___x : FnScope ["self", "breakers", "step", "phase"] ["self", "breakers", "step", "phase"] (defScope s_Row___init___x) := ⟨rfl, rfl, rfl, by decide +kernel, rfl, by decide +kernel, by decide +kernel⟩
theorem ok_Row___init___x {k : Nat} {f : Addr} {fd : FuncData} (T : Txt g mg) (F : FunD g.K "__init__" "Row.__init__" (defArgs s_Row___init___x) (defBody s_Row___init___x) (defScope s_Row___init___x) [] [("phase", V.int 0)] f fd) (cx_check_breakers_x : CalX P w mg base g k "check_breakers" 1 F_check_breakers_x) (c_is_between : Cal P w mg base g k "is_between" 3 F_is_between) (xc_InvalidRow : XCls P w mg base g k 9 "InvalidRow" ["part", "at"]) : FnOk P w g.K mg base (L2.CX P w) (k + 2) f fd ["self", "breakers", "step", "phase"] (spX g 4 F_Row___init___x) := by
  refine def_fnXD (fs := [F_check_breakers_x, F_is_between]) F sc_Row___init___x rfl rfl T.tt fun cdv A outer s H E hr1 C tk hp => ?_
  have hr := hr1.mono (Nat.le_succ k)
  exact (ss_cons (sx_drop (cx_call cx_check_breakers_x C tk rfl rfl hr rfl (aw_cons (k_var 1 rfl (by first | exact .inl rfl | exact .inr (.inl rfl) | exact .inr (.inr rfl)) rfl rfl) aw_nil rfl) rfl rfl rfl) rfl)
  (ss_cons (s_ite (t_not (t_val C (c_call c_is_between C rfl rfl hr rfl (aw_cons (k_var 2 rfl (by first | exact .inl rfl | exact .inr (.inl rfl) | exact .inr (.inr rfl)) rfl rfl) (aw_cons (k_int C) (aw_cons (k_gint C T.g_MOST_WAIT rfl rfl) aw_nil rfl) rfl) rfl) rfl rfl rfl) (fun _ => rfl))) (ss_cons (s_rse xc_InvalidRow C tk hr1 rfl (a_cons (k_str C) (a_cons (p_neg (k_int C)) a_nil rfl) rfl) rfl rfl rfl (by decide))
  ss_nil) ss_nil)
  (ss_cons (s_ite (t_not (t_val C (c_call c_is_between C rfl rfl hr rfl (aw_cons (k_var 3 rfl (by first | exact .inl rfl | exact .inr (.inl rfl) | exact .inr (.inr rfl)) rfl rfl) (aw_cons (k_int C) (aw_cons (k_gint C T.g_MOST_WAIT rfl rfl) aw_nil rfl) rfl) rfl) rfl rfl rfl) (fun _ => rfl))) (ss_cons (s_rse xc_InvalidRow C tk hr1 rfl (a_cons (k_str C) (a_cons (p_neg (k_int C)) a_nil rfl) rfl) rfl rfl rfl (by decide))
  ss_nil) ss_nil)
  (ss_cons (s_setf (c := 1) (i := 0) C (pe_var (i := 0) rfl (by first | exact .inl rfl | exact .inr (.inl rfl) | exact .inr (.inr rfl)) rfl rfl) (k_list C (a_cons (k_var 1 rfl (by first | exact .inl rfl | exact .inr (.inl rfl) | exact .inr (.inr rfl)) rfl rfl) a_nil rfl) rfl rfl (T.z_list) rfl) ⟨T.x_Row.cl, T.na_Row_specs⟩ rfl)
  (ss_cons (s_setf (c := 1) (i := 0) C (pe_var (i := 0) rfl (by first | exact .inl rfl | exact .inr (.inl rfl) | exact .inr (.inr rfl)) rfl rfl) (k_var 2 rfl (by first | exact .inl rfl | exact .inr (.inl rfl) | exact .inr (.inr rfl)) rfl rfl) ⟨T.x_Row.cl, T.na_Row_pace⟩ rfl)
  (ss_cons (s_setf (c := 1) (i := 0) C (pe_var (i := 0) rfl (by first | exact .inl rfl | exact .inr (.inl rfl) | exact .inr (.inr rfl)) rfl rfl) (k_var 3 rfl (by first | exact .inl rfl | exact .inr (.inl rfl) | exact .inr (.inr rfl)) rfl rfl) ⟨T.x_Row.cl, T.na_Row_shift⟩ rfl)
  ss_nil))))))
abbrev s_parse_row_x : Stmt := topS 27
theorem sc_parse_row_x : FnScope ["text", "lines", "breakers", "step", "phase", "at", "line"] ["text"] (defScope s_parse_row_x) := ⟨rfl, rfl, rfl, by decide +kernel, rfl, by decide +kernel, by decide +kernel⟩
theorem ok_parse_row_x {k : Nat} {f : Addr} {fd : FuncData} (T : Txt g mg) (F : Fun g.K "parse_row" "parse_row" s_parse_row_x f fd) (xc_InvalidText : XCls P w mg base g k 17 "InvalidText" ["line", "word"]) (cx_numbers_of_x : CalX P w mg base g k "numbers_of" 4 F_numbers_of_x) (ik_Row_2_phase_x : MkdKX P w mg base g k 1 "Row" 2 ["phase"] [0, 1, 2] [] F_Row___init___x) : FnOk P w g.K mg base (L2.CX P w) (k + 2) f fd ["text"] (spX g 1 F_parse_row_x) := by
  refine def_fnX (fs := [F_numbers_of_x, F_Row___init___x]) F sc_parse_row_x rfl rfl T.tt fun cdv A outer s H E hr1 C tk hp => ?_
  have hr := hr1.mono (Nat.le_succ k)
  exact (ss_cons (s_ite (t_not (t_val C (p_iso (t := .str) (all_cons ⟨T.x_Row, T.kt_Row_str⟩ (all_nil _)) C (k_var 0 rfl (by first | exact .inl rfl | exact .inr (.inl rfl) | exact .inr (.inr rfl)) rfl rfl) (ty_str (T.z_str) rfl) rfl (T.z_isinstance) rfl rfl) (fun _ => rfl))) (ss_cons (s_rse xc_InvalidText C tk hr1 rfl (a_cons (p_neg (k_int C)) (a_cons (p_neg (k_int C)) a_nil rfl) rfl) rfl rfl rfl (by decide))
  ss_nil) ss_nil)
  (ss_cons (s_asgO (i := 1) C rfl (by first | exact .inl rfl | exact .inr rfl) (p_splS C (k_var 0 rfl (by first | exact .inl rfl | exact .inr (.inl rfl) | exact .inr (.inr rfl)) rfl rfl) rfl rfl rfl) rfl (by first | exact .inr rfl | exact .inl rfl))
  (ss_cons (sx_asg (cx_call cx_numbers_of_x C tk rfl rfl hr rfl (aw_cons (p_ix C (k_var 1 rfl (by first | exact .inl rfl | exact .inr (.inl rfl) | exact .inr (.inr rfl)) rfl rfl) (k_int C) (fun _ _ => rfl)) (aw_cons (k_int C) (aw_cons (k_str C) (aw_cons (k_int C) aw_nil rfl) rfl) rfl) rfl) rfl rfl rfl) (tgp C (tgs_cons (tg_nm (pg_name (i := 3) C.nd rfl (by first | exact .inl rfl | exact .inr rfl) (by first | exact .inr rfl | exact .inl rfl))) (tgs_cons (tg_nm (pg_name (i := 4) C.nd rfl (by first | exact .inl rfl | exact .inr rfl) (by first | exact .inr rfl | exact .inl rfl))) tgs_nil rfl) rfl) rfl rfl) rfl rfl rfl)
  (ss_cons (s_asgO (i := 2) C rfl (by first | exact .inl rfl | exact .inr rfl) (p_lst C a_nil) rfl (by first | exact .inr rfl | exact .inl rfl))
  (ss_cons (s_for C hp (i_enum C rfl (T.z_enumerate) (a_cons (p_slc C (k_var 1 rfl (by first | exact .inl rfl | exact .inr (.inl rfl) | exact .inr (.inr rfl)) rfl rfl) (part1 (k_int C)) part0) a_nil rfl) rfl) (tgp C (tgs_cons (tg_nm (pg_name (i := 5) C.nd rfl (by first | exact .inl rfl | exact .inr rfl) (by first | exact .inr rfl | exact .inl rfl))) (tgs_cons (tg_nm (pg_name (i := 6) C.nd rfl (by first | exact .inl rfl | exact .inr rfl) (by first | exact .inr rfl | exact .inl rfl))) tgs_nil rfl) rfl) rfl rfl) (ss_cons (s_appX C (pe_var (i := 2) rfl (by first | exact .inl rfl | exact .inr (.inl rfl) | exact .inr (.inr rfl)) rfl rfl) (cx_call cx_numbers_of_x C tk rfl rfl hr rfl (aw_cons (k_var 6 rfl (by first | exact .inl rfl | exact .inr (.inl rfl) | exact .inr (.inr rfl)) rfl rfl) (aw_cons (p_bin (op := .add) C (k_var 5 rfl (by first | exact .inl rfl | exact .inr (.inl rfl) | exact .inr (.inr rfl)) rfl rfl) (k_int C)) (aw_cons (k_str C) (aw_cons (k_int C) aw_nil rfl) rfl) rfl) rfl) rfl rfl rfl) rfl rfl rfl rfl)
  ss_nil) (fun _ => rfl))
  (ss_cons (sx_ret (px_mkK ik_Row_2_phase_x C tk rfl rfl rfl hr1 rfl (pf_cons (k_var 2 rfl (by first | exact .inl rfl | exact .inr (.inl rfl) | exact .inr (.inr rfl)) rfl rfl) (pf_cons (k_var 3 rfl (by first | exact .inl rfl | exact .inr (.inl rfl) | exact .inr (.inr rfl)) rfl rfl) pf_nil rfl) rfl) (kf_cons (k_var 4 rfl (by first | exact .inl rfl | exact .inr (.inl rfl) | exact .inr (.inr rfl)) rfl rfl) kf_nil) rfl rfl rfl rfl rfl))
  ss_nil))))))
abbrev s_row_of : Stmt := topS 29
theorem sc_row_of : FnScope ["text"] ["text"] (defScope s_row_of) := ⟨rfl, rfl, rfl, by decide +kernel, rfl, by decide +kernel, by decide +kernel⟩
theorem ok_row_of {k : Nat} {f : Addr} {fd : FuncData} (T : Txt g mg) (F : Fun g.K "row_of" "row_of" s_row_of f fd) (cx_parse_row_x : CalX P w mg base g k "parse_row" 1 F_parse_row_x) : FnOk P w g.K mg base CX0 (k + 1) f fd ["text"] (spF g 1 F_row_of) := by
  refine def_fn (fs := [F_parse_row_x]) F sc_row_of rfl rfl T.tt fun cdv A outer s H E hr C => ?_
  exact (ss_cons (s_tryRR (all := [13, 9, 17]) C rfl rfl ⟨rfl, rfl, .inl T.n_BreakerError⟩ (all_cons T.xm_InvalidIndex_BreakerError (all_cons T.xm_InvalidRow_BreakerError (all_cons T.xm_InvalidText_BreakerError (all_nil _)))) (fun W pnl xe tk => (cs_call cx_parse_row_x (by first | exact ((Cok.tr C _ _)).c0 | exact (Cok.tr C _ _)) tk rfl rfl hr rfl (aw_cons (k_var 0 rfl (by first | exact .inl rfl | exact .inr (.inl rfl) | exact .inr (.inr rfl)) rfl rfl) aw_nil rfl) rfl rfl rfl)) (fun a oe pnl => (p_cst pe_non C.K fun _ _ _ => by simp only [Rep])))
  ss_nil)
abbrev s_same_text : Stmt := topS 30
theorem sc_same_text : FnScope ["one", "other", "row"] ["one", "other"] (defScope s_same_text) := ⟨rfl, rfl, rfl, by decide +kernel, rfl, by decide +kernel, by decide +kernel⟩
theorem ok_same_text {k : Nat} {f : Addr} {fd : FuncData} (T : Txt g mg) (F : Fun g.K "same_text" "same_text" s_same_text f fd) (c_row_of : Cal P w mg base g k "row_of" 1 F_row_of) (m_Row___eq__ : Mtd P w mg base g k 1 "__eq__" 2 F_Row___eq__) : FnOk P w g.K mg base CX0 (k + 1) f fd ["one", "other"] (spF g 2 F_same_text) := by
  refine def_fn (fs := [F_row_of, F_Row___eq__]) F sc_same_text rfl rfl T.tt fun cdv A outer s H E hr C => ?_
  exact (ss_cons (s_asgO (i := 2) C rfl (by first | exact .inl rfl | exact .inr rfl) (c_call c_row_of C rfl rfl hr rfl (aw_cons (k_var 0 rfl (by first | exact .inl rfl | exact .inr (.inl rfl) | exact .inr (.inr rfl)) rfl rfl) aw_nil rfl) rfl rfl rfl) rfl (by first | exact .inr rfl | exact .inl rfl))
  (ss_cons (s_ret (p_and C (p_cmp (op := .isnot) C (k_var 2 rfl (by first | exact .inl rfl | exact .inr (.inl rfl) | exact .inr (.inr rfl)) rfl rfl) (k_non C) rfl) (p_one (p_ownEq T.x_Row m_Row___eq__ C rfl hr (k_var 2 rfl (by first | exact .inl rfl | exact .inr (.inl rfl) | exact .inr (.inr rfl)) rfl rfl) (c_call c_row_of C rfl rfl hr rfl (aw_cons (k_var 1 rfl (by first | exact .inl rfl | exact .inr (.inl rfl) | exact .inr (.inr rfl)) rfl rfl) aw_nil rfl) rfl rfl rfl) rfl))))
  ss_nil))
abbrev s__law_same_right : Stmt := topS 38
theorem sc__law_same_right : FnScope ["_law_lane", "_law_words", "_law_before", "_law_odd"] ["_law_lane", "_law_words", "_law_before"] (defScope s__law_same_right) := ⟨rfl, rfl, rfl, by decide +kernel, rfl, by decide +kernel, by decide +kernel⟩
theorem ok__law_same_right {k : Nat} {f : Addr} {fd : FuncData} (T : Txt g mg) (F : Fun g.K "_law_same_right" "_law_same_right" s__law_same_right f fd) (c_same_text : Cal P w mg base g k "same_text" 2 F_same_text) (ck_same_text_0_other_one : CalK P w mg base g k "same_text" 0 ["other", "one"] [1, 0] F_same_text) : FnOk P w g.K mg base CX0 (k + 1) f fd ["_law_lane", "_law_words", "_law_before"] (spF g 3 F__law_same_right) := by
  refine def_fn (fs := [F_same_text]) F sc__law_same_right rfl rfl T.tt fun cdv A outer s H E hr C => ?_
  exact (ss_cons (s_ite (PW.pt (w_or (t_cmp (op := .isnot) C (c_call c_same_text C rfl rfl hr rfl (aw_cons (k_var 1 rfl (by first | exact .inl rfl | exact .inr (.inl rfl) | exact .inr (.inr rfl)) rfl rfl) (aw_cons (k_var 1 rfl (by first | exact .inl rfl | exact .inr (.inl rfl) | exact .inr (.inr rfl)) rfl rfl) aw_nil rfl) rfl) rfl rfl rfl) (k_bl C) rfl) (w_or1 (t_cmp (op := .ne) C (c_call c_same_text C rfl rfl hr rfl (aw_cons (k_var 1 rfl (by first | exact .inl rfl | exact .inr (.inl rfl) | exact .inr (.inr rfl)) rfl rfl) (aw_cons (k_var 2 rfl (by first | exact .inl rfl | exact .inr (.inl rfl) | exact .inr (.inr rfl)) rfl rfl) aw_nil rfl) rfl) rfl rfl rfl) (p_cmp (op := .eq) C (k_var 1 rfl (by first | exact .inl rfl | exact .inr (.inl rfl) | exact .inr (.inr rfl)) rfl rfl) (k_var 2 rfl (by first | exact .inl rfl | exact .inr (.inl rfl) | exact .inr (.inr rfl)) rfl rfl) rfl) rfl)))) (ss_cons (s_ret (k_bl C))
  ss_nil) ss_nil)
  (ss_cons (s_ite (t_cmp (op := .ne) C (c_callK0 ck_same_text_0_other_one C rfl rfl hr rfl (kf_cons (k_var 1 rfl (by first | exact .inl rfl | exact .inr (.inl rfl) | exact .inr (.inr rfl)) rfl rfl) (kf_cons (k_var 2 rfl (by first | exact .inl rfl | exact .inr (.inl rfl) | exact .inr (.inr rfl)) rfl rfl) kf_nil)) rfl rfl rfl rfl) (p_cmp (op := .eq) C (k_var 1 rfl (by first | exact .inl rfl | exact .inr (.inl rfl) | exact .inr (.inr rfl)) rfl rfl) (k_var 2 rfl (by first | exact .inl rfl | exact .inr (.inl rfl) | exact .inr (.inr rfl)) rfl rfl) rfl) rfl) (ss_cons (s_ret (k_bl C))
  ss_nil) ss_nil)
  (ss_cons (s_for C PassesOwn.never (i_seq C (p_lst C (a_cons (k_non C) (a_cons (k_int C) (a_cons (p_bin (op := .add) C (k_var 1 rfl (by first | exact .inl rfl | exact .inr (.inl rfl) | exact .inr (.inr rfl)) rfl rfl) (k_str C)) (a_cons (k_str C) (a_cons (p_lst C (a_cons (k_var 1 rfl (by first | exact .inl rfl | exact .inr (.inl rfl) | exact .inr (.inr rfl)) rfl rfl) a_nil rfl)) (a_cons (k_var 0 rfl (by first | exact .inl rfl | exact .inr (.inl rfl) | exact .inr (.inr rfl)) rfl rfl) (a_cons (k_bl C) (a_cons (k_str C) (a_cons (k_str C) (a_cons (k_str C) a_nil rfl) rfl) rfl) rfl) rfl) rfl) rfl) rfl) rfl) rfl))) (tg_nm (pg_name (i := 3) C.nd rfl (by first | exact .inl rfl | exact .inr rfl) (by first | exact .inr rfl | exact .inl rfl))) (ss_cons (s_ite (PW.pt (w_or (t_cmp (op := .isnot) C (c_call c_same_text C rfl rfl hr rfl (aw_cons (k_var 1 rfl (by first | exact .inl rfl | exact .inr (.inl rfl) | exact .inr (.inr rfl)) rfl rfl) (aw_cons (k_var 3 rfl (by first | exact .inl rfl | exact .inr (.inl rfl) | exact .inr (.inr rfl)) rfl rfl) aw_nil rfl) rfl) rfl rfl rfl) (k_bl C) rfl) (w_or (t_cmp (op := .isnot) C (c_call c_same_text C rfl rfl hr rfl (aw_cons (k_var 3 rfl (by first | exact .inl rfl | exact .inr (.inl rfl) | exact .inr (.inr rfl)) rfl rfl) (aw_cons (k_var 1 rfl (by first | exact .inl rfl | exact .inr (.inl rfl) | exact .inr (.inr rfl)) rfl rfl) aw_nil rfl) rfl) rfl rfl rfl) (k_bl C) rfl) (w_or1 (t_cmp (op := .isnot) C (c_call c_same_text C rfl rfl hr rfl (aw_cons (k_var 3 rfl (by first | exact .inl rfl | exact .inr (.inl rfl) | exact .inr (.inr rfl)) rfl rfl) (aw_cons (k_var 3 rfl (by first | exact .inl rfl | exact .inr (.inl rfl) | exact .inr (.inr rfl)) rfl rfl) aw_nil rfl) rfl) rfl rfl rfl) (k_bl C) rfl))))) (ss_cons (s_ret (k_bl C))
  ss_nil) ss_nil)
  ss_nil) (fun _ => rfl))
  (ss_cons (s_ret (k_bl C))
  ss_nil))))
abbrev s_law : Stmt := topS 39
theorem sc_law : FnScope ["_law_script", "_law_before", "_law_cell", "_law_source", "_law_specs_here", "_law_step", "_law_shift", "_law_lane", "_law_lines", "_law_spec", "_law_words", "_law_told", "_law_this"] ["_law_script"] (defScope s_law) := ⟨rfl, rfl, rfl, by decide +kernel, rfl, by decide +kernel, by decide +kernel⟩
theorem ok_law {k : Nat} {f : Addr} {fd : FuncData} (T : Txt g mg) (F : Fun g.K "law" "law" s_law f fd) (c__law_cell_at : Cal P w mg base g k "_law_cell_at" 2 F__law_cell_at) (c__law_source_of : Cal P w mg base g k "_law_source_of" 1 F__law_source_of) (c__law_one : Cal P w mg base g k "_law_one" 2 F__law_one) (c__law_specs : Cal P w mg base g k "_law_specs" 4 F__law_specs) (c__law_next : Cal P w mg base g k "_law_next" 2 F__law_next) (ik_Row_2_phase : MkdK P w mg base g k 1 "Row" 2 ["phase"] [0, 1, 2] [] F_Row___init__) (c_format_row : Cal P w mg base g k "format_row" 1 F_format_row) (ck_format_row_0_row : CalK P w mg base g k "format_row" 0 ["row"] [0] F_format_row) (c_parse_row : Cal P w mg base g k "parse_row" 1 F_parse_row) (m_Row___eq__ : Mtd P w mg base g k 1 "__eq__" 2 F_Row___eq__) (ck_parse_row_0_text : CalK P w mg base g k "parse_row" 0 ["text"] [0] F_parse_row) (m_Row_breaker_list : Mtd P w mg base g k 1 "breaker_list" 1 F_Row_breaker_list) (m_Row_step_length : Mtd P w mg base g k 1 "step_length" 1 F_Row_step_length) (m_Row_phase_time : Mtd P w mg base g k 1 "phase_time" 1 F_Row_phase_time) (c__law_outages_right : Cal P w mg base g k "_law_outages_right" 1 F__law_outages_right) (c__law_same_right : Cal P w mg base g k "_law_same_right" 3 F__law_same_right) : FnOk P w g.K mg base CX0 (k + 2) f fd ["_law_script"] (spF g 1 F_law) := by
  refine def_fn (fs := [F__law_cell_at, F__law_source_of, F__law_one, F__law_specs, F__law_next, F_Row___init__, F_format_row, F_parse_row, F_Row___eq__, F_Row_breaker_list, F_Row_step_length, F_Row_phase_time, F__law_outages_right, F__law_same_right]) F sc_law rfl rfl T.tt fun cdv A outer s H E hr1 C => ?_
  have hr := hr1.mono (Nat.le_succ k)
  exact (ss_cons (s_asgO (i := 1) C rfl (by first | exact .inl rfl | exact .inr rfl) (k_str C) rfl (by first | exact .inr rfl | exact .inl rfl))
  (ss_cons (s_for C PassesOwn.never (i_seq C (p_bin (op := .add) C (p_lst C (a_cons (c_call c__law_cell_at C rfl rfl hr rfl (aw_cons (k_var 0 rfl (by first | exact .inl rfl | exact .inr (.inl rfl) | exact .inr (.inr rfl)) rfl rfl) (aw_cons (k_int C) aw_nil rfl) rfl) rfl rfl rfl) a_nil rfl)) (p_slc C (k_var 0 rfl (by first | exact .inl rfl | exact .inr (.inl rfl) | exact .inr (.inr rfl)) rfl rfl) (part1 (k_int C)) (part1 (k_int C))))) (tg_nm (pg_name (i := 2) C.nd rfl (by first | exact .inl rfl | exact .inr rfl) (by first | exact .inr rfl | exact .inl rfl))) (ss_cons (s_asgO (i := 3) C rfl (by first | exact .inl rfl | exact .inr rfl) (c_call c__law_source_of C rfl rfl hr rfl (aw_cons (k_var 2 rfl (by first | exact .inl rfl | exact .inr (.inl rfl) | exact .inr (.inr rfl)) rfl rfl) aw_nil rfl) rfl rfl rfl) rfl (by first | exact .inr rfl | exact .inl rfl))
  (ss_cons (s_asg (c_call c__law_specs C rfl rfl hr rfl (aw_cons (k_var 3 rfl (by first | exact .inl rfl | exact .inr (.inl rfl) | exact .inr (.inr rfl)) rfl rfl) (aw_cons (k_int C) (aw_cons (c_call c__law_one C rfl rfl hr rfl (aw_cons (k_var 3 rfl (by first | exact .inl rfl | exact .inr (.inl rfl) | exact .inr (.inr rfl)) rfl rfl) (aw_cons (p_lst C (a_cons (k_int C) (a_cons (p_bin (op := .pow) C (k_int C) (k_int C)) a_nil rfl) rfl)) aw_nil rfl) rfl) rfl rfl rfl) (aw_cons (c_call c__law_one C rfl rfl hr rfl (aw_cons (k_var 3 rfl (by first | exact .inl rfl | exact .inr (.inl rfl) | exact .inr (.inr rfl)) rfl rfl) (aw_cons (p_lst C (a_cons (k_int C) (a_cons (p_bin (op := .pow) C (k_int C) (k_int C)) a_nil rfl) rfl)) aw_nil rfl) rfl) rfl rfl rfl) aw_nil rfl) rfl) rfl) rfl) rfl rfl rfl) (tg_nm (pg_name (i := 4) C.nd rfl (by first | exact .inl rfl | exact .inr rfl) (by first | exact .inr rfl | exact .inl rfl))) rfl rfl rfl)
  (ss_cons (s_asg (p_bin (op := .add) C (k_int C) (c_call c__law_next C rfl rfl hr rfl (aw_cons (k_var 3 rfl (by first | exact .inl rfl | exact .inr (.inl rfl) | exact .inr (.inr rfl)) rfl rfl) (aw_cons (c_call c__law_one C rfl rfl hr rfl (aw_cons (k_var 3 rfl (by first | exact .inl rfl | exact .inr (.inl rfl) | exact .inr (.inr rfl)) rfl rfl) (aw_cons (p_lst C (a_cons (k_int C) (a_cons (p_bin (op := .pow) C (k_int C) (k_int C)) a_nil rfl) rfl)) aw_nil rfl) rfl) rfl rfl rfl) aw_nil rfl) rfl) rfl rfl rfl)) (tg_nm (pg_name (i := 5) C.nd rfl (by first | exact .inl rfl | exact .inr rfl) (by first | exact .inr rfl | exact .inl rfl))) rfl rfl rfl)
  (ss_cons (s_asg (c_call c__law_next C rfl rfl hr rfl (aw_cons (k_var 3 rfl (by first | exact .inl rfl | exact .inr (.inl rfl) | exact .inr (.inr rfl)) rfl rfl) (aw_cons (c_call c__law_one C rfl rfl hr rfl (aw_cons (k_var 3 rfl (by first | exact .inl rfl | exact .inr (.inl rfl) | exact .inr (.inr rfl)) rfl rfl) (aw_cons (p_lst C (a_cons (k_int C) (a_cons (p_bin (op := .pow) C (k_int C) (k_int C)) a_nil rfl) rfl)) aw_nil rfl) rfl) rfl rfl rfl) aw_nil rfl) rfl) rfl rfl rfl) (tg_nm (pg_name (i := 6) C.nd rfl (by first | exact .inl rfl | exact .inr rfl) (by first | exact .inr rfl | exact .inl rfl))) rfl rfl rfl)
  (ss_cons (s_asg (p_mkK ik_Row_2_phase C rfl rfl rfl hr1 rfl (pf_cons (k_var 4 rfl (by first | exact .inl rfl | exact .inr (.inl rfl) | exact .inr (.inr rfl)) rfl rfl) (pf_cons (k_var 5 rfl (by first | exact .inl rfl | exact .inr (.inl rfl) | exact .inr (.inr rfl)) rfl rfl) pf_nil rfl) rfl) (kf_cons (k_var 6 rfl (by first | exact .inl rfl | exact .inr (.inl rfl) | exact .inr (.inr rfl)) rfl rfl) kf_nil) rfl rfl rfl rfl rfl) (tg_nm (pg_name (i := 7) C.nd rfl (by first | exact .inl rfl | exact .inr rfl) (by first | exact .inr rfl | exact .inl rfl))) rfl rfl rfl)
  (ss_cons (s_asgO (i := 8) C rfl (by first | exact .inl rfl | exact .inr rfl) (p_lst C (a_cons (p_bin (op := .add) C (p_bin (op := .add) C (p_bin (op := .add) C (k_str C) (k_strI (k_var 5 rfl (by first | exact .inl rfl | exact .inr (.inl rfl) | exact .inr (.inr rfl)) rfl rfl) (T.z_str) rfl rfl)) (k_str C)) (k_strI (k_var 6 rfl (by first | exact .inl rfl | exact .inr (.inl rfl) | exact .inr (.inr rfl)) rfl rfl) (T.z_str) rfl rfl)) a_nil rfl)) rfl (by first | exact .inr rfl | exact .inl rfl))
  (ss_cons (s_for C PassesOwn.never (i_seq C (k_var 4 rfl (by first | exact .inl rfl | exact .inr (.inl rfl) | exact .inr (.inr rfl)) rfl rfl)) (tg_nm (pg_name (i := 9) C.nd rfl (by first | exact .inl rfl | exact .inr rfl) (by first | exact .inr rfl | exact .inl rfl))) (ss_cons (s_app C (pe_var (i := 8) rfl (by first | exact .inl rfl | exact .inr (.inl rfl) | exact .inr (.inr rfl)) rfl rfl) (p_bin (op := .add) C (k_str C) (p_joinS C (p_comp C (i_seq C (k_var 9 rfl (by first | exact .inl rfl | exact .inr (.inl rfl) | exact .inr (.inr rfl)) rfl rfl)) (blkOk_by (own := [("_law_this", 12)]) rfl) (fun _ _ _ _ _ => (tg_nm (pg_name (i := 12) (C.blk _ _ _ _ _).nd rfl (by first | exact .inl rfl | exact .inr rfl) (by first | exact .inr rfl | exact .inl rfl)))) (fun _ _ _ _ _ => c_nil) (fun _ _ _ _ _ => (k_strI (k_var 12 rfl (by first | exact .inl rfl | exact .inr (.inl rfl) | exact .inr (.inr rfl)) rfl rfl) (T.z_str) rfl rfl)) (fun _ => rfl)) rfl rfl rfl)) rfl rfl rfl rfl)
  ss_nil) (fun _ => rfl))
  (ss_cons (s_asg (p_joinS C (k_var 8 rfl (by first | exact .inl rfl | exact .inr (.inl rfl) | exact .inr (.inr rfl)) rfl rfl) rfl rfl rfl) (tg_nm (pg_name (i := 10) C.nd rfl (by first | exact .inl rfl | exact .inr rfl) (by first | exact .inr rfl | exact .inl rfl))) rfl rfl rfl)
  (ss_cons (s_ite (PW.pt (w_or (t_cmp (op := .ne) C (c_call c_format_row C rfl rfl hr rfl (aw_cons (k_var 7 rfl (by first | exact .inl rfl | exact .inr (.inl rfl) | exact .inr (.inr rfl)) rfl rfl) aw_nil rfl) rfl rfl rfl) (k_var 10 rfl (by first | exact .inl rfl | exact .inr (.inl rfl) | exact .inr (.inr rfl)) rfl rfl) rfl) (w_or1 (t_cmp (op := .ne) C (c_callK0 ck_format_row_0_row C rfl rfl hr rfl (kf_cons (k_var 7 rfl (by first | exact .inl rfl | exact .inr (.inl rfl) | exact .inr (.inr rfl)) rfl rfl) kf_nil) rfl rfl rfl rfl) (k_var 10 rfl (by first | exact .inl rfl | exact .inr (.inl rfl) | exact .inr (.inr rfl)) rfl rfl) rfl)))) (ss_cons (s_ret (k_bl C))
  ss_nil) ss_nil)
  (ss_cons (s_ite (PW.pt (w_or (t_ownNe T.x_Row m_Row___eq__ T.ne_Row C rfl hr1 (c_call c_parse_row C rfl rfl hr rfl (aw_cons (k_var 10 rfl (by first | exact .inl rfl | exact .inr (.inl rfl) | exact .inr (.inr rfl)) rfl rfl) aw_nil rfl) rfl rfl rfl) (k_var 7 rfl (by first | exact .inl rfl | exact .inr (.inl rfl) | exact .inr (.inr rfl)) rfl rfl) rfl) (w_or1 (t_ownNe T.x_Row m_Row___eq__ T.ne_Row C rfl hr1 (c_callK0 ck_parse_row_0_text C rfl rfl hr rfl (kf_cons (k_var 10 rfl (by first | exact .inl rfl | exact .inr (.inl rfl) | exact .inr (.inr rfl)) rfl rfl) kf_nil) rfl rfl rfl rfl) (k_var 7 rfl (by first | exact .inl rfl | exact .inr (.inl rfl) | exact .inr (.inr rfl)) rfl rfl) rfl)))) (ss_cons (s_ret (k_bl C))
  ss_nil) ss_nil)
  (ss_cons (s_asg (c_call c_parse_row C rfl rfl hr rfl (aw_cons (k_var 10 rfl (by first | exact .inl rfl | exact .inr (.inl rfl) | exact .inr (.inr rfl)) rfl rfl) aw_nil rfl) rfl rfl rfl) (tg_nm (pg_name (i := 11) C.nd rfl (by first | exact .inl rfl | exact .inr rfl) (by first | exact .inr rfl | exact .inl rfl))) rfl rfl rfl)
  (ss_cons (s_ite (t_cmp (op := .ne) C (p_tup C (a_cons (p_meth0 m_Row_breaker_list C rfl hr (k_var 11 rfl (by first | exact .inl rfl | exact .inr (.inl rfl) | exact .inr (.inr rfl)) rfl rfl) rfl) (a_cons (p_meth0 m_Row_step_length C rfl hr (k_var 11 rfl (by first | exact .inl rfl | exact .inr (.inl rfl) | exact .inr (.inr rfl)) rfl rfl) rfl) (a_cons (p_meth0 m_Row_phase_time C rfl hr (k_var 11 rfl (by first | exact .inl rfl | exact .inr (.inl rfl) | exact .inr (.inr rfl)) rfl rfl) rfl) a_nil rfl) rfl) rfl)) (p_tup C (a_cons (k_var 4 rfl (by first | exact .inl rfl | exact .inr (.inl rfl) | exact .inr (.inr rfl)) rfl rfl) (a_cons (k_var 5 rfl (by first | exact .inl rfl | exact .inr (.inl rfl) | exact .inr (.inr rfl)) rfl rfl) (a_cons (k_var 6 rfl (by first | exact .inl rfl | exact .inr (.inl rfl) | exact .inr (.inr rfl)) rfl rfl) a_nil rfl) rfl) rfl)) rfl) (ss_cons (s_ret (k_bl C))
  ss_nil) ss_nil)
  (ss_cons (s_ite (PW.pt (w_or (t_not (t_val C (c_call c__law_outages_right C rfl rfl hr rfl (aw_cons (k_var 3 rfl (by first | exact .inl rfl | exact .inr (.inl rfl) | exact .inr (.inr rfl)) rfl rfl) aw_nil rfl) rfl rfl rfl) (fun _ => rfl))) (w_or1 (t_not (t_val C (c_call c__law_same_right C rfl rfl hr rfl (aw_cons (k_var 7 rfl (by first | exact .inl rfl | exact .inr (.inl rfl) | exact .inr (.inr rfl)) rfl rfl) (aw_cons (k_var 10 rfl (by first | exact .inl rfl | exact .inr (.inl rfl) | exact .inr (.inr rfl)) rfl rfl) (aw_cons (k_var 1 rfl (by first | exact .inl rfl | exact .inr (.inl rfl) | exact .inr (.inr rfl)) rfl rfl) aw_nil rfl) rfl) rfl) rfl rfl rfl) (fun _ => rfl)))))) (ss_cons (s_ret (k_bl C))
  ss_nil) ss_nil)
  (ss_cons (s_asgO (i := 1) C rfl (by first | exact .inl rfl | exact .inr rfl) (k_var 10 rfl (by first | exact .inl rfl | exact .inr (.inl rfl) | exact .inr (.inr rfl)) rfl rfl) rfl (by first | exact .inr rfl | exact .inl rfl))
  ss_nil)))))))))))))) (fun _ => rfl))
  (ss_cons (s_ret (k_bl C))
  ss_nil)))
end
theorem all_mk {l : PySem.W.OpenLaw} {w : World} {K : PySem.W.Frag} {h : Heap} {mg : Str → Option Value} {fa C1 C8 C9 C13 C17 : Addr} (X : K.In h) (G : h.Ns mainGlobals mg) (hfa : mg "law" = some (.ref fa))
    {f0 : Addr} {od0 an0 : Option Addr} {sl0 : Array (Option Value)} {oc0 kV0 dc0 pm0 cd0 ct0 : Value}
    {f1 : Addr} {od1 an1 : Option Addr} {sl1 : Array (Option Value)} {oc1 kV1 dc1 pm1 cd1 ct1 : Value}
    {f2 : Addr} {od2 an2 : Option Addr} {sl2 : Array (Option Value)} {oc2 kV2 dc2 pm2 cd2 ct2 : Value}
    {f3 : Addr} {od3 an3 : Option Addr} {sl3 : Array (Option Value)} {oc3 kV3 dc3 pm3 cd3 ct3 : Value}
    {f4 : Addr} {od4 an4 : Option Addr} {sl4 : Array (Option Value)} {oc4 kV4 dc4 pm4 cd4 ct4 : Value}
    {f5 : Addr} {od5 an5 : Option Addr} {sl5 : Array (Option Value)} {oc5 kV5 dc5 pm5 cd5 ct5 : Value}
    {f6 : Addr} {od6 an6 : Option Addr} {sl6 : Array (Option Value)} {oc6 kV6 dc6 pm6 cd6 ct6 : Value}
    {f7 : Addr} {od7 an7 : Option Addr} {sl7 : Array (Option Value)} {oc7 kV7 dc7 pm7 cd7 ct7 : Value}
    {f8 : Addr} {od8 an8 : Option Addr} {sl8 : Array (Option Value)} {oc8 kV8 dc8 pm8 cd8 ct8 : Value}
    {f9 D9 : Addr} {od9 an9 : Option Addr} {sl9 : Array (Option Value)} {oc9 dc9 pm9 cd9 ct9 : Value}
    {t9 : Tok}
    {f10 : Addr} {od10 an10 : Option Addr} {sl10 : Array (Option Value)} {oc10 kV10 dc10 pm10 cd10 ct10 : Value}
    {f11 : Addr} {od11 an11 : Option Addr} {sl11 : Array (Option Value)} {oc11 kV11 dc11 pm11 cd11 ct11 : Value}
    {f12 : Addr} {od12 an12 : Option Addr} {sl12 : Array (Option Value)} {oc12 kV12 dc12 pm12 cd12 ct12 : Value}
    {f13 : Addr} {od13 an13 : Option Addr} {sl13 : Array (Option Value)} {oc13 kV13 dc13 pm13 cd13 ct13 : Value}
    {f14 : Addr} {od14 an14 : Option Addr} {sl14 : Array (Option Value)} {oc14 kV14 dc14 pm14 cd14 ct14 : Value}
    {f15 : Addr} {od15 an15 : Option Addr} {sl15 : Array (Option Value)} {oc15 kV15 dc15 pm15 cd15 ct15 : Value}
    {f16 : Addr} {od16 an16 : Option Addr} {sl16 : Array (Option Value)} {oc16 kV16 dc16 pm16 cd16 ct16 : Value}
    {f17 : Addr} {od17 an17 : Option Addr} {sl17 : Array (Option Value)} {oc17 kV17 dc17 pm17 cd17 ct17 : Value}
    {f18 : Addr} {od18 an18 : Option Addr} {sl18 : Array (Option Value)} {oc18 kV18 dc18 pm18 cd18 ct18 : Value}
    {f19 : Addr} {od19 an19 : Option Addr} {sl19 : Array (Option Value)} {oc19 kV19 dc19 pm19 cd19 ct19 : Value}
    {f20 : Addr} {od20 an20 : Option Addr} {sl20 : Array (Option Value)} {oc20 kV20 dc20 pm20 cd20 ct20 : Value}
    {f21 : Addr} {od21 an21 : Option Addr} {sl21 : Array (Option Value)} {oc21 kV21 dc21 pm21 cd21 ct21 : Value}
    {f22 : Addr} {od22 an22 : Option Addr} {sl22 : Array (Option Value)} {oc22 kV22 dc22 pm22 cd22 ct22 : Value}
    {f23 : Addr} {od23 an23 : Option Addr} {sl23 : Array (Option Value)} {oc23 kV23 dc23 pm23 cd23 ct23 : Value}
    {f24 : Addr} {od24 an24 : Option Addr} {sl24 : Array (Option Value)} {oc24 kV24 dc24 pm24 cd24 ct24 : Value}
    {f25 : Addr} {od25 an25 : Option Addr} {sl25 : Array (Option Value)} {oc25 kV25 dc25 pm25 cd25 ct25 : Value}
    {f26 : Addr} {od26 an26 : Option Addr} {sl26 : Array (Option Value)} {oc26 kV26 dc26 pm26 cd26 ct26 : Value}
    {f27 : Addr} {od27 an27 : Option Addr} {sl27 : Array (Option Value)} {oc27 kV27 dc27 pm27 cd27 ct27 : Value}
    {f28 : Addr} {od28 an28 : Option Addr} {sl28 : Array (Option Value)} {oc28 kV28 dc28 pm28 cd28 ct28 : Value}
    {f29 D29 : Addr} {od29 an29 : Option Addr} {sl29 : Array (Option Value)} {oc29 dc29 pm29 cd29 ct29 : Value}
    {t29 : Tok}
    {f30 : Addr} {od30 an30 : Option Addr} {sl30 : Array (Option Value)} {oc30 kV30 dc30 pm30 cd30 ct30 : Value}
    {f31 : Addr} {od31 an31 : Option Addr} {sl31 : Array (Option Value)} {oc31 kV31 dc31 pm31 cd31 ct31 : Value}
    {f32 : Addr} {od32 an32 : Option Addr} {sl32 : Array (Option Value)} {oc32 kV32 dc32 pm32 cd32 ct32 : Value}
    {f33 : Addr} {od33 an33 : Option Addr} {sl33 : Array (Option Value)} {oc33 kV33 dc33 pm33 cd33 ct33 : Value}
    {f34 : Addr} {od34 an34 : Option Addr} {sl34 : Array (Option Value)} {oc34 kV34 dc34 pm34 cd34 ct34 : Value}
    {t_MOST_BREAKERS : _}
    {t_MOST_COUNT : _}
    {t_MOST_WAIT : _}
    {t_MOST_OUTAGES : _}
    {t_MOST_END : _}
    (aC1 : PySem.W.nsIn K mainGlobals "Row" = some (some (.ref C1)))
    (aC8 : PySem.W.nsIn K mainGlobals "BreakerError" = some (some (.ref C8)))
    (aC9 : PySem.W.nsIn K mainGlobals "InvalidRow" = some (some (.ref C9)))
    (aC13 : PySem.W.nsIn K mainGlobals "InvalidIndex" = some (some (.ref C13)))
    (aC17 : PySem.W.nsIn K mainGlobals "InvalidText" = some (some (.ref C17)))
    (a0 : PySem.W.nsIn K mainGlobals "_law_cell_at" = some (some (.ref f0)))
    (l0 : K.lookup f0 = some ⟨oc0, od0, .func (PySem.W.fnOf "_law_cell_at" "_law_cell_at" (defArgs s__law_cell_at) (defBody s__law_cell_at) (defScope s__law_cell_at) .none (kV0) dc0 pm0 an0 cd0 ct0), sl0⟩)
    (e0 : PySem.W.codeIn K cd0 "_law_cell_at" = true)
    (k0 : PySem.W.keepIn K (.ref f0) = true)
    (a1 : PySem.W.nsIn K mainGlobals "_law_source_of" = some (some (.ref f1)))
    (l1 : K.lookup f1 = some ⟨oc1, od1, .func (PySem.W.fnOf "_law_source_of" "_law_source_of" (defArgs s__law_source_of) (defBody s__law_source_of) (defScope s__law_source_of) .none (kV1) dc1 pm1 an1 cd1 ct1), sl1⟩)
    (e1 : PySem.W.codeIn K cd1 "_law_source_of" = true)
    (k1 : PySem.W.keepIn K (.ref f1) = true)
    (a2 : PySem.W.nsIn K mainGlobals "_law_next" = some (some (.ref f2)))
    (l2 : K.lookup f2 = some ⟨oc2, od2, .func (PySem.W.fnOf "_law_next" "_law_next" (defArgs s__law_next) (defBody s__law_next) (defScope s__law_next) .none (kV2) dc2 pm2 an2 cd2 ct2), sl2⟩)
    (e2 : PySem.W.codeIn K cd2 "_law_next" = true)
    (k2 : PySem.W.keepIn K (.ref f2) = true)
    (a3 : PySem.W.nsIn K mainGlobals "_law_one" = some (some (.ref f3)))
    (l3 : K.lookup f3 = some ⟨oc3, od3, .func (PySem.W.fnOf "_law_one" "_law_one" (defArgs s__law_one) (defBody s__law_one) (defScope s__law_one) .none (kV3) dc3 pm3 an3 cd3 ct3), sl3⟩)
    (e3 : PySem.W.codeIn K cd3 "_law_one" = true)
    (k3 : PySem.W.keepIn K (.ref f3) = true)
    (a4 : PySem.W.nsIn K mainGlobals "_law_specs" = some (some (.ref f4)))
    (l4 : K.lookup f4 = some ⟨oc4, od4, .func (PySem.W.fnOf "_law_specs" "_law_specs" (defArgs s__law_specs) (defBody s__law_specs) (defScope s__law_specs) .none (kV4) dc4 pm4 an4 cd4 ct4), sl4⟩)
    (e4 : PySem.W.codeIn K cd4 "_law_specs" = true)
    (k4 : PySem.W.keepIn K (.ref f4) = true)
    (a5 : PySem.W.nsIn K mainGlobals "is_integer" = some (some (.ref f5)))
    (l5 : K.lookup f5 = some ⟨oc5, od5, .func (PySem.W.fnOf "is_integer" "is_integer" (defArgs s_is_integer) (defBody s_is_integer) (defScope s_is_integer) .none (kV5) dc5 pm5 an5 cd5 ct5), sl5⟩)
    (e5 : PySem.W.codeIn K cd5 "is_integer" = true)
    (k5 : PySem.W.keepIn K (.ref f5) = true)
    (a6 : PySem.W.nsIn K mainGlobals "is_between" = some (some (.ref f6)))
    (l6 : K.lookup f6 = some ⟨oc6, od6, .func (PySem.W.fnOf "is_between" "is_between" (defArgs s_is_between) (defBody s_is_between) (defScope s_is_between) .none (kV6) dc6 pm6 an6 cd6 ct6), sl6⟩)
    (e6 : PySem.W.codeIn K cd6 "is_between" = true)
    (k6 : PySem.W.keepIn K (.ref f6) = true)
    (a7 : PySem.W.nsIn K mainGlobals "is_breaker" = some (some (.ref f7)))
    (l7 : K.lookup f7 = some ⟨oc7, od7, .func (PySem.W.fnOf "is_breaker" "is_breaker" (defArgs s_is_breaker) (defBody s_is_breaker) (defScope s_is_breaker) .none (kV7) dc7 pm7 an7 cd7 ct7), sl7⟩)
    (e7 : PySem.W.codeIn K cd7 "is_breaker" = true)
    (k7 : PySem.W.keepIn K (.ref f7) = true)
    (a8 : PySem.W.nsIn K mainGlobals "check_breakers" = some (some (.ref f8)))
    (l8 : K.lookup f8 = some ⟨oc8, od8, .func (PySem.W.fnOf "check_breakers" "check_breakers" (defArgs s_check_breakers) (defBody s_check_breakers) (defScope s_check_breakers) .none (kV8) dc8 pm8 an8 cd8 ct8), sl8⟩)
    (e8 : PySem.W.codeIn K cd8 "check_breakers" = true)
    (k8 : PySem.W.keepIn K (.ref f8) = true)
    (a9 : PySem.W.findIn K (.ref C1) "__init__" = some (some (.ref f9)))
    (i9 : PySem.W.isFn K (.ref f9) = true)
    (l9 : K.lookup f9 = some ⟨oc9, od9, .func (PySem.W.fnOf "__init__" "Row.__init__" (defArgs s_Row___init__) (defBody s_Row___init__) (defScope s_Row___init__) .none (.ref D9) dc9 pm9 an9 cd9 ct9), sl9⟩)
    (e9 : PySem.W.codeIn K cd9 "Row.__init__" = true)
    (k9 : PySem.W.keepIn K (.ref f9) = true)
    (d9 : PySem.W.nsIn K D9 "phase" = some (some (.int 0 t9)))
    (a10 : PySem.W.findIn K (.ref C1) "step_length" = some (some (.ref f10)))
    (i10 : PySem.W.isFn K (.ref f10) = true)
    (l10 : K.lookup f10 = some ⟨oc10, od10, .func (PySem.W.fnOf "step_length" "Row.step_length" (defArgs s_Row_step_length) (defBody s_Row_step_length) (defScope s_Row_step_length) .none (kV10) dc10 pm10 an10 cd10 ct10), sl10⟩)
    (e10 : PySem.W.codeIn K cd10 "Row.step_length" = true)
    (k10 : PySem.W.keepIn K (.ref f10) = true)
    (a11 : PySem.W.findIn K (.ref C1) "phase_time" = some (some (.ref f11)))
    (i11 : PySem.W.isFn K (.ref f11) = true)
    (l11 : K.lookup f11 = some ⟨oc11, od11, .func (PySem.W.fnOf "phase_time" "Row.phase_time" (defArgs s_Row_phase_time) (defBody s_Row_phase_time) (defScope s_Row_phase_time) .none (kV11) dc11 pm11 an11 cd11 ct11), sl11⟩)
    (e11 : PySem.W.codeIn K cd11 "Row.phase_time" = true)
    (k11 : PySem.W.keepIn K (.ref f11) = true)
    (a12 : PySem.W.findIn K (.ref C1) "breaker_list" = some (some (.ref f12)))
    (i12 : PySem.W.isFn K (.ref f12) = true)
    (l12 : K.lookup f12 = some ⟨oc12, od12, .func (PySem.W.fnOf "breaker_list" "Row.breaker_list" (defArgs s_Row_breaker_list) (defBody s_Row_breaker_list) (defScope s_Row_breaker_list) .none (kV12) dc12 pm12 an12 cd12 ct12), sl12⟩)
    (e12 : PySem.W.codeIn K cd12 "Row.breaker_list" = true)
    (k12 : PySem.W.keepIn K (.ref f12) = true)
    (a13 : PySem.W.nsIn K mainGlobals "format_row" = some (some (.ref f13)))
    (l13 : K.lookup f13 = some ⟨oc13, od13, .func (PySem.W.fnOf "format_row" "format_row" (defArgs s_format_row) (defBody s_format_row) (defScope s_format_row) .none (kV13) dc13 pm13 an13 cd13 ct13), sl13⟩)
    (e13 : PySem.W.codeIn K cd13 "format_row" = true)
    (k13 : PySem.W.keepIn K (.ref f13) = true)
    (a14 : PySem.W.nsIn K mainGlobals "is_number" = some (some (.ref f14)))
    (l14 : K.lookup f14 = some ⟨oc14, od14, .func (PySem.W.fnOf "is_number" "is_number" (defArgs s_is_number) (defBody s_is_number) (defScope s_is_number) .none (kV14) dc14 pm14 an14 cd14 ct14), sl14⟩)
    (e14 : PySem.W.codeIn K cd14 "is_number" = true)
    (k14 : PySem.W.keepIn K (.ref f14) = true)
    (a15 : PySem.W.nsIn K mainGlobals "value_of" = some (some (.ref f15)))
    (l15 : K.lookup f15 = some ⟨oc15, od15, .func (PySem.W.fnOf "value_of" "value_of" (defArgs s_value_of) (defBody s_value_of) (defScope s_value_of) .none (kV15) dc15 pm15 an15 cd15 ct15), sl15⟩)
    (e15 : PySem.W.codeIn K cd15 "value_of" = true)
    (k15 : PySem.W.keepIn K (.ref f15) = true)
    (a16 : PySem.W.nsIn K mainGlobals "numbers_of" = some (some (.ref f16)))
    (l16 : K.lookup f16 = some ⟨oc16, od16, .func (PySem.W.fnOf "numbers_of" "numbers_of" (defArgs s_numbers_of) (defBody s_numbers_of) (defScope s_numbers_of) .none (kV16) dc16 pm16 an16 cd16 ct16), sl16⟩)
    (e16 : PySem.W.codeIn K cd16 "numbers_of" = true)
    (k16 : PySem.W.keepIn K (.ref f16) = true)
    (a17 : PySem.W.nsIn K mainGlobals "parse_row" = some (some (.ref f17)))
    (l17 : K.lookup f17 = some ⟨oc17, od17, .func (PySem.W.fnOf "parse_row" "parse_row" (defArgs s_parse_row) (defBody s_parse_row) (defScope s_parse_row) .none (kV17) dc17 pm17 an17 cd17 ct17), sl17⟩)
    (e17 : PySem.W.codeIn K cd17 "parse_row" = true)
    (k17 : PySem.W.keepIn K (.ref f17) = true)
    (a18 : PySem.W.findIn K (.ref C1) "facts" = some (some (.ref f18)))
    (i18 : PySem.W.isFn K (.ref f18) = true)
    (l18 : K.lookup f18 = some ⟨oc18, od18, .func (PySem.W.fnOf "facts" "Row.facts" (defArgs s_Row_facts) (defBody s_Row_facts) (defScope s_Row_facts) .none (kV18) dc18 pm18 an18 cd18 ct18), sl18⟩)
    (e18 : PySem.W.codeIn K cd18 "Row.facts" = true)
    (k18 : PySem.W.keepIn K (.ref f18) = true)
    (a19 : PySem.W.findIn K (.ref C1) "__eq__" = some (some (.ref f19)))
    (i19 : PySem.W.isFn K (.ref f19) = true)
    (l19 : K.lookup f19 = some ⟨oc19, od19, .func (PySem.W.fnOf "__eq__" "Row.__eq__" (defArgs s_Row___eq__) (defBody s_Row___eq__) (defScope s_Row___eq__) .none (kV19) dc19 pm19 an19 cd19 ct19), sl19⟩)
    (e19 : PySem.W.codeIn K cd19 "Row.__eq__" = true)
    (k19 : PySem.W.keepIn K (.ref f19) = true)
    (a20 : PySem.W.nsIn K mainGlobals "is_outage" = some (some (.ref f20)))
    (l20 : K.lookup f20 = some ⟨oc20, od20, .func (PySem.W.fnOf "is_outage" "is_outage" (defArgs s_is_outage) (defBody s_is_outage) (defScope s_is_outage) .none (kV20) dc20 pm20 an20 cd20 ct20), sl20⟩)
    (e20 : PySem.W.codeIn K cd20 "is_outage" = true)
    (k20 : PySem.W.keepIn K (.ref f20) = true)
    (a21 : PySem.W.nsIn K mainGlobals "check_outages" = some (some (.ref f21)))
    (l21 : K.lookup f21 = some ⟨oc21, od21, .func (PySem.W.fnOf "check_outages" "check_outages" (defArgs s_check_outages_r) (defBody s_check_outages_r) (defScope s_check_outages_r) .none (kV21) dc21 pm21 an21 cd21 ct21), sl21⟩)
    (e21 : PySem.W.codeIn K cd21 "check_outages" = true)
    (k21 : PySem.W.keepIn K (.ref f21) = true)
    (a22 : PySem.W.nsIn K mainGlobals "format_outages" = some (some (.ref f22)))
    (l22 : K.lookup f22 = some ⟨oc22, od22, .func (PySem.W.fnOf "format_outages" "format_outages" (defArgs s_format_outages) (defBody s_format_outages) (defScope s_format_outages) .none (kV22) dc22 pm22 an22 cd22 ct22), sl22⟩)
    (e22 : PySem.W.codeIn K cd22 "format_outages" = true)
    (k22 : PySem.W.keepIn K (.ref f22) = true)
    (a23 : PySem.W.nsIn K mainGlobals "parse_outages" = some (some (.ref f23)))
    (l23 : K.lookup f23 = some ⟨oc23, od23, .func (PySem.W.fnOf "parse_outages" "parse_outages" (defArgs s_parse_outages) (defBody s_parse_outages) (defScope s_parse_outages) .none (kV23) dc23 pm23 an23 cd23 ct23), sl23⟩)
    (e23 : PySem.W.codeIn K cd23 "parse_outages" = true)
    (k23 : PySem.W.keepIn K (.ref f23) = true)
    (a24 : PySem.W.nsIn K mainGlobals "_law_outages_right" = some (some (.ref f24)))
    (l24 : K.lookup f24 = some ⟨oc24, od24, .func (PySem.W.fnOf "_law_outages_right" "_law_outages_right" (defArgs s__law_outages_right) (defBody s__law_outages_right) (defScope s__law_outages_right) .none (kV24) dc24 pm24 an24 cd24 ct24), sl24⟩)
    (e24 : PySem.W.codeIn K cd24 "_law_outages_right" = true)
    (k24 : PySem.W.keepIn K (.ref f24) = true)
    (a25 : PySem.W.findIn K (.ref C17) "__init__" = some (some (.ref f25)))
    (i25 : PySem.W.isFn K (.ref f25) = true)
    (l25 : K.lookup f25 = some ⟨oc25, od25, .func (PySem.W.fnOf "__init__" "InvalidText.__init__" (defArgs s_InvalidText___init__) (defBody s_InvalidText___init__) (defScope s_InvalidText___init__) .none (kV25) dc25 pm25 an25 cd25 ct25), sl25⟩)
    (e25 : PySem.W.codeIn K cd25 "InvalidText.__init__" = true)
    (ti25 : PySem.W.typeIn K (.ref f25) = some (.type "function"))
    (k25 : PySem.W.keepIn K (.ref f25) = true)
    (a26 : PySem.W.nsIn K mainGlobals "numbers_of" = some (some (.ref f26)))
    (l26 : K.lookup f26 = some ⟨oc26, od26, .func (PySem.W.fnOf "numbers_of" "numbers_of" (defArgs s_numbers_of_x) (defBody s_numbers_of_x) (defScope s_numbers_of_x) .none (kV26) dc26 pm26 an26 cd26 ct26), sl26⟩)
    (e26 : PySem.W.codeIn K cd26 "numbers_of" = true)
    (k26 : PySem.W.keepIn K (.ref f26) = true)
    (a27 : PySem.W.findIn K (.ref C9) "__init__" = some (some (.ref f27)))
    (i27 : PySem.W.isFn K (.ref f27) = true)
    (l27 : K.lookup f27 = some ⟨oc27, od27, .func (PySem.W.fnOf "__init__" "InvalidRow.__init__" (defArgs s_InvalidRow___init__) (defBody s_InvalidRow___init__) (defScope s_InvalidRow___init__) .none (kV27) dc27 pm27 an27 cd27 ct27), sl27⟩)
    (e27 : PySem.W.codeIn K cd27 "InvalidRow.__init__" = true)
    (ti27 : PySem.W.typeIn K (.ref f27) = some (.type "function"))
    (k27 : PySem.W.keepIn K (.ref f27) = true)
    (a28 : PySem.W.nsIn K mainGlobals "check_breakers" = some (some (.ref f28)))
    (l28 : K.lookup f28 = some ⟨oc28, od28, .func (PySem.W.fnOf "check_breakers" "check_breakers" (defArgs s_check_breakers_x) (defBody s_check_breakers_x) (defScope s_check_breakers_x) .none (kV28) dc28 pm28 an28 cd28 ct28), sl28⟩)
    (e28 : PySem.W.codeIn K cd28 "check_breakers" = true)
    (k28 : PySem.W.keepIn K (.ref f28) = true)
    (a29 : PySem.W.findIn K (.ref C1) "__init__" = some (some (.ref f29)))
    (i29 : PySem.W.isFn K (.ref f29) = true)
    (l29 : K.lookup f29 = some ⟨oc29, od29, .func (PySem.W.fnOf "__init__" "Row.__init__" (defArgs s_Row___init___x) (defBody s_Row___init___x) (defScope s_Row___init___x) .none (.ref D29) dc29 pm29 an29 cd29 ct29), sl29⟩)
    (e29 : PySem.W.codeIn K cd29 "Row.__init__" = true)
    (k29 : PySem.W.keepIn K (.ref f29) = true)
    (d29 : PySem.W.nsIn K D29 "phase" = some (some (.int 0 t29)))
    (a30 : PySem.W.nsIn K mainGlobals "parse_row" = some (some (.ref f30)))
    (l30 : K.lookup f30 = some ⟨oc30, od30, .func (PySem.W.fnOf "parse_row" "parse_row" (defArgs s_parse_row_x) (defBody s_parse_row_x) (defScope s_parse_row_x) .none (kV30) dc30 pm30 an30 cd30 ct30), sl30⟩)
    (e30 : PySem.W.codeIn K cd30 "parse_row" = true)
    (k30 : PySem.W.keepIn K (.ref f30) = true)
    (a31 : PySem.W.nsIn K mainGlobals "row_of" = some (some (.ref f31)))
    (l31 : K.lookup f31 = some ⟨oc31, od31, .func (PySem.W.fnOf "row_of" "row_of" (defArgs s_row_of) (defBody s_row_of) (defScope s_row_of) .none (kV31) dc31 pm31 an31 cd31 ct31), sl31⟩)
    (e31 : PySem.W.codeIn K cd31 "row_of" = true)
    (k31 : PySem.W.keepIn K (.ref f31) = true)
    (a32 : PySem.W.nsIn K mainGlobals "same_text" = some (some (.ref f32)))
    (l32 : K.lookup f32 = some ⟨oc32, od32, .func (PySem.W.fnOf "same_text" "same_text" (defArgs s_same_text) (defBody s_same_text) (defScope s_same_text) .none (kV32) dc32 pm32 an32 cd32 ct32), sl32⟩)
    (e32 : PySem.W.codeIn K cd32 "same_text" = true)
    (k32 : PySem.W.keepIn K (.ref f32) = true)
    (a33 : PySem.W.nsIn K mainGlobals "_law_same_right" = some (some (.ref f33)))
    (l33 : K.lookup f33 = some ⟨oc33, od33, .func (PySem.W.fnOf "_law_same_right" "_law_same_right" (defArgs s__law_same_right) (defBody s__law_same_right) (defScope s__law_same_right) .none (kV33) dc33 pm33 an33 cd33 ct33), sl33⟩)
    (e33 : PySem.W.codeIn K cd33 "_law_same_right" = true)
    (k33 : PySem.W.keepIn K (.ref f33) = true)
    (a34 : PySem.W.nsIn K mainGlobals "law" = some (some (.ref f34)))
    (l34 : K.lookup f34 = some ⟨oc34, od34, .func (PySem.W.fnOf "law" "law" (defArgs s_law) (defBody s_law) (defScope s_law) .none (kV34) dc34 pm34 an34 cd34 ct34), sl34⟩)
    (e34 : PySem.W.codeIn K cd34 "law" = true)
    (k34 : PySem.W.keepIn K (.ref f34) = true)
    (z_all : PySem.W.nsIn K mainGlobals "all" = some none)
    (z_bool : PySem.W.nsIn K mainGlobals "bool" = some none)
    (z_enumerate : PySem.W.nsIn K mainGlobals "enumerate" = some none)
    (z_int : PySem.W.nsIn K mainGlobals "int" = some none)
    (z_isinstance : PySem.W.nsIn K mainGlobals "isinstance" = some none)
    (z_len : PySem.W.nsIn K mainGlobals "len" = some none)
    (z_list : PySem.W.nsIn K mainGlobals "list" = some none)
    (z_range : PySem.W.nsIn K mainGlobals "range" = some none)
    (z_str : PySem.W.nsIn K mainGlobals "str" = some none)
    (z_tuple : PySem.W.nsIn K mainGlobals "tuple" = some none)
    (g_MOST_BREAKERS : PySem.W.nsIn K mainGlobals "MOST_BREAKERS" = some (some (.int 12 t_MOST_BREAKERS)))
    (g_MOST_COUNT : PySem.W.nsIn K mainGlobals "MOST_COUNT" = some (some (.int 1000000000000 t_MOST_COUNT)))
    (g_MOST_WAIT : PySem.W.nsIn K mainGlobals "MOST_WAIT" = some (some (.int 1000000000000000000000000000000 t_MOST_WAIT)))
    (g_MOST_OUTAGES : PySem.W.nsIn K mainGlobals "MOST_OUTAGES" = some (some (.int 50 t_MOST_OUTAGES)))
    (g_MOST_END : PySem.W.nsIn K mainGlobals "MOST_END" = some (some (.int 1000000000000000000000000000000 t_MOST_END)))
    (pg1 : PySem.W.plainGet K C1 Str.empty = true)
    (hd1 : PySem.W.hasDictIn K C1 = true)
    (po1 : PySem.W.plainOver K C1 = true)
    (sa1 : PySem.W.findIn K (.ref C1) "__setattr__" = some (some (.builtin "object.__setattr__")))
    (ha1 : PySem.W.findIn K (.ref C1) "__class__" = some (some (.builtin "object.__class__")))
    (hn1 : PySem.W.specialIn K (.builtin "object.__class__") "__get__" = some (some (.builtin "getset_descriptor.__get__")))
    (ht1 : PySem.W.takesIn K (.builtin "object.__class__") = some true)
    (hm1 : PySem.W.mroIn K C1 (.type "object") = some true)
    (nf1_NoneType : PySem.W.subIn K (.type "NoneType") (.ref C1) = some false)
    (nf1_bool : PySem.W.subIn K (.type "bool") (.ref C1) = some false)
    (nf1_int : PySem.W.subIn K (.type "int") (.ref C1) = some false)
    (nf1_str : PySem.W.subIn K (.type "str") (.ref C1) = some false)
    (nf1_list : PySem.W.subIn K (.type "list") (.ref C1) = some false)
    (nf1_tuple : PySem.W.subIn K (.type "tuple") (.ref C1) = some false)
    (nf1_dict : PySem.W.subIn K (.type "dict") (.ref C1) = some false)
    (na_Row_specs : PySem.W.findIn K (.ref C1) "specs" = some none)
    (na_Row_pace : PySem.W.findIn K (.ref C1) "pace" = some none)
    (na_Row_shift : PySem.W.findIn K (.ref C1) "shift" = some none)
    (ic1 : PySem.W.isClsIn K C1 = true)
    (ty1 : PySem.W.typeIn K (.ref C1) = some (.type "type"))
    (ne_Row : PySem.W.findIn K (.ref C1) "__ne__" = some (some (.builtin "object.__ne__")))
    (sn1_str : PySem.W.subIn K (.ref C1) (.type "str") = some false)
    (qin17 : PySem.W.excInitIn K C17 aeT "ArithmeticError.__new__" = true)
    (qov17 : PySem.W.excOver K C17 aeT = true)
    (qhd17 : PySem.W.hasDictIn K C17 = true)
    (qsa17 : PySem.W.findIn K (.ref C17) "__setattr__" = some (some (.builtin "object.__setattr__")))
    (qsb17 : PySem.W.subIn K (.ref C17) (.type "BaseException") = some true)
    (qty17 : PySem.W.typeIn K (.ref C17) = some (.type "type"))
    (qkc17 : PySem.W.keepIn K (.ref C17) = true)
    (qtg8 : PySem.W.specialIn K (.ref C8) "__getattribute__" = some (some (.builtin "type.__getattribute__")))
    (qrd8 : PySem.W.readsIn K C8 (.type "type") = true)
    (qat8 : PySem.W.findCls K (.ref C8) (.type "type") "__init__" = some (.val (.builtin "ArithmeticError.__init__")))
    (tx_InvalidText_line : PySem.W.takerIn K C17 "line" = some none)
    (tx_InvalidText_word : PySem.W.takerIn K C17 "word" = some none)
    (qin9 : PySem.W.excInitIn K C9 aeT "ArithmeticError.__new__" = true)
    (qov9 : PySem.W.excOver K C9 aeT = true)
    (qhd9 : PySem.W.hasDictIn K C9 = true)
    (qsa9 : PySem.W.findIn K (.ref C9) "__setattr__" = some (some (.builtin "object.__setattr__")))
    (qsb9 : PySem.W.subIn K (.ref C9) (.type "BaseException") = some true)
    (qty9 : PySem.W.typeIn K (.ref C9) = some (.type "type"))
    (qkc9 : PySem.W.keepIn K (.ref C9) = true)
    (tx_InvalidRow_part : PySem.W.takerIn K C9 "part" = some none)
    (tx_InvalidRow_at : PySem.W.takerIn K C9 "at" = some none)
    (xm_InvalidIndex_BreakerError : PySem.W.exmOne K (.ref C13) (.ref C8) = some true)
    (xm_InvalidRow_BreakerError : PySem.W.exmOne K (.ref C9) (.ref C8) = some true)
    (xm_InvalidText_BreakerError : PySem.W.exmOne K (.ref C17) (.ref C8) = some true)
    (mk1 : PySem.W.makesIn K C1 = true)
    (kc1 : PySem.W.keepIn K (.ref C1) = true)
    : ∃ fd : FuncData, (∀ (s : Shared) (v : Value), BindsTo s fd ⟨[v], []⟩ [("_law_script", v)]) ∧ ∀ base : Heap, K.In base → base.Ns mainGlobals mg → FnOk l.prog w K mg base CX0 14 fa fd ["_law_script"] (spN K F_law) := by
  have e := hfa.symm.trans (PySem.W.mg_of X G a34)
  cases e
  have T : Txt ⟨K, clOf [0, C1, 0, 0, 0, 0, 0, 0, C8, C9, 0, 0, 0, C13, 0, 0, 0, C17, 0], [], none, []⟩ mg := ⟨rfl, PySem.W.mg_none_of X G z_all, PySem.W.mg_none_of X G z_bool, PySem.W.mg_none_of X G z_enumerate, PySem.W.mg_none_of X G z_int, PySem.W.mg_none_of X G z_isinstance, PySem.W.mg_none_of X G z_len, PySem.W.mg_none_of X G z_list, PySem.W.mg_none_of X G z_range, PySem.W.mg_none_of X G z_str, PySem.W.mg_none_of X G z_tuple, ⟨t_MOST_BREAKERS, PySem.W.mg_of X G g_MOST_BREAKERS⟩, ⟨t_MOST_COUNT, PySem.W.mg_of X G g_MOST_COUNT⟩, ⟨t_MOST_WAIT, PySem.W.mg_of X G g_MOST_WAIT⟩, ⟨t_MOST_OUTAGES, PySem.W.mg_of X G g_MOST_OUTAGES⟩, ⟨t_MOST_END, PySem.W.mg_of X G g_MOST_END⟩, ⟨⟨pg1, hd1, po1, sa1⟩, ha1, hn1, ht1, hm1, (all_cons nf1_NoneType (all_cons nf1_bool (all_cons nf1_int (all_cons nf1_str (all_cons nf1_list (all_cons nf1_tuple (all_cons nf1_dict (all_nil _))))))))⟩, na_Row_specs, na_Row_pace, na_Row_shift, kit_me, (all_cons (kit_pl ic1 ty1 rfl nf1_NoneType) (all_cons (kit_pl ic1 ty1 rfl nf1_bool) (all_cons (kit_pl ic1 ty1 rfl nf1_int) (all_cons (kit_pl ic1 ty1 rfl nf1_str) (all_cons (kit_pl ic1 ty1 rfl nf1_list) (all_cons (kit_pl ic1 ty1 rfl nf1_tuple) (all_cons (kit_pl ic1 ty1 rfl nf1_dict) (all_nil _)))))))), PySem.W.mg_of X G aC1, ne_Row, (kit_bt (by decide +kernel) rfl sn1_str), ⟨qin17, qov17, qhd17, qsa17, qsb17, qty17, qkc17⟩, ⟨qtg8, qrd8, qat8⟩, PySem.W.mg_of X G aC8, PySem.W.mg_of X G aC17, tx_InvalidText_line, tx_InvalidText_word, ⟨qin9, qov9, qhd9, qsa9, qsb9, qty9, qkc9⟩, PySem.W.mg_of X G aC9, tx_InvalidRow_part, tx_InvalidRow_at, xm_InvalidIndex_BreakerError, xm_InvalidRow_BreakerError, xm_InvalidText_BreakerError⟩
  refine ⟨PySem.W.fnOf "law" "law" (defArgs s_law) (defBody s_law) (defScope s_law) .none kV34 dc34 pm34 an34 cd34 ct34, fun s v => .of_eq rfl, fun base _ _ => ?_⟩
  have F0 := fun_mk (st := s__law_cell_at) l0 e0 k0
  have G0 := ok__law_cell_at (P := l.prog) (w := w) (base := base) (g := ⟨K, clOf [0, C1, 0, 0, 0, 0, 0, 0, C8, C9, 0, 0, 0, C13, 0, 0, 0, C17, 0], [], none, []⟩) (k := 0) T F0 
  have F1 := fun_mk (st := s__law_source_of) l1 e1 k1
  have G1 := ok__law_source_of (P := l.prog) (w := w) (base := base) (g := ⟨K, clOf [0, C1, 0, 0, 0, 0, 0, 0, C8, C9, 0, 0, 0, C13, 0, 0, 0, C17, 0], [], none, []⟩) (k := 0) T F1 
  have F2 := fun_mk (st := s__law_next) l2 e2 k2
  have G2 := ok__law_next (P := l.prog) (w := w) (base := base) (g := ⟨K, clOf [0, C1, 0, 0, 0, 0, 0, 0, C8, C9, 0, 0, 0, C13, 0, 0, 0, C17, 0], [], none, []⟩) (k := 0) T F2 
  have h_c__law_next : Cal l.prog w mg base ⟨K, clOf [0, C1, 0, 0, 0, 0, 0, 0, C8, C9, 0, 0, 0, C13, 0, 0, 0, C17, 0], [], none, []⟩ 1 "_law_next" 2 F__law_next := ⟨_, _, _, PySem.W.mg_of X G a2, k2, (F2.binds (ps := ["_law_source", "_law_many"]) fun _ _ _ _ _ _ us hl => match us, hl with | [_, _], _ => rfl), G2⟩
  have F3 := fun_mk (st := s__law_one) l3 e3 k3
  have G3 := ok__law_one (P := l.prog) (w := w) (base := base) (g := ⟨K, clOf [0, C1, 0, 0, 0, 0, 0, 0, C8, C9, 0, 0, 0, C13, 0, 0, 0, C17, 0], [], none, []⟩) (k := 1) T F3 (h_c__law_next.mono (by decide))
  have h_c__law_one : Cal l.prog w mg base ⟨K, clOf [0, C1, 0, 0, 0, 0, 0, 0, C8, C9, 0, 0, 0, C13, 0, 0, 0, C17, 0], [], none, []⟩ 2 "_law_one" 2 F__law_one := ⟨_, _, _, PySem.W.mg_of X G a3, k3, (F3.binds (ps := ["_law_source", "_law_options"]) fun _ _ _ _ _ _ us hl => match us, hl with | [_, _], _ => rfl), G3⟩
  have F4 := fun_mk (st := s__law_specs) l4 e4 k4
  have G4 := ok__law_specs (P := l.prog) (w := w) (base := base) (g := ⟨K, clOf [0, C1, 0, 0, 0, 0, 0, 0, C8, C9, 0, 0, 0, C13, 0, 0, 0, C17, 0], [], none, []⟩) (k := 2) T F4 (h_c__law_next.mono (by decide)) (h_c__law_one.mono (by decide))
  have F5 := fun_mk (st := s_is_integer) l5 e5 k5
  have G5 := ok_is_integer (P := l.prog) (w := w) (base := base) (g := ⟨K, clOf [0, C1, 0, 0, 0, 0, 0, 0, C8, C9, 0, 0, 0, C13, 0, 0, 0, C17, 0], [], none, []⟩) (k := 0) T F5 
  have h_c_is_integer : Cal l.prog w mg base ⟨K, clOf [0, C1, 0, 0, 0, 0, 0, 0, C8, C9, 0, 0, 0, C13, 0, 0, 0, C17, 0], [], none, []⟩ 1 "is_integer" 1 F_is_integer := ⟨_, _, _, PySem.W.mg_of X G a5, k5, (F5.binds (ps := ["value"]) fun _ _ _ _ _ _ us hl => match us, hl with | [_], _ => rfl), G5⟩
  have F6 := fun_mk (st := s_is_between) l6 e6 k6
  have G6 := ok_is_between (P := l.prog) (w := w) (base := base) (g := ⟨K, clOf [0, C1, 0, 0, 0, 0, 0, 0, C8, C9, 0, 0, 0, C13, 0, 0, 0, C17, 0], [], none, []⟩) (k := 1) T F6 (h_c_is_integer.mono (by decide))
  have h_c_is_between : Cal l.prog w mg base ⟨K, clOf [0, C1, 0, 0, 0, 0, 0, 0, C8, C9, 0, 0, 0, C13, 0, 0, 0, C17, 0], [], none, []⟩ 2 "is_between" 3 F_is_between := ⟨_, _, _, PySem.W.mg_of X G a6, k6, (F6.binds (ps := ["value", "low", "high"]) fun _ _ _ _ _ _ us hl => match us, hl with | [_, _, _], _ => rfl), G6⟩
  have F7 := fun_mk (st := s_is_breaker) l7 e7 k7
  have G7 := ok_is_breaker (P := l.prog) (w := w) (base := base) (g := ⟨K, clOf [0, C1, 0, 0, 0, 0, 0, 0, C8, C9, 0, 0, 0, C13, 0, 0, 0, C17, 0], [], none, []⟩) (k := 2) T F7 (h_c_is_between.mono (by decide))
  have h_c_is_breaker : Cal l.prog w mg base ⟨K, clOf [0, C1, 0, 0, 0, 0, 0, 0, C8, C9, 0, 0, 0, C13, 0, 0, 0, C17, 0], [], none, []⟩ 3 "is_breaker" 1 F_is_breaker := ⟨_, _, _, PySem.W.mg_of X G a7, k7, (F7.binds (ps := ["value"]) fun _ _ _ _ _ _ us hl => match us, hl with | [_], _ => rfl), G7⟩
  have F8 := fun_mk (st := s_check_breakers) l8 e8 k8
  have G8 := ok_check_breakers (P := l.prog) (w := w) (base := base) (g := ⟨K, clOf [0, C1, 0, 0, 0, 0, 0, 0, C8, C9, 0, 0, 0, C13, 0, 0, 0, C17, 0], [], none, []⟩) (k := 3) T F8 (h_c_is_breaker.mono (by decide))
  have h_c_check_breakers : Cal l.prog w mg base ⟨K, clOf [0, C1, 0, 0, 0, 0, 0, 0, C8, C9, 0, 0, 0, C13, 0, 0, 0, C17, 0], [], none, []⟩ 4 "check_breakers" 1 F_check_breakers := ⟨_, _, _, PySem.W.mg_of X G a8, k8, (F8.binds (ps := ["breakers"]) fun _ _ _ _ _ _ us hl => match us, hl with | [_], _ => rfl), G8⟩
  have F9 := fund_mk (st := s_Row___init__) l9 e9 k9 d9
  have G9 := ok_Row___init__ (P := l.prog) (w := w) (base := base) (g := ⟨K, clOf [0, C1, 0, 0, 0, 0, 0, 0, C8, C9, 0, 0, 0, C13, 0, 0, 0, C17, 0], [], none, []⟩) (k := 4) T F9 (h_c_check_breakers.mono (by decide)) (h_c_is_between.mono (by decide))
  have F10 := fun_mk (st := s_Row_step_length) l10 e10 k10
  have G10 := ok_Row_step_length (P := l.prog) (w := w) (base := base) (g := ⟨K, clOf [0, C1, 0, 0, 0, 0, 0, 0, C8, C9, 0, 0, 0, C13, 0, 0, 0, C17, 0], [], none, []⟩) (k := 0) T F10 
  have F11 := fun_mk (st := s_Row_phase_time) l11 e11 k11
  have G11 := ok_Row_phase_time (P := l.prog) (w := w) (base := base) (g := ⟨K, clOf [0, C1, 0, 0, 0, 0, 0, 0, C8, C9, 0, 0, 0, C13, 0, 0, 0, C17, 0], [], none, []⟩) (k := 0) T F11 
  have F12 := fun_mk (st := s_Row_breaker_list) l12 e12 k12
  have G12 := ok_Row_breaker_list (P := l.prog) (w := w) (base := base) (g := ⟨K, clOf [0, C1, 0, 0, 0, 0, 0, 0, C8, C9, 0, 0, 0, C13, 0, 0, 0, C17, 0], [], none, []⟩) (k := 0) T F12 
  have h_m_Row_step_length : Mtd l.prog w mg base ⟨K, clOf [0, C1, 0, 0, 0, 0, 0, 0, C8, C9, 0, 0, 0, C13, 0, 0, 0, C17, 0], [], none, []⟩ 1 1 "step_length" 1 F_Row_step_length := ⟨_, _, _, T.x_Row.cl, ⟨a10, i10, k10⟩, (F10.binds (ps := ["self"]) fun _ _ _ _ _ _ us hl => match us, hl with | [_], _ => rfl), G10⟩
  have h_m_Row_phase_time : Mtd l.prog w mg base ⟨K, clOf [0, C1, 0, 0, 0, 0, 0, 0, C8, C9, 0, 0, 0, C13, 0, 0, 0, C17, 0], [], none, []⟩ 1 1 "phase_time" 1 F_Row_phase_time := ⟨_, _, _, T.x_Row.cl, ⟨a11, i11, k11⟩, (F11.binds (ps := ["self"]) fun _ _ _ _ _ _ us hl => match us, hl with | [_], _ => rfl), G11⟩
  have h_m_Row_breaker_list : Mtd l.prog w mg base ⟨K, clOf [0, C1, 0, 0, 0, 0, 0, 0, C8, C9, 0, 0, 0, C13, 0, 0, 0, C17, 0], [], none, []⟩ 1 1 "breaker_list" 1 F_Row_breaker_list := ⟨_, _, _, T.x_Row.cl, ⟨a12, i12, k12⟩, (F12.binds (ps := ["self"]) fun _ _ _ _ _ _ us hl => match us, hl with | [_], _ => rfl), G12⟩
  have F13 := fun_mk (st := s_format_row) l13 e13 k13
  have G13 := ok_format_row (P := l.prog) (w := w) (base := base) (g := ⟨K, clOf [0, C1, 0, 0, 0, 0, 0, 0, C8, C9, 0, 0, 0, C13, 0, 0, 0, C17, 0], [], none, []⟩) (k := 1) T F13 (h_m_Row_step_length.mono (by decide)) (h_m_Row_phase_time.mono (by decide)) (h_m_Row_breaker_list.mono (by decide))
  have F14 := fun_mk (st := s_is_number) l14 e14 k14
  have G14 := ok_is_number (P := l.prog) (w := w) (base := base) (g := ⟨K, clOf [0, C1, 0, 0, 0, 0, 0, 0, C8, C9, 0, 0, 0, C13, 0, 0, 0, C17, 0], [], none, []⟩) (k := 0) T F14 
  have F15 := fun_mk (st := s_value_of) l15 e15 k15
  have G15 := ok_value_of (P := l.prog) (w := w) (base := base) (g := ⟨K, clOf [0, C1, 0, 0, 0, 0, 0, 0, C8, C9, 0, 0, 0, C13, 0, 0, 0, C17, 0], [], none, []⟩) (k := 0) T F15 
  have h_c_is_number : Cal l.prog w mg base ⟨K, clOf [0, C1, 0, 0, 0, 0, 0, 0, C8, C9, 0, 0, 0, C13, 0, 0, 0, C17, 0], [], none, []⟩ 1 "is_number" 1 F_is_number := ⟨_, _, _, PySem.W.mg_of X G a14, k14, (F14.binds (ps := ["word"]) fun _ _ _ _ _ _ us hl => match us, hl with | [_], _ => rfl), G14⟩
  have h_c_value_of : Cal l.prog w mg base ⟨K, clOf [0, C1, 0, 0, 0, 0, 0, 0, C8, C9, 0, 0, 0, C13, 0, 0, 0, C17, 0], [], none, []⟩ 1 "value_of" 1 F_value_of := ⟨_, _, _, PySem.W.mg_of X G a15, k15, (F15.binds (ps := ["word"]) fun _ _ _ _ _ _ us hl => match us, hl with | [_], _ => rfl), G15⟩
  have F16 := fun_mk (st := s_numbers_of) l16 e16 k16
  have G16 := ok_numbers_of (P := l.prog) (w := w) (base := base) (g := ⟨K, clOf [0, C1, 0, 0, 0, 0, 0, 0, C8, C9, 0, 0, 0, C13, 0, 0, 0, C17, 0], [], none, []⟩) (k := 1) T F16 (h_c_is_number.mono (by decide)) (h_c_value_of.mono (by decide))
  have h_c_numbers_of : Cal l.prog w mg base ⟨K, clOf [0, C1, 0, 0, 0, 0, 0, 0, C8, C9, 0, 0, 0, C13, 0, 0, 0, C17, 0], [], none, []⟩ 2 "numbers_of" 4 F_numbers_of := ⟨_, _, _, PySem.W.mg_of X G a16, k16, (F16.binds (ps := ["line", "at", "name", "many"]) fun _ _ _ _ _ _ us hl => match us, hl with | [_, _, _, _], _ => rfl), G16⟩
  have h_ik_Row_2_phase : MkdK l.prog w mg base ⟨K, clOf [0, C1, 0, 0, 0, 0, 0, 0, C8, C9, 0, 0, 0, C13, 0, 0, 0, C17, 0], [], none, []⟩ 5 1 "Row" 2 ["phase"] [0, 1, 2] [] F_Row___init__ := mkdk_of (ms := []) F9 (by simp) (by simp) rfl (PySem.W.mg_of X G aC1) ⟨mk1, a9, i9, kc1⟩ rfl rfl G9 (fun _ _ _ _ _ _ us mv ws h1 h2 h3 => match us, mv, ws, h1, h2, h3 with | [_, _, _], [], [_], _, _, _ => rfl)
  have F17 := fun_mk (st := s_parse_row) l17 e17 k17
  have G17 := ok_parse_row (P := l.prog) (w := w) (base := base) (g := ⟨K, clOf [0, C1, 0, 0, 0, 0, 0, 0, C8, C9, 0, 0, 0, C13, 0, 0, 0, C17, 0], [], none, []⟩) (k := 5) T F17 (h_c_numbers_of.mono (by decide)) (h_ik_Row_2_phase.mono (by decide))
  have F18 := fun_mk (st := s_Row_facts) l18 e18 k18
  have G18 := ok_Row_facts (P := l.prog) (w := w) (base := base) (g := ⟨K, clOf [0, C1, 0, 0, 0, 0, 0, 0, C8, C9, 0, 0, 0, C13, 0, 0, 0, C17, 0], [], none, []⟩) (k := 0) T F18 
  have h_m_Row_facts : Mtd l.prog w mg base ⟨K, clOf [0, C1, 0, 0, 0, 0, 0, 0, C8, C9, 0, 0, 0, C13, 0, 0, 0, C17, 0], [], none, []⟩ 1 1 "facts" 1 F_Row_facts := ⟨_, _, _, T.x_Row.cl, ⟨a18, i18, k18⟩, (F18.binds (ps := ["self"]) fun _ _ _ _ _ _ us hl => match us, hl with | [_], _ => rfl), G18⟩
  have F19 := fun_mk (st := s_Row___eq__) l19 e19 k19
  have G19 := ok_Row___eq__ (P := l.prog) (w := w) (base := base) (g := ⟨K, clOf [0, C1, 0, 0, 0, 0, 0, 0, C8, C9, 0, 0, 0, C13, 0, 0, 0, C17, 0], [], none, []⟩) (k := 1) T F19 (h_m_Row_facts.mono (by decide))
  have F20 := fun_mk (st := s_is_outage) l20 e20 k20
  have G20 := ok_is_outage (P := l.prog) (w := w) (base := base) (g := ⟨K, clOf [0, C1, 0, 0, 0, 0, 0, 0, C8, C9, 0, 0, 0, C13, 0, 0, 0, C17, 0], [], none, []⟩) (k := 1) T F20 (h_c_is_integer.mono (by decide))
  have h_c_is_outage : Cal l.prog w mg base ⟨K, clOf [0, C1, 0, 0, 0, 0, 0, 0, C8, C9, 0, 0, 0, C13, 0, 0, 0, C17, 0], [], none, []⟩ 2 "is_outage" 2 F_is_outage := ⟨_, _, _, PySem.W.mg_of X G a20, k20, (F20.binds (ps := ["value", "low"]) fun _ _ _ _ _ _ us hl => match us, hl with | [_, _], _ => rfl), G20⟩
  have F21 := fun_mk (st := s_check_outages_r) l21 e21 k21
  have G21 := ok_check_outages_r (P := l.prog) (w := w) (base := base) (g := ⟨K, clOf [0, C1, 0, 0, 0, 0, 0, 0, C8, C9, 0, 0, 0, C13, 0, 0, 0, C17, 0], [], none, []⟩) (k := 2) T F21 (h_c_is_outage.mono (by decide))
  have h_c_check_outages_r : Cal l.prog w mg base ⟨K, clOf [0, C1, 0, 0, 0, 0, 0, 0, C8, C9, 0, 0, 0, C13, 0, 0, 0, C17, 0], [], none, []⟩ 3 "check_outages" 1 F_check_outages_r := ⟨_, _, _, PySem.W.mg_of X G a21, k21, (F21.binds (ps := ["outages"]) fun _ _ _ _ _ _ us hl => match us, hl with | [_], _ => rfl), G21⟩
  have F22 := fun_mk (st := s_format_outages) l22 e22 k22
  have G22 := ok_format_outages (P := l.prog) (w := w) (base := base) (g := ⟨K, clOf [0, C1, 0, 0, 0, 0, 0, 0, C8, C9, 0, 0, 0, C13, 0, 0, 0, C17, 0], [], none, []⟩) (k := 3) T F22 (h_c_check_outages_r.mono (by decide))
  have F23 := fun_mk (st := s_parse_outages) l23 e23 k23
  have G23 := ok_parse_outages (P := l.prog) (w := w) (base := base) (g := ⟨K, clOf [0, C1, 0, 0, 0, 0, 0, 0, C8, C9, 0, 0, 0, C13, 0, 0, 0, C17, 0], [], none, []⟩) (k := 3) T F23 (h_c_numbers_of.mono (by decide)) (h_c_check_outages_r.mono (by decide))
  have h_c_format_outages : Cal l.prog w mg base ⟨K, clOf [0, C1, 0, 0, 0, 0, 0, 0, C8, C9, 0, 0, 0, C13, 0, 0, 0, C17, 0], [], none, []⟩ 4 "format_outages" 1 F_format_outages := ⟨_, _, _, PySem.W.mg_of X G a22, k22, (F22.binds (ps := ["outages"]) fun _ _ _ _ _ _ us hl => match us, hl with | [_], _ => rfl), G22⟩
  have h_ck_format_outages_0_outages : CalK l.prog w mg base ⟨K, clOf [0, C1, 0, 0, 0, 0, 0, 0, C8, C9, 0, 0, 0, C13, 0, 0, 0, C17, 0], [], none, []⟩ 4 "format_outages" 0 ["outages"] [0] F_format_outages := calk_of F22 (PySem.W.mg_of X G a22) rfl G22 (fun _ _ _ _ _ _ us ws h1 h2 => match us, ws, h1, h2 with | [], [_], _, _ => rfl)
  have h_c_parse_outages : Cal l.prog w mg base ⟨K, clOf [0, C1, 0, 0, 0, 0, 0, 0, C8, C9, 0, 0, 0, C13, 0, 0, 0, C17, 0], [], none, []⟩ 4 "parse_outages" 1 F_parse_outages := ⟨_, _, _, PySem.W.mg_of X G a23, k23, (F23.binds (ps := ["text"]) fun _ _ _ _ _ _ us hl => match us, hl with | [_], _ => rfl), G23⟩
  have h_ck_parse_outages_0_text : CalK l.prog w mg base ⟨K, clOf [0, C1, 0, 0, 0, 0, 0, 0, C8, C9, 0, 0, 0, C13, 0, 0, 0, C17, 0], [], none, []⟩ 4 "parse_outages" 0 ["text"] [0] F_parse_outages := calk_of F23 (PySem.W.mg_of X G a23) rfl G23 (fun _ _ _ _ _ _ us ws h1 h2 => match us, ws, h1, h2 with | [], [_], _, _ => rfl)
  have F24 := fun_mk (st := s__law_outages_right) l24 e24 k24
  have G24 := ok__law_outages_right (P := l.prog) (w := w) (base := base) (g := ⟨K, clOf [0, C1, 0, 0, 0, 0, 0, 0, C8, C9, 0, 0, 0, C13, 0, 0, 0, C17, 0], [], none, []⟩) (k := 4) T F24 (h_c__law_next.mono (by decide)) (h_c__law_one.mono (by decide)) (h_c_format_outages.mono (by decide)) (h_ck_format_outages_0_outages.mono (by decide)) (h_c_parse_outages.mono (by decide)) (h_ck_parse_outages_0_text.mono (by decide))
  have F25 := fun_mk (st := s_InvalidText___init__) l25 e25 k25
  have G25 := ok_InvalidText___init__ (P := l.prog) (w := w) (base := base) (g := ⟨K, clOf [0, C1, 0, 0, 0, 0, 0, 0, C8, C9, 0, 0, 0, C13, 0, 0, 0, C17, 0], [], none, []⟩) (k := 0) T F25 
  have h_xc_InvalidText : XCls l.prog w mg base ⟨K, clOf [0, C1, 0, 0, 0, 0, 0, 0, C8, C9, 0, 0, 0, C13, 0, 0, 0, C17, 0], [], none, []⟩ 1 17 "InvalidText" ["line", "word"] := ⟨_, _, _, PySem.W.mg_of X G aC17, T.ax_InvalidText, a25, ti25, (F25.binds (ps := ["self", "line", "word"]) fun _ _ _ _ _ _ us hl => match us, hl with | [_, _, _], _ => rfl), G25⟩
  have F26 := fun_mk (st := s_numbers_of_x) l26 e26 k26
  have G26 := ok_numbers_of_x (P := l.prog) (w := w) (base := base) (g := ⟨K, clOf [0, C1, 0, 0, 0, 0, 0, 0, C8, C9, 0, 0, 0, C13, 0, 0, 0, C17, 0], [], none, []⟩) (k := 1) T F26 (h_xc_InvalidText.mono (by decide)) (h_c_is_number.mono (by decide)) (h_c_value_of.mono (by decide))
  have F27 := fun_mk (st := s_InvalidRow___init__) l27 e27 k27
  have G27 := ok_InvalidRow___init__ (P := l.prog) (w := w) (base := base) (g := ⟨K, clOf [0, C1, 0, 0, 0, 0, 0, 0, C8, C9, 0, 0, 0, C13, 0, 0, 0, C17, 0], [], none, []⟩) (k := 0) T F27 
  have h_xc_InvalidRow : XCls l.prog w mg base ⟨K, clOf [0, C1, 0, 0, 0, 0, 0, 0, C8, C9, 0, 0, 0, C13, 0, 0, 0, C17, 0], [], none, []⟩ 1 9 "InvalidRow" ["part", "at"] := ⟨_, _, _, PySem.W.mg_of X G aC9, T.ax_InvalidRow, a27, ti27, (F27.binds (ps := ["self", "part", "at"]) fun _ _ _ _ _ _ us hl => match us, hl with | [_, _, _], _ => rfl), G27⟩
  have F28 := fun_mk (st := s_check_breakers_x) l28 e28 k28
  have G28 := ok_check_breakers_x (P := l.prog) (w := w) (base := base) (g := ⟨K, clOf [0, C1, 0, 0, 0, 0, 0, 0, C8, C9, 0, 0, 0, C13, 0, 0, 0, C17, 0], [], none, []⟩) (k := 3) T F28 (h_xc_InvalidRow.mono (by decide)) (h_c_is_breaker.mono (by decide))
  have h_cx_check_breakers_x : CalX l.prog w mg base ⟨K, clOf [0, C1, 0, 0, 0, 0, 0, 0, C8, C9, 0, 0, 0, C13, 0, 0, 0, C17, 0], [], none, []⟩ 5 "check_breakers" 1 F_check_breakers_x := ⟨_, _, _, PySem.W.mg_of X G a28, k28, (F28.binds (ps := ["breakers"]) fun _ _ _ _ _ _ us hl => match us, hl with | [_], _ => rfl), G28⟩
  have F29 := fund_mk (st := s_Row___init___x) l29 e29 k29 d29
  have G29 := ok_Row___init___x (P := l.prog) (w := w) (base := base) (g := ⟨K, clOf [0, C1, 0, 0, 0, 0, 0, 0, C8, C9, 0, 0, 0, C13, 0, 0, 0, C17, 0], [], none, []⟩) (k := 5) T F29 (h_cx_check_breakers_x.mono (by decide)) (h_c_is_between.mono (by decide)) (h_xc_InvalidRow.mono (by decide))
  have h_cx_numbers_of_x : CalX l.prog w mg base ⟨K, clOf [0, C1, 0, 0, 0, 0, 0, 0, C8, C9, 0, 0, 0, C13, 0, 0, 0, C17, 0], [], none, []⟩ 3 "numbers_of" 4 F_numbers_of_x := ⟨_, _, _, PySem.W.mg_of X G a26, k26, (F26.binds (ps := ["line", "at", "name", "many"]) fun _ _ _ _ _ _ us hl => match us, hl with | [_, _, _, _], _ => rfl), G26⟩
  have h_ik_Row_2_phase_x : MkdKX l.prog w mg base ⟨K, clOf [0, C1, 0, 0, 0, 0, 0, 0, C8, C9, 0, 0, 0, C13, 0, 0, 0, C17, 0], [], none, []⟩ 7 1 "Row" 2 ["phase"] [0, 1, 2] [] F_Row___init___x := mkdkx_of (ms := []) F29 (by simp) (by simp) rfl (PySem.W.mg_of X G aC1) ⟨mk1, a29, i29, kc1⟩ rfl rfl G29 (fun _ _ _ _ _ _ us mv ws h1 h2 h3 => match us, mv, ws, h1, h2, h3 with | [_, _, _], [], [_], _, _, _ => rfl)
  have F30 := fun_mk (st := s_parse_row_x) l30 e30 k30
  have G30 := ok_parse_row_x (P := l.prog) (w := w) (base := base) (g := ⟨K, clOf [0, C1, 0, 0, 0, 0, 0, 0, C8, C9, 0, 0, 0, C13, 0, 0, 0, C17, 0], [], none, []⟩) (k := 7) T F30 (h_xc_InvalidText.mono (by decide)) (h_cx_numbers_of_x.mono (by decide)) (h_ik_Row_2_phase_x.mono (by decide))
  have h_cx_parse_row_x : CalX l.prog w mg base ⟨K, clOf [0, C1, 0, 0, 0, 0, 0, 0, C8, C9, 0, 0, 0, C13, 0, 0, 0, C17, 0], [], none, []⟩ 9 "parse_row" 1 F_parse_row_x := ⟨_, _, _, PySem.W.mg_of X G a30, k30, (F30.binds (ps := ["text"]) fun _ _ _ _ _ _ us hl => match us, hl with | [_], _ => rfl), G30⟩
  have F31 := fun_mk (st := s_row_of) l31 e31 k31
  have G31 := ok_row_of (P := l.prog) (w := w) (base := base) (g := ⟨K, clOf [0, C1, 0, 0, 0, 0, 0, 0, C8, C9, 0, 0, 0, C13, 0, 0, 0, C17, 0], [], none, []⟩) (k := 9) T F31 (h_cx_parse_row_x.mono (by decide))
  have h_c_row_of : Cal l.prog w mg base ⟨K, clOf [0, C1, 0, 0, 0, 0, 0, 0, C8, C9, 0, 0, 0, C13, 0, 0, 0, C17, 0], [], none, []⟩ 10 "row_of" 1 F_row_of := ⟨_, _, _, PySem.W.mg_of X G a31, k31, (F31.binds (ps := ["text"]) fun _ _ _ _ _ _ us hl => match us, hl with | [_], _ => rfl), G31⟩
  have h_m_Row___eq__ : Mtd l.prog w mg base ⟨K, clOf [0, C1, 0, 0, 0, 0, 0, 0, C8, C9, 0, 0, 0, C13, 0, 0, 0, C17, 0], [], none, []⟩ 2 1 "__eq__" 2 F_Row___eq__ := ⟨_, _, _, T.x_Row.cl, ⟨a19, i19, k19⟩, (F19.binds (ps := ["self", "other"]) fun _ _ _ _ _ _ us hl => match us, hl with | [_, _], _ => rfl), G19⟩
  have F32 := fun_mk (st := s_same_text) l32 e32 k32
  have G32 := ok_same_text (P := l.prog) (w := w) (base := base) (g := ⟨K, clOf [0, C1, 0, 0, 0, 0, 0, 0, C8, C9, 0, 0, 0, C13, 0, 0, 0, C17, 0], [], none, []⟩) (k := 10) T F32 (h_c_row_of.mono (by decide)) (h_m_Row___eq__.mono (by decide))
  have h_c_same_text : Cal l.prog w mg base ⟨K, clOf [0, C1, 0, 0, 0, 0, 0, 0, C8, C9, 0, 0, 0, C13, 0, 0, 0, C17, 0], [], none, []⟩ 11 "same_text" 2 F_same_text := ⟨_, _, _, PySem.W.mg_of X G a32, k32, (F32.binds (ps := ["one", "other"]) fun _ _ _ _ _ _ us hl => match us, hl with | [_, _], _ => rfl), G32⟩
  have h_ck_same_text_0_other_one : CalK l.prog w mg base ⟨K, clOf [0, C1, 0, 0, 0, 0, 0, 0, C8, C9, 0, 0, 0, C13, 0, 0, 0, C17, 0], [], none, []⟩ 11 "same_text" 0 ["other", "one"] [1, 0] F_same_text := calk_of F32 (PySem.W.mg_of X G a32) rfl G32 (fun _ _ _ _ _ _ us ws h1 h2 => match us, ws, h1, h2 with | [], [_, _], _, _ => rfl)
  have F33 := fun_mk (st := s__law_same_right) l33 e33 k33
  have G33 := ok__law_same_right (P := l.prog) (w := w) (base := base) (g := ⟨K, clOf [0, C1, 0, 0, 0, 0, 0, 0, C8, C9, 0, 0, 0, C13, 0, 0, 0, C17, 0], [], none, []⟩) (k := 11) T F33 (h_c_same_text.mono (by decide)) (h_ck_same_text_0_other_one.mono (by decide))
  have h_c__law_cell_at : Cal l.prog w mg base ⟨K, clOf [0, C1, 0, 0, 0, 0, 0, 0, C8, C9, 0, 0, 0, C13, 0, 0, 0, C17, 0], [], none, []⟩ 1 "_law_cell_at" 2 F__law_cell_at := ⟨_, _, _, PySem.W.mg_of X G a0, k0, (F0.binds (ps := ["_law_script", "_law_k"]) fun _ _ _ _ _ _ us hl => match us, hl with | [_, _], _ => rfl), G0⟩
  have h_c__law_source_of : Cal l.prog w mg base ⟨K, clOf [0, C1, 0, 0, 0, 0, 0, 0, C8, C9, 0, 0, 0, C13, 0, 0, 0, C17, 0], [], none, []⟩ 1 "_law_source_of" 1 F__law_source_of := ⟨_, _, _, PySem.W.mg_of X G a1, k1, (F1.binds (ps := ["_law_cell"]) fun _ _ _ _ _ _ us hl => match us, hl with | [_], _ => rfl), G1⟩
  have h_c__law_specs : Cal l.prog w mg base ⟨K, clOf [0, C1, 0, 0, 0, 0, 0, 0, C8, C9, 0, 0, 0, C13, 0, 0, 0, C17, 0], [], none, []⟩ 3 "_law_specs" 4 F__law_specs := ⟨_, _, _, PySem.W.mg_of X G a4, k4, (F4.binds (ps := ["_law_source", "_law_most", "_law_wide", "_law_many"]) fun _ _ _ _ _ _ us hl => match us, hl with | [_, _, _, _], _ => rfl), G4⟩
  have h_c_format_row : Cal l.prog w mg base ⟨K, clOf [0, C1, 0, 0, 0, 0, 0, 0, C8, C9, 0, 0, 0, C13, 0, 0, 0, C17, 0], [], none, []⟩ 2 "format_row" 1 F_format_row := ⟨_, _, _, PySem.W.mg_of X G a13, k13, (F13.binds (ps := ["row"]) fun _ _ _ _ _ _ us hl => match us, hl with | [_], _ => rfl), G13⟩
  have h_ck_format_row_0_row : CalK l.prog w mg base ⟨K, clOf [0, C1, 0, 0, 0, 0, 0, 0, C8, C9, 0, 0, 0, C13, 0, 0, 0, C17, 0], [], none, []⟩ 2 "format_row" 0 ["row"] [0] F_format_row := calk_of F13 (PySem.W.mg_of X G a13) rfl G13 (fun _ _ _ _ _ _ us ws h1 h2 => match us, ws, h1, h2 with | [], [_], _, _ => rfl)
  have h_c_parse_row : Cal l.prog w mg base ⟨K, clOf [0, C1, 0, 0, 0, 0, 0, 0, C8, C9, 0, 0, 0, C13, 0, 0, 0, C17, 0], [], none, []⟩ 7 "parse_row" 1 F_parse_row := ⟨_, _, _, PySem.W.mg_of X G a17, k17, (F17.binds (ps := ["text"]) fun _ _ _ _ _ _ us hl => match us, hl with | [_], _ => rfl), G17⟩
  have h_ck_parse_row_0_text : CalK l.prog w mg base ⟨K, clOf [0, C1, 0, 0, 0, 0, 0, 0, C8, C9, 0, 0, 0, C13, 0, 0, 0, C17, 0], [], none, []⟩ 7 "parse_row" 0 ["text"] [0] F_parse_row := calk_of F17 (PySem.W.mg_of X G a17) rfl G17 (fun _ _ _ _ _ _ us ws h1 h2 => match us, ws, h1, h2 with | [], [_], _, _ => rfl)
  have h_c__law_outages_right : Cal l.prog w mg base ⟨K, clOf [0, C1, 0, 0, 0, 0, 0, 0, C8, C9, 0, 0, 0, C13, 0, 0, 0, C17, 0], [], none, []⟩ 5 "_law_outages_right" 1 F__law_outages_right := ⟨_, _, _, PySem.W.mg_of X G a24, k24, (F24.binds (ps := ["_law_source"]) fun _ _ _ _ _ _ us hl => match us, hl with | [_], _ => rfl), G24⟩
  have h_c__law_same_right : Cal l.prog w mg base ⟨K, clOf [0, C1, 0, 0, 0, 0, 0, 0, C8, C9, 0, 0, 0, C13, 0, 0, 0, C17, 0], [], none, []⟩ 12 "_law_same_right" 3 F__law_same_right := ⟨_, _, _, PySem.W.mg_of X G a33, k33, (F33.binds (ps := ["_law_lane", "_law_words", "_law_before"]) fun _ _ _ _ _ _ us hl => match us, hl with | [_, _, _], _ => rfl), G33⟩
  exact spN_of (ok_law (P := l.prog) (w := w) (base := base) (g := ⟨K, clOf [0, C1, 0, 0, 0, 0, 0, 0, C8, C9, 0, 0, 0, C13, 0, 0, 0, C17, 0], [], none, []⟩) (k := 12) T (fun_mk (st := s_law) l34 e34 k34) (h_c__law_cell_at.mono (by decide)) (h_c__law_source_of.mono (by decide)) (h_c__law_one.mono (by decide)) (h_c__law_specs.mono (by decide)) (h_c__law_next.mono (by decide)) (h_ik_Row_2_phase.mono (by decide)) (h_c_format_row.mono (by decide)) (h_ck_format_row_0_row.mono (by decide)) (h_c_parse_row.mono (by decide)) (h_m_Row___eq__.mono (by decide)) (h_ck_parse_row_0_text.mono (by decide)) (h_m_Row_breaker_list.mono (by decide)) (h_m_Row_step_length.mono (by decide)) (h_m_Row_phase_time.mono (by decide)) (h_c__law_outages_right.mono (by decide)) (h_c__law_same_right.mono (by decide)))
end L
namespace L
open PySem L2 DV
/-! ### trains, in plain words -/
structure Tr where
  s : Int
  p : Int
  n : Option Int
def mT (t : Tr) (x : Int) : Prop := ∃ j : Int, 0 ≤ j ∧ (∀ n, t.n = some n → j < n) ∧ x = t.s + t.p * j
def mR (r : List Tr) (x : Int) : Prop := ∃ t ∈ r, mT t x
def okT (t : Tr) : Prop := 0 ≤ t.s ∧ 1 ≤ t.p ∧ ∀ n, t.n = some n → 1 ≤ n
def bef (a b : Tr) : Prop := ∃ n, a.n = some n ∧ a.s + a.p * (n - 1) < b.s
def Vd : List Tr → Prop
  | [] => True
  | [a] => okT a
  | a :: b :: r => okT a ∧ bef a b ∧ Vd (b :: r)
def cbef (a b : Tr) : Prop := ∃ n, a.n = some n ∧ 2 ≤ n ∧ a.s + a.p * (n - 1) < b.s ∧ b.s ≠ a.s + a.p * n
def Cn : List Tr → Prop
  | [] => True
  | [a] => okT a ∧ (a.n = some 1 → a.p = 1)
  | a :: b :: r => okT a ∧ cbef a b ∧ Cn (b :: r)
theorem mR_nil (x : Int) : ¬ mR [] x := fun ⟨_, h, _⟩ => nomatch h
theorem mR_cons (a : Tr) (r : List Tr) (x : Int) : mR (a :: r) x ↔ mT a x ∨ mR r x := by
  constructor
  · rintro ⟨t, h, q⟩
    rcases List.mem_cons.mp h with rfl | h
    · exact .inl q
    · exact .inr ⟨t, h, q⟩
  · rintro (q | ⟨t, h, q⟩)
    · exact ⟨a, List.mem_cons_self, q⟩
    · exact ⟨t, List.mem_cons_of_mem _ h, q⟩
theorem mR_app (a r : List Tr) (x : Int) : mR (a ++ r) x ↔ mR a x ∨ mR r x := by
  constructor
  · rintro ⟨t, h, q⟩
    rcases List.mem_append.mp h with h | h
    · exact .inl ⟨t, h, q⟩
    · exact .inr ⟨t, h, q⟩
  · rintro (⟨t, h, q⟩ | ⟨t, h, q⟩)
    · exact ⟨t, List.mem_append_left _ h, q⟩
    · exact ⟨t, List.mem_append_right _ h, q⟩
theorem mR_one (a : Tr) (x : Int) : mR [a] x ↔ mT a x := by
  rw [mR_cons]
  exact ⟨fun h => h.elim id fun h => (mR_nil x h).elim, .inl⟩
theorem cbef.bef {a b : Tr} (h : cbef a b) : bef a b := by
  obtain ⟨n, h1, _, h2, _⟩ := h
  exact ⟨n, h1, h2⟩
theorem Cn.vd : ∀ {r : List Tr}, Cn r → Vd r
  | [], _ => trivial
  | [a], h => h.1
  | a :: b :: r, h => ⟨h.1, h.2.1.bef, Cn.vd h.2.2⟩
theorem Vd.ok1 : ∀ {a : Tr} {r : List Tr}, Vd (a :: r) → okT a
  | a, [], h => h
  | a, b :: r, h => h.1
theorem Vd.tail : ∀ {a : Tr} {r : List Tr}, Vd (a :: r) → Vd r
  | a, [], _ => trivial
  | a, b :: r, h => h.2.2
theorem Cn.tail : ∀ {a : Tr} {r : List Tr}, Cn (a :: r) → Cn r
  | a, [], _ => trivial
  | a, b :: r, h => h.2.2
theorem Vd.okm : ∀ {r : List Tr}, Vd r → ∀ t ∈ r, okT t
  | [], _, t, m => nomatch m
  | a :: r, h, t, m => by
    rcases List.mem_cons.mp m with rfl | m
    · exact h.ok1
    · exact Vd.okm h.tail t m
theorem mT_ge {a : Tr} {x : Int} (h : okT a) (m : mT a x) : a.s ≤ x := by
  obtain ⟨j, h0, _, e⟩ := m
  have := Int.mul_nonneg (show 0 ≤ a.p by have := h.2.1; omega) h0
  omega
theorem mT_le {a : Tr} {x n : Int} (h : okT a) (e : a.n = some n) (m : mT a x) : x ≤ a.s + a.p * (n - 1) := by
  obtain ⟨j, h0, h1, rfl⟩ := m
  have h2 := h1 n e
  have : a.p * j ≤ a.p * (n - 1) := Int.mul_le_mul_of_nonneg_left (by omega) (by have := h.2.1; omega)
  omega
theorem mT_s {a : Tr} (h : okT a) : mT a a.s := ⟨0, Int.le_refl _, fun n e => by have := h.2.2 n e; omega, by simp⟩
theorem Vd.ge : ∀ {a : Tr} {r : List Tr} {x : Int}, Vd (a :: r) → mR (a :: r) x → a.s ≤ x
  | a, [], x, h, m => mT_ge h ((mR_one a x).mp m)
  | a, b :: r, x, h, m => by
    rcases (mR_cons _ _ _).mp m with m | m
    · exact mT_ge h.1 m
    · have := Vd.ge h.2.2 m
      obtain ⟨n, e, q⟩ := h.2.1
      have h1 := h.1.2.2 n e
      have := Int.mul_nonneg (show 0 ≤ a.p by have := h.1.2.1; omega) (show 0 ≤ n - 1 by omega)
      omega
/-- what follows is behind the last -/
theorem Vd.gt {a b : Tr} {r : List Tr} {x n : Int} (h : Vd (a :: b :: r)) (e : a.n = some n) (m : mR (b :: r) x) : a.s + a.p * (n - 1) < x := by
  obtain ⟨k, e1, q⟩ := h.2.1
  rw [e] at e1; cases e1
  have := Vd.ge h.2.2 m
  omega
/-! ### joining -/
def nf1 (t : Tr) : Tr := ⟨t.s, if t.n = some 1 then 1 else t.p, t.n⟩
def wf (t : Tr) : List Tr := if t.n = some 1 then [] else [⟨t.s + t.p, if t.n = some 2 then 1 else t.p, t.n.map (· - 1)⟩]
def jn (a : Tr) (m : Int) (t : Tr) : List Tr :=
  if 1 < m ∧ t.s - (a.s + a.p * (m - 1)) ≠ a.p then [a, nf1 t]
  else if t.p = t.s - (a.s + a.p * (m - 1)) ∧ t.n ≠ some 1 then [⟨a.s, t.s - (a.s + a.p * (m - 1)), t.n.map (m + ·)⟩]
  else ⟨a.s, t.s - (a.s + a.p * (m - 1)), some (m + 1)⟩ :: wf t
def stepJ (f : List Tr) (t : Tr) : List Tr := match f.getLast? with
  | none => [nf1 t]
  | some a => f.dropLast ++ jn a (a.n.getD 0) t
def allJ (r : List Tr) : List Tr := r.foldl stepJ []
/-- below B: times and steps -/
def RB (B : Int) (r : List Tr) : Prop := ∀ t ∈ r, t.s < B ∧ t.p < B ∧ ∀ n, t.n = some n → t.s + t.p * (n - 1) < B
theorem RB.app {B : Int} {a b : List Tr} (h1 : RB B a) (h2 : RB B b) : RB B (a ++ b) := fun t m => (List.mem_append.mp m).elim (h1 t) (h2 t)
theorem RB.le {B : Int} {a b : List Tr} (h1 : RB B a) (h2 : ∀ t ∈ b, t ∈ a) : RB B b := fun t m => h1 t (h2 t m)
/-- the same of what was joined: a train without end may begin later -/
def RC (B : Int) (r : List Tr) : Prop := ∀ t ∈ r, t.p < B ∧ (t.n = none → t.s < 2 * B) ∧ ∀ n, t.n = some n → t.s + t.p * (n - 1) < B
theorem mT_p1 {s p q : Int} (x : Int) : mT ⟨s, p, some 1⟩ x ↔ mT ⟨s, q, some 1⟩ x := by
  constructor
  · rintro ⟨j, h0, h1, e⟩
    have := h1 1 rfl
    have : j = 0 := by omega
    subst this
    exact ⟨0, h0, h1, by simpa using e⟩
  · rintro ⟨j, h0, h1, e⟩
    have := h1 1 rfl
    have : j = 0 := by omega
    subst this
    exact ⟨0, h0, h1, by simpa using e⟩
theorem nf1_mem (t : Tr) (x : Int) : mT (nf1 t) x ↔ mT t x := by
  obtain ⟨s, p, n⟩ := t
  unfold nf1
  split
  · rename_i h
    simp only at h
    subst h
    exact mT_p1 x
  · exact Iff.rfl
theorem nf1_ok {t : Tr} (h : okT t) : okT (nf1 t) ∧ ((nf1 t).n = some 1 → (nf1 t).p = 1) := by
  unfold nf1
  split
  · exact ⟨⟨h.1, Int.le_refl 1, h.2.2⟩, fun _ => rfl⟩
  · rename_i q
    exact ⟨h, fun z => absurd z q⟩
/-- two parts of one train -/
theorem mT_split {s p m : Int} {n : Option Int} (m0 : 0 ≤ m) (hn : ∀ k, n = some k → 0 ≤ k) (x : Int) : mT ⟨s, p, n.map (m + ·)⟩ x ↔ mT ⟨s, p, some m⟩ x ∨ mT ⟨s + p * m, p, n⟩ x := by
  constructor
  · rintro ⟨j, h0, h1, e⟩
    by_cases hj : j < m
    · exact .inl ⟨j, h0, fun k z => by cases z; exact hj, e⟩
    · refine .inr ⟨j - m, by omega, fun k z => ?_, ?_⟩
      · have := h1 (m + k) (by simp only at z; rw [z]; rfl)
        omega
      · simp only at e ⊢
        rw [e, Int.mul_sub]
        omega
  · rintro (⟨j, h0, h1, e⟩ | ⟨j, h0, h1, e⟩)
    · refine ⟨j, h0, fun k z => ?_, e⟩
      have := h1 m rfl
      simp only at z
      obtain ⟨k', z1, z2⟩ := Option.map_eq_some_iff.mp z
      have := hn k' z1
      omega
    · refine ⟨m + j, by omega, fun k z => ?_, ?_⟩
      · simp only at z
        obtain ⟨k', z1, z2⟩ := Option.map_eq_some_iff.mp z
        have := h1 k' z1
        omega
      · simp only at e ⊢
        rw [e, Int.mul_add]
        omega
theorem wf_mem {t : Tr} (h : okT t) (x : Int) : mT t x ↔ x = t.s ∨ mR (wf t) x := by
  obtain ⟨s, p, n⟩ := t
  have sp : ∀ {n' : Option Int}, (∀ k, n' = some k → 0 ≤ k) → n = n'.map (1 + ·) → (mT ⟨s, p, n⟩ x ↔ x = s ∨ mT ⟨s + p, p, n'⟩ x) := by
    intro n' hn e
    rw [e, mT_split (by decide) hn]
    rw [show s + p * 1 = s + p by omega]
    refine or_congr ⟨?_, ?_⟩ Iff.rfl
    · rintro ⟨j, h0, h1, e⟩
      have := h1 1 rfl
      have : j = 0 := by omega
      subst this
      simpa using e
    · rintro rfl
      exact ⟨0, by decide, fun k z => by cases z; decide, by simp⟩
  unfold wf
  split
  · rename_i h1
    simp only at h1
    subst h1
    constructor
    · rintro ⟨j, h0, h1, e⟩
      have := h1 1 rfl
      have : j = 0 := by omega
      subst this
      exact .inl (by simpa using e)
    · rintro (rfl | h)
      · exact ⟨0, by decide, fun k z => by cases z; decide, by simp⟩
      · exact (mR_nil _ h).elim
  · rename_i h1
    rw [mR_one]
    simp only at h1
    have e : n = (n.map (· - 1)).map (1 + ·) := by
      cases n with
      | none => rfl
      | some k => simp only [Option.map_some, Option.some.injEq]; omega
    rw [sp (n' := n.map (· - 1)) (fun k z => by
      obtain ⟨k', z1, z2⟩ := Option.map_eq_some_iff.mp z
      have := h.2.2 k' z1
      omega) e]
    refine or_congr Iff.rfl ?_
    split
    · rename_i h2
      simp only at h2
      subst h2
      exact mT_p1 x
    · exact Iff.rfl
/-- what stands at the end -/
def endAt (f : List Tr) (t : Tr) : Prop := ∃ b, f.getLast? = some b ∧ (t.n = none → b.n = none) ∧ ∀ n, t.n = some n → ∃ k, b.n = some k ∧ b.s + b.p * (k - 1) = t.s + t.p * (n - 1)
theorem wf_cn {t : Tr} (h : okT t) {a : Tr} {m : Int} (ho : okT a) (he : a.n = some m) (hm : 2 ≤ m) (hl : a.s + a.p * (m - 1) = t.s) (hd : t.n ≠ some 1 → t.p ≠ a.p) : Cn (a :: wf t) := by
  unfold wf
  split
  · rename_i h1
    exact ⟨ho, fun z => by rw [he] at z; cases z; omega⟩
  · rename_i h1
    have e1 : a.p * (m - 1) = a.p * m - a.p := by rw [Int.mul_sub, Int.mul_one]
    have hp := h.2.1
    have hdd := hd h1
    refine ⟨ho, ⟨m, he, hm, ?_, ?_⟩, ⟨?_, ?_, fun n z => ?_⟩, fun z => ?_⟩
    · show a.s + a.p * (m - 1) < t.s + t.p
      omega
    · show t.s + t.p ≠ a.s + a.p * m
      omega
    · show 0 ≤ t.s + t.p
      have := h.1
      omega
    · show 1 ≤ if t.n = some 2 then (1 : Int) else t.p
      split <;> omega
    · obtain ⟨k, z1, z2⟩ := Option.map_eq_some_iff.mp z
      have := h.2.2 k z1
      have : k ≠ 1 := fun q => h1 (by rw [z1, q])
      omega
    · obtain ⟨k, z1, z2⟩ := Option.map_eq_some_iff.mp z
      show (if t.n = some 2 then (1 : Int) else t.p) = 1
      rw [z1, if_pos (by congr 1; omega)]
theorem wf_end {t : Tr} (h : okT t) {a : Tr} {m : Int} (he : a.n = some m) (hl : a.s + a.p * (m - 1) = t.s) : endAt (a :: wf t) t := by
  unfold wf
  split
  · rename_i h1
    refine ⟨a, rfl, (fun z => by rw [h1] at z; cases z), fun n z => ?_⟩
    rw [h1] at z; cases z
    exact ⟨m, he, by rw [hl]; omega⟩
  · rename_i h1
    refine ⟨⟨t.s + t.p, if t.n = some 2 then 1 else t.p, t.n.map (· - 1)⟩, rfl, (fun z => by simp only [z, Option.map_none]), fun n z => ⟨n - 1, by simp only [z, Option.map_some], ?_⟩⟩
    show t.s + t.p + (if t.n = some 2 then (1 : Int) else t.p) * (n - 1 - 1) = t.s + t.p * (n - 1)
    split
    · rename_i h2
      rw [z] at h2; cases h2
      omega
    · rw [Int.mul_sub, Int.mul_sub, Int.mul_one]
      omega
structure Jd (B : Int) (a t : Tr) (r : List Tr) : Prop where
  cn : Cn r
  hd : ∃ b r', r = b :: r' ∧ b.s = a.s
  mem : ∀ x, mR r x ↔ mT a x ∨ mT t x
  en : endAt r t
  len : r.length ≤ 2
  rb : RC B r
theorem jn_ok {B : Int} {a t : Tr} {m : Int} (ha : Cn [a]) (he : a.n = some m) (hb : a.s + a.p * (m - 1) < t.s) (ht : okT t) (ba : RC B [a]) (bt : RB B [t]) : Jd B a t (jn a m t) := by
  have oa := ha.1
  have hm := oa.2.2 m he
  have ba' := ba a List.mem_cons_self
  have bt' := bt t List.mem_cons_self
  have e1 : a.p * (m - 1) = a.p * m - a.p := by rw [Int.mul_sub, Int.mul_one]
  unfold jn
  split
  · rename_i h
    have ok := nf1_ok ht
    refine ⟨⟨oa, ⟨m, he, by omega, hb, ?_⟩, ok⟩, ⟨_, _, rfl, rfl⟩, fun x => by rw [mR_cons, mR_one, nf1_mem], ⟨nf1 t, rfl, fun z => z, fun n z => ⟨n, z, ?_⟩⟩, by simp, ?_⟩
    · show t.s ≠ a.s + a.p * m
      omega
    · show t.s + (if t.n = some 1 then (1 : Int) else t.p) * (n - 1) = t.s + t.p * (n - 1)
      split
      · rename_i h1
        rw [z] at h1; cases h1
        omega
      · rfl
    · intro u hu
      rcases List.mem_cons.mp hu with rfl | hu
      · exact ba'
      · rcases List.mem_cons.mp hu with rfl | hu
        · refine ⟨?_, fun _ => ?_, fun n z => ?_⟩
          · show (if t.n = some 1 then (1 : Int) else t.p) < B
            have := ht.1
            have := ht.2.1
            split <;> omega
          · show t.s < 2 * B
            have := ht.1
            omega
          · show t.s + (if t.n = some 1 then (1 : Int) else t.p) * (n - 1) < B
            split
            · rename_i h1
              have z' : t.n = some n := z
              rw [z'] at h1; cases h1
              have := bt'.1
              omega
            · exact bt'.2.2 n z
        · cases hu
  · rename_i h
    generalize hδ : t.s - (a.s + a.p * (m - 1)) = δ at *
    have hd1 : 1 ≤ δ := by omega
    -- a with the step δ
    have am : ∀ x, mT a x ↔ mT ⟨a.s, δ, some m⟩ x := by
      intro x
      obtain ⟨s, p, n⟩ := a
      simp only at he h
      subst he
      by_cases q : m = 1
      · subst q; exact mT_p1 x
      · have : δ = p := by
          have : ¬ δ ≠ p := fun z => h ⟨by omega, z⟩
          omega
        rw [this]
    have ts : t.s = a.s + δ * m := by
      by_cases q : m = 1
      · subst q; simp at hδ; omega
      · have : δ = a.p := by
          have : ¬ δ ≠ a.p := fun z => h ⟨by omega, z⟩
          omega
        rw [this]
        rw [this] at hδ
        omega
    have el : a.s + δ * (m + 1 - 1) = t.s := by rw [show m + 1 - 1 = m by omega]; omega
    split
    · rename_i h2
      refine ⟨⟨⟨oa.1, hd1, fun n z => ?_⟩, fun z => ?_⟩, ⟨_, _, rfl, rfl⟩, fun x => ?_, ⟨⟨a.s, δ, t.n.map (m + ·)⟩, rfl, (fun z => by simp only [z, Option.map_none]), fun n z => ⟨m + n, by simp only [z, Option.map_some], ?_⟩⟩, by simp, ?_⟩
      · obtain ⟨k, z1, z2⟩ := Option.map_eq_some_iff.mp z
        have := ht.2.2 k z1
        omega
      · obtain ⟨k, z1, z2⟩ := Option.map_eq_some_iff.mp z
        have := ht.2.2 k z1
        omega
      · rw [mR_one, mT_split (by omega) (fun k z => by have := ht.2.2 k z; omega), am, ← ts]
        obtain ⟨s, p, n⟩ := t
        simp only at h2
        rw [h2.1]
      · show a.s + δ * (m + n - 1) = t.s + t.p * (n - 1)
        rw [h2.1, ts, show m + n - 1 = m + (n - 1) by omega, Int.mul_add]
        omega
      · intro u hu
        rcases List.mem_cons.mp hu with rfl | hu
        · refine ⟨?_, fun _ => ?_, fun n z => ?_⟩
          · show δ < B
            have := bt'.2.1
            omega
          · show a.s < 2 * B
            have := bt'.1
            have := oa.1
            have := Int.mul_nonneg (show 0 ≤ a.p by have := oa.2.1; omega) (show 0 ≤ m - 1 by omega)
            omega
          · obtain ⟨k, z1, z2⟩ := Option.map_eq_some_iff.mp z
            have := bt'.2.2 k z1
            show a.s + δ * (n - 1) < B
            rw [← z2, show m + k - 1 = m + (k - 1) by omega, Int.mul_add]
            rw [h2.1, ts] at this
            omega
        · cases hu
    · rename_i h2
      have h3 : t.n ≠ some 1 → t.p ≠ δ := fun z q => h2 ⟨q, z⟩
      have oo : okT ⟨a.s, δ, some (m + 1)⟩ := ⟨oa.1, hd1, fun n z => by cases z; omega⟩
      refine ⟨wf_cn ht oo rfl (by omega) el h3, ⟨_, _, rfl, rfl⟩, fun x => ?_, wf_end ht rfl el, ?_, ?_⟩
      · have := mT_split (s := a.s) (p := δ) (m := m) (n := some 1) (by omega) (fun k z => by cases z; decide) x
        rw [mR_cons, wf_mem ht, am]
        simp only [Option.map_some] at this
        rw [this, ← ts]
        have one : mT ⟨t.s, δ, some 1⟩ x ↔ x = t.s := by
          constructor
          · rintro ⟨j, h0, h1, e⟩
            have := h1 1 rfl
            have : j = 0 := by omega
            subst this
            simpa using e
          · rintro rfl
            exact ⟨0, by decide, fun k z => by cases z; decide, by simp⟩
        rw [one, or_assoc]
      · unfold wf
        split <;> simp
      · intro u hu
        rcases List.mem_cons.mp hu with rfl | hu
        · refine ⟨?_, (fun z => nomatch z), fun n z => ?_⟩
          · show δ < B
            have := bt'.1
            have := oa.1
            have := Int.mul_nonneg (show 0 ≤ a.p by have := oa.2.1; omega) (show 0 ≤ m - 1 by omega)
            omega
          · cases z
            show a.s + δ * (m + 1 - 1) < B
            rw [el]
            exact bt'.1
        · unfold wf at hu
          split at hu
          · cases hu
          · rename_i h1
            rcases List.mem_cons.mp hu with rfl | hu
            · have h0 := ht.1
              have hp := ht.2.1
              refine ⟨?_, fun _ => ?_, fun n z => ?_⟩
              · show (if t.n = some 2 then (1 : Int) else t.p) < B
                split <;> omega
              · show t.s + t.p < 2 * B
                omega
              · obtain ⟨k, z1, z2⟩ := Option.map_eq_some_iff.mp z
                have q := bt'.2.2 k z1
                show t.s + t.p + (if t.n = some 2 then (1 : Int) else t.p) * (n - 1) < B
                have ek : t.p * (k - 1) = t.p * (n - 1) + t.p := by rw [← z2, show k - 1 = (k - 1 - 1) + 1 by omega, Int.mul_add, Int.mul_one, show k - 1 - 1 + 1 - 1 = k - 1 - 1 by omega]
                split
                · rename_i h4
                  rw [z1] at h4; cases h4
                  have : n = 1 := by omega
                  subst this
                  omega
                · omega
            · cases hu

theorem cn_app : ∀ {l : List Tr} {a : Tr} {r : List Tr} {b : Tr}, Cn (l ++ [a]) → b.s = a.s → Cn (b :: r) → Cn (l ++ b :: r)
  | [], a, r, b, _, _, h => h
  | [c], a, r, b, h, e, q => by
    obtain ⟨h1, ⟨n, e1, e2, e3, e4⟩, h2⟩ := h
    exact ⟨h1, ⟨n, e1, e2, by rw [e]; exact e3, by rw [e]; exact e4⟩, q⟩
  | c :: d :: l, a, r, b, h, e, q => ⟨h.1, h.2.1, cn_app (l := d :: l) h.2.2 e q⟩
theorem cn_last : ∀ {l : List Tr} {a : Tr}, Cn (l ++ [a]) → Cn [a]
  | [], a, h => h
  | [c], a, h => h.2.2
  | c :: d :: l, a, h => cn_last (l := d :: l) h.2.2
/-- one step of the fold -/
theorem step_ok {B : Int} {f : List Tr} {t : Tr} (hf : Cn f) (bf : RC B f) (ht : okT t) (bt : RB B [t]) (hb : ∀ a, f.getLast? = some a → bef a t) :
    Cn (stepJ f t) ∧ (∀ x, mR (stepJ f t) x ↔ mR f x ∨ mT t x) ∧ endAt (stepJ f t) t ∧ (stepJ f t).length ≤ f.length + 1 ∧ RC B (stepJ f t) := by
  unfold stepJ
  cases e : f.getLast? with
  | none =>
    have : f = [] := List.getLast?_eq_none_iff.mp e
    subst this
    have bt' := bt t List.mem_cons_self
    refine ⟨nf1_ok ht, fun x => by rw [mR_one, nf1_mem]; exact ⟨.inr, fun h => h.elim (fun h => (mR_nil x h).elim) id⟩, ⟨nf1 t, rfl, fun z => z, fun n z => ⟨n, z, ?_⟩⟩, by simp, ?_⟩
    · show t.s + (if t.n = some 1 then (1 : Int) else t.p) * (n - 1) = t.s + t.p * (n - 1)
      split
      · rename_i h1
        rw [z] at h1; cases h1
        omega
      · rfl
    · intro u hu
      rcases List.mem_cons.mp hu with rfl | hu
      · refine ⟨?_, fun _ => ?_, fun n z => ?_⟩
        · show (if t.n = some 1 then (1 : Int) else t.p) < B
          have := ht.1
          have := ht.2.1
          split <;> omega
        · show t.s < 2 * B
          have := ht.1
          omega
        · show t.s + (if t.n = some 1 then (1 : Int) else t.p) * (n - 1) < B
          split
          · rename_i h1
            have z' : t.n = some n := z
            rw [z'] at h1; cases h1
            have := bt'.1
            omega
          · exact bt'.2.2 n z
      · cases hu
  | some a =>
    obtain ⟨l, rfl⟩ := List.getLast?_eq_some_iff.mp e
    obtain ⟨m, em, hl⟩ := hb a e
    have J := jn_ok (cn_last hf) em hl ht (fun u hu => bf u (List.mem_append_right _ hu)) bt
    obtain ⟨b, r', e1, e2⟩ := J.hd
    simp only [em, Option.getD_some, List.dropLast_concat]
    refine ⟨?_, fun x => ?_, ?_, ?_, fun u hu => ?_⟩
    · rw [e1]
      have c := J.cn
      rw [e1] at c
      exact cn_app hf e2 c
    · rw [mR_app, J.mem, mR_app, mR_one, or_assoc]
    · obtain ⟨c, q1, q2⟩ := J.en
      refine ⟨c, ?_, q2⟩
      rw [List.getLast?_append, q1]
      rfl
    · have := J.len
      simp only [List.length_append, List.length_cons, List.length_nil]
      omega
    · rcases List.mem_append.mp hu with hu | hu
      · exact bf u (List.mem_append_left _ hu)
      · exact J.rb u hu
theorem fold_J {B : Int} : ∀ (r f : List Tr), Cn f → RC B f → Vd r → RB B r → (∀ a t, f.getLast? = some a → r.head? = some t → bef a t) → Cn (r.foldl stepJ f) ∧ (∀ x, mR (r.foldl stepJ f) x ↔ mR f x ∨ mR r x) ∧ (r.foldl stepJ f).length ≤ f.length + r.length ∧ RC B (r.foldl stepJ f)
  | [], f, hf, bf, _, _, _ => ⟨hf, fun x => ⟨.inl, fun h => h.elim id fun h => (mR_nil x h).elim⟩, by simp, bf⟩
  | t :: r, f, hf, bf, hv, br, hb => by
    obtain ⟨s1, s2, s3, s4, s5⟩ := step_ok hf bf hv.ok1 (br.le fun u hu => by simp at hu; subst hu; exact List.mem_cons_self) fun a e => hb a t e rfl
    obtain ⟨i1, i2, i3, i4⟩ := fold_J r (stepJ f t) s1 s5 hv.tail (br.le fun u hu => List.mem_cons_of_mem _ hu) (fun a u e1 e2 => by
      obtain ⟨b, q1, q2, q3⟩ := s3
      rw [q1] at e1; cases e1
      cases r with
      | nil => cases e2
      | cons v r =>
        cases e2
        obtain ⟨n, e3, e4⟩ := hv.2.1
        obtain ⟨k, e5, e6⟩ := q3 n e3
        exact ⟨k, e5, by rw [e6]; exact e4⟩)
    refine ⟨i1, fun x => ?_, ?_, i4⟩
    · rw [List.foldl_cons, i2, s2, mR_cons, or_assoc]
    · rw [List.foldl_cons, List.length_cons]
      omega
theorem allJ_ok {B : Int} {r : List Tr} (hv : Vd r) (br : RB B r) : Cn (allJ r) ∧ (∀ x, mR (allJ r) x ↔ mR r x) ∧ (allJ r).length ≤ r.length ∧ RC B (allJ r) := by
  obtain ⟨h1, h2, h3, h4⟩ := fold_J (B := B) r [] trivial (fun _ h => nomatch h) hv br (fun a t e => nomatch e)
  refine ⟨h1, fun x => ?_, by simp at h3; exact h3, h4⟩
  rw [show allJ r = r.foldl stepJ [] from rfl, h2]
  exact ⟨fun h => h.elim (fun h => (mR_nil x h).elim) id, .inr⟩
/-- a bound there is always -/
theorem rb_ex : ∀ r : List Tr, ∃ B, RB B r
  | [] => ⟨0, fun _ h => nomatch h⟩
  | t :: r => by
    obtain ⟨B, h⟩ := rb_ex r
    let M := max (max B (t.s + 1)) (max (t.p + 1) (match t.n with | none => 0 | some n => t.s + t.p * (n - 1) + 1))
    refine ⟨M, fun u hu => ?_⟩
    have l1 : B ≤ M := Int.le_trans (Int.le_max_left _ _) (Int.le_max_left _ _)
    have l2 : t.s + 1 ≤ M := Int.le_trans (Int.le_max_right _ _) (Int.le_max_left _ _)
    have l3 : t.p + 1 ≤ M := Int.le_trans (Int.le_max_left _ _) (Int.le_max_right _ _)
    have l4 : (match t.n with | none => 0 | some n => t.s + t.p * (n - 1) + 1) ≤ M := Int.le_trans (Int.le_max_right _ _) (Int.le_max_right _ _)
    rcases List.mem_cons.mp hu with rfl | hu
    · refine ⟨by omega, by omega, fun n z => ?_⟩
      rw [z] at l4
      simp only at l4
      omega
    · obtain ⟨h1, h2, h3⟩ := h u hu
      exact ⟨by omega, by omega, fun n z => by have := h3 n z; omega⟩
/-! ### great numbers -/
@[irreducible] def BB : Int := 2 ^ 3000
theorem BB_big : 10 ^ 600 < BB := by unfold BB; decide +kernel
theorem log_bb {a : Int} (h1 : -(1000 * BB) < a) (h2 : a < 1000 * BB) : a.natAbs.log2 < 4000 := by
  by_cases z : a.natAbs = 0
  · rw [z]; decide
  · rw [Nat.log2_lt z]
    have e : (1000 : Int) * BB < 2 ^ 4000 := by unfold BB; decide +kernel
    have : (a.natAbs : Int) < 2 ^ 4000 := by omega
    exact Int.ofNat_lt.mp (by simpa using this)
theorem div_bb {b : Int} (h1 : 0 < b) (h2 : b < 1000 * BB) : b.natAbs.log2 < 9000 := by
  have := log_bb (a := b) (by have := BB_big; omega) h2
  omega
/-! ### trains as data -/
def cD : Option Int → D
  | none => .non
  | some n => .int n
abbrev tD (t : Tr) : D := .tup [.int t.s, .int t.p, cD t.n]
abbrev rD (r : List Tr) : D := .lst (r.map tD)
abbrev TO (r : List Tr) : D := .obj 0 ["listed"] [rD r]
theorem i3_0 (x y z : D) : atI [x, y, z] 0 = some x := rfl
theorem i3_1 (x y z : D) : atI [x, y, z] 1 = some y := rfl
theorem i3_2 (x y z : D) : atI [x, y, z] 2 = some z := rfl
theorem is_int_i (i : Int) (b : Bool) : F_is_integer [some (.int i, b)] = some (.fz (.bl true), [some (.int i, b)]) := by
  cases b <;> simp [F_is_integer, DV.SC, DV.SE, DV.SX]
theorem sz : sizeLine = 16777216 := rfl
/-! ### making Trains -/
/-! ### all_joined -/
/-! ### Trains -/
/-! ### made -/
theorem RC.rb {B : Int} {r : List Tr} (h : RC B r) (hv : Vd r) (hB : 0 < B) : RB (2 * B) r := fun t m => by
  obtain ⟨h1, h2, h3⟩ := h t m
  have ok := hv.okm t m
  refine ⟨?_, by omega, fun n z => by have := h3 n z; omega⟩
  cases e : t.n with
  | none => exact h2 e
  | some n =>
    have := h3 n e
    have := ok.2.2 n e
    have := Int.mul_nonneg (show 0 ≤ t.p by have := ok.2.1; omega) (show 0 ≤ n - 1 by omega)
    omega
theorem RB.mono {B C : Int} {r : List Tr} (h : RB B r) (l : B ≤ C) : RB C r := fun t m => by
  obtain ⟨h1, h2, h3⟩ := h t m
  exact ⟨by omega, by omega, fun n z => by have := h3 n z; omega⟩
/-! ### parts of trains -/
def bfI (t : Tr) (x : Int) : Int := if x ≤ t.s then 0 else match t.n with
  | none => (x - t.s + t.p - 1) / t.p
  | some n => if (x - t.s + t.p - 1) / t.p < n then (x - t.s + t.p - 1) / t.p else n
theorem bf_spec {t : Tr} (h : okT t) (x j : Int) (j0 : 0 ≤ j) (jn : ∀ n, t.n = some n → j < n) : t.s + t.p * j < x ↔ j < bfI t x := by
  obtain ⟨s, p, n⟩ := t
  obtain ⟨h1, h2, h3⟩ := h
  simp only at h1 h2 h3 jn ⊢
  have pj := Int.mul_nonneg (show 0 ≤ p by omega) j0
  have key : ¬ x ≤ s → (s + p * j < x ↔ j < (x - s + p - 1) / p) := fun c => by
    rw [Int.lt_iff_add_one_le, Int.lt_iff_add_one_le, Int.le_ediv_iff_mul_le (by omega), Int.mul_comm (j + 1) p, Int.mul_add, Int.mul_one]
    omega
  unfold bfI
  simp only
  split
  · rename_i c
    constructor
    · intro q; omega
    · intro q; omega
  · rename_i c
    rw [key c]
    cases n with
    | none => exact Iff.rfl
    | some n =>
      have := jn n rfl
      simp only
      split <;> omega
theorem bf_nonneg {t : Tr} (h : okT t) (x : Int) : 0 ≤ bfI t x := by
  unfold bfI
  have := h.2.1
  split
  · exact Int.le_refl 0
  · have q : 0 ≤ (x - t.s + t.p - 1) / t.p := Int.ediv_nonneg (by omega) (by omega)
    cases e : t.n with
    | none => exact q
    | some n =>
      have := h.2.2 n e
      simp only
      split <;> omega
theorem bf_le {t : Tr} {n : Int} (h : okT t) (e : t.n = some n) (x : Int) : bfI t x ≤ n := by
  have := h.2.2 n e
  unfold bfI
  split
  · omega
  · rw [e]
    simp only
    split <;> omega
def slT (t : Tr) (low : Int) (high : Option Int) : List Tr :=
  let h := match high with
    | none => t.n
    | some v => match t.n with
      | none => some v
      | some n => if n < v then some n else some v
  match h with
  | none => [⟨t.s + low * t.p, t.p, none⟩]
  | some v => if v ≤ low then [] else [⟨t.s + low * t.p, t.p, some (v - low)⟩]
/-! ### pieces of trains -/
def Pc (t : Tr) (l : List Tr) : Prop := l = [] ∨ ∃ u, l = [u] ∧ okT u ∧ t.s ≤ u.s ∧ ∀ n, t.n = some n → ∃ k, u.n = some k ∧ u.s + u.p * (k - 1) ≤ t.s + t.p * (n - 1)
theorem vd_mem_ge {a : Tr} {r : List Tr} (h : Vd (a :: r)) : ∀ t ∈ a :: r, a.s ≤ t.s := fun t m => h.ge ⟨t, m, mT_s (h.okm t m)⟩
/-- a part of a train, by its indices -/
theorem slT_mem {t : Tr} {low : Int} (h0 : 0 ≤ low) (high : Option Int) (x : Int) : mR (slT t low high) x ↔ ∃ j, low ≤ j ∧ (∀ n, t.n = some n → j < n) ∧ (∀ v, high = some v → j < v) ∧ x = t.s + t.p * j := by
  obtain ⟨s, p, n⟩ := t
  have one : ∀ (m : Option Int), mT ⟨s + low * p, p, m.map (· - low)⟩ x ↔ ∃ j, low ≤ j ∧ (∀ v, m = some v → j < v) ∧ x = s + p * j := by
    intro m
    constructor
    · rintro ⟨j, j0, j1, e⟩
      refine ⟨low + j, by omega, fun v z => ?_, ?_⟩
      · have := j1 (v - low) (by simp [z])
        omega
      · simp only at e
        rw [e, Int.mul_add, Int.mul_comm low p]
        omega
    · rintro ⟨j, j0, j1, e⟩
      refine ⟨j - low, by omega, fun v z => ?_, ?_⟩
      · simp only at z
        obtain ⟨w, z1, z2⟩ := Option.map_eq_some_iff.mp z
        have := j1 w z1
        omega
      · simp only
        rw [e, Int.mul_sub, Int.mul_comm low p]
        omega
  have two : ∀ v : Int, mR (if v ≤ low then [] else [⟨s + low * p, p, some (v - low)⟩]) x ↔ ∃ j, low ≤ j ∧ j < v ∧ x = s + p * j := by
    intro v
    split
    · rename_i c
      constructor
      · intro q; exact (mR_nil _ q).elim
      · rintro ⟨j, j0, j1, _⟩; omega
    · rw [mR_one]
      have := one (some v)
      simp only [Option.map_some, Option.some.injEq, forall_eq'] at this
      exact this
  unfold slT
  cases high with
  | none =>
    cases n with
    | none =>
      simp only
      rw [mR_one]
      have := one none
      simp only [Option.map_none] at this
      rw [this]
      simp
    | some n =>
      simp only
      rw [two]
      simp
  | some v =>
    cases n with
    | none =>
      simp only
      rw [two]
      simp
    | some n =>
      by_cases c : n < v
      · simp only [if_pos c]
        rw [two]
        constructor
        · rintro ⟨j, j0, j1, e⟩; exact ⟨j, j0, fun n' z => by cases z; exact j1, fun v' z => by cases z; omega, e⟩
        · rintro ⟨j, j0, j1, j2, e⟩; exact ⟨j, j0, j1 n rfl, e⟩
      · simp only [if_neg c]
        rw [two]
        constructor
        · rintro ⟨j, j0, j1, e⟩; exact ⟨j, j0, fun n' z => by cases z; omega, fun v' z => by cases z; exact j1, e⟩
        · rintro ⟨j, j0, j1, j2, e⟩; exact ⟨j, j0, j2 v rfl, e⟩
theorem slT_pc {t : Tr} (h : okT t) {low : Int} (h0 : 0 ≤ low) (high : Option Int) : Pc t (slT t low high) := by
  obtain ⟨s, p, n⟩ := t
  obtain ⟨h1, h2, h3⟩ := h
  simp only at h1 h2 h3
  have hlp := Int.mul_nonneg h0 (show 0 ≤ p by omega)
  have two : ∀ v : Int, (∀ n', n = some n' → v ≤ n') → Pc ⟨s, p, n⟩ (if v ≤ low then [] else [⟨s + low * p, p, some (v - low)⟩]) := by
    intro v hv
    split
    · exact .inl rfl
    · rename_i c
      refine .inr ⟨_, rfl, ⟨by show 0 ≤ s + low * p; omega, h2, fun k z => by cases z; omega⟩, by show s ≤ s + low * p; omega, fun n' z => ⟨_, rfl, ?_⟩⟩
      have := hv n' z
      show s + low * p + p * (v - low - 1) ≤ s + p * (n' - 1)
      have e1 : p * (v - low - 1) = p * (v - 1) - p * low := by rw [← Int.mul_sub]; congr 1; omega
      have e2 : p * (v - 1) ≤ p * (n' - 1) := Int.mul_le_mul_of_nonneg_left (by omega) (by omega)
      have e3 := Int.mul_comm low p
      omega
  unfold slT
  cases high with
  | none =>
    cases n with
    | none => exact .inr ⟨_, rfl, ⟨by show 0 ≤ s + low * p; omega, h2, fun k z => by cases z⟩, by show s ≤ s + low * p; omega, fun n' z => by cases z⟩
    | some n => exact two n fun n' z => by cases z; exact Int.le_refl _
  | some v =>
    cases n with
    | none => exact two v fun n' z => by cases z
    | some n =>
      by_cases c : n < v
      · simp only [if_pos c]
        exact two n fun n' z => by cases z; exact Int.le_refl _
      · simp only [if_neg c]
        exact two v fun n' z => by cases z; omega
theorem slT_rb {t : Tr} {B : Int} (h : okT t) {low : Int} (h0 : 0 ≤ low) (high : Option Int) (hs : t.s + low * t.p < B) (hp : t.p < B) (hl : ∀ n, t.n = some n → t.s + t.p * (n - 1) < B) (hv : t.n = none → ∀ v, high = some v → t.s + t.p * (v - 1) < B) : RB B (slT t low high) := by
  intro u hu
  have pc := slT_pc h h0 high
  rcases pc with e | ⟨w, e, ow, sw, lw⟩
  · rw [e] at hu; cases hu
  · have huw : u = w := by rw [e] at hu; simpa using hu
    subst huw
    obtain ⟨s, p, n⟩ := t
    have three : ∀ {v : Int} {w : Tr}, (if v ≤ low then [] else [⟨s + low * p, p, some (v - low)⟩]) = [w] → w = ⟨s + low * p, p, some (v - low)⟩ := by
      intro v w h
      split at h
      · cases h
      · simpa using h.symm
    have fin : ∀ v : Int, s + p * (v - 1) < B → u = ⟨s + low * p, p, some (v - low)⟩ → u.s < B ∧ u.p < B ∧ ∀ n, u.n = some n → u.s + u.p * (n - 1) < B := by
      rintro v hv rfl
      refine ⟨hs, hp, fun k z => ?_⟩
      cases z
      show s + low * p + p * (v - low - 1) < B
      have e1 : p * (v - low - 1) = p * (v - 1) - p * low := by rw [← Int.mul_sub]; congr 1; omega
      have e3 := Int.mul_comm low p
      omega
    unfold slT at e
    cases high with
    | none =>
      cases n with
      | none =>
        simp only [List.cons.injEq, and_true] at e
        subst e
        exact ⟨hs, hp, fun k z => by cases z⟩
      | some n => exact fin n (hl n rfl) (three e)
    | some v =>
      cases n with
      | none => exact fin v (hv rfl v rfl) (three e)
      | some n =>
        by_cases c : n < v
        · simp only [if_pos c] at e
          exact fin n (hl n rfl) (three e)
        · simp only [if_neg c] at e
          refine fin v ?_ (three e)
          have := hl n rfl
          simp only at this
          have e2 : p * (v - 1) ≤ p * (n - 1) := Int.mul_le_mul_of_nonneg_left (by omega) (by have := h.2.1; simp only at this; omega)
          omega
/-! ### windows -/
/-! ### times listed -/
abbrev Inc (l : List Int) : Prop := l.Pairwise (· < ·)
theorem inc_ext : ∀ {l1 l2 : List Int}, Inc l1 → Inc l2 → (∀ x, x ∈ l1 ↔ x ∈ l2) → l1 = l2
  | [], [], _, _, _ => rfl
  | [], b :: l, _, _, h => absurd ((h b).mpr List.mem_cons_self) (by simp)
  | a :: l, [], _, _, h => absurd ((h a).mp List.mem_cons_self) (by simp)
  | a :: l1, b :: l2, h1, h2, h => by
    obtain ⟨a1, i1⟩ := List.pairwise_cons.mp h1
    obtain ⟨a2, i2⟩ := List.pairwise_cons.mp h2
    have e : a = b := by
      rcases List.mem_cons.mp ((h a).mp List.mem_cons_self) with q | q
      · exact q
      · rcases List.mem_cons.mp ((h b).mpr List.mem_cons_self) with z | z
        · exact z.symm
        · have := a1 b z
          have := a2 a q
          omega
    subst e
    congr 1
    refine inc_ext i1 i2 fun x => ⟨fun m => ?_, fun m => ?_⟩
    · rcases List.mem_cons.mp ((h x).mp (List.mem_cons_of_mem _ m)) with z | z
      · subst z; have := a1 x m; omega
      · exact z
    · rcases List.mem_cons.mp ((h x).mpr (List.mem_cons_of_mem _ m)) with z | z
      · subst z; have := a2 x m; omega
      · exact z
def rngT (s p : Int) (k : Nat) : List Int := (List.range k).map fun (j : Nat) => s + p * (j : Int)
theorem mem_rngT {s p x : Int} {k : Nat} : x ∈ rngT s p k ↔ ∃ j : Int, 0 ≤ j ∧ j < k ∧ x = s + p * j := by
  unfold rngT
  rw [List.mem_map]
  constructor
  · rintro ⟨j, m, e⟩
    rw [List.mem_range] at m
    exact ⟨j, by omega, by omega, e.symm⟩
  · rintro ⟨j, j0, j1, e⟩
    refine ⟨j.toNat, List.mem_range.mpr (by omega), ?_⟩
    rw [Int.toNat_of_nonneg j0]
    exact e.symm
theorem inc_rngT {s p : Int} (hp : 1 ≤ p) (k : Nat) : Inc (rngT s p k) := by
  unfold rngT Inc
  rw [List.pairwise_map]
  refine List.Pairwise.imp ?_ List.pairwise_lt_range
  intro a b h
  have := Int.mul_lt_mul_of_pos_left (show (a : Int) < (b : Int) by omega) (show 0 < p by omega)
  omega
theorem inc_app {l1 l2 : List Int} (h1 : Inc l1) (h2 : Inc l2) (h : ∀ x ∈ l1, ∀ y ∈ l2, x < y) : Inc (l1 ++ l2) := List.pairwise_append.mpr ⟨h1, h2, h⟩
def tlB (X : Int) (t : Tr) : List Int := rngT t.s t.p (bfI t X).toNat
def tmB (r : List Tr) (X : Int) : List Int := r.flatMap (tlB X)
theorem mem_tlB {t : Tr} (h : okT t) (X x : Int) : x ∈ tlB X t ↔ mT t x ∧ x < X := by
  unfold tlB
  rw [mem_rngT]
  have b0 := bf_nonneg h X
  constructor
  · rintro ⟨j, j0, j1, e⟩
    have jn : ∀ n, t.n = some n → j < n := fun n z => by have := bf_le h z X; omega
    refine ⟨⟨j, j0, jn, e⟩, ?_⟩
    rw [e]
    exact (bf_spec h X j j0 jn).mpr (by omega)
  · rintro ⟨⟨j, j0, jn, e⟩, hx⟩
    have := (bf_spec h X j j0 jn).mp (by rw [← e]; exact hx)
    exact ⟨j, j0, by omega, e⟩
theorem mem_tmB {r : List Tr} (h : Vd r) (X x : Int) : x ∈ tmB r X ↔ mR r x ∧ x < X := by
  unfold tmB
  rw [List.mem_flatMap]
  constructor
  · rintro ⟨t, m, q⟩
    obtain ⟨q1, q2⟩ := (mem_tlB (h.okm t m) X x).mp q
    exact ⟨⟨t, m, q1⟩, q2⟩
  · rintro ⟨⟨t, m, q1⟩, q2⟩
    exact ⟨t, m, (mem_tlB (h.okm t m) X x).mpr ⟨q1, q2⟩⟩
theorem inc_flat {f : Tr → List Int} : ∀ {r : List Tr}, Vd r → (∀ t ∈ r, Inc (f t) ∧ ∀ x ∈ f t, mT t x) → Inc (r.flatMap f)
  | [], _, _ => List.Pairwise.nil
  | t :: r, h, hf => by
    rw [List.flatMap_cons]
    refine inc_app (hf t List.mem_cons_self).1 (inc_flat h.tail fun u m => hf u (List.mem_cons_of_mem _ m)) fun x mx y my => ?_
    have m1 := (hf t List.mem_cons_self).2 x mx
    obtain ⟨u, mu, my⟩ := List.mem_flatMap.mp my
    have m2 := (hf u (List.mem_cons_of_mem _ mu)).2 y my
    cases r with
    | nil => cases mu
    | cons b r =>
      obtain ⟨n, e, _⟩ := h.2.1
      have := Vd.gt h e ⟨u, mu, m2⟩
      have := mT_le h.1 e m1
      omega
theorem inc_tmB {r : List Tr} (h : Vd r) (X : Int) : Inc (tmB r X) := inc_flat h fun t m => ⟨inc_rngT (h.okm t m).2.1 _, fun x q => ((mem_tlB (h.okm t m) X x).mp q).1⟩
/-! ### trains that end -/
def Fi (r : List Tr) : Prop := ∀ t ∈ r, ∃ n, t.n = some n
def flat (r : List Tr) : List Int := r.flatMap fun t => rngT t.s t.p (t.n.getD 0).toNat
/-- bounded times: the trains end -/
theorem fi_of {r : List Tr} (h : Vd r) {X : Int} (hx : ∀ x, mR r x → x < X) : Fi r := fun t m => by
  cases e : t.n with
  | some n => exact ⟨n, rfl⟩
  | none =>
    have ok := h.okm t m
    have := hx _ ⟨t, m, (X.natAbs : Int), by omega, (fun n z => by rw [e] at z; cases z), rfl⟩
    have h1 := ok.1
    have h2 := ok.2.1
    have := Int.mul_le_mul_of_nonneg_right h2 (show (0 : Int) ≤ (X.natAbs : Int) by omega)
    omega
/-! ### counts -/
def tcnt (r : List Tr) : Option Int := if r.any (·.n.isNone) then none else some ((r.map (·.n.getD 0)).sum)
/-! ### t[index], == -/
def nthT : List Tr → Int → Option Int
  | [], _ => none
  | t :: r, i => match t.n with
    | none => some (t.s + i * t.p)
    | some n => if i < n then some (t.s + i * t.p) else nthT r (i - n)
/-! ### == of Trains -/
/-! ### thinned, in plain words -/
def pass (w : Int) : Int → List Int → List Int
  | _, [] => []
  | since, x :: l => if w ≤ x - since then x :: pass w x l else pass w since l
theorem pass_cons (w since x : Int) (l : List Int) : pass w since (x :: l) = if w ≤ x - since then x :: pass w x l else pass w since l := rfl
theorem pass_app (w : Int) : ∀ (l1 l2 : List Int) (since : Int), pass w since (l1 ++ l2) = pass w since l1 ++ pass w ((pass w since l1).getLast?.getD since) l2
  | [], l2, since => rfl
  | x :: l1, l2, since => by
    rw [List.cons_append, pass_cons, pass_cons]
    by_cases c : w ≤ x - since
    · rw [if_pos c, if_pos c, pass_app w l1 l2 x, List.cons_append]
      congr 2
      cases h : pass w x l1 with
      | nil => rfl
      | cons y l => simp [List.getLast?_cons]
    · rw [if_neg c, if_neg c]
      exact pass_app w l1 l2 since
theorem rngT_succ (s p : Int) (k : Nat) : rngT s p (k + 1) = s :: rngT (s + p) p k := by
  unfold rngT
  rw [List.range_succ_eq_map, List.map_cons, List.map_map]
  congr 1
  · simp
  · apply List.map_congr_left
    intro j _
    simp only [Function.comp, Nat.succ_eq_add_one]
    rw [show ((j + 1 : Nat) : Int) = (j : Int) + 1 by omega, Int.mul_add]
    omega
def cl (m d : Nat) : Nat := (m + d - 1) / d
theorem pass_ap {w p : Int} (hp : 1 ≤ p) {st : Nat} (hs0 : 1 ≤ st) (hs1 : p * ((st : Int) - 1) < w) (hs2 : w ≤ p * (st : Int)) : ∀ (k : Nat) (s since : Int) (low : Nat), (∀ j : Nat, j < low → s + p * (j : Int) - since < w) → w ≤ s + p * (low : Int) - since → pass w since (rngT s p k) = rngT (s + p * (low : Int)) (p * (st : Int)) (cl (k - low) st)
  | 0, s, since, low, _, _ => by
    have : cl (0 - low) st = 0 := by unfold cl; rw [Nat.zero_sub, Nat.zero_add]; exact Nat.div_eq_of_lt (by omega)
    rw [this]
    rfl
  | k + 1, s, since, low, h1, h2 => by
    rw [rngT_succ, pass_cons]
    cases low with
    | zero =>
      rw [if_pos (by simpa using h2)]
      have a1 : ∀ j : Nat, j < st - 1 → s + p + p * (j : Int) - s < w := fun j hj => by
        have : p * (j : Int) ≤ p * ((st : Int) - 2) := Int.mul_le_mul_of_nonneg_left (by omega) (by omega)
        have e : p * ((st : Int) - 2) = p * ((st : Int) - 1) - p := by rw [show (st : Int) - 2 = ((st : Int) - 1) - 1 by omega, Int.mul_sub p, Int.mul_one]
        omega
      have a2 : w ≤ s + p + p * ((st - 1 : Nat) : Int) - s := by
        have e : p * ((st - 1 : Nat) : Int) = p * (st : Int) - p := by rw [show ((st - 1 : Nat) : Int) = (st : Int) - 1 by omega, Int.mul_sub, Int.mul_one]
        omega
      · rw [pass_ap hp hs0 hs1 hs2 k (s + p) s (st - 1) a1 a2]
        have e1 : s + p + p * ((st - 1 : Nat) : Int) = s + p * (st : Int) := by
          rw [show ((st - 1 : Nat) : Int) = (st : Int) - 1 by omega, Int.mul_sub]
          omega
        have e2 : cl (k + 1 - 0) st = cl (k - (st - 1)) st + 1 := by
          unfold cl
          rcases Nat.lt_or_ge k st with c | c
          · rw [show k - (st - 1) = 0 by omega, Nat.zero_add, Nat.div_eq_of_lt (show st - 1 < st by omega)]
            rw [show k + 1 - 0 + st - 1 = k + st by omega, Nat.add_div_right _ (by omega), Nat.div_eq_of_lt c]
          · rw [show k + 1 - 0 + st - 1 = (k - (st - 1) + st - 1) + st by omega, Nat.add_div_right _ (by omega)]
        rw [e1, e2, rngT_succ]
        simp
    | succ l =>
      rw [if_neg (by have := h1 0 (by omega); simp at this; omega)]
      have a1 : ∀ j : Nat, j < l → s + p + p * (j : Int) - since < w := fun j hj => by
        have := h1 (j + 1) (by omega)
        rw [show ((j + 1 : Nat) : Int) = (j : Int) + 1 by omega, Int.mul_add, Int.mul_one] at this
        omega
      have e : p * ((l + 1 : Nat) : Int) = p * (l : Int) + p := by rw [show ((l + 1 : Nat) : Int) = (l : Int) + 1 by omega, Int.mul_add, Int.mul_one]
      rw [e] at h2
      rw [pass_ap hp hs0 hs1 hs2 k (s + p) since l a1 (by omega), show k + 1 - (l + 1) = k - l by omega, e]
      congr 1
      omega
theorem cl_lt {m d i : Nat} (hd : 1 ≤ d) : i < cl m d ↔ i * d < m := by
  unfold cl
  rw [Nat.lt_iff_add_one_le, Nat.le_div_iff_mul_le (by omega), Nat.add_mul]
  omega
/-- how far on, and how far between -/
def lowT (w since : Int) (t : Tr) : Int := max 0 ((since + w - t.s + t.p - 1) / t.p)
def strT (w : Int) (t : Tr) : Int := (w + t.p - 1) / t.p
def thT (w since : Int) (t : Tr) : Option Tr := match t.n with
  | none => some ⟨t.s + lowT w since t * t.p, t.p * strT w t, none⟩
  | some n => if lowT w since t < n then some ⟨t.s + lowT w since t * t.p, t.p * strT w t, some ((n - 1 - lowT w since t) / strT w t + 1)⟩ else none
def nextS (since : Int) (u : Tr) : Int := match u.n with
  | none => since
  | some k => u.s + u.p * (k - 1)
def thR (w : Int) : Int → List Tr → List Tr
  | _, [] => []
  | since, t :: r => match thT w since t with
    | none => thR w since r
    | some u => u :: thR w (nextS since u) r
theorem str_ok {w : Int} {t : Tr} (h : okT t) (hw : 1 ≤ w) : 1 ≤ strT w t ∧ t.p * (strT w t - 1) < w ∧ w ≤ t.p * strT w t := by
  have hp := h.2.1
  have e := Int.mul_ediv_add_emod (w + t.p - 1) t.p
  have e0 := Int.emod_nonneg (w + t.p - 1) (show t.p ≠ 0 by omega)
  have e1 := Int.emod_lt_of_pos (w + t.p - 1) (show 0 < t.p by omega)
  unfold strT
  refine ⟨?_, ?_, by omega⟩
  · rw [Int.le_ediv_iff_mul_le (by omega)]; omega
  · rw [Int.mul_sub, Int.mul_one]; omega
theorem low_ok {w since : Int} {t : Tr} (h : okT t) : 0 ≤ lowT w since t ∧ (∀ j : Int, 0 ≤ j → j < lowT w since t → t.s + t.p * j - since < w) ∧ w ≤ t.s + t.p * lowT w since t - since := by
  have hp := h.2.1
  have e := Int.mul_ediv_add_emod (since + w - t.s + t.p - 1) t.p
  have e0 := Int.emod_nonneg (since + w - t.s + t.p - 1) (show t.p ≠ 0 by omega)
  have e1 := Int.emod_lt_of_pos (since + w - t.s + t.p - 1) (show 0 < t.p by omega)
  unfold lowT
  generalize (since + w - t.s + t.p - 1) / t.p = q at *
  refine ⟨Int.le_max_left _ _, fun j j0 j1 => ?_, ?_⟩
  · have : j ≤ q - 1 := by omega
    have := Int.mul_le_mul_of_nonneg_left this (show 0 ≤ t.p by omega)
    rw [Int.mul_sub, Int.mul_one] at this
    omega
  · have : t.p * q ≤ t.p * max 0 q := Int.mul_le_mul_of_nonneg_left (Int.le_max_right _ _) (by omega)
    omega
/-- one train -/
theorem pass_tlB {w since X : Int} {t : Tr} (h : okT t) (hw : 1 ≤ w) : pass w since (tlB X t) = match thT w since t with | none => [] | some u => tlB X u := by
  obtain ⟨s1, s2, s3⟩ := str_ok h hw
  obtain ⟨l0, l1, l2⟩ := low_ok (w := w) (since := since) h
  have hp := h.2.1
  have b0 := bf_nonneg h X
  have key := pass_ap (w := w) hp (st := (strT w t).toNat) (by omega) (by rw [Int.toNat_of_nonneg (by omega)]; exact s2) (by rw [Int.toNat_of_nonneg (by omega)]; exact s3) (bfI t X).toNat t.s since (lowT w since t).toNat (fun j hj => l1 j (by omega) (by omega)) (by rw [Int.toNat_of_nonneg l0]; exact l2)
  unfold tlB
  rw [key, Int.toNat_of_nonneg l0, Int.toNat_of_nonneg (show 0 ≤ strT w t by omega)]
  generalize hL : lowT w since t = L at *
  generalize hS : strT w t = S at *
  have ps : 1 ≤ t.p * S := by
    have := Int.mul_le_mul hp s1 (by decide) (by omega)
    omega
  have pL := Int.mul_nonneg l0 (show 0 ≤ t.p by omega)
  have emp : ∀ n, t.n = some n → n ≤ L → cl ((bfI t X).toNat - L.toNat) S.toNat = 0 := fun n e c => by
    have := bf_le h e X
    have : (bfI t X).toNat - L.toNat = 0 := by omega
    unfold cl
    rw [this, Nat.zero_add]
    exact Nat.div_eq_of_lt (by omega)
  have main : ∀ u : Tr, okT u → u.s = t.s + L * t.p → u.p = t.p * S → (∀ i : Int, 0 ≤ i → ((∀ n, t.n = some n → L + i * S < n) ↔ ∀ k, u.n = some k → i < k)) → rngT (t.s + t.p * L) (t.p * S) (cl ((bfI t X).toNat - L.toNat) S.toNat) = rngT u.s u.p (bfI u X).toNat := by
    intro u ou us up un
    refine inc_ext (inc_rngT ps _) (inc_rngT ou.2.1 _) fun x => ?_
    have := mem_tlB ou X x
    unfold tlB at this
    rw [this, mem_rngT]
    constructor
    · rintro ⟨i, i0, i1, e⟩
      have c : i.toNat * S.toNat < (bfI t X).toNat - L.toNat := (cl_lt (by omega)).mp (by omega)
      have c2 : L + i * S < bfI t X := by
        have : ((i.toNat * S.toNat : Nat) : Int) = i * S := by rw [Int.natCast_mul, Int.toNat_of_nonneg i0, Int.toNat_of_nonneg (show 0 ≤ S by omega)]
        omega
      have j0 : 0 ≤ L + i * S := by have := Int.mul_nonneg i0 (show 0 ≤ S by omega); omega
      have jn : ∀ n, t.n = some n → L + i * S < n := fun n z => by have := bf_le h z X; omega
      have lt := (bf_spec h X (L + i * S) j0 jn).mpr c2
      have ex : t.p * (L + i * S) = L * t.p + t.p * S * i := by rw [Int.mul_add, Int.mul_comm t.p L, Int.mul_assoc t.p S i, Int.mul_comm S i]
      have ec := Int.mul_comm L t.p
      refine ⟨⟨i, i0, (un i i0).mp jn, by rw [us, up]; omega⟩, by omega⟩
    · rintro ⟨⟨i, i0, i1, e⟩, hx⟩
      have jn := (un i i0).mpr i1
      have j0 : 0 ≤ L + i * S := by have := Int.mul_nonneg i0 (show 0 ≤ S by omega); omega
      rw [us, up] at e
      have ex : t.p * (L + i * S) = L * t.p + t.p * S * i := by rw [Int.mul_add, Int.mul_comm t.p L, Int.mul_assoc t.p S i, Int.mul_comm S i]
      have c2 := (bf_spec h X (L + i * S) j0 jn).mp (by omega)
      have ec := Int.mul_comm L t.p
      refine ⟨i, i0, ?_, by omega⟩
      have c : i.toNat < cl ((bfI t X).toNat - L.toNat) S.toNat := (cl_lt (by omega)).mpr (by
        have : ((i.toNat * S.toNat : Nat) : Int) = i * S := by rw [Int.natCast_mul, Int.toNat_of_nonneg i0, Int.toNat_of_nonneg (show 0 ≤ S by omega)]
        omega)
      omega
  unfold thT
  rw [hL, hS]
  cases e : t.n with
  | none =>
    simp only
    exact main ⟨t.s + L * t.p, t.p * S, none⟩ ⟨by have := h.1; simp only; omega, ps, fun n z => by cases z⟩ rfl rfl fun i _ => by simp [e]
  | some n =>
    by_cases c : L < n
    · simp only [if_pos c]
      have dv : ∀ i : Int, i ≤ (n - 1 - L) / S ↔ i * S ≤ n - 1 - L := fun i => Int.le_ediv_iff_mul_le (by omega)
      have d0 : 0 ≤ (n - 1 - L) / S := Int.ediv_nonneg (by omega) (by omega)
      exact main ⟨t.s + L * t.p, t.p * S, some ((n - 1 - L) / S + 1)⟩ ⟨by have := h.1; simp only; omega, ps, fun k z => by cases z; omega⟩ rfl rfl fun i _ => by
        simp only [e, Option.some.injEq, forall_eq']
        have := dv i
        omega
    · simp only [if_neg c]
      rw [emp n e (by omega)]
      rfl

theorem thT_pc {w since : Int} {t : Tr} (h : okT t) (hw : 1 ≤ w) : ∀ u, thT w since t = some u → okT u ∧ t.s ≤ u.s ∧ (t.n = none → u.n = none) ∧ (∀ x, mT u x → mT t x) ∧ ∀ n, t.n = some n → ∃ k, u.n = some k ∧ u.s + u.p * (k - 1) ≤ t.s + t.p * (n - 1) := by
  obtain ⟨s1, s2, s3⟩ := str_ok h hw
  obtain ⟨l0, l1, l2⟩ := low_ok (w := w) (since := since) h
  have hp := h.2.1
  intro u
  unfold thT
  generalize hL : lowT w since t = L at *
  generalize hS : strT w t = S at *
  have ps : 1 ≤ t.p * S := by
    have := Int.mul_le_mul hp s1 (by decide) (by omega)
    omega
  have pL := Int.mul_nonneg l0 (show 0 ≤ t.p by omega)
  have h0 := h.1
  have mem : ∀ (i : Int) (u : Tr), u.s = t.s + L * t.p → u.p = t.p * S → u.s + u.p * i = t.s + t.p * (L + i * S) := fun i u e1 e2 => by
    rw [e1, e2, Int.mul_add, Int.mul_comm t.p L, Int.mul_assoc t.p S i, Int.mul_comm S i]
    omega
  cases e : t.n with
  | none =>
    intro q
    simp only [Option.some.injEq] at q
    subst q
    refine ⟨⟨by simp only; omega, ps, fun n z => by cases z⟩, by simp only; omega, fun _ => rfl, fun x => ?_, fun n z => by cases z⟩
    rintro ⟨i, i0, _, rfl⟩
    exact ⟨L + i * S, by have := Int.mul_nonneg i0 (show 0 ≤ S by omega); omega, (fun n z => by rw [e] at z; cases z), mem i _ rfl rfl⟩
  | some n =>
    intro q
    by_cases c : L < n
    · simp only [if_pos c, Option.some.injEq] at q
      subst q
      have d0 : 0 ≤ (n - 1 - L) / S := Int.ediv_nonneg (by omega) (by omega)
      have dv : ∀ i : Int, i ≤ (n - 1 - L) / S ↔ i * S ≤ n - 1 - L := fun i => Int.le_ediv_iff_mul_le (by omega)
      refine ⟨⟨by simp only; omega, ps, fun k z => by cases z; omega⟩, by simp only; omega, (fun z => nomatch z), fun x => ?_, fun n' z => ⟨_, rfl, ?_⟩⟩
      · rintro ⟨i, i0, i1, rfl⟩
        have := i1 _ rfl
        have := (dv i).mp (by omega)
        exact ⟨L + i * S, by have := Int.mul_nonneg i0 (show 0 ≤ S by omega); omega, (fun n' z => by rw [e] at z; cases z; omega), mem i _ rfl rfl⟩
      · cases z
        rw [mem _ _ rfl rfl]
        have := (dv ((n - 1 - L) / S)).mp (Int.le_refl _)
        have : t.p * (L + ((n - 1 - L) / S + 1 - 1) * S) ≤ t.p * (n - 1) := Int.mul_le_mul_of_nonneg_left (by rw [show (n - 1 - L) / S + 1 - 1 = (n - 1 - L) / S by omega]; omega) (by omega)
        omega
    · simp only [if_neg c] at q
      cases q
theorem thR_sub {w : Int} (hw : 1 ≤ w) : ∀ {r : List Tr} {since : Int}, (∀ t ∈ r, okT t) → (∀ x, mR (thR w since r) x → mR r x) ∧ (∀ u ∈ thR w since r, okT u ∧ ∃ t ∈ r, t.s ≤ u.s)
  | [], since, _ => ⟨fun x h => h, fun u h => nomatch h⟩
  | t :: r, since, hv => by
    unfold thR
    have ih := fun s => thR_sub hw (r := r) (since := s) fun u m => hv u (List.mem_cons_of_mem _ m)
    cases e : thT w since t with
    | none =>
      simp only
      exact ⟨fun x q => (mR_cons _ _ _).mpr (.inr ((ih since).1 x q)), fun u m => ⟨((ih since).2 u m).1, by obtain ⟨a, b, c⟩ := ((ih since).2 u m).2; exact ⟨a, List.mem_cons_of_mem _ b, c⟩⟩⟩
    | some u =>
      simp only
      obtain ⟨p1, p2, p3, p4, p5⟩ := thT_pc (hv t List.mem_cons_self) hw u e
      refine ⟨fun x q => ?_, fun v m => ?_⟩
      · rcases (mR_cons _ _ _).mp q with q | q
        · exact (mR_cons _ _ _).mpr (.inl (p4 x q))
        · exact (mR_cons _ _ _).mpr (.inr ((ih _).1 x q))
      · rcases List.mem_cons.mp m with rfl | m
        · exact ⟨p1, t, List.mem_cons_self, p2⟩
        · exact ⟨((ih _).2 v m).1, by obtain ⟨a, b, c⟩ := ((ih _).2 v m).2; exact ⟨a, List.mem_cons_of_mem _ b, c⟩⟩
theorem thR_vd {w : Int} (hw : 1 ≤ w) : ∀ {r : List Tr} {since : Int}, Vd r → Vd (thR w since r)
  | [], _, _ => trivial
  | t :: r, since, h => by
    unfold thR
    cases e : thT w since t with
    | none => simp only; exact thR_vd hw h.tail
    | some u =>
      simp only
      obtain ⟨p1, p2, p3, p4, p5⟩ := thT_pc h.ok1 hw u e
      have ih := thR_vd hw (since := nextS since u) h.tail
      have sub := (thR_sub hw (r := r) (since := nextS since u) fun v m => h.okm v (List.mem_cons_of_mem _ m)).2
      cases hR : thR w (nextS since u) r with
      | nil => exact p1
      | cons v R =>
        rw [hR] at ih sub
        obtain ⟨_, a, ma, sa⟩ := sub v List.mem_cons_self
        refine ⟨p1, ?_, ih⟩
        cases r with
        | nil => cases ma
        | cons b r =>
          obtain ⟨n, en, el⟩ := h.2.1
          obtain ⟨k, ek, lk⟩ := p5 n en
          have := vd_mem_ge h.2.2 a ma
          exact ⟨k, ek, by omega⟩
theorem thR_len (w : Int) : ∀ (r : List Tr) (since : Int), (thR w since r).length ≤ r.length
  | [], _ => by simp [thR]
  | t :: r, since => by
    unfold thR
    cases thT w since t with
    | none => have := thR_len w r since; simp only [List.length_cons]; omega
    | some u => have := thR_len w r (nextS since u); simp only [List.length_cons]; omega
/-- all trains -/
theorem pass_tmB {w X : Int} (hw : 1 ≤ w) : ∀ (r : List Tr) (since : Int), Vd r → pass w since (tmB r X) = tmB (thR w since r) X
  | [], _, _ => rfl
  | t :: r, since, h => by
    have hp := pass_tlB (w := w) (since := since) (X := X) h.ok1 hw
    show pass w since (tlB X t ++ tmB r X) = _
    rw [pass_app, hp]
    unfold thR
    cases e : thT w since t with
    | none =>
      simp only [List.nil_append]
      exact pass_tmB hw r since h.tail
    | some u =>
      simp only
      obtain ⟨p1, p2, p3, p4, p5⟩ := thT_pc h.ok1 hw u e
      show _ = tlB X u ++ tmB (thR w (nextS since u) r) X
      congr 1
      cases hE : tmB r X with
      | nil =>
        have : tmB (thR w (nextS since u) r) X = [] := by
          rw [List.eq_nil_iff_forall_not_mem]
          intro x m
          have q := (mem_tmB (thR_vd hw h.tail) X x).mp m
          have z : x ∈ tmB r X := (mem_tmB h.tail X x).mpr ⟨(thR_sub hw fun v m => h.okm v (List.mem_cons_of_mem _ m)).1 x q.1, q.2⟩
          rw [hE] at z
          cases z
        rw [this]
        rfl
      | cons y l =>
        rw [← hE, ← pass_tmB hw r (nextS since u) h.tail]
        congr 1
        -- the train ends below X
        have my : y ∈ tmB r X := by rw [hE]; exact List.mem_cons_self
        obtain ⟨q1, q2⟩ := (mem_tmB h.tail X y).mp my
        cases r with
        | nil => exact (mR_nil _ q1).elim
        | cons b r =>
          obtain ⟨n, en, el⟩ := h.2.1
          obtain ⟨k, ek, lk⟩ := p5 n en
          have g := Vd.gt h en q1
          have k1 := p1.2.2 k ek
          have full : bfI u X = k := by
            have := bf_le p1 ek X
            have := (bf_spec p1 X (k - 1) (by omega) (fun m z => by rw [ek] at z; cases z; omega)).mp (by omega)
            omega
          unfold tlB nextS
          rw [full, ek]
          obtain ⟨k', hk⟩ : ∃ k' : Nat, k = (k' : Int) + 1 := ⟨(k - 1).toNat, by omega⟩
          subst hk
          rw [show ((k' : Int) + 1).toNat = k' + 1 by omega]
          unfold rngT
          rw [List.range_succ, List.map_append]
          simp
theorem pass_sub (w : Int) : ∀ (T : List Int) (since : Int), ∀ x ∈ pass w since T, x ∈ T
  | [], _, x, m => m
  | y :: T, since, x, m => by
    rw [pass_cons] at m
    split at m
    · rcases List.mem_cons.mp m with rfl | m
      · exact List.mem_cons_self
      · exact List.mem_cons_of_mem _ (pass_sub w T y x m)
    · exact List.mem_cons_of_mem _ (pass_sub w T since x m)
/-! ### thinned, as data -/
/-! ### comprehensions over what is kept -/
theorem comp_mapD (fs : List FS) (v : Nat) (its : List E) (elt : E) (ds : List D) (f : D → D) (Γ : Ct) (e1 : (evs fs its Γ).bind (fun p => iterD .seq p.1 p.2) = some (ds, Γ)) (hv : Γ[v]? = some none) (hl : ds.length ≤ 16777216)
    (he : ∀ d ∈ ds, ev fs elt (Γ.set v (some (d, false))) = some (.fz (f d), Γ.set v (some (d, false)))) : ev fs (.comp [v] (.nm v) .seq its [] elt) Γ = some (.nw (.lst (ds.map f)), Γ) := by
  have hvl : v < Γ.length := (List.getElem?_eq_some_iff.mp hv).1
  have sn : Γ.set v none = Γ := by
    apply List.ext_getElem?
    intro i
    by_cases q : v = i
    · subst q; rw [List.getElem?_set_self hvl, hv]
    · rw [List.getElem?_set_ne q]
  have hct : ∀ G, evc fs [] G = some (true, G) := fun _ => by simp only [evc]
  have key := compLoop_map (own := [v]) (tg := .nm v) (ct := evc fs []) (el := ev fs elt) (Γ := Γ) f (ds := ds) (acc := []) (fun d hd acc rest => by
    simp only [compLoop, asgT, hvl, if_true, Option.bind_some, hct, he d hd, fre]
    have pl : plainIx (Γ.set v (some (d, false))) [v] = true := by simp [plainIx, hvl]
    rw [if_pos pl, show wipeG (Γ.set v (some (d, false))) [v] = Γ by simp [wipeG, sn]])
  have pl : plainIx Γ [v] = true := by simp [plainIx, hv]
  have rg : restG Γ Γ [v] = Γ := by
    simp only [restG, List.getD_eq_getElem?_getD, hv, Option.getD_some]
    exact sn
  obtain ⟨⟨xs, Γ1⟩, a1, a2⟩ := Option.bind_eq_some_iff.mp e1
  rw [DV.ev.eq_18]
  simp only [a1, Option.bind_some, a2]
  rw [if_pos (by simp [pl, sz, tgIx, hl])]
  rw [show wipeG Γ [v] = Γ by simp [wipeG, sn], key]
  simp only [Option.map_some, rg, List.nil_append]
/-! ### counted -/
def cb (r : List Tr) (x : Int) : Int := (r.map (bfI · x)).sum
theorem cb_nonneg {r : List Tr} (h : ∀ t ∈ r, okT t) (x : Int) : 0 ≤ cb r x := by
  unfold cb
  induction r with
  | nil => simp
  | cons t r ih =>
    have := bf_nonneg (h t List.mem_cons_self) x
    have := ih fun u m => h u (List.mem_cons_of_mem _ m)
    rw [List.map_cons, List.sum_cons]
    omega
theorem cb_cons (t : Tr) (r : List Tr) (x : Int) : cb (t :: r) x = bfI t x + cb r x := by unfold cb; rw [List.map_cons, List.sum_cons]
theorem cb_zero {r : List Tr} (x : Int) (h : ∀ t ∈ r, x ≤ t.s) : cb r x = 0 := by
  induction r with
  | nil => rfl
  | cons t r ih =>
    rw [cb_cons, ih fun u m => h u (List.mem_cons_of_mem _ m)]
    unfold bfI
    rw [if_pos (h t List.mem_cons_self)]
    rfl
/-- the index of a time and what is before -/
theorem nth_cb : ∀ {r : List Tr}, Vd r → ∀ {i v : Int}, 0 ≤ i → nthT r i = some v → (∀ x, cb r x ≤ i ↔ x ≤ v) ∧ mR r v
  | [], _, i, v, _, h => by cases h
  | t :: r, hv, i, v, i0, h => by
    have ok := hv.ok1
    unfold nthT at h
    cases e : t.n with
    | none =>
      rw [e] at h
      simp only [Option.some.injEq] at h
      have hr : r = [] := by
        cases r with
        | nil => rfl
        | cons b r => obtain ⟨n, en, _⟩ := hv.2.1; rw [e] at en; cases en
      subst hr
      have jn : ∀ n, t.n = some n → i < n := fun n z => by rw [e] at z; cases z
      refine ⟨fun x => ?_, (mR_one _ _).mpr ⟨i, i0, jn, by rw [← h, Int.mul_comm]⟩⟩
      have := bf_spec ok x i i0 jn
      rw [cb_cons]
      rw [Int.mul_comm] at h
      show bfI t x + 0 ≤ i ↔ _
      omega
    | some n =>
      rw [e] at h
      simp only at h
      have n1 := ok.2.2 n e
      by_cases c : i < n
      · rw [if_pos c] at h
        simp only [Option.some.injEq] at h
        have jn : ∀ n', t.n = some n' → i < n' := fun n' z => by rw [e] at z; cases z; exact c
        rw [Int.mul_comm] at h
        refine ⟨fun x => ?_, (mR_cons _ _ _).mpr (.inl ⟨i, i0, jn, h.symm⟩)⟩
        have sp := bf_spec ok x i i0 jn
        have cn := cb_nonneg (fun u m => hv.okm u (List.mem_cons_of_mem _ m)) (r := r) x
        rw [cb_cons]
        constructor
        · intro q; omega
        · intro q
          have z : cb r x = 0 := cb_zero x fun u m => by
            cases r with
            | nil => cases m
            | cons b r =>
              have := Vd.gt hv e ⟨u, m, mT_s (hv.okm u (List.mem_cons_of_mem _ m))⟩
              have := mT_le ok e ⟨i, i0, jn, h.symm⟩
              omega
          omega
      · rw [if_neg c] at h
        obtain ⟨ih, mv⟩ := nth_cb hv.tail (by omega) h
        refine ⟨fun x => ?_, (mR_cons _ _ _).mpr (.inr mv)⟩
        have ihx := ih x
        have b1 := bf_le ok e x
        rw [cb_cons]
        by_cases full : bfI t x = n
        · omega
        · have gv : t.s + t.p * (n - 1) < v := by
            cases r with
            | nil => exact (mR_nil _ mv).elim
            | cons b r => exact Vd.gt hv e mv
          have sp := bf_spec ok x (n - 1) (by omega) (fun n' z => by rw [e] at z; cases z; omega)
          have z : cb r x = 0 := cb_zero x fun u m => by
            cases r with
            | nil => cases m
            | cons b r =>
              have := Vd.gt hv e ⟨u, m, mT_s (hv.okm u (List.mem_cons_of_mem _ m))⟩
              omega
          omega
theorem nth_some : ∀ {r : List Tr}, (∀ t ∈ r, okT t) → ∀ {i : Int}, 0 ≤ i → (∀ n, tcnt r = some n → i < n) → ∃ v, nthT r i = some v
  | [], _, i, i0, h => by
    have := h 0 rfl
    omega
  | t :: r, hv, i, i0, h => by
    unfold nthT
    cases e : t.n with
    | none => exact ⟨_, rfl⟩
    | some n =>
      simp only
      by_cases c : i < n
      · rw [if_pos c]; exact ⟨_, rfl⟩
      · rw [if_neg c]
        refine nth_some (fun u m => hv u (List.mem_cons_of_mem _ m)) (by omega) fun m hm => ?_
        have : tcnt (t :: r) = some (n + m) := by
          unfold tcnt at hm ⊢
          split at hm
          · cases hm
          · rename_i q
            simp only [Option.some.injEq] at hm
            rw [if_neg (by simp only [List.any_cons, e, Option.isNone_some, Bool.false_or]; exact q), List.map_cons, List.sum_cons, e, hm]
            rfl
        have := h _ this
        omega
theorem cb_le {r : List Tr} (hv : ∀ t ∈ r, okT t) {n : Int} (h : tcnt r = some n) (x : Int) : cb r x ≤ n := by
  induction r generalizing n with
  | nil =>
    have : n = 0 := by have : (some 0 : Option Int) = some n := h; simpa using this.symm
    subst this
    exact Int.le_refl 0
  | cons t r ih =>
    unfold tcnt at h
    split at h
    · cases h
    · rename_i q
      simp only [List.any_cons, Bool.or_eq_true, not_or, Bool.not_eq_true] at q
      simp only [Option.some.injEq, List.map_cons, List.sum_cons] at h
      cases e : t.n with
      | none => rw [e] at q; simp at q
      | some m =>
        have := bf_le (hv t List.mem_cons_self) e x
        have := ih (fun u m => hv u (List.mem_cons_of_mem _ m)) (n := (r.map (·.n.getD 0)).sum) (by unfold tcnt; rw [if_neg (by rw [q.2]; simp)])
        rw [e] at h
        simp only [Option.getD_some] at h
        rw [cb_cons]
        omega
/-- the least time from x on -/
def nextT (r : List Tr) (x : Int) : Option Int := match tcnt r with
  | none => nthT r (cb r x)
  | some n => if cb r x < n then nthT r (cb r x) else none
theorem mR_cb {r : List Tr} (hv : Vd r) {x y : Int} (h : mR r y) (g : x ≤ y) : cb r x < cb r (y + 1) := by
  induction r with
  | nil => exact (mR_nil _ h).elim
  | cons t r ih =>
    rw [cb_cons, cb_cons]
    have mono : ∀ {u : Tr}, okT u → ∀ {a b : Int}, a ≤ b → bfI u a ≤ bfI u b := by
      intro u ok a b hab
      have a0 := bf_nonneg ok a
      by_cases z : bfI u a = 0
      · have := bf_nonneg ok b; omega
      · have jn : ∀ n, u.n = some n → bfI u a - 1 < n := fun n e => by have := bf_le ok e a; omega
        have q := (bf_spec ok a (bfI u a - 1) (by omega) jn).mpr (by omega)
        have := (bf_spec ok b (bfI u a - 1) (by omega) jn).mp (by omega)
        omega
    have monoR : ∀ (r : List Tr), (∀ u ∈ r, okT u) → ∀ {a b : Int}, a ≤ b → cb r a ≤ cb r b := by
      intro r
      induction r with
      | nil => intro _ a b _; exact Int.le_refl _
      | cons u r ih2 =>
        intro hu a b hab
        rw [cb_cons, cb_cons]
        have := mono (hu u List.mem_cons_self) hab
        have := ih2 (fun w m => hu w (List.mem_cons_of_mem _ m)) hab
        omega
    rcases (mR_cons _ _ _).mp h with ⟨j, j0, jn, e⟩ | h
    · have q1 := (bf_spec hv.ok1 (y + 1) j j0 jn).mp (by omega)
      have q2 := bf_spec hv.ok1 x j j0 jn
      have := monoR r (fun u m => hv.okm u (List.mem_cons_of_mem _ m)) (show x ≤ y + 1 by omega)
      omega
    · have := ih hv.tail h
      have := mono hv.ok1 (show x ≤ y + 1 by omega)
      omega
theorem cb_mono {r : List Tr} (hv : ∀ t ∈ r, okT t) {a b : Int} (hab : a ≤ b) : cb r a ≤ cb r b := by
  induction r with
  | nil => exact Int.le_refl _
  | cons u r ih =>
    rw [cb_cons, cb_cons]
    have ok := hv u List.mem_cons_self
    have : bfI u a ≤ bfI u b := by
      have a0 := bf_nonneg ok a
      by_cases z : bfI u a = 0
      · have := bf_nonneg ok b; omega
      · have jn : ∀ n, u.n = some n → bfI u a - 1 < n := fun n e => by have := bf_le ok e a; omega
        have q := (bf_spec ok a (bfI u a - 1) (by omega) jn).mpr (by omega)
        have := (bf_spec ok b (bfI u a - 1) (by omega) jn).mp (by omega)
        omega
    have := ih fun w m => hv w (List.mem_cons_of_mem _ m)
    omega
/-- what next_time says -/
theorem nextT_spec {r : List Tr} (hv : Vd r) (x : Int) : match nextT r x with
    | none => ∀ y, mR r y → y < x
    | some v => nthT r (cb r x) = some v ∧ mR r v ∧ x ≤ v ∧ ∀ y, mR r y → x ≤ y → v ≤ y := by
  have ok : ∀ t ∈ r, okT t := fun t m => hv.okm t m
  have c0 := cb_nonneg ok x
  have fin : ∀ v, nthT r (cb r x) = some v → nthT r (cb r x) = some v ∧ mR r v ∧ x ≤ v ∧ ∀ y, mR r y → x ≤ y → v ≤ y := fun v e => by
    obtain ⟨g, m⟩ := nth_cb hv c0 e
    refine ⟨e, m, (g x).mp (Int.le_refl _), fun y my hy => ?_⟩
    have := mR_cb hv my hy
    have q := g (y + 1)
    omega
  unfold nextT
  cases e : tcnt r with
  | none =>
    obtain ⟨v, hn⟩ := nth_some ok c0 (fun n z => by rw [e] at z; cases z)
    simp only
    rw [hn]
    rw [hn] at fin
    exact fin v rfl
  | some n =>
    by_cases c : cb r x < n
    · simp only [if_pos c]
      obtain ⟨v, hn⟩ := nth_some ok c0 (fun n' z => by rw [e] at z; cases z; exact c)
      rw [hn]
      rw [hn] at fin
      exact fin v rfl
    · simp only [if_neg c]
      intro y my
      refine Decidable.byContradiction fun hy => ?_
      have := mR_cb hv my (show x ≤ y by omega)
      have := cb_le ok e (y + 1)
      omega
/-! ### indices and listed times -/
theorem nth_tmB : ∀ {r : List Tr}, Vd r → ∀ {i v X : Int}, 0 ≤ i → nthT r i = some v → v < X → (tmB r X)[i.toNat]? = some v
  | [], _, i, v, X, _, h, _ => by cases h
  | t :: r, hv, i, v, X, i0, h, hX => by
    have ok := hv.ok1
    have m := (nth_cb hv i0 h).2
    unfold nthT at h
    show (tlB X t ++ tmB r X)[i.toNat]? = some v
    have own : (∀ n, t.n = some n → i < n) → t.s + i * t.p = v → (tlB X t ++ tmB r X)[i.toNat]? = some v := fun jn e => by
      have c := (bf_spec ok X i i0 jn).mp (by rw [Int.mul_comm]; omega)
      unfold tlB rngT
      rw [List.getElem?_append_left (by simp; omega), List.getElem?_map, List.getElem?_range (by omega)]
      simp only [Option.map_some, Option.some.injEq]
      rw [Int.toNat_of_nonneg i0, Int.mul_comm]
      exact e
    cases e : t.n with
    | none =>
      rw [e] at h
      exact own (fun n z => by rw [e] at z; cases z) (by simpa using h)
    | some n =>
      rw [e] at h
      simp only at h
      by_cases c : i < n
      · rw [if_pos c] at h
        exact own (fun n' z => by rw [e] at z; cases z; exact c) (by simpa using h)
      · rw [if_neg c] at h
        have n1 := ok.2.2 n e
        have mr := (nth_cb hv.tail (by omega) h).2
        have g : t.s + t.p * (n - 1) < v := by
          cases r with
          | nil => exact (mR_nil _ mr).elim
          | cons b r => exact Vd.gt hv e mr
        have full : bfI t X = n := by
          have := bf_le ok e X
          have := (bf_spec ok X (n - 1) (by omega) (fun n' z => by rw [e] at z; cases z; omega)).mp (by omega)
          omega
        have hl : (tlB X t).length = n.toNat := by unfold tlB rngT; rw [full]; simp
        rw [List.getElem?_append_right (by rw [hl]; omega), hl, show i.toNat - n.toNat = (i - n).toNat by omega]
        exact nth_tmB hv.tail (by omega) h hX
/-- what a breaker passes: each one the first from so late on -/
theorem pass_get {w : Int} (hw : 1 ≤ w) : ∀ {l : List Int} {since : Int} {i : Nat} {v : Int}, Inc l → (pass w since l)[i]? = some v → ∀ prev, (i = 0 ∧ prev = since ∨ ∃ j, i = j + 1 ∧ (pass w since l)[j]? = some prev) → v ∈ l ∧ prev + w ≤ v ∧ ∀ z ∈ l, prev + w ≤ z → v ≤ z
  | [], since, i, v, _, h, _, _ => by simp [pass] at h
  | x :: l, since, i, v, hi, h, prev, hp => by
    obtain ⟨h1, h2⟩ := List.pairwise_cons.mp hi
    rw [pass_cons] at h hp
    by_cases c : w ≤ x - since
    · rw [if_pos c] at h hp
      cases i with
      | zero =>
        simp only [List.getElem?_cons_zero, Option.some.injEq] at h
        subst h
        rcases hp with ⟨_, rfl⟩ | ⟨j, q, _⟩
        · refine ⟨List.mem_cons_self, by omega, fun z mz _ => ?_⟩
          rcases List.mem_cons.mp mz with rfl | mz
          · exact Int.le_refl _
          · have := h1 z mz; omega
        · omega
      | succ i =>
        rw [List.getElem?_cons_succ] at h
        rcases hp with ⟨q, _⟩ | ⟨j, q, hj⟩
        · omega
        · have : j = i := by omega
          subst this
          have hx : x ≤ prev := by
            cases j with
            | zero => simp only [List.getElem?_cons_zero, Option.some.injEq] at hj; omega
            | succ j =>
              rw [List.getElem?_cons_succ] at hj
              have := h1 prev (pass_sub w l x prev (List.mem_of_getElem? hj))
              omega
          obtain ⟨a1, a2, a3⟩ := pass_get hw h2 h prev (by
            cases j with
            | zero => exact .inl ⟨rfl, by simpa using hj.symm⟩
            | succ j => exact .inr ⟨j, rfl, by simpa using hj⟩)
          refine ⟨List.mem_cons_of_mem _ a1, a2, fun z mz hz => ?_⟩
          rcases List.mem_cons.mp mz with rfl | mz
          · omega
          · exact a3 z mz hz
    · rw [if_neg c] at h hp
      obtain ⟨a1, a2, a3⟩ := pass_get hw h2 h prev hp
      refine ⟨List.mem_cons_of_mem _ a1, a2, fun z mz hz => ?_⟩
      rcases List.mem_cons.mp mz with rfl | mz
      · rcases hp with ⟨_, rfl⟩ | ⟨j, _, hj⟩
        · omega
        · have := h1 prev (pass_sub w l since prev (List.mem_of_getElem? hj))
          omega
      · exact a3 z mz hz
theorem pass_end {w : Int} (hw : 1 ≤ w) : ∀ {l : List Int} {since : Int}, Inc l → ∀ z ∈ l, z < (pass w since l).getLast?.getD since + w
  | [], _, _, z, m => nomatch m
  | x :: l, since, hi, z, m => by
    obtain ⟨h1, h2⟩ := List.pairwise_cons.mp hi
    rw [pass_cons]
    by_cases c : w ≤ x - since
    · rw [if_pos c]
      have e : (x :: pass w x l).getLast?.getD since = (pass w x l).getLast?.getD x := by
        cases h : pass w x l with
        | nil => rfl
        | cons y q => simp [List.getLast?_cons]
      rw [e]
      rcases List.mem_cons.mp m with rfl | m
      · have : z ≤ (pass w z l).getLast?.getD z := by
          cases h : (pass w z l).getLast? with
          | none => exact Int.le_refl _
          | some u =>
            have := h1 u (pass_sub w l z u (List.mem_of_getLast? h))
            simp only [Option.getD_some]
            omega
        omega
      · exact pass_end hw h2 z m
    · rw [if_neg c]
      rcases List.mem_cons.mp m with rfl | m
      · have : since ≤ (pass w since l).getLast?.getD since ∨ z < (pass w since l).getLast?.getD since := by
          cases h : (pass w since l).getLast? with
          | none => exact .inl (Int.le_refl _)
          | some u =>
            have := h1 u (pass_sub w l since u (List.mem_of_getLast? h))
            simp only [Option.getD_some]
            exact .inr this
        omega
      · exact pass_end hw h2 z m
/-- all times counted -/
theorem tcnt_cb : ∀ {r : List Tr}, Vd r → ∀ {n X : Int}, tcnt r = some n → (∀ x, mR r x → x < X) → cb r X = n
  | [], _, n, X, h, _ => by have : (some 0 : Option Int) = some n := h; show (0 : Int) = n; simpa using this
  | t :: r, hv, n, X, h, hx => by
    unfold tcnt at h
    split at h
    · cases h
    · rename_i q
      simp only [List.any_cons, Bool.or_eq_true, not_or, Bool.not_eq_true] at q
      simp only [Option.some.injEq, List.map_cons, List.sum_cons] at h
      cases e : t.n with
      | none => rw [e] at q; simp at q
      | some m =>
        have ok := hv.ok1
        have m1 := ok.2.2 m e
        have ih := tcnt_cb hv.tail (n := (r.map (·.n.getD 0)).sum) (X := X) (by unfold tcnt; rw [if_neg (by rw [q.2]; simp)]) fun x mx => hx x ((mR_cons _ _ _).mpr (.inr mx))
        rw [e] at h
        simp only [Option.getD_some] at h
        have l1 := hx (t.s + t.p * (m - 1)) ((mR_cons _ _ _).mpr (.inl ⟨m - 1, by omega, (fun n' z => by rw [e] at z; cases z; omega), rfl⟩))
        have := (bf_spec ok X (m - 1) (by omega) (fun n' z => by rw [e] at z; cases z; omega)).mp l1
        have := bf_le ok e X
        rw [cb_cons]
        omega
theorem tcnt_fi {r : List Tr} : (∃ n, tcnt r = some n) ↔ Fi r := by
  unfold tcnt Fi
  constructor
  · rintro ⟨n, h⟩ t m
    split at h
    · cases h
    · rename_i q
      simp only [Bool.not_eq_true] at q
      have := List.any_eq_false.mp q t m
      cases e : t.n with
      | none => rw [e] at this; simp at this
      | some n => exact ⟨n, rfl⟩
  · intro h
    refine ⟨_, if_neg ?_⟩
    simp only [Bool.not_eq_true, List.any_eq_false]
    intro t m
    obtain ⟨n, e⟩ := h t m
    rw [e]; simp
theorem rb_lt {r : List Tr} {B : Int} (hv : Vd r) (hf : Fi r) (hr : RB B r) : ∀ x, mR r x → x < B := fun x ⟨t, m, q⟩ => by
  obtain ⟨n, e⟩ := hf t m
  have := mT_le (hv.okm t m) e q
  have := (hr t m).2.2 n e
  omega
/-! ### a breaker's times, one by one -/
structure Gone (A G : List Tr) (w since : Int) : Prop where
  va : Vd A
  vg : Vd G
  tm : ∀ X, tmB G X = pass w since (tmB A X)
theorem Gone.next {A G : List Tr} {w since : Int} (g : Gone A G w since) (hw : 1 ≤ w) {i v prev : Int} (i0 : 0 ≤ i) (h : nthT G i = some v) (hp : i = 0 ∧ prev = since ∨ 0 < i ∧ nthT G (i - 1) = some prev) : mR A v ∧ nextT A (prev + w) = some v := by
  have hX := nth_tmB g.vg i0 h (show v < v + 1 by omega)
  rw [g.tm] at hX
  obtain ⟨a1, a2, a3⟩ := pass_get hw (inc_tmB g.va (v + 1)) hX prev (by
    rcases hp with ⟨rfl, rfl⟩ | ⟨q, hp⟩
    · exact .inl ⟨rfl, rfl⟩
    · have lt : prev < v + 1 := by
        have c1 := (nth_cb g.vg i0 h).1 prev
        have c2 := (nth_cb g.vg (show 0 ≤ i - 1 by omega) hp).1 prev
        omega
      have := nth_tmB g.vg (show 0 ≤ i - 1 by omega) hp lt
      rw [g.tm] at this
      exact .inr ⟨(i - 1).toNat, by omega, this⟩)
  have mv := ((mem_tmB g.va _ _).mp a1).1
  refine ⟨mv, ?_⟩
  have sp := nextT_spec g.va (prev + w)
  cases e : nextT A (prev + w) with
  | none => rw [e] at sp; have := sp v mv; omega
  | some u =>
    rw [e] at sp
    obtain ⟨_, mu, hu, least⟩ := sp
    have := least v mv a2
    have := a3 u ((mem_tmB g.va _ _).mpr ⟨mu, by omega⟩) hu
    congr 1
    omega
theorem Gone.stop {A G : List Tr} {w since : Int} (g : Gone A G w since) (hw : 1 ≤ w) {n : Int} (hn : tcnt G = some n) (behind : Int) (hb : n = 0 ∧ behind = since ∨ 0 < n ∧ nthT G (n - 1) = some behind) : nextT A (behind + w) = none := by
  have hf := tcnt_fi.mp ⟨n, hn⟩
  obtain ⟨B, hB⟩ := rb_ex G
  have lt := rb_lt g.vg hf hB
  have sp := nextT_spec g.va (behind + w)
  cases e : nextT A (behind + w) with
  | none => rfl
  | some z =>
    exfalso
    rw [e] at sp
    obtain ⟨_, mz, hz, _⟩ := sp
    generalize hX : max B (z + 1) = X
    have hc := tcnt_cb g.vg hn (X := X) fun x mx => by have := lt x mx; omega
    have fe := pass_end hw (since := since) (inc_tmB g.va X) z ((mem_tmB g.va _ _).mpr ⟨mz, by omega⟩)
    rw [← g.tm] at fe
    have len : ((tmB G X).length : Int) = cb G X := by
      have : ∀ r : List Tr, (∀ t ∈ r, okT t) → ((tmB r X).length : Int) = cb r X := by
        intro r
        induction r with
        | nil => intro _; rfl
        | cons t r ih =>
          intro h
          have := ih fun u m => h u (List.mem_cons_of_mem _ m)
          have := bf_nonneg (h t List.mem_cons_self) X
          rw [cb_cons]
          show ((tlB X t ++ tmB r X).length : Int) = _
          rw [List.length_append]
          unfold tlB rngT
          simp only [List.length_map, List.length_range]
          omega
      exact this G fun t m => g.vg.okm t m
    rcases hb with ⟨rfl, rfl⟩ | ⟨q, hb⟩
    · have : tmB G X = [] := List.length_eq_zero_iff.mp (by omega)
      rw [this] at fe
      simp at fe
      omega
    · have lb : behind < X := by
        have := lt behind (nth_cb g.vg (by omega) hb).2
        omega
      have := nth_tmB g.vg (show 0 ≤ n - 1 by omega) hb lb
      have lst : (tmB G X).getLast? = some behind := by
        rw [List.getLast?_eq_getElem?, show (tmB G X).length - 1 = (n - 1).toNat by omega]
        exact this
      rw [lst] at fe
      simp only [Option.getD_some] at fe
      omega
theorem low_reach {w since : Int} {t : Tr} (h : okT t) : t.s + lowT w since t * t.p ≤ max t.s (since + w + t.p) := by
  have hp := h.2.1
  obtain ⟨l0, l1, l2⟩ := low_ok (w := w) (since := since) h
  generalize lowT w since t = L at *
  by_cases z : L = 0
  · subst z; omega
  · have := l1 (L - 1) (by omega) (by omega)
    rw [Int.mul_sub, Int.mul_one, Int.mul_comm] at this
    omega
theorem str_le {w : Int} {t : Tr} (h : okT t) (hw : 1 ≤ w) : strT w t ≤ w ∧ t.p * strT w t < w + t.p := by
  obtain ⟨s1, s2, s3⟩ := str_ok h hw
  have hp := h.2.1
  rw [Int.mul_sub, Int.mul_one] at s2
  refine ⟨?_, by omega⟩
  unfold strT
  rw [Int.ediv_le_iff_le_mul (by omega)]
  have e := Int.mul_le_mul_of_nonneg_left hp (show 0 ≤ w - 1 by omega)
  rw [Int.sub_mul w 1 t.p, Int.one_mul] at e
  omega
/-- the bounds of a thinned train -/
theorem thT_rb {B w since : Int} {t u : Tr} (h : okT t) (hr : RB B [t]) (hw : 1 ≤ w) (w1 : w ≤ B) (h0 : 0 ≤ since) (s1 : since ≤ B) (e : thT w since t = some u) : u.s < 3 * B ∧ u.p < 2 * B ∧ (∀ k, u.n = some k → u.s + u.p * (k - 1) < B) ∧ 0 ≤ nextS since u ∧ nextS since u ≤ B := by
  obtain ⟨p1, p2, p3, p4, p5⟩ := thT_pc h hw u e
  obtain ⟨q1, q2, q3⟩ := hr t List.mem_cons_self
  have lr := low_reach (w := w) (since := since) h
  have sl := str_le h hw
  have hn : (∀ k, u.n = some k → u.s + u.p * (k - 1) < B) ∧ 0 ≤ nextS since u ∧ nextS since u ≤ B := by
    cases en : t.n with
    | none =>
      have z := p3 en
      refine ⟨(fun k q => by rw [z] at q; cases q), ?_⟩
      unfold nextS
      rw [z]
      exact ⟨h0, s1⟩
    | some n =>
      obtain ⟨k, ek, lk⟩ := p5 n en
      have := q3 n en
      have k1 := p1.2.2 k ek
      have := Int.mul_nonneg (show 0 ≤ u.p by have := p1.2.1; omega) (show 0 ≤ k - 1 by omega)
      have := p1.1
      refine ⟨fun k' q => by rw [ek] at q; cases q; omega, ?_⟩
      unfold nextS
      rw [ek]
      simp only
      omega
  have es : u.s = t.s + lowT w since t * t.p ∧ u.p = t.p * strT w t := by
    unfold thT at e
    cases en : t.n with
    | none => rw [en] at e; simp only [Option.some.injEq] at e; subst e; exact ⟨rfl, rfl⟩
    | some n =>
      rw [en] at e
      by_cases c : lowT w since t < n
      · simp only [if_pos c, Option.some.injEq] at e; subst e; exact ⟨rfl, rfl⟩
      · simp only [if_neg c] at e; cases e
  have := h.2.1
  exact ⟨by omega, by omega, hn⟩
theorem thR_rb {B w : Int} (hw : 1 ≤ w) (w1 : w ≤ B) : ∀ {r : List Tr} {since : Int}, (∀ t ∈ r, okT t) → RB B r → 0 ≤ since → since ≤ B → RB (3 * B) (thR w since r)
  | [], _, _, _, _, _ => fun _ h => nomatch h
  | t :: r, since, hv, hr, s0, s1 => by
    unfold thR
    have hrt : RB B r := hr.le fun u m => List.mem_cons_of_mem _ m
    have hvt : ∀ t ∈ r, okT t := fun u m => hv u (List.mem_cons_of_mem _ m)
    cases e : thT w since t with
    | none => exact thR_rb hw w1 hvt hrt s0 s1
    | some u =>
      obtain ⟨a1, a2, a3, a4, a5⟩ := thT_rb (hv t List.mem_cons_self) (hr.le fun u m => by simp at m; subst m; exact List.mem_cons_self) hw w1 s0 s1 e
      intro v m
      rcases List.mem_cons.mp m with rfl | m
      · exact ⟨a1, by omega, fun k z => by have := a3 k z; omega⟩
      · exact thR_rb hw w1 hvt hrt a4 a5 v m
theorem slT_len (t : Tr) (low : Int) (high : Option Int) : (slT t low high).length ≤ 1 := by
  unfold slT
  simp only
  split
  · simp
  · split <;> simp
/-! ### k12: the first times and the others -/
theorem Vd.one_of {a : Tr} {r : List Tr} (h : Vd (a :: r)) (e : a.n = none) : r = [] := by
  cases r with
  | nil => rfl
  | cons b r => obtain ⟨n, q, _⟩ := h.2.1; rw [e] at q; cases q
theorem Vd.gt' {a : Tr} {r : List Tr} {x : Int} (h : Vd (a :: r)) (m : mR r x) : ∃ n, a.n = some n ∧ a.s + a.p * (n - 1) < x := by
  cases r with
  | nil => exact (mR_nil _ m).elim
  | cons b r =>
    obtain ⟨n, e, _⟩ := h.2.1
    exact ⟨n, e, Vd.gt h e m⟩
def lft (l : Int) (t : Tr) : Int := match t.n with
  | none => 0
  | some n => max 0 (l - n)
def hd1 (l : Int) (t : Tr) : List Tr := if 0 < l then slT t 0 (some l) else []
def sp1 : Int → List Tr → List Tr
  | _, [] => []
  | l, t :: r => hd1 l t ++ sp1 (lft l t) r
def sp2 : Int → List Tr → List Tr
  | _, [] => []
  | l, t :: r => slT t l none ++ sp2 (lft l t) r
theorem lft_0 {t : Tr} (h : okT t) : lft 0 t = 0 := by
  unfold lft
  cases e : t.n with
  | none => rfl
  | some n => have := h.2.2 n e; simp only; omega
theorem lft_nn (l : Int) (t : Tr) : 0 ≤ lft l t := by
  unfold lft
  split <;> omega
theorem sp1_0 : ∀ {r : List Tr}, (∀ t ∈ r, okT t) → sp1 0 r = []
  | [], _ => rfl
  | t :: r, h => by
    rw [sp1, lft_0 (h t List.mem_cons_self), sp1_0 fun u m => h u (List.mem_cons_of_mem _ m)]
    rfl
theorem sl_all {t : Tr} (x : Int) : mR (slT t 0 none) x ↔ mT t x := by
  rw [slT_mem (by omega)]
  constructor
  · rintro ⟨j, j0, jn, _, rfl⟩; exact ⟨j, j0, jn, rfl⟩
  · rintro ⟨j, j0, jn, rfl⟩; exact ⟨j, j0, jn, fun _ z => (nomatch z), rfl⟩
theorem sp2_0 : ∀ {r : List Tr} (x : Int), (∀ t ∈ r, okT t) → (mR (sp2 0 r) x ↔ mR r x)
  | [], x, _ => Iff.rfl
  | t :: r, x, h => by
    rw [sp2, lft_0 (h t List.mem_cons_self), mR_app, mR_cons, sl_all, sp2_0 x fun u m => h u (List.mem_cons_of_mem _ m)]
theorem hd1_mem {t : Tr} {l : Int} (x : Int) : mR (hd1 l t) x ↔ ∃ j, 0 ≤ j ∧ (∀ n, t.n = some n → j < n) ∧ j < l ∧ x = t.s + t.p * j := by
  unfold hd1
  by_cases c : 0 < l
  · rw [if_pos c, slT_mem (by omega)]
    constructor
    · rintro ⟨j, a, b, d, e⟩; exact ⟨j, a, b, d l rfl, e⟩
    · rintro ⟨j, a, b, d, e⟩; exact ⟨j, a, b, fun v z => by cases z; exact d, e⟩
  · rw [if_neg c]
    constructor
    · intro z; exact (mR_nil _ z).elim
    · rintro ⟨j, a, b, d, e⟩; omega
theorem tl_mem {t : Tr} {l : Int} (l0 : 0 ≤ l) (x : Int) : mR (slT t l none) x ↔ ∃ j, l ≤ j ∧ (∀ n, t.n = some n → j < n) ∧ x = t.s + t.p * j := by
  rw [slT_mem l0]
  constructor
  · rintro ⟨j, a, b, _, e⟩; exact ⟨j, a, b, e⟩
  · rintro ⟨j, a, b, e⟩; exact ⟨j, a, b, fun _ z => (nomatch z), e⟩
theorem pj_le {p i j : Int} (hp : 1 ≤ p) (h : i ≤ j) : p * i ≤ p * j := Int.mul_le_mul_of_nonneg_left h (by omega)
theorem pj_lt {p i j : Int} (hp : 1 ≤ p) (h : i < j) : p * i < p * j := Int.mul_lt_mul_of_pos_left h (by omega)
/-- the cut -/
theorem split_bd : ∀ {r : List Tr} {l y0 : Int}, Vd r → 0 ≤ l → (∀ x, mR r x → y0 < x) → ∃ X, (1 ≤ l → y0 < X) ∧ (∀ x, mR (sp1 l r) x ↔ mR r x ∧ x < X) ∧ (∀ x, mR (sp2 l r) x ↔ mR r x ∧ X ≤ x)
  | [], l, y0, _, _, _ => ⟨y0 + 1, fun _ => by omega, fun x => ⟨fun z => (mR_nil _ z).elim, fun z => (mR_nil _ z.1).elim⟩, fun x => ⟨fun z => (mR_nil _ z).elim, fun z => (mR_nil _ z.1).elim⟩⟩
  | t :: r, l, y0, hv, l0, hy => by
    have ok := hv.ok1
    have p1 := ok.2.1
    have okr : ∀ u ∈ r, okT u := fun u m => hv.okm u (List.mem_cons_of_mem _ m)
    by_cases c : ∀ n, t.n = some n → l ≤ n
    · have e0 : lft l t = 0 := by
        unfold lft
        cases e : t.n with
        | none => rfl
        | some n => have := c n e; simp only; omega
      refine ⟨t.s + t.p * (l - 1) + 1, fun l1 => ?_, fun x => ?_, fun x => ?_⟩
      · have := hy t.s ⟨t, List.mem_cons_self, mT_s ok⟩
        have := Int.mul_nonneg (show 0 ≤ t.p by omega) (show 0 ≤ l - 1 by omega)
        omega
      · rw [sp1, e0, sp1_0 okr, List.append_nil, hd1_mem, mR_cons]
        constructor
        · rintro ⟨j, j0, jn, jl, rfl⟩
          have := pj_le p1 (show j ≤ l - 1 by omega)
          exact ⟨.inl ⟨j, j0, jn, rfl⟩, by omega⟩
        · rintro ⟨⟨j, j0, jn, rfl⟩ | m, hx⟩
          · refine ⟨j, j0, jn, ?_, rfl⟩
            refine Decidable.byContradiction fun z => ?_
            have := pj_lt p1 (show l - 1 < j by omega)
            omega
          · obtain ⟨n, en, q⟩ := Vd.gt' hv m
            have := c n en
            have := pj_le p1 (show l - 1 ≤ n - 1 by omega)
            omega
      · rw [sp2, e0, mR_app, sp2_0 x okr, tl_mem l0, mR_cons]
        constructor
        · rintro (⟨j, j0, jn, rfl⟩ | m)
          · have := pj_lt p1 (show l - 1 < j by omega)
            exact ⟨.inl ⟨j, by omega, jn, rfl⟩, by omega⟩
          · obtain ⟨n, en, q⟩ := Vd.gt' hv m
            have := c n en
            have := pj_le p1 (show l - 1 ≤ n - 1 by omega)
            exact ⟨.inr m, by omega⟩
        · rintro ⟨⟨j, j0, jn, rfl⟩ | m, hx⟩
          · refine .inl ⟨j, ?_, jn, rfl⟩
            refine Decidable.byContradiction fun z => ?_
            have := pj_le p1 (show j ≤ l - 1 by omega)
            omega
          · exact .inr m
    · have ⟨n, en, hn⟩ : ∃ n, t.n = some n ∧ n < l := by
        cases e : t.n with
        | none => exact (c fun _ z => by rw [e] at z; cases z).elim
        | some n => exact ⟨n, rfl, Decidable.byContradiction fun z => c fun k q => by rw [e] at q; cases q; omega⟩
      have n1 := ok.2.2 n en
      have e0 : lft l t = l - n := by unfold lft; rw [en]; simp only; omega
      obtain ⟨X, h1, h2, h3⟩ := split_bd (r := r) (l := l - n) (y0 := t.s + t.p * (n - 1)) hv.tail (by omega) (fun x m => by
        obtain ⟨k, ek, q⟩ := Vd.gt' hv m
        rw [en] at ek; cases ek
        exact q)
      have hX := h1 (by omega)
      refine ⟨X, fun _ => ?_, fun x => ?_, fun x => ?_⟩
      · have := hy t.s ⟨t, List.mem_cons_self, mT_s ok⟩
        have := Int.mul_nonneg (show 0 ≤ t.p by omega) (show 0 ≤ n - 1 by omega)
        omega
      · rw [sp1, e0, mR_app, h2, hd1_mem, mR_cons]
        constructor
        · rintro (⟨j, j0, jn, jl, rfl⟩ | ⟨m, hx⟩)
          · have := jn n en
            have := pj_le p1 (show j ≤ n - 1 by omega)
            exact ⟨.inl ⟨j, j0, jn, rfl⟩, by omega⟩
          · exact ⟨.inr m, hx⟩
        · rintro ⟨⟨j, j0, jn, rfl⟩ | m, hx⟩
          · exact .inl ⟨j, j0, jn, by have := jn n en; omega, rfl⟩
          · exact .inr ⟨m, hx⟩
      · rw [sp2, e0, mR_app, h3, tl_mem l0, mR_cons]
        constructor
        · rintro (⟨j, j0, jn, rfl⟩ | ⟨m, hx⟩)
          · have := jn n en; omega
          · exact ⟨.inr m, hx⟩
        · rintro ⟨⟨j, j0, jn, rfl⟩ | m, hx⟩
          · have := jn n en
            have := pj_le p1 (show j ≤ n - 1 by omega)
            omega
          · exact .inr ⟨m, hx⟩
/-! counts -/
def addO : Option Int → Option Int → Option Int
  | some a, some b => some (a + b)
  | _, _ => none
theorem tcnt_cons (t : Tr) (r : List Tr) : tcnt (t :: r) = addO t.n (tcnt r) := by
  unfold tcnt
  cases e : t.n with
  | none => simp [e, addO]
  | some n =>
    by_cases c : r.any (·.n.isNone) = true
    · rw [if_pos c, if_pos (by simp only [List.any_cons, c, Bool.or_true])]; rfl
    · rw [if_neg c, if_neg (by simp only [List.any_cons, e, Option.isNone_some, Bool.false_or]; exact c)]
      simp [addO, e]
theorem tcnt_nil : tcnt [] = some 0 := rfl
theorem tcnt_app : ∀ (a b : List Tr), tcnt (a ++ b) = addO (tcnt a) (tcnt b)
  | [], b => by rw [List.nil_append, tcnt_nil]; cases tcnt b <;> simp [addO]
  | t :: a, b => by
    rw [List.cons_append, tcnt_cons, tcnt_cons, tcnt_app a b]
    cases t.n <;> cases tcnt a <;> cases tcnt b <;> simp [addO]
    omega
theorem tcnt_hd1 {t : Tr} (h : okT t) {l : Int} (l0 : 0 ≤ l) : tcnt (hd1 l t) = some (match t.n with | none => l | some n => min l n) := by
  unfold hd1
  by_cases c : 0 < l
  · rw [if_pos c]
    unfold slT
    cases e : t.n with
    | none =>
      simp only
      rw [if_neg (by omega), tcnt_cons, tcnt_nil]
      simp [addO]
    | some n =>
      have n1 := h.2.2 n e
      simp only
      by_cases q : n < l
      · rw [if_pos q]
        simp only
        rw [if_neg (by omega), tcnt_cons, tcnt_nil]
        simp only [addO, Option.some.injEq]
        omega
      · rw [if_neg q]
        simp only
        rw [if_neg (by omega), tcnt_cons, tcnt_nil]
        simp only [addO, Option.some.injEq]
        omega
  · rw [if_neg c, tcnt_nil]
    cases e : t.n with
    | none => simp only [Option.some.injEq]; omega
    | some n => have := h.2.2 n e; simp only [Option.some.injEq]; omega
theorem tcnt_nn : ∀ {r : List Tr} {n : Int}, (∀ t ∈ r, okT t) → tcnt r = some n → 0 ≤ n
  | [], n, _, e => by rw [tcnt_nil] at e; cases e; omega
  | t :: r, n, h, e => by
    rw [tcnt_cons] at e
    cases q : t.n with
    | none => rw [q] at e; simp [addO] at e
    | some k =>
      have := (h t List.mem_cons_self).2.2 k q
      cases q2 : tcnt r with
      | none => rw [q, q2] at e; simp [addO] at e
      | some m =>
        have := tcnt_nn (fun u m => h u (List.mem_cons_of_mem _ m)) q2
        rw [q, q2] at e
        simp only [addO, Option.some.injEq] at e
        omega
theorem tcnt_sp1 : ∀ {r : List Tr} {l : Int}, Vd r → 0 ≤ l → tcnt (sp1 l r) = some (match tcnt r with | none => l | some n => min l n)
  | [], l, _, l0 => by rw [sp1, tcnt_nil]; simp only [Option.some.injEq]; omega
  | t :: r, l, hv, l0 => by
    rw [sp1, tcnt_app, tcnt_hd1 hv.ok1 l0, tcnt_sp1 hv.tail (lft_nn l t), tcnt_cons]
    cases e : t.n with
    | none =>
      have := hv.one_of e
      subst this
      rw [tcnt_nil]
      simp only [addO, lft, e, Option.some.injEq]
      omega
    | some n =>
      have n1 := hv.ok1.2.2 n e
      cases q : tcnt r with
      | none => simp only [addO, lft, e, Option.some.injEq]; omega
      | some m =>
        have := tcnt_nn (fun u m => hv.okm u (List.mem_cons_of_mem _ m)) q
        simp only [addO, lft, e, Option.some.injEq, Int.min_def, Int.max_def]
        repeat' split
        all_goals first | omega | (simp only [Int.add_def] at *; done)
theorem not_fi {r : List Tr} (h : ¬ Fi r) : tcnt r = none := by
  unfold tcnt
  rw [if_pos]
  rw [List.any_eq_true]
  refine Decidable.byContradiction fun z => h fun t m => ?_
  cases e : t.n with
  | none => exact (z ⟨t, m, by rw [e]; rfl⟩).elim
  | some n => exact ⟨n, rfl⟩
theorem fi_bd {r : List Tr} (hv : Vd r) (hf : Fi r) : ∃ X, ∀ x, mR r x → x < X := by
  obtain ⟨B, hB⟩ := rb_ex r
  refine ⟨B, fun x ⟨t, m, q⟩ => ?_⟩
  obtain ⟨n, e⟩ := hf t m
  have := mT_le (hv.okm t m) e q
  have := (hB t m).2.2 n e
  omega
/-! ### k12: the split, as data -/
theorem vd_app2 : ∀ {a b : List Tr}, Vd a → Vd b → (b = [] ∨ Fi a) → (∀ x y, mR a x → mR b y → x < y) → Vd (a ++ b)
  | [], b, _, hb, _, _ => hb
  | [t], [], ha, _, _, _ => by simpa using ha
  | [t], c :: b, ha, hb, hf, h => by
    have ok : okT t := ha.ok1
    rcases hf with hf | hf
    · cases hf
    · obtain ⟨n, e⟩ := hf t List.mem_cons_self
      have n1 := ok.2.2 n e
      refine ⟨ok, ⟨n, e, h _ _ ((mR_one _ _).mpr ⟨n - 1, by omega, fun k q => by rw [e] at q; cases q; omega, rfl⟩) ⟨c, List.mem_cons_self, mT_s hb.ok1⟩⟩, hb⟩
  | t :: u :: a, b, ha, hb, hf, h => by
    refine ⟨ha.1, ha.2.1, vd_app2 (a := u :: a) ha.2.2 hb (hf.imp id fun q v m => q v (List.mem_cons_of_mem _ m)) fun x y m q => h x y ((mR_cons _ _ _).mpr (.inr m)) q⟩
theorem pc_vd {t : Tr} {l : List Tr} (h : Pc t l) : Vd l := by
  rcases h with rfl | ⟨u, rfl, ok, _⟩
  · trivial
  · exact ok
theorem vd_step {t : Tr} {r l1 l2 : List Tr} (hv : Vd (t :: r)) (pc : Pc t l1) (hs : ∀ x, mR l1 x → mT t x) (h2 : Vd l2) (h2s : ∀ y, mR l2 y → mR r y) (h2n : r = [] → l2 = []) : Vd (l1 ++ l2) := by
  refine vd_app2 (pc_vd pc) h2 ?_ fun x y m q => ?_
  · cases r with
    | nil => exact .inl (h2n rfl)
    | cons c r =>
      right
      obtain ⟨n, e, _⟩ := hv.2.1
      rcases pc with rfl | ⟨u, rfl, _, _, hk⟩
      · intro v m; cases m
      · intro v m
        rw [List.mem_singleton] at m
        subst m
        obtain ⟨k, ek, _⟩ := hk n e
        exact ⟨k, ek⟩
  · obtain ⟨n, e, z⟩ := Vd.gt' hv (h2s y q)
    have := mT_le hv.ok1 e (hs x m)
    omega
theorem hd1_pc {t : Tr} (h : okT t) (l : Int) : Pc t (hd1 l t) := by
  unfold hd1
  split
  · exact slT_pc h (by omega) _
  · exact .inl rfl
theorem vd_pos {r : List Tr} (h : Vd r) (x : Int) (m : mR r x) : 0 ≤ x := by
  obtain ⟨t, mt, q⟩ := m
  have := mT_ge (h.okm t mt) q
  have := (h.okm t mt).1
  omega
theorem sp1_vd : ∀ {r : List Tr} {l : Int}, Vd r → 0 ≤ l → Vd (sp1 l r)
  | [], l, h, _ => h
  | t :: r, l, h, l0 => by
    have l1 := lft_nn l t
    obtain ⟨X, _, h2, _⟩ := split_bd (y0 := -1) h.tail l1 fun x m => by have := vd_pos h.tail x m; omega
    exact vd_step h (hd1_pc h.ok1 l) (fun x m => by
      obtain ⟨j, a, b, _, e⟩ := (hd1_mem x).mp m
      exact ⟨j, a, b, e⟩) (sp1_vd h.tail l1) (fun y m => ((h2 y).mp m).1) fun e => by subst e; rfl
theorem sp2_vd : ∀ {r : List Tr} {l : Int}, Vd r → 0 ≤ l → Vd (sp2 l r)
  | [], l, h, _ => h
  | t :: r, l, h, l0 => by
    have l1 := lft_nn l t
    obtain ⟨X, _, _, h3⟩ := split_bd (y0 := -1) h.tail l1 fun x m => by have := vd_pos h.tail x m; omega
    exact vd_step h (slT_pc h.ok1 l0 _) (fun x m => by
      obtain ⟨j, a, b, e⟩ := (tl_mem l0 x).mp m
      exact ⟨j, by omega, b, e⟩) (sp2_vd h.tail l1) (fun y m => ((h3 y).mp m).1) fun e => by subst e; rfl
theorem hd1_len (l : Int) (t : Tr) : (hd1 l t).length ≤ 1 := by
  unfold hd1
  split
  · exact slT_len _ _ _
  · simp
theorem sp2_len : ∀ (r : List Tr) (l : Int), (sp2 l r).length ≤ r.length
  | [], l => by simp [sp2]
  | t :: r, l => by
    rw [sp2, List.length_append, List.length_cons]
    have := slT_len t l none
    have := sp2_len r (lft l t)
    omega
theorem sp_rb {B C : Int} (hC : B ≤ C) : ∀ {r : List Tr} {l : Int}, Vd r → RB B r → 0 ≤ l → (∀ t ∈ r, t.n = none → t.s + t.p * l < C) → RB C (sp1 l r) ∧ RB C (sp2 l r)
  | [], l, _, _, _, _ => ⟨fun t m => (nomatch m), fun t m => (nomatch m)⟩
  | t :: r, l, hv, hr, l0, hn => by
    have ok := hv.ok1
    have p1 := ok.2.1
    obtain ⟨q1, q2, q3⟩ := hr t List.mem_cons_self
    obtain ⟨i1, i2⟩ := sp_rb hC (r := r) (l := lft l t) hv.tail (fun u m => hr u (List.mem_cons_of_mem _ m)) (lft_nn l t) (fun u m e => by
      have := hn u (List.mem_cons_of_mem _ m) e
      have le : lft l t ≤ l := by
        unfold lft
        cases z : t.n with
        | none => exact l0
        | some n => have := ok.2.2 n z; simp only; omega
      have := pj_le (hv.okm u (List.mem_cons_of_mem _ m)).2.1 le
      omega)
    constructor
    · refine RB.app ?_ i1
      unfold hd1
      split
      · refine slT_rb ok (by omega) _ (by omega) (by omega) (fun n e => by have := q3 n e; omega) fun e v z => ?_
        cases z
        have := hn t List.mem_cons_self e
        have := pj_le p1 (show l - 1 ≤ l by omega)
        omega
      · exact fun u m => nomatch m
    · refine RB.app ?_ i2
      by_cases c : ∃ n, t.n = some n ∧ n ≤ l
      · obtain ⟨n, e, c⟩ := c
        have : slT t l none = [] := by
          unfold slT
          rw [e]
          simp only
          rw [if_pos c]
        rw [this]
        exact fun u m => nomatch m
      · refine slT_rb ok l0 _ ?_ (by omega) (fun n e => by have := q3 n e; omega) fun e v z => nomatch z
        rw [Int.mul_comm]
        cases e : t.n with
        | none => exact hn t List.mem_cons_self e
        | some n =>
          have h1 : l ≤ n - 1 := Decidable.byContradiction fun z => c ⟨n, e, by omega⟩
          have := q3 n e
          have := pj_le p1 h1
          omega
/-! ### k12: split_after and +, as data -/
/-! ### rows, as data -/
structure Sp where
  f : Int
  w : Int
  c : Int
abbrev sD (s : Sp) : D := .tup [.int s.f, .int s.w, .int s.c]
abbrev spD (r : List Sp) : D := .lst (r.map sD)
abbrev RO (r : List Sp) (p h : Int) : D := .obj 1 ["specs", "pace", "shift"] [spD r, .int p, .int h]
structure okS (s : Sp) : Prop where
  f0 : 1 ≤ s.f
  f1 : s.f ≤ 1000000000000
  w0 : 1 ≤ s.w
  w1 : s.w ≤ 1000000000000000000000000000000
  c0 : 1 ≤ s.c
  c1 : s.c ≤ 1000000000000
theorem between_ok (v lo hi : Int) : F_is_between [some (.int v, false), some (.int lo, false), some (.int hi, false)] = some (.fz (.bl (decide (lo ≤ v ∧ v ≤ hi))), [some (.int v, false), some (.int lo, false), some (.int hi, false)]) := by
  by_cases h1 : lo ≤ v
  · by_cases h2 : v ≤ hi
    · simp [F_is_between, DV.SC, DV.SE, DV.SX, is_int_i, h1, h2]
    · simp [F_is_between, DV.SC, DV.SE, DV.SX, is_int_i, h1, h2]
  · simp [F_is_between, DV.SC, DV.SE, DV.SX, is_int_i, h1]
theorem breaker_ok {s : Sp} (h : okS s) : F_is_breaker [some (sD s, false)] = some (.fz (.bl true), [some (sD s, false)]) := by
  obtain ⟨f, w, c⟩ := s
  obtain ⟨f0, f1, w0, w1, c0, c1⟩ := h
  simp only at f0 f1 w0 w1 c0 c1
  have e1 := between_ok f 1 1000000000000
  have e2 := between_ok w 1 1000000000000000000000000000000
  have e3 := between_ok c 1 1000000000000
  rw [decide_eq_true ⟨f0, f1⟩] at e1
  rw [decide_eq_true ⟨w0, w1⟩] at e2
  rw [decide_eq_true ⟨c0, c1⟩] at e3
  simp [F_is_breaker, DV.SC, DV.SE, DV.SX, i3_0, i3_1, i3_2, e1, e2, e3]
theorem chk_loop (pn : List Nat) (R : D) : ∀ (r : List Sp) (n : Nat) (x1 x2 : Sl), (∀ s ∈ r, okS s) → ∃ y1 y2, forLoop (.tp [.nm 1, .nm 2]) (exs [F_is_breaker] pn B_check_breakers_1) (enumD n (r.map sD)) [some (R, false), x1, x2] = some (.nx [some (R, false), y1, y2])
  | [], n, x1, x2, _ => ⟨x1, x2, by simp [enumD, forLoop]⟩
  | s :: r, n, x1, x2, h => by
    obtain ⟨y1, y2, ih⟩ := chk_loop pn R r (n + 1) (some (.int (n : Int), false)) (some (sD s, false)) fun u m => h u (List.mem_cons_of_mem _ m)
    refine ⟨y1, y2, ?_⟩
    rw [List.map_cons, enumD, ← ih]
    have b := breaker_ok (h s List.mem_cons_self)
    refine forLoop_step (Γ1 := [some (R, false), some (.int (n : Int), false), some (sD s, false)]) (by simp [DV.SC, DV.SE, DV.SX]) ?_
    generalize sD s = S at *
    simp [B_check_breakers_1, DV.SC, DV.SE, DV.SX, b]
theorem check_breakers_ok {r : List Sp} (h : ∀ s ∈ r, okS s) (hl : r.length ≤ 12) (fl : Bool) : F_check_breakers [some (spD r, fl)] = some (.fz .non, [some (spD r, false)]) := by
  have hl2 : ¬ (12 : Int) < (r.length : Int) := by omega
  obtain ⟨y1, y2, e⟩ := chk_loop [] (spD r) r 0 none none h
  refine runF_pn (pn := []) (o := .nx [some (spD r, false), y1, y2]) rfl (by cases fl <;> rfl) (?_ : exs _ [] _ [some (spD r, fl), none, none] = _) (by cases fl <;> rfl)
  refine (exs_nx (Γ1 := [some (spD r, fl), none, none]) (by cases fl <;> simp [DV.SC, DV.SE, DV.SX, hl2])).trans ?_
  exact (exs_nx (ex_for (Γ2 := [some (spD r, false), none, none]) (ds := enumD 0 (r.map sD)) (by cases fl <;> simp [DV.SC, DV.SE, DV.SX]) (by simp [DV.SC, DV.SE, DV.SX]) e)).trans (by simp only [DV.exs.eq_1])
structure okR (r : List Sp) (p h : Int) : Prop where
  sp : ∀ s ∈ r, okS s
  len : r.length ≤ 12
  p0 : 1 ≤ p
  p1 : p ≤ 1000000000000000000000000000000
  h0 : 0 ≤ h
  h1 : h ≤ 1000000000000000000000000000000
theorem nm_1 : ¬ (("specs" : Str) = ("pace" : Str)) := by decide +kernel
theorem nm_2 : ¬ (("specs" : Str) = ("shift" : Str)) := by decide +kernel
theorem nm_3 : ¬ (("pace" : Str) = ("shift" : Str)) := by decide +kernel
theorem nm_4 : ¬ (("pace" : Str) = ("specs" : Str)) := by decide +kernel
theorem nm_5 : ¬ (("shift" : Str) = ("specs" : Str)) := by decide +kernel
theorem nm_6 : ¬ (("shift" : Str) = ("pace" : Str)) := by decide +kernel
theorem row_ok {r : List Sp} {p h : Int} (k : okR r p h) (fl : Bool) : F_Row___init__ [some (.obj 1 [] [], true), some (spD r, fl), some (.int p, false), some (.int h, false)] = some (.fz .non, [some (RO r p h, true), some (spD r, false), some (.int p, false), some (.int h, false)]) := by
  have e1 := check_breakers_ok k.sp k.len fl
  have e2 := between_ok p 1 1000000000000000000000000000000
  have e3 := between_ok h 0 1000000000000000000000000000000
  rw [decide_eq_true ⟨k.p0, k.p1⟩] at e2
  rw [decide_eq_true ⟨k.h0, k.h1⟩] at e3
  cases fl <;> simp [F_Row___init__, DV.SC, DV.SE, DV.SX, e1, e2, e3, nm_1, nm_2, nm_3]
theorem fld_specs (r : List Sp) (p h : Int) : fldD [1] (RO r p h) "specs" = some (spD r) := by simp [DV.SC, DV.SE, DV.SX]
theorem fld_pace (r : List Sp) (p h : Int) : fldD [1] (RO r p h) "pace" = some (.int p) := by simp [DV.SC, DV.SE, DV.SX, nm_4]
theorem fld_shift (r : List Sp) (p h : Int) : fldD [1] (RO r p h) "shift" = some (.int h) := by simp [DV.SC, DV.SE, DV.SX, nm_5, nm_6]
/-! ### periods -/
def ru (w p : Int) : Int := (w + p - 1) / p * p
/-! ### time in t -/
/-! ### the latest time -/
/-! ### what a breaker passes while all fails: lists of times -/
def brkL (w : Int) : Nat → Int → List Int → List Int
  | 0, since, T => pass w since T
  | _ + 1, _, [] => []
  | n + 1, _, x :: T => x :: brkL w n x T
theorem lastD_cons (x s : Int) (L : List Int) : (x :: L).getLast?.getD s = L.getLast?.getD x := by
  cases L with
  | nil => rfl
  | cons y L => rw [List.getLast?_cons_cons]; cases h : (y :: L).getLast? with
    | none => simp at h
    | some z => rfl
theorem brkL_app (w : Int) : ∀ (n : Nat) (s : Int) (T1 T2 : List Int), brkL w n s (T1 ++ T2) = brkL w n s T1 ++ brkL w (n - (brkL w n s T1).length) ((brkL w n s T1).getLast?.getD s) T2
  | 0, s, T1, T2 => by simp only [brkL, Nat.zero_sub]; exact pass_app w T1 T2 s
  | n + 1, s, [], T2 => by simp [brkL]
  | n + 1, s, x :: T1, T2 => by
    rw [List.cons_append, brkL, brkL, brkL_app w n x T1 T2, List.cons_append, lastD_cons, List.length_cons, Nat.add_sub_add_right]
theorem brkL_sub (w : Int) : ∀ (n : Nat) (s : Int) (T : List Int), ∀ x ∈ brkL w n s T, x ∈ T
  | 0, s, T, x, h => pass_sub w T s x h
  | n + 1, s, [], x, h => by simp [brkL] at h
  | n + 1, s, y :: T, x, h => by
    rw [brkL, List.mem_cons] at h
    rcases h with h | h
    · rw [h]; exact List.mem_cons_self
    · exact List.mem_cons_of_mem _ (brkL_sub w n y T x h)
theorem brkL_all (w : Int) : ∀ (n : Nat) (s : Int) (T : List Int), T.length ≤ n → brkL w n s T = T
  | 0, s, [], _ => rfl
  | 0, s, x :: T, h => by simp at h
  | n + 1, s, [], _ => rfl
  | n + 1, s, x :: T, h => by rw [brkL, brkL_all w n x T (by simpa using h)]
theorem filter_lt_app {x : Int} {L R : List Int} (h1 : ∀ y ∈ L, y < x) (h2 : ∀ y ∈ R, x ≤ y) : (L ++ R).filter (fun y => decide (y < x)) = L := by
  rw [List.filter_append, List.filter_eq_self.mpr fun y m => decide_eq_true (h1 y m), List.filter_eq_nil_iff.mpr fun y m => by have := h2 y m; simp; omega, List.append_nil]
theorem brkL_rule (w : Int) (n : Nat) (s : Int) {T : List Int} (h : Inc T) {x : Int} (hx : x ∈ T) : x ∈ brkL w n s T ↔ ((brkL w n s T).filter (fun y => decide (y < x))).length < n ∨ w ≤ x - ((brkL w n s T).filter (fun y => decide (y < x))).getLast?.getD s := by
  obtain ⟨T1, T2, rfl⟩ := List.append_of_mem hx
  obtain ⟨h1, h2, h3⟩ := List.pairwise_append.mp h
  have h2 := List.pairwise_cons.mp h2
  rw [brkL_app]
  have a1 : ∀ y ∈ brkL w n s T1, y < x := fun y m => h3 y (brkL_sub w n s T1 y m) x List.mem_cons_self
  generalize brkL w n s T1 = L1 at *
  have a2 : ∀ y ∈ brkL w (n - L1.length) (L1.getLast?.getD s) (x :: T2), x ≤ y := fun y m => by
    rcases List.mem_cons.mp (brkL_sub w _ _ _ y m) with z | z
    · omega
    · have := h2.1 y z; omega
  rw [filter_lt_app a1 a2, List.mem_append]
  have nL : x ∉ L1 := fun z => by have := a1 x z; omega
  have nT : ∀ k t, x ∉ brkL w k t T2 := fun k t z => by have := h2.1 x (brkL_sub w k t T2 x z); omega
  by_cases c : L1.length < n
  · obtain ⟨k, hk⟩ : ∃ k, n - L1.length = k + 1 := ⟨n - L1.length - 1, by omega⟩
    rw [hk, brkL]
    simp [c]
  · have hk : n - L1.length = 0 := by omega
    rw [hk, brkL, pass_cons]
    by_cases c2 : w ≤ x - L1.getLast?.getD s
    · simp [c2]
    · rw [if_neg c2]
      have nT0 : x ∉ pass w (L1.getLast?.getD s) T2 := nT 0 _
      simp [c, c2, nL, nT0]
/-! ### the same for trains -/
def psT (l w : Int) (A : List Tr) : List Tr := allJ (allJ (sp1 l A) ++ allJ (thR w ((nthT A (l - 1)).getD 0) (allJ (sp2 l A))))
theorem tmB_len' {r : List Tr} (h : ∀ t ∈ r, okT t) (m : Int) : ((tmB r m).length : Int) = cb r m := by
  induction r with
  | nil => rfl
  | cons t r ih =>
    have e := ih fun u q => h u (List.mem_cons_of_mem _ q)
    rw [cb_cons, tmB, List.flatMap_cons, List.length_append]
    have b := bf_nonneg (h t List.mem_cons_self) m
    have : (tlB m t).length = (bfI t m).toNat := by simp [tlB, rngT]
    rw [this]
    unfold tmB at e
    omega
theorem tmB_filter {r : List Tr} (hv : Vd r) {m X : Int} (hm : m ≤ X) : (tmB r X).filter (fun z => decide (z < m)) = tmB r m := by
  refine inc_ext (List.Pairwise.filter _ (inc_tmB hv X)) (inc_tmB hv m) fun x => ?_
  rw [List.mem_filter, mem_tmB hv, mem_tmB hv]
  simp only [decide_eq_true_eq]
  constructor
  · rintro ⟨⟨a, _⟩, b⟩; exact ⟨a, b⟩
  · rintro ⟨a, b⟩; exact ⟨⟨a, by omega⟩, b⟩
theorem allJ_v {r : List Tr} (h : Vd r) : Vd (allJ r) ∧ Cn (allJ r) ∧ ∀ x, mR (allJ r) x ↔ mR r x := by
  obtain ⟨B, hB⟩ := rb_ex r
  obtain ⟨a, b, _, _⟩ := allJ_ok h hB
  exact ⟨a.vd, a, b⟩
structure PsT (l w : Int) (A G : List Tr) : Prop where
  cn : Cn G
  tm : ∀ X, tmB G X = brkL w l.toNat 0 (tmB A X)
theorem psT_ok {l w : Int} {A : List Tr} (hv : Vd A) (hi : tcnt A = none) (l1 : 1 ≤ l) (w1 : 1 ≤ w) : PsT l w A (psT l w A) := by
  obtain ⟨Y, _, m1, m2⟩ := split_bd (y0 := -1) hv (show 0 ≤ l by omega) fun x m => by have := vd_pos hv x m; omega
  have v1 := sp1_vd hv (show 0 ≤ l by omega)
  have v2 := sp2_vd hv (show 0 ≤ l by omega)
  have t1 : tcnt (sp1 l A) = some l := by rw [tcnt_sp1 hv (by omega), hi]
  obtain ⟨j1, c1, q1⟩ := allJ_v v1
  obtain ⟨j2, c2, q2⟩ := allJ_v v2
  have vt := thR_vd w1 (since := (nthT A (l - 1)).getD 0) j2
  obtain ⟨j3, c3, q3⟩ := allJ_v vt
  have sub := (thR_sub w1 (since := (nthT A (l - 1)).getD 0) j2.okm).1
  have f1 : Fi (allJ (sp1 l A)) := fi_of j1 (X := Y) fun x m => ((m1 x).mp ((q1 x).mp m)).2
  have va : Vd (allJ (sp1 l A) ++ allJ (thR w ((nthT A (l - 1)).getD 0) (allJ (sp2 l A)))) := vd_app2 j1 j3 (.inr f1) fun x y a b => by
    have := ((m1 x).mp ((q1 x).mp a)).2
    have := ((m2 y).mp ((q2 y).mp (sub y ((q3 y).mp b)))).2
    omega
  obtain ⟨jf, cf, qf⟩ := allJ_v va
  refine ⟨cf, fun X => ?_⟩
  have s1 : tmB (sp1 l A) X = (tmB A X).filter (fun z => decide (z < Y)) := inc_ext (inc_tmB v1 X) (List.Pairwise.filter _ (inc_tmB hv X)) fun x => by
    rw [mem_tmB v1, List.mem_filter, mem_tmB hv, m1]
    simp only [decide_eq_true_eq]
    constructor
    · rintro ⟨⟨a, b⟩, c⟩; exact ⟨⟨a, c⟩, b⟩
    · rintro ⟨⟨a, b⟩, c⟩; exact ⟨⟨a, c⟩, b⟩
  have s2 : tmB (allJ (sp2 l A)) X = (tmB A X).filter (fun z => decide (Y ≤ z)) := inc_ext (inc_tmB j2 X) (List.Pairwise.filter _ (inc_tmB hv X)) fun x => by
    rw [mem_tmB j2, List.mem_filter, mem_tmB hv, q2, m2]
    simp only [decide_eq_true_eq]
    constructor
    · rintro ⟨⟨a, b⟩, c⟩; exact ⟨⟨a, c⟩, b⟩
    · rintro ⟨⟨a, b⟩, c⟩; exact ⟨⟨a, c⟩, b⟩
  have s0 : tmB A X = (tmB A X).filter (fun z => decide (z < Y)) ++ (tmB A X).filter (fun z => decide (Y ≤ z)) := by
    refine inc_ext (inc_tmB hv X) (inc_app (List.Pairwise.filter _ (inc_tmB hv X)) (List.Pairwise.filter _ (inc_tmB hv X)) fun x hx y hy => ?_) fun x => ?_
    · have := (List.mem_filter.mp hx).2
      have := (List.mem_filter.mp hy).2
      simp only [decide_eq_true_eq] at *
      omega
    · rw [List.mem_append, List.mem_filter, List.mem_filter]
      simp only [decide_eq_true_eq]
      constructor
      · intro m
        by_cases c : x < Y
        · exact .inl ⟨m, c⟩
        · exact .inr ⟨m, by omega⟩
      · rintro (⟨a, _⟩ | ⟨a, _⟩) <;> exact a
  have s3 := pass_tmB (X := X) w1 (allJ (sp2 l A)) ((nthT A (l - 1)).getD 0) j2
  have sf : tmB (psT l w A) X = tmB (sp1 l A) X ++ tmB (thR w ((nthT A (l - 1)).getD 0) (allJ (sp2 l A))) X := by
    refine inc_ext (inc_tmB jf X) (inc_app (inc_tmB v1 X) (inc_tmB vt X) fun x hx y hy => ?_) fun x => ?_
    · have := ((m1 x).mp ((mem_tmB v1 X x).mp hx).1).2
      have := ((m2 y).mp ((q2 y).mp (sub y ((mem_tmB vt X y).mp hy).1))).2
      omega
    · rw [List.mem_append, mem_tmB v1, mem_tmB vt]
      show x ∈ tmB (allJ _) X ↔ _
      rw [mem_tmB jf, qf, mR_app, q1, q3]
      constructor
      · rintro ⟨a | a, b⟩
        · exact .inl ⟨a, b⟩
        · exact .inr ⟨a, b⟩
      · rintro (⟨a, b⟩ | ⟨a, b⟩)
        · exact ⟨.inl a, b⟩
        · exact ⟨.inr a, b⟩
  have len1 : ((tmB (sp1 l A) X).length : Int) ≤ l := by rw [tmB_len' v1.okm]; exact cb_le v1.okm t1 X
  rw [sf, ← s3, s2, s0, ← s1, brkL_app]
  have e1 : brkL w l.toNat 0 (tmB (sp1 l A) X) = tmB (sp1 l A) X := brkL_all w _ _ _ (by omega)
  rw [e1]
  congr 1
  have rr : List.filter (fun z => decide (Y ≤ z)) (tmB (sp1 l A) X ++ List.filter (fun z => decide (Y ≤ z)) (tmB A X)) = List.filter (fun z => decide (Y ≤ z)) (tmB A X) := by
    rw [s1, ← s0]
  rw [rr]
  cases h : List.filter (fun z => decide (Y ≤ z)) (tmB A X) with
  | nil =>
    cases l.toNat - (tmB (sp1 l A) X).length with
    | zero => rfl
    | succ k => rfl
  | cons z Z =>
    have mz : z ∈ List.filter (fun z => decide (Y ≤ z)) (tmB A X) := by rw [h]; exact List.mem_cons_self
    rw [List.mem_filter, mem_tmB hv, decide_eq_true_eq] at mz
    have full : cb (sp1 l A) X = l := tcnt_cb v1 t1 fun x m => by have := ((m1 x).mp m).2; omega
    have len2 := tmB_len' v1.okm X
    rw [full] at len2
    rw [show l.toNat - (tmB (sp1 l A) X).length = 0 by omega, brkL]
    obtain ⟨a, ea⟩ := nth_some hv.okm (i := l - 1) (by omega) (by rw [hi]; intro n z; cases z)
    have al : (tmB A X)[(l - 1).toNat]? = some a := by
      refine nth_tmB hv (by omega) ea ?_
      obtain ⟨ncb, _⟩ := nth_cb hv (by omega) ea
      have : cb A Y ≤ l := by
        have e := tmB_filter hv (m := Y) (X := X) (by omega)
        rw [← s1] at e
        rw [← tmB_len' hv.okm, ← e]
        omega
      refine Decidable.byContradiction fun c => ?_
      have c1 := (ncb X).mpr (by omega)
      have c2 : cb A Y < cb A (z + 1) := mR_cb hv mz.1.1 mz.2
      have c3 : cb A (z + 1) ≤ cb A X := cb_mono hv.okm (by omega)
      have c4 : (cb (sp1 l A) X : Int) ≤ cb A Y := by
        rw [← tmB_len' v1.okm, s1, tmB_filter hv (by omega), tmB_len' hv.okm]; omega
      omega
    have l3 : (tmB (sp1 l A) X).getLast? = some a := by
      rw [List.getLast?_eq_getElem?, ← al]
      rw [show (tmB (sp1 l A) X).length - 1 = (l - 1).toNat by omega]
      conv => rhs; rw [s0, ← s1]
      rw [List.getElem?_append_left (by omega)]
    rw [l3, ea]
/-! ### passes: rule, no end, bounds, lengths -/
theorem inf_next {A : List Tr} (hv : Vd A) (hi : tcnt A = none) (x : Int) : ∃ v, nextT A x = some v ∧ mR A v ∧ x ≤ v ∧ ∀ y, mR A y → x ≤ y → v ≤ y := by
  have s := nextT_spec hv x
  cases e : nextT A x with
  | some v => rw [e] at s; exact ⟨v, rfl, s.2⟩
  | none =>
    exfalso
    unfold nextT at e
    rw [hi] at e
    obtain ⟨v, hn⟩ := nth_some hv.okm (cb_nonneg hv.okm x) (fun n z => by rw [hi] at z; cases z)
    simp only [hn] at e
    cases e
section
variable {l w : Int} {A G : List Tr}
theorem PsT.sub (p : PsT l w A G) (hv : Vd A) {x : Int} (h : mR G x) : mR A x := by
  have m : x ∈ tmB G (x + 1) := (mem_tmB p.cn.vd _ _).mpr ⟨h, by omega⟩
  rw [p.tm] at m
  exact ((mem_tmB hv _ _).mp (brkL_sub w _ _ _ x m)).1
/-- the rule of a breaker -/
theorem PsT.rule (p : PsT l w A G) (hv : Vd A) (l1 : 1 ≤ l) {x : Int} (h : mR A x) : mR G x ↔ ((tmB G x).length : Int) < l ∨ w ≤ x - (tmB G x).getLast?.getD 0 := by
  have m : x ∈ tmB A (x + 1) := (mem_tmB hv _ _).mpr ⟨h, by omega⟩
  have r := brkL_rule w l.toNat 0 (inc_tmB hv (x + 1)) m
  rw [← p.tm, mem_tmB p.cn.vd, tmB_filter p.cn.vd (by omega)] at r
  constructor
  · intro g
    rcases r.mp ⟨g, by omega⟩ with z | z
    · exact .inl (by omega)
    · exact .inr z
  · rintro (z | z)
    · exact (r.mpr (.inl (by omega))).1
    · exact (r.mpr (.inr z)).1
theorem PsT.inf (p : PsT l w A G) (hv : Vd A) (hi : tcnt A = none) (l1 : 1 ≤ l) : tcnt G = none := by
  refine not_fi fun f => ?_
  obtain ⟨X, hX⟩ := fi_bd p.cn.vd f
  obtain ⟨v, _, mv, hv1, _⟩ := inf_next hv hi (max X 0 + max w 0 + 1)
  have q : mR G v := (p.rule hv l1 mv).mpr (.inr (by
    cases e : (tmB G v).getLast? with
    | none => simp only [Option.getD_none]; omega
    | some y =>
      have my := List.mem_of_getLast? e
      have := hX y ((mem_tmB p.cn.vd _ _).mp my).1
      simp only [Option.getD_some]; omega))
  have := hX v q
  omega
/-- the first times pass -/
theorem PsT.early (p : PsT l w A G) (hv : Vd A) (l1 : 1 ≤ l) {x : Int} (h : mR A x) (hx : ((tmB A x).length : Int) < l) : mR G x := by
  refine (p.rule hv l1 h).mpr (.inl ?_)
  rw [p.tm]
  have : (brkL w l.toNat 0 (tmB A x)).length ≤ (tmB A x).length := by
    rw [brkL_all w _ _ _ (by omega)]; exact Nat.le_refl _
  omega
end
theorem split_len : ∀ {r : List Tr} {l : Int}, Vd r → 0 ≤ l → (sp1 l r).length + (sp2 l r).length ≤ r.length + 1
  | [], l, _, _ => by simp [sp1, sp2]
  | t :: r, l, hv, l0 => by
    rw [sp1, sp2, List.length_append, List.length_append, List.length_cons]
    have ok := hv.ok1
    have h1 := hd1_len l t
    have h2 := slT_len t l none
    by_cases z : l = 0
    · subst z
      have e1 : hd1 0 t = [] := by simp [hd1]
      rw [e1, lft_0 ok, sp1_0 (fun u m => hv.okm u (List.mem_cons_of_mem _ m))]
      have := sp2_len r 0
      simp only [List.length_nil]
      omega
    · cases e : t.n with
      | none =>
        rw [hv.one_of e]
        simp [sp1, sp2]
        omega
      | some n =>
        have n1 := ok.2.2 n e
        by_cases c : n ≤ l
        · have e2 : slT t l none = [] := by
            unfold slT
            simp [e, c]
          rw [e2]
          have := split_len (r := r) hv.tail (lft_nn l t)
          simp only [List.length_nil]
          omega
        · have e3 : lft l t = 0 := by
            unfold lft
            rw [e]
            show max 0 (l - n) = 0
            omega
          rw [e3, sp1_0 (fun u m => hv.okm u (List.mem_cons_of_mem _ m))]
          have := sp2_len r 0
          simp only [List.length_nil]
          omega
theorem nth_at : ∀ {r : List Tr} {i v : Int}, 0 ≤ i → (∀ t ∈ r, okT t) → nthT r i = some v → ∃ t ∈ r, ∃ j, 0 ≤ j ∧ j ≤ i ∧ (∀ n, t.n = some n → j < n) ∧ v = t.s + j * t.p
  | [], i, v, _, _, e => by simp [nthT] at e
  | t :: r, i, v, i0, ok, e => by
    rw [nthT] at e
    cases en : t.n with
    | none =>
      rw [en] at e
      simp only [Option.some.injEq] at e
      exact ⟨t, List.mem_cons_self, i, i0, Int.le_refl _, (fun n z => by rw [en] at z; cases z), e.symm⟩
    | some n =>
      rw [en] at e
      simp only at e
      by_cases c : i < n
      · rw [if_pos c, Option.some.injEq] at e
        exact ⟨t, List.mem_cons_self, i, i0, Int.le_refl _, (fun m z => by rw [en] at z; cases z; exact c), e.symm⟩
      · rw [if_neg c] at e
        have n1 := (ok t List.mem_cons_self).2.2 n en
        obtain ⟨u, mu, j, q1, q2, q3, q4⟩ := nth_at (r := r) (by omega) (fun u m => ok u (List.mem_cons_of_mem _ m)) e
        exact ⟨u, List.mem_cons_of_mem _ mu, j, q1, by omega, q3, q4⟩
theorem nth_rb {r : List Tr} {B i v : Int} (h : Vd r) (hr : RB B r) (B0 : 0 < B) (i0 : 0 ≤ i) (e : nthT r i = some v) : 0 ≤ v ∧ v < B + B * i := by
  obtain ⟨t, mt, j, j0, j1, j2, rfl⟩ := nth_at i0 h.okm e
  obtain ⟨o1, o2, o3⟩ := h.okm t mt
  obtain ⟨b1, b2, b3⟩ := hr t mt
  have c0 : 0 ≤ j * t.p := Int.mul_nonneg j0 (by omega)
  have c1 : j * t.p ≤ i * B := Int.le_trans (Int.mul_le_mul_of_nonneg_right j1 (by omega)) (Int.mul_le_mul_of_nonneg_left (by omega) i0)
  rw [Int.mul_comm i B] at c1
  omega
/-- the bound of what a breaker passes -/
theorem psT_rb {l w B : Int} {A : List Tr} (hv : Vd A) (hi : tcnt A = none) (hr : RB B A) (B0 : 0 < B) (l1 : 1 ≤ l) (l2 : l ≤ 1000000000000) (w1 : 1 ≤ w) (w2 : w ≤ B) :
    (∃ a, nthT A (l - 1) = some a ∧ 0 ≤ a ∧ a ≤ 2000000000000 * B) ∧ (∀ t ∈ A, t.n = none → t.s + t.p * l < 2000000000000 * B) ∧ RB (24 * (2000000000000 * B)) (psT l w A) ∧ (psT l w A).length ≤ A.length + 1
      ∧ RB (2 * (2000000000000 * B)) (allJ (sp1 l A)) ∧ RB (2 * (2000000000000 * B)) (allJ (sp2 l A)) ∧ RB (12 * (2000000000000 * B)) (allJ (thR w ((nthT A (l - 1)).getD 0) (allJ (sp2 l A)))) ∧ Vd (allJ (sp1 l A) ++ allJ (thR w ((nthT A (l - 1)).getD 0) (allJ (sp2 l A))))
      ∧ (allJ (sp1 l A)).length + (allJ (thR w ((nthT A (l - 1)).getD 0) (allJ (sp2 l A)))).length ≤ A.length + 1 := by
  obtain ⟨a, ea⟩ := nth_some hv.okm (i := l - 1) (by omega) (by rw [hi]; intro n z; cases z)
  obtain ⟨a0, a1⟩ := nth_rb hv hr B0 (by omega) ea
  have a2 : B * (l - 1) ≤ B * 999999999999 := Int.mul_le_mul_of_nonneg_left (by omega) (by omega)
  have hn : ∀ t ∈ A, t.n = none → t.s + t.p * l < 2000000000000 * B := fun t m _ => by
    obtain ⟨o1, o2, o3⟩ := hv.okm t m
    obtain ⟨b1, b2, b3⟩ := hr t m
    have c1 : t.p * l ≤ B * 1000000000000 := Int.le_trans (Int.mul_le_mul_of_nonneg_right (show t.p ≤ B by omega) (by omega)) (Int.mul_le_mul_of_nonneg_left l2 (by omega))
    omega
  have l0 : 0 ≤ l := by omega
  obtain ⟨r1, r2⟩ := sp_rb (C := 2000000000000 * B) (by omega) hv hr l0 hn
  have v1 := sp1_vd hv l0
  have v2 := sp2_vd hv l0
  obtain ⟨c1, q1, n1, k1⟩ := allJ_ok v1 r1
  obtain ⟨c2, q2, n2, k2⟩ := allJ_ok v2 r2
  have s1 := k1.rb c1.vd (by omega)
  have s2 := k2.rb c2.vd (by omega)
  have vt := thR_vd w1 (since := (nthT A (l - 1)).getD 0) c2.vd
  have rt : RB (3 * (2 * (2000000000000 * B))) (thR w ((nthT A (l - 1)).getD 0) (allJ (sp2 l A))) := thR_rb w1 (by omega) c2.vd.okm s2 (by rw [ea]; exact a0) (by rw [ea]; simp only [Option.getD_some]; omega)
  obtain ⟨c3, q3, n3, k3⟩ := allJ_ok vt rt
  have s3 := k3.rb c3.vd (by omega)
  have nt := thR_len w (allJ (sp2 l A)) ((nthT A (l - 1)).getD 0)
  have ns := split_len hv l0
  obtain ⟨Y, _, m1, m2⟩ := split_bd (y0 := -1) hv l0 fun x m => by have := vd_pos hv x m; omega
  have sub := (thR_sub w1 (since := (nthT A (l - 1)).getD 0) c2.vd.okm).1
  have f1 : Fi (allJ (sp1 l A)) := fi_of c1.vd (X := Y) fun x m => ((m1 x).mp ((q1 x).mp m)).2
  have va : Vd (allJ (sp1 l A) ++ allJ (thR w ((nthT A (l - 1)).getD 0) (allJ (sp2 l A)))) := vd_app2 c1.vd c3.vd (.inr f1) fun x y a b => by
    have := ((m1 x).mp ((q1 x).mp a)).2
    have := ((m2 y).mp ((q2 y).mp (sub y ((q3 y).mp b)))).2
    omega
  have rf : RB (12 * (2000000000000 * B)) (allJ (sp1 l A) ++ allJ (thR w ((nthT A (l - 1)).getD 0) (allJ (sp2 l A)))) := RB.app (s1.mono (by omega)) (s3.mono (by omega))
  obtain ⟨c4, q4, n4, k4⟩ := allJ_ok va rf
  have s4 := k4.rb c4.vd (by omega)
  refine ⟨⟨a, ea, a0, by omega⟩, hn, s4.mono (by omega), ?_, s1, s2, s3.mono (by omega), va, by omega⟩
  show (allJ _).length ≤ _
  rw [List.length_append] at n4
  omega
/-! ### passed, as data -/
/-! ### states before a spell -/
inductive Bs where
  | cl
  | hf (k : Int)
abbrev bD : Bs → D
  | .cl => .tup [.str "closed", .int 0]
  | .hf k => .tup [.str "half", .int k]
def lf (s : Sp) : Bs → Int
  | .cl => s.f
  | .hf _ => 1
/-! ### a spell, as data -/
def trL (A : List Tr) : List (Sp × Bs) → List (List Tr)
  | [] => [A]
  | (s, b) :: r => A :: trL (psT (lf s b) s.w A) r
abbrev SO (f c : Int) (st : List Bs) (tr : List (List Tr)) : D := .obj 2 ["first", "recovered", "states", "trains"] [.int f, .int c, .lst (st.map bD), .lst (tr.map TO)]
theorem kb_pos (n : Nat) : 1 ≤ (48000000000000 : Int) ^ n := by
  induction n with
  | zero => decide
  | succ n ih => rw [Int.pow_succ]; omega
theorem lf_ok {s : Sp} (h : okS s) (b : Bs) : 1 ≤ lf s b ∧ lf s b ≤ 1000000000000 := by
  cases b with
  | cl => exact ⟨h.f0, h.f1⟩
  | hf k => exact ⟨Int.le_refl 1, by show (1 : Int) ≤ _; decide⟩
theorem one_cn {f p : Int} (f0 : 0 ≤ f) (p0 : 1 ≤ p) : Cn [⟨f, p, none⟩] := ⟨⟨f0, p0, fun n z => by cases z⟩, fun z => by cases z⟩
theorem one_inf (f p : Int) : tcnt [⟨f, p, none⟩] = none := rfl
theorem one_rb {f p B : Int} (h1 : f < B) (h2 : p < B) : RB B [⟨f, p, none⟩] := fun t m => by
  rw [List.mem_singleton] at m
  subst m
  exact ⟨h1, h2, fun n z => by cases z⟩
abbrev T0 (f p : Int) : List Tr := [⟨f, p, none⟩]
/-! ### what comes to each breaker in a spell -/
def lvl (A : List Tr) (q : List (Sp × Bs)) : Nat → List Tr
  | 0 => A
  | i + 1 => match q[i]? with
    | some (s, b) => psT (lf s b) s.w (lvl A q i)
    | none => []
theorem lvl_succ {A : List Tr} {q : List (Sp × Bs)} {i : Nat} {s : Sp} {b : Bs} (h : q[i]? = some (s, b)) : lvl A q (i + 1) = psT (lf s b) s.w (lvl A q i) := by
  rw [lvl, h]
/-- times without end, from f on, with f -/
structure Lv (f : Int) (G : List Tr) : Prop where
  cn : Cn G
  inf : tcnt G = none
  ge : ∀ x, mR G x → f ≤ x
  fst : mR G f
theorem T0_mem {f p x : Int} : mR (T0 f p) x ↔ ∃ j, 0 ≤ j ∧ x = f + p * j := by
  rw [mR_one]
  constructor
  · rintro ⟨j, j0, _, e⟩; exact ⟨j, j0, e⟩
  · rintro ⟨j, j0, e⟩; exact ⟨j, j0, fun n z => (by cases z), e⟩
theorem T0_lv {f p : Int} (f0 : 0 ≤ f) (p0 : 1 ≤ p) : Lv f (T0 f p) := by
  refine ⟨one_cn f0 p0, one_inf f p, fun x m => ?_, T0_mem.mpr ⟨0, by decide, by simp⟩⟩
  obtain ⟨j, j0, e⟩ := T0_mem.mp m
  have := Int.mul_nonneg (show 0 ≤ p by omega) j0
  omega
theorem tmB_none {G : List Tr} (hv : Vd G) {f : Int} (h : ∀ x, mR G x → f ≤ x) : tmB G f = [] := by
  refine List.eq_nil_iff_forall_not_mem.mpr fun x m => ?_
  have := (mem_tmB hv _ _).mp m
  have := h x this.1
  omega
theorem Lv.pass {f l w : Int} {A : List Tr} (h : Lv f A) (l1 : 1 ≤ l) (w1 : 1 ≤ w) : Lv f (psT l w A) := by
  have P := psT_ok h.cn.vd h.inf l1 w1
  refine ⟨P.cn, P.inf h.cn.vd h.inf l1, fun x m => h.ge x (P.sub h.cn.vd m), P.early h.cn.vd l1 h.fst ?_⟩
  rw [tmB_none h.cn.vd h.ge]
  simp
  omega
def okQ (q : List (Sp × Bs)) : Prop := ∀ (i : Nat) (s : Sp) (b : Bs), q[i]? = some (s, b) → okS s
theorem lvl_ok {f : Int} {A : List Tr} {q : List (Sp × Bs)} (hA : Lv f A) (hq : okQ q) : ∀ i, i ≤ q.length → Lv f (lvl A q i)
  | 0, _ => hA
  | i + 1, h => by
    have e : q[i]? = some (q[i].1, q[i].2) := List.getElem?_eq_getElem (by omega)
    rw [lvl_succ e]
    have os := hq i _ _ e
    exact (lvl_ok hA hq i (by omega)).pass (lf_ok os _).1 os.w0
theorem lvl_ps {f : Int} {A : List Tr} {q : List (Sp × Bs)} (hA : Lv f A) (hq : okQ q) {i : Nat} {s : Sp} {b : Bs} (h : q[i]? = some (s, b)) : PsT (lf s b) s.w (lvl A q i) (lvl A q (i + 1)) := by
  rw [lvl_succ h]
  have hi : i < q.length := (List.getElem?_eq_some_iff.mp h).1
  have L := lvl_ok hA hq i (by omega)
  have os := hq i s b h
  exact psT_ok L.cn.vd L.inf (lf_ok os b).1 os.w0
theorem lvl_sub {f : Int} {A : List Tr} {q : List (Sp × Bs)} (hA : Lv f A) (hq : okQ q) {i : Nat} (hi : i < q.length) {x : Int} (m : mR (lvl A q (i + 1)) x) : mR (lvl A q i) x := by
  have e : q[i]? = some q[i] := List.getElem?_eq_getElem hi
  exact (lvl_ps hA hq (s := q[i].1) (b := q[i].2) e).sub (lvl_ok hA hq i (by omega)).cn.vd m
theorem lvl_rb {f B : Int} {A : List Tr} {q : List (Sp × Bs)} (hA : Lv f A) (hq : okQ q) (hr : RB B A) (B0 : 0 < B) (hw : ∀ (i : Nat) (s : Sp) (b : Bs), q[i]? = some (s, b) → s.w ≤ B) : ∀ i, i ≤ q.length → RB (B * (48000000000000 : Int) ^ i) (lvl A q i) ∧ (lvl A q i).length ≤ A.length + i
  | 0, _ => ⟨by rw [Int.pow_zero, Int.mul_one]; exact hr, Nat.le_refl _⟩
  | i + 1, h => by
    have e : q[i]? = some (q[i].1, q[i].2) := List.getElem?_eq_getElem (by omega)
    obtain ⟨r1, n1⟩ := lvl_rb hA hq hr B0 hw i (by omega)
    have L := lvl_ok hA hq i (by omega)
    have os := hq i _ _ e
    have kp := kb_pos i
    have kb : B ≤ B * (48000000000000 : Int) ^ i := by have := Int.mul_le_mul_of_nonneg_left kp (show 0 ≤ B by omega); omega
    obtain ⟨_, _, rf, nf, _⟩ := psT_rb L.cn.vd L.inf r1 (by omega) (lf_ok os q[i].2).1 (lf_ok os q[i].2).2 os.w0 (by have := hw i _ _ e; omega)
    rw [lvl_succ e]
    refine ⟨?_, by omega⟩
    rw [Int.pow_succ, ← Int.mul_assoc]
    exact rf.mono (by omega)
/-! ### requests -/
def fq (h p x : Int) : Int := max 0 ((x - h + p - 1) / p)
def rqt (h p n : Int) : Int := h + n * p
/-- the first request from a time on -/
def rqa (h p x : Int) : Int := rqt h p (fq h p x)
def isRq (h p x : Int) : Prop := ∃ n, 0 ≤ n ∧ x = rqt h p n
/-! ### spells, in plain words -/
structure Spl where
  f : Int
  c : Int
  st : List Bs
/-- the last trains of a spell: what comes to the service -/
abbrev Gl' (r : List Sp) (p f : Int) (st : List Bs) (i : Nat) : List Tr := lvl (T0 f p) (r.zip st) i
abbrev SGl (r : List Sp) (p : Int) (s : Spl) (i : Nat) : List Tr := Gl' r p s.f s.st i
abbrev SD (r : List Sp) (p : Int) (s : Spl) : D := SO s.f s.c s.st (trL (T0 s.f p) (r.zip s.st))
/-- when a breaker opens in a spell, if it does before the recovery -/
def opI (r : List Sp) (p : Int) (s : Spl) (i : Nat) : Int := match (r.zip s.st)[i]? with
  | some (u, b) => (nthT (SGl r p s (i + 1)) (lf u b - 1)).getD 0
  | none => 0
def opT (r : List Sp) (p : Int) (s : Spl) (i : Nat) : Option Int := if opI r p s i < s.c then some (opI r p s i) else none
/-- the states before a request behind a spell -/
def stA (r : List Sp) (p : Int) (s : Spl) (m : Int) : Nat → List Sp → List Bs
  | _, [] => []
  | i, u :: us => (if (opT r p s i).isSome ∧ m < u.c then .hf m else .cl) :: stA r p s m (i + 1) us
def stB (r : List Sp) (p : Int) (s : Spl) (x : Int) : List Bs := stA r p s ((x - s.c) / p) 0 r
def nxt (G : List Tr) (x : Int) : Int := (nextT G x).getD 0
/-- the recovery, and the outages that are left -/
def recv (G : List Tr) : Int → List (Int × Int) → Int × List (Int × Int)
  | c, [] => (c, [])
  | c, (b, e) :: os => if b ≤ c then recv G (nxt G (max c e)) os else (c, (b, e) :: os)
def stN (r : List Sp) (p : Int) (F : List Spl) (f : Int) : List Bs := match F.getLast? with
  | none => List.replicate r.length .cl
  | some s => stB r p s f
def spl (r : List Sp) (p h : Int) : Nat → List Spl → List (Int × Int) → List Spl
  | 0, F, _ => F
  | _ + 1, F, [] => F
  | n + 1, F, (b, e) :: os =>
    if rqa h p b < e then
      spl r p h n (F ++ [⟨rqa h p b, (recv (Gl' r p (rqa h p b) (stN r p F (rqa h p b)) r.length) (nxt (Gl' r p (rqa h p b) (stN r p F (rqa h p b)) r.length) e) os).1, stN r p F (rqa h p b)⟩]) (recv (Gl' r p (rqa h p b) (stN r p F (rqa h p b)) r.length) (nxt (Gl' r p (rqa h p b) (stN r p F (rqa h p b)) r.length) e) os).2
    else spl r p h n F os
def spells (r : List Sp) (p h : Int) (os : List (Int × Int)) : List Spl := spl r p h os.length [] os
/-- outages in order, from low on -/
def okO (M : Int) : Int → List (Int × Int) → Prop
  | _, [] => True
  | low, (b, e) :: os => low ≤ b ∧ b < e ∧ e ≤ M ∧ okO M (e + 1) os
theorem okO.ge {M : Int} : ∀ {os : List (Int × Int)} {low : Int}, okO M low os → ∀ o ∈ os, low ≤ o.1 ∧ o.1 < o.2 ∧ o.2 ≤ M
  | [], _, _, o, m => by simp at m
  | (b, e) :: os, low, h, o, m => by
    rcases List.mem_cons.mp m with rfl | m
    · exact ⟨h.1, h.2.1, h.2.2.1⟩
    · obtain ⟨a1, a2, a3⟩ := okO.ge h.2.2.2 o m
      exact ⟨by have := h.1; have := h.2.1; omega, a2, a3⟩
theorem okO.le {M : Int} : ∀ {os : List (Int × Int)} {low l2 : Int}, okO M low os → l2 ≤ low → okO M l2 os
  | [], _, _, _, _ => trivial
  | (b, e) :: os, low, l2, h, hl => ⟨by have := h.1; omega, h.2⟩
def Down (os : List (Int × Int)) (t : Int) : Prop := ∃ o ∈ os, o.1 ≤ t ∧ t < o.2
/-- a spell in good order -/
structure SpOk (r : List Sp) (p h M : Int) (outs : List (Int × Int)) (s : Spl) : Prop where
  len : s.st.length = r.length
  rq : isRq h p s.f
  f0 : 0 ≤ s.f
  fM : s.f < M
  mem : mR (SGl r p s r.length) s.c
  lt : s.f < s.c
  dn : ∀ t, mR (SGl r p s r.length) t → t < s.c → Down outs t
  up : ¬ Down outs s.c
  bd : ∃ e, e ≤ M ∧ s.c = nxt (SGl r p s r.length) e
theorem okQ_zip {r : List Sp} {p h : Int} (k : okR r p h) (st : List Bs) : okQ (r.zip st) := fun i s b e => by
  rw [List.getElem?_zip_eq_some] at e
  exact k.sp s (List.mem_of_getElem? e.1)
theorem zip_len {r : List Sp} {st : List Bs} (h : st.length = r.length) : (r.zip st).length = r.length := by rw [List.length_zip]; omega
theorem Gl_lv {r : List Sp} {p h f : Int} (k : okR r p h) (f0 : 0 ≤ f) {st : List Bs} (hl : st.length = r.length) {i : Nat} (hi : i ≤ r.length) : Lv f (Gl' r p f st i) := lvl_ok (T0_lv f0 k.p0) (okQ_zip k st) i (by rw [zip_len hl]; exact hi)
/-- how the states before a spell come about -/
def Chn (r : List Sp) (p : Int) : List Spl → List Spl → Prop
  | _, [] => True
  | F, s :: S => s.st = stN r p F s.f ∧ Chn r p (F ++ [s]) S
theorem Chn.app {r : List Sp} {p : Int} : ∀ {S F : List Spl} {s : Spl}, Chn r p F S → s.st = stN r p (F ++ S) s.f → Chn r p F (S ++ [s])
  | [], F, s, _, h => ⟨by simpa using h, trivial⟩
  | t :: S, F, s, h, hs => ⟨h.1, Chn.app h.2 (by simpa using hs)⟩
/-! ### bounds of spells -/
@[irreducible] def PB : Int := 100000000000000000000000000000000 * 48000000000000 ^ 12
theorem PB_is : PB = 100000000000000000000000000000000 * 48000000000000 ^ 12 := by unfold PB; rfl
theorem kb_le {n : Nat} (h : n ≤ 12) : (100000000000000000000000000000000 : Int) * 48000000000000 ^ n ≤ PB := by
  rw [PB_is]
  refine Int.mul_le_mul_of_nonneg_left ?_ (by decide)
  rcases (by omega : n = 0 ∨ n = 1 ∨ n = 2 ∨ n = 3 ∨ n = 4 ∨ n = 5 ∨ n = 6 ∨ n = 7 ∨ n = 8 ∨ n = 9 ∨ n = 10 ∨ n = 11 ∨ n = 12) with rfl | rfl | rfl | rfl | rfl | rfl | rfl | rfl | rfl | rfl | rfl | rfl | rfl <;> decide +kernel
theorem Gl_rb {r : List Sp} {p h f : Int} (k : okR r p h) (f0 : 0 ≤ f) (f1 : f ≤ 90000000000000000000000000000000) {st : List Bs} (hl : st.length = r.length) {i : Nat} (hi : i ≤ r.length) : RB PB (Gl' r p f st i) ∧ (Gl' r p f st i).length ≤ 20 := by
  have p1 := k.p1
  have kl := k.len
  obtain ⟨a, b⟩ := lvl_rb (B := 100000000000000000000000000000000) (T0_lv f0 k.p0) (okQ_zip k st) (one_rb (by omega) (by omega)) (by decide) (fun i s b e => by
    rw [List.getElem?_zip_eq_some] at e
    have := (k.sp s (List.mem_of_getElem? e.1)).w1
    omega) i (by rw [zip_len hl]; exact hi)
  refine ⟨a.mono (kb_le (by omega)), ?_⟩
  have : (T0 f p).length = 1 := rfl
  show (lvl (T0 f p) (r.zip st) i).length ≤ 20
  omega
theorem SpOk.lv {r : List Sp} {p h M : Int} {outs : List (Int × Int)} {s : Spl} (k : okR r p h) (o : SpOk r p h M outs s) {i : Nat} (hi : i ≤ r.length) : Lv s.f (SGl r p s i) := Gl_lv k o.f0 o.len hi
theorem SpOk.rb {r : List Sp} {p h : Int} {outs : List (Int × Int)} {s : Spl} (k : okR r p h) (o : SpOk r p h 1000000000000000000000000000000 outs s) {i : Nat} (hi : i ≤ r.length) : RB PB (SGl r p s i) ∧ (SGl r p s i).length ≤ 20 := Gl_rb k o.f0 (by have := o.fM; omega) o.len hi
/-! ### requests, as data -/
/-! ### fields of a spell -/
/-! ### opening, as data -/
theorem op_some {r : List Sp} {p h : Int} (k : okR r p h) {s : Spl} (f0 : 0 ≤ s.f) (hl : s.st.length = r.length) {i : Nat} {u : Sp} {b : Bs} (hu : r[i]? = some u) (hb : s.st[i]? = some b) : nthT (SGl r p s (i + 1)) (lf u b - 1) = some (opI r p s i) ∧ (r.zip s.st)[i]? = some (u, b) := by
  have hz : (r.zip s.st)[i]? = some (u, b) := by rw [List.getElem?_zip_eq_some]; exact ⟨hu, hb⟩
  have hi : i < r.length := (List.getElem?_eq_some_iff.mp hu).1
  have L := Gl_lv k f0 hl (show i + 1 ≤ r.length by omega)
  have l1 := (lf_ok (k.sp u (List.mem_of_getElem? hu)) b).1
  obtain ⟨v, e⟩ := nth_some L.cn.vd.okm (i := lf u b - 1) (by omega) (by rw [L.inf]; intro n z; cases z)
  refine ⟨?_, hz⟩
  unfold opI
  rw [hz]
  show _ = some ((nthT (SGl r p s (i + 1)) (lf u b - 1)).getD 0)
  rw [e]
  rfl
/-! ### states_at of a spell, as data -/
abbrev fsF : List FS := [F_first_request, F_request_time, F_Row___len__, F_Spell_states_at, F_Spell___init__]
/-! ### outages, as data -/
abbrev oD (o : Int × Int) : D := .tup [.int o.1, .int o.2]
abbrev osD (os : List (Int × Int)) : D := .lst (os.map oD)
theorem i2_0 (x y : D) : atI [x, y] 0 = some x := rfl
theorem i2_1 (x y : D) : atI [x, y] 1 = some y := rfl
theorem is_outage_ok {b e low : Int} (h1 : low ≤ b) (h2 : b < e) (h3 : e ≤ 1000000000000000000000000000000) : F_is_outage [some (oD (b, e), false), some (.int low, false)] = some (.fz (.bl true), [some (oD (b, e), false), some (.int low, false)]) := by
  have cm := comp_mapD [F_is_integer] 2 [.var 0] (.call 0 [.var 2]) [.int b, .int e] (fun _ => .bl true) [some (.tup [.int b, .int e], false), some (.int low, false), none] (by simp [DV.SC, DV.SE, DV.SX]) rfl (by simp) (fun d hd => by
    simp only [List.mem_cons, List.not_mem_nil, or_false] at hd
    rcases hd with rfl | rfl <;> simp [DV.SC, DV.SE, DV.SX, is_int_i])
  have s1 : ev [F_is_integer] (.bi .alll [.comp [2] (.nm 2) .seq [.var 0] [] (.call 0 [.var 2])]) [some (.tup [.int b, .int e], false), some (.int low, false), none] = some (.fz (.bl true), [some (.tup [.int b, .int e], false), some (.int low, false), none]) := by
    rw [DV.ev.eq_17, evs_1 cm]
    simp [DV.SC, DV.SE, DV.SX, blsD]
  have j0 := i2_0 (.int b) (.int e)
  have j1 := i2_1 (.int b) (.int e)
  refine runF_by (o := .rt (.fz (.bl true)) [some (.tup [.int b, .int e], false), some (.int low, false), none]) rfl (?_ : exs _ [] _ [some (.tup [.int b, .int e], false), some (.int low, false), none] = _) rfl
  refine (exs_nx (Γ1 := [some (.tup [.int b, .int e], false), some (.int low, false), none]) ?_).trans ?_
  · refine ex_ite (x := .fz (.bl false)) (t := false) (Γ1 := [some (.tup [.int b, .int e], false), some (.int low, false), none]) ?_ (test_b _ _) (by simp [DV.SC, DV.SE, DV.SX])
    refine ev_or_f (x := .fz (.bl false)) (Γ1 := [some (.tup [.int b, .int e], false), some (.int low, false), none]) (by simp [DV.SC, DV.SE, DV.SX]) (test_b _ _) ?_
    refine ev_or_f (x := .fz (.bl false)) (Γ1 := [some (.tup [.int b, .int e], false), some (.int low, false), none]) (by simp [DV.SC, DV.SE, DV.SX]) (test_b _ _) ?_
    exact ev_not (x := .fz (.bl true)) s1 (test_b _ _)
  · simp [DV.SC, DV.SE, DV.SX, j0, j1, h1, h2, h3]
theorem co_loop (pn : List Nat) (h1 : ¬ 1 ∈ pn) (O : D) : ∀ (os : List (Int × Int)) (n : Nat) (low : Int) (x2 x3 : Sl), okO 1000000000000000000000000000000 low os → ∃ l y2 y3, forLoop (.tp [.nm 2, .nm 3]) (exs [F_is_outage] pn B_check_outages_1) (enumD n (os.map oD)) [some (O, false), some (.int low, false), x2, x3] = some (.nx [some (O, false), some (.int l, false), y2, y3])
  | [], n, low, x2, x3, _ => ⟨low, x2, x3, by simp [enumD, forLoop]⟩
  | (b, e) :: os, n, low, x2, x3, ⟨a1, a2, a3, a4⟩ => by
    obtain ⟨l, y2, y3, ih⟩ := co_loop pn h1 O os (n + 1) (e + 1) (some (.int (n : Int), false)) (some (oD (b, e), false)) a4
    refine ⟨l, y2, y3, ?_⟩
    have c := is_outage_ok a1 a2 a3
    rw [List.map_cons, enumD, ← ih]
    refine forLoop_step (Γ1 := [some (O, false), some (.int low, false), some (.int (n : Int), false), some (oD (b, e), false)]) (by simp [DV.SC, DV.SE, DV.SX]) ?_
    have j1 := i2_1 (.int b) (.int e)
    simp [B_check_outages_1, DV.SC, DV.SE, DV.SX, c, j1, h1]
theorem check_outages_ok {os : List (Int × Int)} (ho : okO 1000000000000000000000000000000 0 os) (hl : os.length ≤ 50) (fl : Bool) : F_check_outages [some (osD os, fl)] = some (.fz .non, [some (osD os, false)]) := by
  have hl2 : ¬ (50 : Int) < (os.length : Int) := by omega
  obtain ⟨l, y1, y2, e⟩ := co_loop [] (by simp) (osD os) os 0 0 none none ho
  refine runF_pn (pn := []) (o := .nx [some (osD os, false), some (.int l, false), y1, y2]) rfl (by cases fl <;> rfl) (?_ : exs _ [] _ [some (osD os, fl), none, none, none] = _) (by cases fl <;> rfl)
  refine (exs_nx (Γ1 := [some (osD os, fl), none, none, none]) (by cases fl <;> simp [DV.SC, DV.SE, DV.SX, hl2])).trans ?_
  refine (exs_nx (Γ1 := [some (osD os, fl), some (.int 0, false), none, none]) (by simp [DV.SC, DV.SE, DV.SX])).trans ?_
  exact (exs_nx (ex_for (Γ2 := [some (osD os, false), some (.int 0, false), none, none]) (ds := enumD 0 (os.map oD)) (by cases fl <;> simp [DV.SC, DV.SE, DV.SX]) (by simp [DV.SC, DV.SE, DV.SX]) e)).trans (by simp only [DV.exs.eq_1])
/-! ### spells_of, as data -/
/-! ### a timeline -/
abbrev TL (r : List Sp) (p h : Int) (os : List (Int × Int)) : D := .obj 3 ["line", "downs", "spells"] [RO r p h, osD os, .lst ((spells r p h os).map (SD r p))]
/-! ### counts, as data -/
/-! ### the time that a breaker is open, as data -/
/-! ### counts of times, in plain words -/
/-! ### a breaker that rejects has opened -/
section
variable {r : List Sp} {p h M : Int} {outs : List (Int × Int)} {s : Spl}
theorem SpOk.ps (k : okR r p h) (o : SpOk r p h M outs s) {i : Nat} (hi : i < r.length) : ∃ b, s.st[i]? = some b ∧ PsT (lf r[i] b) r[i].w (SGl r p s i) (SGl r p s (i + 1)) ∧ 1 ≤ lf r[i] b ∧ nthT (SGl r p s (i + 1)) (lf r[i] b - 1) = some (opI r p s i) := by
  have hu : r[i]? = some r[i] := List.getElem?_eq_getElem hi
  have hil : i < s.st.length := by rw [o.len]; exact hi
  have hb : s.st[i]? = some s.st[i] := List.getElem?_eq_getElem hil
  obtain ⟨en, hz⟩ := op_some k o.f0 o.len hu hb
  exact ⟨_, hb, lvl_ps (T0_lv o.f0 k.p0) (okQ_zip k s.st) hz, (lf_ok (k.sp r[i] (List.getElem_mem hi)) s.st[i]).1, en⟩
theorem SpOk.sub (k : okR r p h) (o : SpOk r p h M outs s) {i : Nat} (hi : i < r.length) {z : Int} (m : mR (SGl r p s (i + 1)) z) : mR (SGl r p s i) z := lvl_sub (T0_lv o.f0 k.p0) (okQ_zip k s.st) (by rw [zip_len o.len]; exact hi) m
end
/-! ### the counts of a window add up -/
section
variable {r : List Sp} {p h M : Int} {outs : List (Int × Int)} {S : List Spl}
end
/-! ### the states of breakers, request by request -/
inductive Q3 where
  | cl (n : Int)
  | op (t : Int)
  | hf (k : Int)
def q3 : Bs → Q3
  | .cl => .cl 0
  | .hf k => .hf k
section
variable {r : List Sp} {p h M : Int} {outs : List (Int × Int)} {S : List Spl}
/-! #### within a spell -/
end
/-! ### all breakers over a request -/
theorem Chn.at {r : List Sp} {p : Int} : ∀ {A F : List Spl} {s : Spl} {B : List Spl}, Chn r p F (A ++ s :: B) → s.st = stN r p (F ++ A) s.f
  | [], F, s, B, h => by rw [List.append_nil]; exact h.1
  | u :: A, F, s, B, h => by
    have := Chn.at (A := A) h.2
    simpa using this
section
variable {r : List Sp} {p h M : Int} {outs : List (Int × Int)} {S : List Spl}
end
/-! ### comprehensions with one name, in general -/
theorem set_nn {Γ : Ct} {v : Nat} (hv : Γ[v]? = some none) : Γ.set v none = Γ := by
  have hvl : v < Γ.length := (List.getElem?_eq_some_iff.mp hv).1
  apply List.ext_getElem?
  intro i
  by_cases q : v = i
  · subst q; rw [List.getElem?_set_self hvl, hv]
  · rw [List.getElem?_set_ne q]
theorem comp_by {fs : List FS} {v : Nat} {ik : IK} {its cs : List DV.E} {elt : DV.E} {ds out : List D} {Γ0 Γ : Ct} (e1 : (evs fs its Γ0).bind (fun p => iterD ik p.1 p.2) = some (ds, Γ)) (hv : Γ[v]? = some none) (hl : ds.length ≤ 16777216)
    (lp : compLoop [v] (.nm v) (evc fs cs) (ev fs elt) ds [] Γ = some (out, Γ)) : ev fs (.comp [v] (.nm v) ik its cs elt) Γ0 = some (.nw (.lst out), Γ) := by
  have sn := set_nn hv
  have pl : plainIx Γ [v] = true := by simp [plainIx, hv]
  have rg : restG Γ Γ [v] = Γ := by
    simp only [restG, List.getD_eq_getElem?_getD, hv, Option.getD_some]
    exact sn
  obtain ⟨⟨xs, Γ1⟩, a1, a2⟩ := Option.bind_eq_some_iff.mp e1
  rw [DV.ev.eq_18]
  simp only [a1, Option.bind_some, a2]
  rw [if_pos (by rw [pl, decide_eq_true (show ds.length ≤ sizeLine from hl)]; simp [tgIx]), show wipeG Γ [v] = Γ by simp [wipeG, sn], lp]
  simp only [Option.map_some, rg]
theorem comp_mapX {fs : List FS} {v : Nat} {ik : IK} {its : List DV.E} {elt : DV.E} {ds : List D} (f : D → D) {Γ0 Γ : Ct} (e1 : (evs fs its Γ0).bind (fun p => iterD ik p.1 p.2) = some (ds, Γ)) (hv : Γ[v]? = some none) (hl : ds.length ≤ 16777216)
    (he : ∀ d ∈ ds, ∃ x, ev fs elt (Γ.set v (some (d, false))) = some (x, Γ.set v (some (d, false))) ∧ (x = .fz (f d) ∨ x = .nw (f d))) : ev fs (.comp [v] (.nm v) ik its [] elt) Γ0 = some (.nw (.lst (ds.map f)), Γ) := by
  have hvl : v < Γ.length := (List.getElem?_eq_some_iff.mp hv).1
  have sn := set_nn hv
  refine comp_by e1 hv hl ?_
  have key : ∀ (ds acc : List D), (∀ d ∈ ds, ∃ x, ev fs elt (Γ.set v (some (d, false))) = some (x, Γ.set v (some (d, false))) ∧ (x = .fz (f d) ∨ x = .nw (f d))) → compLoop [v] (.nm v) (evc fs []) (ev fs elt) ds acc Γ = some (acc ++ ds.map f, Γ) := by
    intro ds
    induction ds with
    | nil => intro acc _; simp [compLoop]
    | cons d ds ih =>
      intro acc h
      obtain ⟨x, ex, hx⟩ := h d List.mem_cons_self
      have fr : fre (Γ.set v (some (d, false))) x = some (f d, Γ.set v (some (d, false))) := by rcases hx with rfl | rfl <;> rfl
      have pl : plainIx (Γ.set v (some (d, false))) [v] = true := by simp [plainIx, hvl]
      simp only [compLoop, asgT, hvl, if_true, Option.bind_some, DV.evc.eq_1, ex, fr]
      rw [if_pos pl, show wipeG (Γ.set v (some (d, false))) [v] = Γ by simp [wipeG, sn], ih _ fun e m => h e (List.mem_cons_of_mem _ m)]
      simp
  simpa using key ds [] he
/-! ### one request in the counts -/
section
variable {r : List Sp} {p h M : Int} {outs : List (Int × Int)} {S : List Spl}
end
/-! ### spells, in plain words -/
section
variable {r : List Sp} {p h M : Int} {outs : List (Int × Int)} {S : List Spl}
/-! #### the recovery comes soon -/
end
section
variable {r : List Sp} {p h M : Int} {outs : List (Int × Int)} {S : List Spl}
end
/-! ### spell_at and first_success, as data -/
/-! ### one more outage -/
theorem okO_snoc2 {M : Int} : ∀ {os : List (Int × Int)} {low b e : Int}, okO M low os → (∀ o ∈ os, o.2 < b) → low ≤ b → b < e → e ≤ M → okO M low (os ++ [(b, e)])
  | [], low, b, e, _, _, h1, h2, h3 => ⟨h1, h2, h3, trivial⟩
  | (b1, e1) :: os, low, b, e, ⟨a1, a2, a3, a4⟩, h, h1, h2, h3 => ⟨a1, a2, a3, okO_snoc2 a4 (fun o m => h o (List.mem_cons_of_mem _ m)) (by have := h (b1, e1) List.mem_cons_self; have : e1 < b := this; omega) h2 h3⟩
section
variable {r : List Sp} {p h M b e : Int} {os : List (Int × Int)}
end
/-! ### the law's source -/
abbrev wl (a c k : Int) : D := .lst [.int a, .int c, .int k]
abbrev primes : List D := [.int 2147483647, .int 2147483629, .int 2147483587, .int 2147483579, .int 2147483563, .int 2147483549, .int 2147483543]
theorem prime_ok (k : Int) : ∃ p : Int, atI primes (k % 7) = some (.int p) ∧ 0 < p ∧ p < 2 ^ 31 := by
  have h0 := Int.emod_nonneg k (show (7 : Int) ≠ 0 by decide)
  have h1 := Int.emod_lt_of_pos k (show (0 : Int) < 7 by decide)
  generalize k % 7 = q at *
  obtain ⟨n, rfl⟩ : ∃ n : Nat, q = n := ⟨q.toNat, by omega⟩
  have hn : n = 0 ∨ n = 1 ∨ n = 2 ∨ n = 3 ∨ n = 4 ∨ n = 5 ∨ n = 6 := by omega
  rcases hn with rfl | rfl | rfl | rfl | rfl | rfl | rfl <;> exact ⟨_, rfl, by decide, by decide⟩
theorem jx0 : ixN 3 0 = some 0 := rfl
theorem jx2 : ixN 3 2 = some 2 := rfl
/-- a source in good order -/
structure Wl (c k : Int) (N : Nat) : Prop where
  c0 : 0 ≤ c
  c1 : c < 2147483647
  k0 : 0 ≤ k
  k1 : k + 120 * N < 2 ^ 40
theorem source_ok (cell : Int) : ∃ a c, F__law_source_of [some (.int cell, false)] = some (.nw (wl a c 0), [some (.int cell, false)]) ∧ 0 ≤ c ∧ c < 2147483647 := by
  have c0 := Int.emod_nonneg cell (show (2147483647 : Int) ≠ 0 by decide)
  have c1 := Int.emod_lt_of_pos cell (show (0 : Int) < 2147483647 by decide)
  by_cases h : 1000000000000000000 ≤ cell
  · have m : mulOk cell 1 = true := mulOk_r (by decide) (by decide)
    exact ⟨cell, cell % 2147483647, by simp [F__law_source_of, DV.SC, DV.SE, DV.SX, h, m, sizeLine], c0, c1⟩
  · have m : mulOk cell 0 = true := mulOk_r (by decide) (by decide)
    exact ⟨0, cell % 2147483647, by simp [F__law_source_of, DV.SC, DV.SE, DV.SX, h, m, sizeLine], c0, c1⟩
theorem cell_at_ok (ns : List Int) : ∃ c, F__law_cell_at [some (.scr ns, false), some (.int 0, false)] = some (.fz (.int c), [some (.scr ns, false), some (.int 0, false)]) := by
  cases ns with
  | nil => exact ⟨0, by simp [F__law_cell_at, DV.SC, DV.SE, DV.SX]⟩
  | cons n ns =>
    have i0 : atI (n :: ns) 0 = some n := atI_nat (j := 0) rfl
    refine ⟨n, ?_⟩
    simp [F__law_cell_at, DV.SC, DV.SE, DV.SX, i0]

theorem Wl.le {c k : Int} {N M : Nat} (w : Wl c k N) (h : M ≤ N) : Wl c k M := ⟨w.c0, w.c1, w.k0, by have := w.k1; omega⟩
/-! ### drawn numbers -/
theorem next_ok (a : Int) {c k m : Int} {N : Nat} (w : Wl c k (N + 1)) (m0 : 0 < m) (m1 : m ≤ 4 * BB) : ∃ r a' k', F__law_next [some (wl a c k, true), some (.int m, false)] = some (.fz (.int r), [some (wl a' c k', true), some (.int m, false)]) ∧ 0 ≤ r ∧ r < m ∧ Wl c k' N := by
  have bb := BB_big
  have lg := div_bb m0 (by omega)
  have w1 := w.k1
  have w0 := w.k0
  by_cases ha : 0 < a
  · refine ⟨a % m, a / m, k, ?_, Int.emod_nonneg _ (by omega), Int.emod_lt_of_pos _ m0, w.c0, w.c1, w.k0, by omega⟩
    simp [F__law_next, DV.SC, DV.SE, DV.SX, ha, i3_0, i3_1, i3_2, jx0, lg, m0]
  · obtain ⟨p, ep, p0, p1⟩ := prime_ok (k + 1)
    have c0 := w.c0
    have c1 := w.c1
    have b : (c + 7919 * (k + 1) + 1).natAbs < 2 ^ 64 := by omega
    have q1 : mulOk 7919 (k + 1) = true := mulOk_l (by decide) (by decide)
    generalize hx : (c + 7919 * (k + 1) + 1) = x at b
    have q3 : ∀ y z : Int, mulOk (y % p + (k + 1)) z = true := fun y z => mulOk_l (by have := Int.emod_nonneg y (show p ≠ 0 by omega); omega) (by have := Int.emod_lt_of_pos y p0; omega)
    have g1 : Nat.log2 1009 < 9000 := by decide +kernel
    have g2 : Nat.log2 7 < 9000 := by decide +kernel
    refine ⟨((x ^ 5 % p + (k + 1)) * (x ^ 5 % p / 1009 + 69621) % p / 7) % m, a, k + 1, ?_, Int.emod_nonneg _ (by omega), Int.emod_lt_of_pos _ m0, c0, c1, by omega, by omega⟩
    simp [F__law_next, DV.SC, DV.SE, DV.SX, ha, i3_0, i3_1, i3_2, jx2, ep, p0, m0, q1, hx, b, q3, g1, g2, sizeLine]
theorem one_ok (a : Int) {c k : Int} {N : Nat} (w : Wl c k (N + 1)) (ds : List D) (fl : Bool) (m0 : 0 < ds.length) (m1 : ds.length < 1000) : ∃ d a' k', F__law_one [some (wl a c k, true), some (.lst ds, fl)] = some (.fz d, [some (wl a' c k', true), some (.lst ds, fl)]) ∧ d ∈ ds ∧ Wl c k' N := by
  have bb := BB_big
  obtain ⟨r, a', k', e, r0, r1, w'⟩ := next_ok a w (m := ds.length) (by omega) (by omega)
  obtain ⟨j, rfl⟩ : ∃ j : Nat, r = j := ⟨r.toNat, by omega⟩
  have hj : j < ds.length := by omega
  refine ⟨ds[j], a', k', ?_, List.getElem_mem hj, w'⟩
  have i1 : atI ds (j : Int) = some ds[j] := atI_nat (List.getElem?_eq_getElem hj)
  cases fl <;> simp [F__law_one, DV.SC, DV.SE, DV.SX, e, i1]
/-- a drawn number, below one of some bounds -/
theorem pick1_ok (a : Int) {c k : Int} {N : Nat} (w : Wl c k (N + 2)) (bs : List Int) (M : Int) (l0 : 0 < bs.length) (l1 : bs.length < 1000) (hb : ∀ b ∈ bs, 0 < b ∧ b ≤ M) (hM : M ≤ 4 * BB) :
    ∃ d r a1 k1 a2 k2, F__law_one [some (wl a c k, true), some (.lst (bs.map D.int), true)] = some (.fz (.int d), [some (wl a1 c k1, true), some (.lst (bs.map D.int), true)]) ∧ F__law_next [some (wl a1 c k1, true), some (.int d, false)] = some (.fz (.int r), [some (wl a2 c k2, true), some (.int d, false)]) ∧ 0 ≤ r ∧ r < M ∧ Wl c k2 N := by
  obtain ⟨d, a1, k1, e1, m1, w1⟩ := one_ok a w (bs.map D.int) true (by simpa using l0) (by simpa using l1)
  obtain ⟨b, mb, rfl⟩ := List.mem_map.mp m1
  obtain ⟨b0, b1⟩ := hb b mb
  obtain ⟨r, a2, k2, e2, r0, r1, w2⟩ := next_ok a1 w1 b0 (by omega)
  exact ⟨b, r, a1, k1, a2, k2, e1, e2, r0, by omega, w2⟩

/-! ### drawn breakers -/
abbrev spG (W : D) (most wide many : Int) (F : List Sp) (x5 x6 x7 : Sl) : Ct := [some (W, true), some (.int most, false), some (.int wide, false), some (.int many, false), some (spD F, true), x5, x6, x7]
theorem specs_body (a : Int) {c k : Int} {N : Nat} (w : Wl c k (N + 6)) (most wide many : Int) (w0 : 0 < wide) (w1 : wide ≤ 1000000000000000000000000000000) (m0 : 0 < many) (m1 : many ≤ 1000000000000) (F : List Sp) (hl : F.length < 1000) (x5 x6 x7 : Sl) :
    ∃ s a' k' y6 y7, exs [F__law_next, F__law_one] [0] B__law_specs_1 (spG (wl a c k) most wide many F x5 x6 x7) = some (.nx (spG (wl a' c k') most wide many (F ++ [s]) x5 y6 y7)) ∧ Wl c k' N ∧ okS s ∧ s.w ≤ max 3 wide ∧ s.f ≤ max 2 many ∧ s.c ≤ max 2 many := by
  have bb := BB_big
  obtain ⟨d1, r1, a1, k1, a2, k2, e1, e2, p0, p1, v1⟩ := pick1_ok a (N := N + 4) (by exact w) [3, wide] (max 3 wide) (by simp) (by simp) (by simp; omega) (by omega)
  obtain ⟨d2, r2, a3, k3, a4, k4, e3, e4, p2, p3, v2⟩ := pick1_ok a2 (N := N + 2) (by exact v1) [2, many] (max 2 many) (by simp) (by simp) (by simp; omega) (by omega)
  obtain ⟨d3, r3, a5, k5, a6, k6, e5, e6, p4, p5, v3⟩ := pick1_ok a4 (N := N) (by exact v2) [2, many] (max 2 many) (by simp) (by simp) (by simp; omega) (by omega)
  simp only [List.map_cons, List.map_nil] at e1 e3 e5
  refine ⟨⟨1 + r2, 1 + r1, 1 + r3⟩, a6, k6, some (.int (1 + r1), false), some (.int (1 + r2), false), ?_, v3, ⟨by simp only; omega, by simp only; omega, by simp only; omega, by simp only; omega, by simp only; omega, by simp only; omega⟩, by simp only; omega, by simp only; omega, by simp only; omega⟩
  have el : spD (F ++ [⟨1 + r2, 1 + r1, 1 + r3⟩]) = .lst (F.map sD ++ [.tup [.int (1 + r2), .int (1 + r1), .int (1 + r3)]]) := by simp [spD, sD]
  have hz : F.length < 16777216 := by omega
  simp only [spG]
  rw [el]
  simp [B__law_specs_1, DV.SC, DV.SE, DV.SX, e1, e2, e3, e4, e5, e6, sizeLine, hz]
theorem specs_loop {c : Int} (most wide many : Int) (w0 : 0 < wide) (w1 : wide ≤ 1000000000000000000000000000000) (m0 : 0 < many) (m1 : many ≤ 1000000000000) : ∀ (n : Nat) (lo a k : Int) (N : Nat) (F : List Sp) (x5 x6 x7 : Sl), Wl c k (N + 6 * n) → F.length + n ≤ 900 → (∀ s ∈ F, okS s ∧ s.w ≤ max 3 wide ∧ s.f ≤ max 2 many ∧ s.c ≤ max 2 many) →
    ∃ F' a' k' y5 y6 y7, forLoop (.nm 5) (exs [F__law_next, F__law_one] [0] B__law_specs_1) (rngD lo 1 n) (spG (wl a c k) most wide many F x5 x6 x7) = some (.nx (spG (wl a' c k') most wide many F' y5 y6 y7)) ∧ Wl c k' N ∧ F'.length = F.length + n ∧ (∀ s ∈ F', okS s ∧ s.w ≤ max 3 wide ∧ s.f ≤ max 2 many ∧ s.c ≤ max 2 many)
  | 0, lo, a, k, N, F, x5, x6, x7, w, _, h => ⟨F, a, k, x5, x6, x7, by simp [rngD, forLoop], w, by simp, h⟩
  | n + 1, lo, a, k, N, F, x5, x6, x7, w, hl, h => by
    obtain ⟨s, a1, k1, y6, y7, e1, v1, o1⟩ := specs_body a (N := N + 6 * n) (by exact (show N + 6 * (n + 1) = N + 6 * n + 6 by omega) ▸ w) most wide many w0 w1 m0 m1 F (by omega) (some (.int lo, false)) x6 x7
    obtain ⟨F', a2, k2, z5, z6, z7, e2, v2, l2, h2⟩ := specs_loop most wide many w0 w1 m0 m1 n (lo + 1) a1 k1 N (F ++ [s]) (some (.int lo, false)) y6 y7 v1 (by simp; omega) (fun u m => by
      rcases List.mem_append.mp m with m | m
      · exact h u m
      · simp at m; subst m; exact o1)
    refine ⟨F', a2, k2, z5, z6, z7, ?_, v2, by rw [l2]; simp; omega, h2⟩
    rw [rngD, ← e2]
    exact forLoop_step (Γ1 := spG (wl a c k) most wide many F (some (.int lo, false)) x6 x7) (by simp [DV.SC, DV.SE, DV.SX]) e1
theorem specs_ok (a : Int) {c k : Int} {N : Nat} (most : Nat) (wide many : Int) (w : Wl c k (N + 6 * most + 1)) (w0 : 0 < wide) (w1 : wide ≤ 1000000000000000000000000000000) (m0 : 0 < many) (m1 : many ≤ 1000000000000) (hm : most ≤ 100) :
    ∃ r a' k', F__law_specs [some (wl a c k, true), some (.int (most : Int), false), some (.int wide, false), some (.int many, false)] = some (.nw (spD r), [some (wl a' c k', true), some (.int (most : Int), false), some (.int wide, false), some (.int many, false)]) ∧ Wl c k' N ∧ r.length ≤ most ∧ (∀ s ∈ r, okS s ∧ s.w ≤ max 3 wide ∧ s.f ≤ max 2 many ∧ s.c ≤ max 2 many) := by
  have bb := BB_big
  obtain ⟨q, a1, k1, e1, q0, q1, v1⟩ := next_ok a (N := N + 6 * most) w (m := (most : Int) + 1) (by omega) (by omega)
  obtain ⟨n, rfl⟩ : ∃ n : Nat, q = n := ⟨q.toNat, by omega⟩
  obtain ⟨F, a2, k2, y5, y6, y7, e2, v2, l2, h2⟩ := specs_loop (most : Int) wide many w0 w1 m0 m1 n 0 a1 k1 N [] none none none (v1.le (by omega)) (by simp; omega) (fun _ m => nomatch m)
  have hn := fun Γ => rngN1 Γ n (by omega)
  refine ⟨F, a2, k2, ?_, v2, by simp at l2; omega, h2⟩
  refine runF_by (o := .rt (.sl 4) (spG (wl a2 c k2) most wide many F y5 y6 y7)) rfl (?_ : exs _ [0] _ [some (wl a c k, true), some (.int (most : Int), false), some (.int wide, false), some (.int many, false), none, none, none, none] = _) rfl
  refine (exs_nx (Γ1 := spG (wl a c k) most wide many [] none none none) (by simp [DV.SC, DV.SE, DV.SX, sizeLine])).trans ?_
  refine (exs_nx (ex_for (Γ2 := spG (wl a1 c k1) most wide many [] none none none) (ds := rngD 0 1 n) (by simp [DV.SC, DV.SE, DV.SX, e1, hn]) rfl e2)).trans (by simp [DV.SC, DV.SE, DV.SX])

/-! ### rows: equality, sums, parts -/
theorem okB_sp (n : Nat) (r : List Sp) : okB (n + 2) (spD r) = true := by
  simp only [spD, okB, List.all_eq_true, List.mem_map]
  rintro d ⟨s, _, rfl⟩
  simp [okB]
theorem eqds_sp : ∀ (a b : List Sp), eqds (a.map sD) (b.map sD) = true ↔ a = b
  | [], [] => by simp [eqds]
  | [], b :: bs => by simp [eqds]
  | a :: as, [] => by simp [eqds]
  | ⟨f, w, c⟩ :: as, ⟨f', w', c'⟩ :: bs => by
    have ih := eqds_sp as bs
    simp only [List.map_cons, eqds, Bool.and_eq_true, ih, List.cons.injEq, eqd, beq_iff_eq, Sp.mk.injEq, and_true]
theorem eqd_sp (a b : List Sp) : eqd (spD a) (spD b) = true ↔ a = b := by
  simp only [spD, eqd]
  exact eqds_sp a b
theorem facts_ok (r : List Sp) (p h : Int) : F_Row_facts [some (RO r p h, false)] = some (.fz (.tup [spD r, .int p, .int h]), [some (RO r p h, false)]) := by
  have f1 := fld_pace r p h
  have f2 := fld_specs r p h
  have f3 := fld_shift r p h
  generalize RO r p h = O at *
  simp [F_Row_facts, DV.SC, DV.SE, DV.SX, f1, f2, f3, sizeLine]
theorem nm_f1 : ¬ (("facts" : Str) = ("specs" : Str)) := by decide +kernel
theorem nm_f2 : ¬ (("facts" : Str) = ("pace" : Str)) := by decide +kernel
theorem nm_f3 : ¬ (("facts" : Str) = ("shift" : Str)) := by decide +kernel
theorem okB_facts (r : List Sp) (p h : Int) : okB 12 (.tup [spD r, .int p, .int h]) = true := by
  have hh := okB_sp 9 r
  show ([spD r, .int p, .int h] : List D).all (okB 11) = true
  rw [List.all_cons, List.all_cons, List.all_cons, List.all_nil, hh]
  rfl
theorem row_eq_ok (r r' : List Sp) (p h p' h' : Int) : F_Row___eq__ [some (RO r p h, false), some (RO r' p' h', false)] = some (.fz (.bl (eqd (.tup [spD r, .int p, .int h]) (.tup [spD r', .int p', .int h']))), [some (RO r p h, false), some (RO r' p' h', false)]) := by
  have e1 := facts_ok r p h
  have e2 := facts_ok r' p' h'
  have o1 := okB_facts r p h
  have o2 := okB_facts r' p' h'
  generalize hT1 : D.tup [spD r, .int p, .int h] = T1 at *
  generalize hT2 : D.tup [spD r', .int p', .int h'] = T2 at *
  simp [F_Row___eq__, DV.SC, DV.SX, DV.cmpD.eq_1, e1, e2, o1, o2, nm_f1, nm_f2, nm_f3]
theorem row_eq_t (r : List Sp) (p h : Int) : F_Row___eq__ [some (RO r p h, false), some (RO r p h, false)] = some (.fz (.bl true), [some (RO r p h, false), some (RO r p h, false)]) := by
  have e := row_eq_ok r r p h p h
  rw [eqd_refl _ 12 (okB_facts r p h)] at e
  exact e
theorem bl_ok (r : List Sp) (p h : Int) (fl : Bool) : F_Row_breaker_list [some (RO r p h, fl)] = some (.nw (spD r), [some (RO r p h, fl)]) := by
  cases fl <;> simp [F_Row_breaker_list, DV.SC, DV.SE, DV.SX]
theorem sl_ok (r : List Sp) (p h : Int) (fl : Bool) : F_Row_step_length [some (RO r p h, fl)] = some (.fz (.int p), [some (RO r p h, fl)]) := by
  cases fl <;> simp [F_Row_step_length, DV.SC, DV.SE, DV.SX, nm_4]
theorem ph_ok (r : List Sp) (p h : Int) (fl : Bool) : F_Row_phase_time [some (RO r p h, fl)] = some (.fz (.int h), [some (RO r p h, fl)]) := by
  cases fl <;> simp [F_Row_phase_time, DV.SC, DV.SE, DV.SX, nm_5, nm_6]
/-- no field of a row is called so -/
def nof (m : Str) : Prop := ¬ m = ("specs" : Str) ∧ ¬ m = ("pace" : Str) ∧ ¬ m = ("shift" : Str)
theorem nof_bl : nof "breaker_list" := ⟨by decide +kernel, by decide +kernel, by decide +kernel⟩
theorem nof_sl : nof "step_length" := ⟨by decide +kernel, by decide +kernel, by decide +kernel⟩
theorem nof_ph : nof "phase_time" := ⟨by decide +kernel, by decide +kernel, by decide +kernel⟩
theorem hasF_no {m : Str} (n : nof m) (r : List Sp) (p h : Int) : hasF m (RO r p h) = false := by
  simp [DV.SC, DV.SE, DV.SX, n.1, n.2.1, n.2.2]

/-! ### texts of numbers -/
abbrev numS (n : Nat) : Str := Str.ofString (toString ((n : Nat) : Int))
theorem tl_numS (n : Nat) : TL.tl (numS n) = TL.numL n := TL.tl_num n
theorem strOk_tl {x : Str} (h : ∀ c ∈ TL.tl x, c < 256) : PyData.strOk x = true := by
  unfold PyData.strOk
  rw [← Array.all_toList]
  exact List.all_eq_true.mpr fun c m => decide_eq_true (by have := h c m; omega)
theorem numL_rng {n c : Nat} (h : c ∈ TL.numL n) : 48 ≤ c ∧ c ≤ 57 := TL.numL_digits n c h
theorem num_ok (n : Nat) : PyData.strOk (numS n) = true := strOk_tl fun c m => by
  rw [tl_numS] at m
  have := numL_rng m
  omega
theorem num_ne (n : Nat) : ¬ numS n = Str.ofString "" := fun e => by
  have := tl_numS n
  rw [e] at this
  exact TL.numL_ne n this.symm
theorem num_inj {m n : Nat} (h : numS m = numS n) : m = n := TL.numL_inj (by rw [← tl_numS, ← tl_numS, h])
theorem num_0 : numS 0 = Str.ofString "0" := by decide +kernel
theorem num_head : ∀ (n : Nat), 0 < n → ∃ c r, TL.numL n = c :: r ∧ 48 < c := fun n => by
  induction n using Nat.strongRecOn with
  | _ n ih =>
    intro h0
    by_cases h : n < 10
    · rw [TL.numL_lt h]
      exact ⟨_, _, rfl, by omega⟩
    · rw [TL.numL_step (by omega)]
      obtain ⟨c, r, e, hc⟩ := ih (n / 10) (by omega) (by omega)
      exact ⟨c, r ++ [48 + n % 10], by rw [e]; rfl, hc⟩
abbrev chr1 (c : Nat) : D := .str ⟨#[c]⟩
theorem chD_tl (x : Str) : DV.chD x = (TL.tl x).map chr1 := rfl
abbrev DG : Str := Str.ofString "0123456789"
theorem occ_dig : ∀ d : Fin 10, Builtin.Str.occurrences DG ⟨#[48 + d.val]⟩ 0 DG.length 1 = [d.val] := by decide +kernel
theorem occ_c {c : Nat} (h : 48 ≤ c ∧ c ≤ 57) : Builtin.Str.occurrences DG ⟨#[c]⟩ 0 DG.length 1 = [c - 48] := by
  have := occ_dig ⟨c - 48, by omega⟩
  simp only [show 48 + (c - 48) = c by omega] at this
  exact this
theorem inD_c {c : Nat} (h : 48 ≤ c ∧ c ≤ 57) : DV.inD DG (chr1 c) = some (.bl true) := by simp only [DV.inD, occ_c h]; rfl
theorem sixD_c {c : Nat} (h : 48 ≤ c ∧ c ≤ 57) : DV.sixD DG (chr1 c) = some (.int ((c - 48 : Nat) : Int)) := by simp only [DV.sixD, occ_c h]
theorem ev_uni (fs : List FS) (ia : E) (f : D → Option D) (Γ : Ct) : ev fs (.sem (DV.uniF ia f)) Γ = (ev fs ia Γ).bind fun (x, Γ1) => (datum Γ1 x).bind fun d => (f d).map fun r => (.fz r, Γ1) := by simp only [ev, DV.uniF]
theorem ev_spl (fs : List FS) (ia : E) (b : Str) (Γ : Ct) : ev fs (.sem (DV.splF ia b)) Γ = (ev fs ia Γ).bind fun (x, Γ1) => (datum Γ1 x).bind fun d => (DV.splD b d).map fun r => (.nw (.lst r), Γ1) := by simp only [ev, DV.splF]
theorem ev_fs (fs : List FS) (ies : List E) (Γ : Ct) : ev fs (.sem (DV.fsF ies)) Γ = (DV.jsF fs ies Str.empty Γ).map fun (y, Γ1) => (.fz (.str y), Γ1) := by simp only [ev, DV.fsF]
theorem ev_ch (fs : List FS) (ia : E) (Γ Γ1 : Ct) (x : RV) (y : Str) (h : ev fs ia Γ = some (x, Γ1)) (hd : datum Γ1 x = some (.str y)) : (evs fs [.sem (DV.chF ia)] Γ).bind (fun p => iterD .seq p.1 p.2) = some (DV.chD y, Γ1) := by
  have e : ev fs (.sem (DV.chF ia)) Γ = some (.fz (.tup (DV.chD y)), Γ1) := by
    simp only [ev, DV.chF, h, Option.bind_some, hd]
  simp only [evs, e, Option.bind_some, Option.map_some, iterD, fre]
theorem ex_itf {fs : List FS} {pn : List Nat} {c : DV.E} {a : List DV.S} {Γ Γ1 : Ct} (h : ev fs c Γ = some (.fz (.bl false), Γ1)) : ex fs pn (.ite c a []) Γ = some (.nx Γ1) :=
  ex_ite (t := false) h (test_b _ _) (by simp only [Bool.false_eq_true, if_false, DV.exs.eq_1])
theorem ev_bi1 {fs : List FS} {e : DV.E} {b : Bi} {Γ Γ1 : Ct} {x r : RV} {d : D} (h : ev fs e Γ = some (x, Γ1)) (hd : datum Γ1 x = some d) (hb : biD b [d] = some r) : ev fs (.bi b [e]) Γ = some (r, Γ1) := by simp only [ev, evs, h, Option.bind_some, Option.map_some, datums, hd, hb]
/-! ### is_number -/
theorem all_rep : ∀ (l : List Nat) (h : ∀ c ∈ l, 48 ≤ c ∧ c ≤ 57), biD .alll [.lst (l.map fun _ => D.bl true)] = some (.fz (.bl true))
  | l, _ => by
    have e : ∀ l : List Nat, blsD (l.map fun _ => D.bl true) = some (l.map fun _ => true) := fun l => by
      induction l with
      | nil => rfl
      | cons a l ih => simp only [List.map_cons, blsD, ih, Option.map_some]
    simp [biD, e]
theorem log_ok {n : Nat} (h : n < 10 ^ 40) : n.log2 < 1920 := by
  by_cases h0 : n = 0
  · subst h0; decide +kernel
  · refine (Nat.log2_lt h0).mpr (Nat.lt_of_lt_of_le h ?_)
    exact Nat.le_trans (show 10 ^ 40 ≤ 2 ^ 200 by decide +kernel) (Nat.pow_le_pow_right (by decide) (by decide))
theorem num_len {n : Nat} (h : n < 10 ^ 40) : (TL.numL n).length ≤ 40 := TL.numL_len (by decide) h
theorem numS_len {n : Nat} (h : n < 10 ^ 40) : (numS n).length ≤ 40 := by rw [TL.len_tl, tl_numS]; exact num_len h
theorem c1_ok {c : Nat} (h : 48 ≤ c ∧ c ≤ 57) : PyData.strOk ⟨#[c]⟩ = true := strOk_tl fun d m => by
  have : d ∈ [c] := m
  rw [List.mem_singleton] at this
  omega
theorem c1_ne {c : Nat} (h : 48 < c) : ¬ (⟨#[c]⟩ : Str) = Str.ofString "0" := fun e => by
  have := congrArg TL.tl e
  rw [show TL.tl (Str.ofString "0") = [48] by decide +kernel] at this
  have : [c] = [48] := this
  simp at this
  omega
theorem s0_ok : PyData.strOk (Str.ofString "0") = true := by decide +kernel
theorem se_ok : PyData.strOk (Str.ofString "") = true := by decide +kernel
theorem is_number_ok {n : Nat} (hn : n < 10 ^ 40) : F_is_number [some (.str (numS n), false)] = some (.fz (.bl true), [some (.str (numS n), false)]) := by
  have h1 := num_ne n
  have h2 := num_ok n
  have al := all_rep (TL.numL n) fun c m => numL_rng m
  have cp : ev [] (.comp [1] (.nm 1) .seq [.sem (DV.chF (.var 0))] [] (.sem (DV.uniF (.var 1) (DV.inD DG)))) [some (.str (numS n), false), none] = some (.nw (.lst ((TL.numL n).map fun _ => D.bl true)), [some (.str (numS n), false), none]) := by
    have e := comp_mapX (fs := []) (v := 1) (ik := .seq) (its := [.sem (DV.chF (.var 0))]) (elt := .sem (DV.uniF (.var 1) (DV.inD DG))) (ds := DV.chD (numS n)) (fun _ => .bl true) (Γ0 := [some (.str (numS n), false), none]) (Γ := [some (.str (numS n), false), none])
      (ev_ch [] (.var 0) _ _ (.sl 0) (numS n) (by simp [DV.SC, DV.SE, DV.SX]) (by simp [DV.SC, DV.SE, DV.SX])) rfl ?_ ?_
    · rw [chD_tl, tl_numS, List.map_map] at e
      exact e
    · rw [chD_tl, tl_numS, List.length_map]
      have := num_len hn
      omega
    · intro d hd
      rw [chD_tl, tl_numS] at hd
      obtain ⟨c, hc, rfl⟩ := List.mem_map.mp hd
      refine ⟨_, ?_, .inl rfl⟩
      rw [ev_uni]
      simp [DV.SC, DV.SE, DV.SX, inD_c (numL_rng hc)]
  generalize (TL.numL n).map (fun _ => D.bl true) = BL at *
  have s0 := s0_ok
  have se := se_ok
  refine runF_by (o := .rt (.fz (.bl true)) [some (.str (numS n), false), none]) rfl (?_ : exs _ [] _ [some (.str (numS n), false), none] = _) rfl
  refine (exs_nx (Γ1 := [some (.str (numS n), false), none]) (ex_itf (ev_or_f (x := .fz (.bl false)) (Γ1 := [some (.str (numS n), false), none]) ?_ (test_b _ _) (ev_not (t := true) (ev_bi1 cp rfl al) (test_b _ _))))).trans ?_
  · simp [DV.SC, DV.SX, DV.cmpD.eq_1, DV.okB.eq_4, h1, h2, se, eqd]
  by_cases h0 : n = 0
  · subst h0
    rw [num_0] at *
    simp [DV.SC, DV.SX, DV.cmpD.eq_1, DV.okB.eq_4, s0, eqd]
  · have h3 : ¬ numS n = Str.ofString "0" := fun e => h0 (num_inj (e.trans num_0.symm))
    obtain ⟨c, r, e, hc⟩ := num_head n (by omega)
    have hc2 := numL_rng (n := n) (c := c) (by rw [e]; exact List.mem_cons_self)
    have h4 := c1_ok hc2
    have h5 := c1_ne hc
    have h6 : ixD (.str (numS n)) (.int 0) = some (chr1 c) := by
      have a0 : atI (numS n).cps.toList 0 = some c := by
        rw [show (numS n).cps.toList = c :: r from (tl_numS n).trans e]
        exact atI_nat (j := 0) rfl
      have l0 := numS_len hn
      have l1 : (numS n).length ≤ sizeLine := Nat.le_trans l0 (by decide)
      simp only [ixD, if_pos l1, a0, Option.map_some]
    generalize numS n = W at *
    simp [DV.SC, DV.SX, DV.cmpD.eq_1, DV.cmpD.eq_2, DV.okB.eq_4, h2, h3, h4, h5, h6, s0, eqd]
/-! ### value_of -/
theorem value_loop (w : Str) : ∀ (l : List Nat) (v : Int) (x2 : Sl), NumText.AllDigits l → ∃ y2, forLoop (.nm 2) (exs [] [] B_value_of_1) (l.map chr1) [some (.str w, false), some (.int v, false), x2] = some (.nx [some (.str w, false), some (.int (l.foldl (fun (t : Int) (c : Nat) => t * 10 + ((c : Int) - 48)) v), false), y2])
  | [], v, x2, _ => ⟨x2, by simp [forLoop]⟩
  | c :: l, v, x2, h => by
    have hc := h.head
    obtain ⟨y2, ih⟩ := value_loop w l (v * 10 + ((c : Int) - 48)) (some (chr1 c, false)) h.tail
    refine ⟨y2, ?_⟩
    rw [List.map_cons, List.foldl_cons, ← ih]
    have m : mulOk v 10 = true := mulOk_r (by decide) (by decide)
    have e := sixD_c hc
    have ec : (((c - 48 : Nat) : Int)) = (c : Int) - 48 := by omega
    refine forLoop_step (Γ1 := [some (.str w, false), some (.int v, false), some (chr1 c, false)]) (by simp [DV.SC, DV.SE, DV.SX]) ?_
    rw [← ec]
    simp [B_value_of_1, DV.SC, DV.SE, DV.SX, ev_uni, e, m]
theorem value_ok (n : Nat) : F_value_of [some (.str (numS n), false)] = some (.fz (.int (n : Int)), [some (.str (numS n), false)]) := by
  obtain ⟨y2, e⟩ := value_loop (numS n) (TL.numL n) 0 none (TL.numL_digits n)
  rw [TL.fold_num] at e
  refine runF_by (o := .rt (.sl 1) [some (.str (numS n), false), some (.int (n : Int), false), y2]) rfl (?_ : exs _ [] _ [some (.str (numS n), false), none, none] = _) rfl
  refine (exs_nx (Γ1 := [some (.str (numS n), false), some (.int 0, false), none]) (by simp [DV.SC, DV.SE, DV.SX])).trans ?_
  refine (exs_nx (ex_for (ev_ch [] (.var 0) _ [some (.str (numS n), false), some (.int 0, false), none] (.sl 0) (numS n) (by simp [DV.SC, DV.SE, DV.SX]) (by simp [DV.SC, DV.SE, DV.SX])) rfl (by rw [chD_tl, tl_numS]; exact e))).trans (by simp [DV.SC, DV.SE, DV.SX])

/-! ### lines -/
abbrev SP : Str := Str.ofString " "
abbrev NL : Str := Str.ofString "\n"
theorem tl_SP : TL.tl SP = [32] := by decide +kernel
theorem tl_NL : TL.tl NL = [10] := by decide +kernel
/-- a name and its numbers -/
def lnS (nm : Str) (ns : List Nat) : Str := Txt.join SP (nm :: ns.map numS)
theorem tl_lnS (nm : Str) (ns : List Nat) : TL.tl (lnS nm ns) = TL.tl nm ++ (ns.map fun n => 32 :: TL.numL n).flatten := by
  unfold lnS
  rw [TL.join_eq, TL.tl_join, tl_SP]
  have key : ∀ (ns : List Nat) (p : List Nat), TL.joinL [32] (p :: (ns.map numS).map TL.tl) = p ++ (ns.map fun n => 32 :: TL.numL n).flatten := by
    intro ns
    induction ns with
    | nil => intro p; simp [TL.joinL]
    | cons n ns ih =>
      intro p
      rw [List.map_cons, List.map_cons, TL.joinL, ih, tl_numS]
      simp
  exact key ns _
/-- a name without blanks and line ends -/
structure Nm (nm : Str) : Prop where
  rng : ∀ c ∈ TL.tl nm, 33 ≤ c ∧ c < 256
  len : nm.length ≤ 10
theorem nm_row : Nm (Str.ofString "row") := ⟨by decide +kernel, by decide +kernel⟩
theorem nm_brk : Nm (Str.ofString "breaker") := ⟨by decide +kernel, by decide +kernel⟩
theorem nm_out : Nm (Str.ofString "outage") := ⟨by decide +kernel, by decide +kernel⟩
theorem Nm.ok {nm : Str} (h : Nm nm) : PyData.strOk nm = true := strOk_tl fun c m => (h.rng c m).2
theorem ln_rng {nm : Str} (h : Nm nm) (ns : List Nat) : ∀ c ∈ TL.tl (lnS nm ns), 32 ≤ c ∧ c < 256 := by
  intro c m
  rw [tl_lnS] at m
  rcases List.mem_append.mp m with m | m
  · have := h.rng c m; omega
  · obtain ⟨l, hl, m⟩ := List.mem_flatten.mp m
    obtain ⟨n, _, rfl⟩ := List.mem_map.mp hl
    rcases List.mem_cons.mp m with rfl | m
    · omega
    · have := numL_rng m; omega
theorem ln_len {nm : Str} (h : Nm nm) : ∀ (ns : List Nat), (∀ n ∈ ns, n < 10 ^ 40) → (lnS nm ns).length ≤ 10 + 41 * ns.length := fun ns hn => by
  have h1 := h.len
  rw [TL.len_tl] at h1
  rw [TL.len_tl, tl_lnS, List.length_append]
  have : ∀ ns : List Nat, (∀ n ∈ ns, n < 10 ^ 40) → ((ns.map fun n => 32 :: TL.numL n).flatten).length ≤ 41 * ns.length := by
    intro ns
    induction ns with
    | nil => intro _; simp
    | cons n ns ih =>
      intro hn
      have i := ih fun m q => hn m (List.mem_cons_of_mem _ q)
      have l := num_len (hn n List.mem_cons_self)
      rw [List.map_cons, List.flatten_cons, List.length_append, List.length_cons, List.length_cons]
      omega
  have := this ns hn
  omega
theorem split_ln {nm : Str} (h : Nm nm) (ns : List Nat) : Txt.split (lnS nm ns) SP = nm :: ns.map numS := by
  refine TL.split_join (s := 32) (S := []) tl_SP (by decide +kernel) (by simp) fun p m => ?_
  rcases List.mem_cons.mp m with rfl | m
  · intro q; have := h.rng 32 q; omega
  · obtain ⟨n, _, rfl⟩ := List.mem_map.mp m
    rw [tl_numS]
    exact TL.numL_free (.inl (by decide))
theorem spl_ln {nm : Str} (h : Nm nm) {ns : List Nat} (hn : ∀ n ∈ ns, n < 10 ^ 40) (hl : ns.length ≤ 3) : DV.splD SP (.str (lnS nm ns)) = some ((nm :: ns.map numS).map D.str) := by
  have l := ln_len h ns hn
  have : (SP.length == 0) = false ∧ (lnS nm ns).length + 2 ≤ sizeLine := ⟨by decide +kernel, Nat.le_trans (show _ ≤ 135 by omega) (by decide)⟩
  simp only [DV.splD, if_pos this, split_ln h]
abbrev noG (L : Str) (k : Int) (nm : Str) (m : Int) (x4 x5 x6 : Sl) : Ct := [some (.str L, false), some (.int k, false), some (.str nm, false), some (.int m, false), x4, x5, x6]
theorem rng_3 (Γ : Ct) : rngO Γ [.int 1, .int 3] = some ([.int 1, .int 2], Γ) := by
  rw [rngO2 Γ 1 3 (in62_int (by decide) (by decide)) (in62_int (by decide) (by decide))]; rfl
theorem rng_4 (Γ : Ct) : rngO Γ [.int 1, .int 4] = some ([.int 1, .int 2, .int 3], Γ) := by
  rw [rngO2 Γ 1 4 (in62_int (by decide) (by decide)) (in62_int (by decide) (by decide))]; rfl
theorem eqd_s (a b : Str) : eqd (.str a) (.str b) = (a == b) := by simp only [eqd]
theorem numbers2 {nm : Str} (h : Nm nm) (k : Int) {a b : Nat} (ha : a < 10 ^ 40) (hb : b < 10 ^ 40) : F_numbers_of [some (.str (lnS nm [a, b]), false), some (.int k, false), some (.str nm, false), some (.int 2, false)] = some (.fz (.tup [.int a, .int b]), [some (.str (lnS nm [a, b]), false), some (.int k, false), some (.str nm, false), some (.int 2, false)]) := by
  have e1 := spl_ln h (ns := [a, b]) (by simp [ha, hb]) (by simp)
  have s1 := h.ok
  have n1 := is_number_ok ha
  have n2 := is_number_ok hb
  have v1 := value_ok a
  have v2 := value_ok b
  simp only [List.map_cons, List.map_nil] at e1
  generalize lnS nm [a, b] = L at *
  generalize numS a = A at *
  generalize numS b = B at *
  have a0 : atI [D.str nm, .str A, .str B] 0 = some (.str nm) := atI_nat (j := 0) rfl
  have a1 : atI [D.str nm, .str A, .str B] 1 = some (.str A) := atI_nat (j := 1) rfl
  have a2 : atI [D.str nm, .str A, .str B] 2 = some (.str B) := atI_nat (j := 2) rfl
  have a3 : cutD [D.str nm, .str A, .str B] (some 1) none = [.str A, .str B] := by rfl
  simp [F_numbers_of, B_numbers_of_1, DV.SC, DV.SE, DV.SX, ev_spl, e1, s1, a0, a1, a2, a3, eqd_s, n1, n2, v1, v2, sizeLine, forLoop, rng_3, rng_4, compLoop]
theorem numbers3 {nm : Str} (h : Nm nm) (k : Int) {a b c : Nat} (ha : a < 10 ^ 40) (hb : b < 10 ^ 40) (hc : c < 10 ^ 40) : F_numbers_of [some (.str (lnS nm [a, b, c]), false), some (.int k, false), some (.str nm, false), some (.int 3, false)] = some (.fz (.tup [.int a, .int b, .int c]), [some (.str (lnS nm [a, b, c]), false), some (.int k, false), some (.str nm, false), some (.int 3, false)]) := by
  have e1 := spl_ln h (ns := [a, b, c]) (by simp [ha, hb, hc]) (by simp)
  have s1 := h.ok
  have n1 := is_number_ok ha
  have n2 := is_number_ok hb
  have n3 := is_number_ok hc
  have v1 := value_ok a
  have v2 := value_ok b
  have v3 := value_ok c
  simp only [List.map_cons, List.map_nil] at e1
  generalize lnS nm [a, b, c] = L at *
  generalize numS a = A at *
  generalize numS b = B at *
  generalize numS c = W at *
  have a0 : atI [D.str nm, .str A, .str B, .str W] 0 = some (.str nm) := atI_nat (j := 0) rfl
  have a1 : atI [D.str nm, .str A, .str B, .str W] 1 = some (.str A) := atI_nat (j := 1) rfl
  have a2 : atI [D.str nm, .str A, .str B, .str W] 2 = some (.str B) := atI_nat (j := 2) rfl
  have a4 : atI [D.str nm, .str A, .str B, .str W] 3 = some (.str W) := atI_nat (j := 3) rfl
  have a3 : cutD [D.str nm, .str A, .str B, .str W] (some 1) none = [.str A, .str B, .str W] := by rfl
  simp [F_numbers_of, B_numbers_of_1, DV.SC, DV.SE, DV.SX, ev_spl, e1, s1, a0, a1, a2, a3, a4, eqd_s, n1, n2, n3, v1, v2, v3, sizeLine, forLoop, rng_3, rng_4, compLoop]
theorem numbers2x {nm : Str} (h : Nm nm) (k : Int) {a b : Nat} (ha : a < 10 ^ 40) (hb : b < 10 ^ 40) : F_numbers_of_x [some (.str (lnS nm [a, b]), false), some (.int k, false), some (.str nm, false), some (.int 2, false)] = some (.fz (.tup [.int a, .int b]), [some (.str (lnS nm [a, b]), false), some (.int k, false), some (.str nm, false), some (.int 2, false)]) := by
  have e1 := spl_ln h (ns := [a, b]) (by simp [ha, hb]) (by simp)
  have s1 := h.ok
  have n1 := is_number_ok ha
  have n2 := is_number_ok hb
  have v1 := value_ok a
  have v2 := value_ok b
  simp only [List.map_cons, List.map_nil] at e1
  generalize lnS nm [a, b] = L at *
  generalize numS a = A at *
  generalize numS b = B at *
  have a0 : atI [D.str nm, .str A, .str B] 0 = some (.str nm) := atI_nat (j := 0) rfl
  have a1 : atI [D.str nm, .str A, .str B] 1 = some (.str A) := atI_nat (j := 1) rfl
  have a2 : atI [D.str nm, .str A, .str B] 2 = some (.str B) := atI_nat (j := 2) rfl
  have a3 : cutD [D.str nm, .str A, .str B] (some 1) none = [.str A, .str B] := by rfl
  simp [F_numbers_of_x, B_numbers_of_x_1, DV.runX, DV.finishX, isXc, DV.ex.eq_21, DV.SC, DV.SE, DV.SX, DV.XC, ev_spl, e1, s1, a0, a1, a2, a3, eqd_s, n1, n2, v1, v2, sizeLine, forLoop, rng_3, rng_4, compLoop]
theorem numbers3x {nm : Str} (h : Nm nm) (k : Int) {a b c : Nat} (ha : a < 10 ^ 40) (hb : b < 10 ^ 40) (hc : c < 10 ^ 40) : F_numbers_of_x [some (.str (lnS nm [a, b, c]), false), some (.int k, false), some (.str nm, false), some (.int 3, false)] = some (.fz (.tup [.int a, .int b, .int c]), [some (.str (lnS nm [a, b, c]), false), some (.int k, false), some (.str nm, false), some (.int 3, false)]) := by
  have e1 := spl_ln h (ns := [a, b, c]) (by simp [ha, hb, hc]) (by simp)
  have s1 := h.ok
  have n1 := is_number_ok ha
  have n2 := is_number_ok hb
  have n3 := is_number_ok hc
  have v1 := value_ok a
  have v2 := value_ok b
  have v3 := value_ok c
  simp only [List.map_cons, List.map_nil] at e1
  generalize lnS nm [a, b, c] = L at *
  generalize numS a = A at *
  generalize numS b = B at *
  generalize numS c = W at *
  have a0 : atI [D.str nm, .str A, .str B, .str W] 0 = some (.str nm) := atI_nat (j := 0) rfl
  have a1 : atI [D.str nm, .str A, .str B, .str W] 1 = some (.str A) := atI_nat (j := 1) rfl
  have a2 : atI [D.str nm, .str A, .str B, .str W] 2 = some (.str B) := atI_nat (j := 2) rfl
  have a4 : atI [D.str nm, .str A, .str B, .str W] 3 = some (.str W) := atI_nat (j := 3) rfl
  have a3 : cutD [D.str nm, .str A, .str B, .str W] (some 1) none = [.str A, .str B, .str W] := by rfl
  simp [F_numbers_of_x, B_numbers_of_x_1, DV.runX, DV.finishX, isXc, DV.ex.eq_21, DV.SC, DV.SE, DV.SX, DV.XC, ev_spl, e1, s1, a0, a1, a2, a3, a4, eqd_s, n1, n2, n3, v1, v2, v3, sizeLine, forLoop, rng_3, rng_4, compLoop]
theorem ex_rse (fs : List FS) (pn : List Nat) (c : Nat) (ks : List Str) (es : List DV.E) (Γ : Ct) : ex fs pn (.rse c ks es) Γ = (evs fs es Γ).bind fun (xs, Γ1) => (fres xs Γ1).bind fun (ds, Γ2) => if excOk ks ds then some (.xc c ks ds Γ2) else none := by simp only [ex]
theorem exc_2 (i j : Int) : excOk [Str.ofString "line", Str.ofString "word"] [.int i, .int j] = true := by
  rfl
theorem nm_em : Txt.split (Str.ofString "") SP = [Str.ofString ""] := by decide +kernel
theorem em_ne : ¬ Str.ofString "" = Str.ofString "breaker" := by decide +kernel
theorem numbers_badx (k : Int) : F_numbers_of_x [some (.str (Str.ofString ""), false), some (.int k, false), some (.str (Str.ofString "breaker"), false), some (.int 3, false)] = some (.fz (.exc 17 ["line", "word"] [.int k, .int 0]), [none, none, none, none]) := by
  have e1 : DV.splD SP (.str (Str.ofString "")) = some [.str (Str.ofString "")] := by
    have : (SP.length == 0) = false ∧ (Str.ofString "").length + 2 ≤ sizeLine := ⟨by decide +kernel, by decide +kernel⟩
    simp only [DV.splD, if_pos this, nm_em, List.map_cons, List.map_nil]
  have s1 := nm_brk.ok
  have s2 := em_ne
  have s3 := se_ok
  generalize Str.ofString "" = A at *
  generalize Str.ofString "breaker" = B at *
  have a0 : atI [D.str A] 0 = some (.str A) := atI_nat (j := 0) rfl
  have b0 : ¬ A == B := by simpa using s2
  simp [F_numbers_of_x, B_numbers_of_x_1, DV.runX, DV.finishX, isXc, DV.ex.eq_21, DV.SC, DV.SE, DV.SX, DV.XC, ev_spl, e1, s1, s3, a0, eqd_s, s2, sizeLine, ex_rse, exc_2, fres]

/-! ### texts of rows -/
abbrev nS (s : Sp) : List Nat := [s.f.toNat, s.w.toNat, s.c.toNat]
abbrev bS (s : Sp) : Str := lnS (Str.ofString "breaker") (nS s)
def rowLines (r : List Sp) (p h : Int) : List Str := lnS (Str.ofString "row") [p.toNat, h.toNat] :: r.map bS
def rowS (r : List Sp) (p h : Int) : Str := Txt.join NL (rowLines r p h)
theorem big40 {x : Int} (h : x ≤ 1000000000000000000000000000000) : x.toNat < 10 ^ 40 := by
  have : (10 : Nat) ^ 40 = 10000000000000000000000000000000000000000 := by decide +kernel
  omega
theorem nS_lt {s : Sp} (k : okS s) : ∀ n ∈ nS s, n < 10 ^ 40 := by
  have h1 := k.f1
  have h2 := k.w1
  have h3 := k.c1
  intro n m
  simp only [nS, List.mem_cons, List.not_mem_nil, or_false] at m
  rcases m with rfl | rfl | rfl <;> exact big40 (by omega)
theorem rl_lt {r : List Sp} {p h : Int} (k : okR r p h) : ∀ n ∈ [p.toNat, h.toNat], n < 10 ^ 40 := by
  intro n m
  simp only [List.mem_cons, List.not_mem_nil, or_false] at m
  rcases m with rfl | rfl
  · exact big40 k.p1
  · exact big40 k.h1
/-- a line: no line end in it, and not long -/
structure Ln (x : Str) : Prop where
  rng : ∀ c ∈ TL.tl x, 32 ≤ c ∧ c < 256
  len : x.length ≤ 133
theorem ln_ok {nm : Str} (h : Nm nm) {ns : List Nat} (hn : ∀ n ∈ ns, n < 10 ^ 40) (hl : ns.length ≤ 3) : Ln (lnS nm ns) := ⟨ln_rng h ns, by have := ln_len h ns hn; omega⟩
theorem rowLines_ok {r : List Sp} {p h : Int} (k : okR r p h) : ∀ x ∈ rowLines r p h, Ln x := by
  intro x m
  rcases List.mem_cons.mp m with rfl | m
  · exact ln_ok nm_row (rl_lt k) (by simp)
  · obtain ⟨s, hs, rfl⟩ := List.mem_map.mp m
    exact ln_ok nm_brk (nS_lt (k.sp s hs)) (by simp)
theorem rowLines_len {r : List Sp} {p h : Int} (k : okR r p h) : (rowLines r p h).length ≤ 13 := by
  have := k.len
  unfold rowLines
  rw [List.length_cons, List.length_map]
  omega
theorem split_lines {ls : List Str} (h : ∀ x ∈ ls, Ln x) (hne : ls ≠ []) : Txt.split (Txt.join NL ls) NL = ls := by
  refine TL.split_join (s := 10) (S := []) tl_NL (by decide +kernel) hne fun p m q => ?_
  have := (h p m).rng 10 q
  omega
theorem joinL_len (S : List Nat) : ∀ ps : List (List Nat), (TL.joinL S ps).length ≤ (ps.map (·.length)).sum + ps.length * S.length
  | [] => by simp [TL.joinL]
  | [p] => by simp [TL.joinL]
  | p :: q :: r => by
    have ih := joinL_len S (q :: r)
    rw [TL.joinL, List.length_append, List.length_append, List.map_cons, List.sum_cons, List.length_cons (a := p), Nat.succ_mul]
    omega
theorem ln_sum {ls : List Str} (h : ∀ x ∈ ls, Ln x) : (ls.map (·.length)).sum ≤ 133 * ls.length := by
  induction ls with
  | nil => simp
  | cons a l ih =>
    have := ih fun x m => h x (List.mem_cons_of_mem _ m)
    have h2 := (h a List.mem_cons_self).len
    rw [List.map_cons, List.sum_cons, List.length_cons]
    omega
theorem joined_len {ls : List Str} (h : ∀ x ∈ ls, Ln x) : (Txt.join NL ls).length ≤ 134 * ls.length := by
  have j := joinL_len [10] (ls.map TL.tl)
  have e := TL.tl_join NL ls
  rw [tl_NL] at e
  rw [TL.len_tl, TL.join_eq, e]
  have s := ln_sum h
  have e2 : (ls.map TL.tl).map (·.length) = ls.map (·.length) := by
    rw [List.map_map]
    exact List.map_congr_left fun x _ => (TL.len_tl x).symm
  rw [e2, List.length_map] at j
  simp only [List.length_cons, List.length_nil] at j
  omega
theorem joined_rng {ls : List Str} (h : ∀ x ∈ ls, Ln x) : ∀ c ∈ TL.tl (Txt.join NL ls), c < 256 := by
  rw [TL.join_eq, TL.tl_join, tl_NL]
  have : ∀ ls : List (List Nat), (∀ l ∈ ls, ∀ c ∈ l, c < 256) → ∀ c ∈ TL.joinL [10] ls, c < 256 := by
    intro ls
    induction ls with
    | nil => intro _ c m; simp [TL.joinL] at m
    | cons a l ih =>
      intro hh c m
      cases l with
      | nil => exact hh a List.mem_cons_self c m
      | cons b l =>
        rw [TL.joinL] at m
        rcases List.mem_append.mp m with m | m
        · exact hh a List.mem_cons_self c m
        · rcases List.mem_append.mp m with m | m
          · rw [List.mem_singleton] at m; omega
          · exact ih (fun x q => hh x (List.mem_cons_of_mem _ q)) c m
  refine this _ fun l m c q => ?_
  obtain ⟨x, hx, rfl⟩ := List.mem_map.mp m
  exact ((h x hx).rng c q).2
theorem joined_ok {ls : List Str} (h : ∀ x ∈ ls, Ln x) : PyData.strOk (Txt.join NL ls) = true := strOk_tl (joined_rng h)
theorem strsD_ok : ∀ ls : List Str, DV.strsD (ls.map D.str) = some ls
  | [] => rfl
  | x :: l => by simp only [List.map_cons, DV.strsD, strsD_ok l, Option.map_some]
theorem joinD_ok {ls : List Str} (h : ∀ x ∈ ls, Ln x) (hl : ls.length ≤ 100) : DV.joinD NL (.lst (ls.map D.str)) = some (.str (Txt.join NL ls)) := by
  have s := ln_sum h
  have n1 : NL.length = 1 := by decide +kernel
  have : (ls.map (·.length)).sum + ls.length * NL.length ≤ 16777216 := by rw [n1]; omega
  simp only [DV.joinD, strsD_ok, Option.bind_some, DV.joinS, if_pos this]
theorem spl_lines {ls : List Str} (h : ∀ x ∈ ls, Ln x) (hne : ls ≠ []) (hl : ls.length ≤ 100) : DV.splD NL (.str (Txt.join NL ls)) = some (ls.map D.str) := by
  have l := joined_len h
  have : (NL.length == 0) = false ∧ (Txt.join NL ls).length + 2 ≤ sizeLine := ⟨by decide +kernel, Nat.le_trans (show _ ≤ 13500 by omega) (by decide)⟩
  simp only [DV.splD, if_pos this, split_lines h hne]
/-! ### lines, put together -/
theorem tl_name : TL.tl (Str.ofString "breaker ") = TL.tl (Str.ofString "breaker") ++ [32] ∧ TL.tl (Str.ofString "row ") = TL.tl (Str.ofString "row") ++ [32] ∧ TL.tl (Str.ofString "outage ") = TL.tl (Str.ofString "outage") ++ [32] := by decide +kernel
theorem tl_e : TL.tl Str.empty = [] := rfl
theorem line3 (a b c : Nat) : Str.empty ++ Str.ofString "breaker " ++ numS a ++ SP ++ numS b ++ SP ++ numS c = lnS (Str.ofString "breaker") [a, b, c] := by
  refine TL.ext_tl ?_
  rw [tl_lnS]
  simp only [TL.tl_append, tl_e, tl_name.1, tl_SP, tl_numS]
  simp
theorem line3j (a b c : Nat) : Str.ofString "breaker " ++ Txt.join SP [numS a, numS b, numS c] = lnS (Str.ofString "breaker") [a, b, c] := by
  refine TL.ext_tl ?_
  rw [tl_lnS, TL.tl_append, TL.join_eq, TL.tl_join, tl_SP]
  simp only [tl_name.1, List.map_cons, List.map_nil, TL.joinL, tl_numS]
  simp
theorem line2 (a b : Nat) : Str.empty ++ Str.ofString "row " ++ numS a ++ SP ++ numS b = lnS (Str.ofString "row") [a, b] := by
  refine TL.ext_tl ?_
  rw [tl_lnS]
  simp only [TL.tl_append, tl_e, tl_name.2.1, tl_SP, tl_numS]
  simp
theorem line2p (a b : Nat) : Str.ofString "row " ++ numS a ++ SP ++ numS b = lnS (Str.ofString "row") [a, b] := by
  refine TL.ext_tl ?_
  rw [tl_lnS]
  simp only [TL.tl_append, tl_name.2.1, tl_SP, tl_numS]
  simp
theorem lineo (a b : Nat) : Str.empty ++ Str.ofString "outage " ++ numS a ++ SP ++ numS b = lnS (Str.ofString "outage") [a, b] := by
  refine TL.ext_tl ?_
  rw [tl_lnS]
  simp only [TL.tl_append, tl_e, tl_name.2.2, tl_SP, tl_numS]
  simp
theorem lineop (a b : Nat) : Str.ofString "outage " ++ numS a ++ SP ++ numS b = lnS (Str.ofString "outage") [a, b] := by
  refine TL.ext_tl ?_
  rw [tl_lnS]
  simp only [TL.tl_append, tl_name.2.2, tl_SP, tl_numS]
  simp

/-! ### format_row -/
theorem app_len (x y : Str) : (x ++ y).length = x.length + y.length := by rw [TL.len_tl, TL.tl_append, List.length_append, ← TL.len_tl, ← TL.len_tl]
theorem fmt_nat {n : Nat} (h : n < 10 ^ 40) : DV.fmtD (.int (n : Int)) = some (.str (numS n)) := by
  have := log_ok h
  simp only [DV.fmtD, Int.natAbs_natCast, if_pos this]
theorem str_nat {n : Nat} (h : n < 10 ^ 40) : DV.strD (.int (n : Int)) = some (.str (numS n)) := by
  have := log_ok h
  simp only [DV.strD, Int.natAbs_natCast, if_pos this]
theorem ev_cst (fs : List FS) (d : D) (Γ : Ct) : ev fs (.cst d) Γ = some (.fz d, Γ) := by simp only [ev]
theorem js_1 {fs : List FS} {e : DV.E} {es : List DV.E} {acc y : Str} {Γ Γ1 : Ct} (h : ev fs e Γ = some (.fz (.str y), Γ1)) (l1 : acc.length ≤ 1000) (l2 : y.length ≤ 1000) : DV.jsF fs (e :: es) acc Γ = DV.jsF fs es (acc ++ y) Γ1 := by
  have : (acc ++ y).length ≤ sizeLine := by rw [app_len]; exact Nat.le_trans (show _ ≤ 2000 by omega) (by decide)
  simp only [DV.jsF, h, Option.bind_some, datum, if_pos this]
theorem len_e : Str.empty.length = 0 := by decide +kernel
theorem len_sp : SP.length = 1 := by decide +kernel
theorem len_nm : (Str.ofString "breaker ").length = 8 ∧ (Str.ofString "row ").length = 4 ∧ (Str.ofString "outage ").length = 7 := by decide +kernel
theorem fs_3 {fs : List FS} {e1 e2 e3 : DV.E} {Γ : Ct} {a b c : Nat} (ha : a < 10 ^ 40) (hb : b < 10 ^ 40) (hc : c < 10 ^ 40) (h1 : ev fs e1 Γ = some (.fz (.str (numS a)), Γ)) (h2 : ev fs e2 Γ = some (.fz (.str (numS b)), Γ)) (h3 : ev fs e3 Γ = some (.fz (.str (numS c)), Γ)) :
    ev fs (.sem (DV.fsF [.cst (.str (Str.ofString "breaker ")), e1, .cst (.str SP), e2, .cst (.str SP), e3])) Γ = some (.fz (.str (lnS (Str.ofString "breaker") [a, b, c])), Γ) := by
  have l1 := numS_len ha
  have l2 := numS_len hb
  have l3 := numS_len hc
  have q := len_sp
  have q2 := len_nm.1
  have q3 := len_e
  rw [ev_fs, js_1 (ev_cst _ _ _) (by omega) (by omega), js_1 h1 (by rw [app_len]; omega) (by omega), js_1 (ev_cst _ _ _) (by rw [app_len, app_len]; omega) (by omega), js_1 h2 (by rw [app_len, app_len, app_len]; omega) (by omega),
    js_1 (ev_cst _ _ _) (by rw [app_len, app_len, app_len, app_len]; omega) (by omega), js_1 h3 (by rw [app_len, app_len, app_len, app_len, app_len]; omega) (by omega), line3]
  simp only [DV.jsF, Option.map_some]
theorem fs_2 {fs : List FS} {e1 e2 : DV.E} {Γ : Ct} {nm : Str} {a b : Nat} (hnm : nm.length ≤ 10) (ha : a < 10 ^ 40) (hb : b < 10 ^ 40) (h1 : ev fs e1 Γ = some (.fz (.str (numS a)), Γ)) (h2 : ev fs e2 Γ = some (.fz (.str (numS b)), Γ)) :
    ev fs (.sem (DV.fsF [.cst (.str nm), e1, .cst (.str SP), e2])) Γ = some (.fz (.str (Str.empty ++ nm ++ numS a ++ SP ++ numS b)), Γ) := by
  have l1 := numS_len ha
  have l2 := numS_len hb
  have q := len_sp
  have q3 := len_e
  rw [ev_fs, js_1 (ev_cst _ _ _) (by omega) (by omega), js_1 h1 (by rw [app_len]; omega) (by omega), js_1 (ev_cst _ _ _) (by rw [app_len, app_len]; omega) (by omega), js_1 h2 (by rw [app_len, app_len, app_len]; omega) (by omega)]
  simp only [DV.jsF, Option.map_some]
abbrev fsFm : List FS := [F_Row_step_length, F_Row_phase_time, F_Row_breaker_list]
theorem bS_at {s : Sp} (k : okS s) : ∃ a b c : Nat, s = ⟨a, b, c⟩ ∧ a < 10 ^ 40 ∧ b < 10 ^ 40 ∧ c < 10 ^ 40 ∧ nS s = [a, b, c] := by
  obtain ⟨f, w, c⟩ := s
  obtain ⟨f0, f1, w0, w1, c0, c1⟩ := k
  simp only at f0 f1 w0 w1 c0 c1
  refine ⟨f.toNat, w.toNat, c.toNat, ?_, big40 (by omega), big40 w1, big40 (by omega), rfl⟩
  rw [Int.toNat_of_nonneg (by omega), Int.toNat_of_nonneg (by omega), Int.toNat_of_nonneg (by omega)]
theorem fm_loop (O : D) : ∀ (t : List Sp) (l : List D) (x2 x3 x4 : Sl), (∀ s ∈ t, okS s) → l.length + t.length ≤ 1000 → ∃ y2 y3 y4, forLoop (.tp [.nm 2, .nm 3, .nm 4]) (exs fsFm [] B_format_row_1) (t.map sD) [some (O, false), some (.lst l, true), x2, x3, x4] = some (.nx [some (O, false), some (.lst (l ++ t.map fun s => .str (bS s)), true), y2, y3, y4])
  | [], l, x2, x3, x4, _, _ => ⟨x2, x3, x4, by simp [forLoop]⟩
  | s :: t, l, x2, x3, x4, h, hl => by
    obtain ⟨a, b, c, rfl, ha, hb, hc, en⟩ := bS_at (h s List.mem_cons_self)
    obtain ⟨y2, y3, y4, ih⟩ := fm_loop O t (l ++ [.str (bS ⟨a, b, c⟩)]) (some (.int a, false)) (some (.int b, false)) (some (.int c, false)) (fun u m => h u (List.mem_cons_of_mem _ m)) (by simp at hl ⊢; omega)
    refine ⟨y2, y3, y4, ?_⟩
    rw [List.map_cons, List.map_cons, show l ++ D.str (bS ⟨a, b, c⟩) :: t.map (fun s => D.str (bS s)) = (l ++ [.str (bS ⟨a, b, c⟩)]) ++ t.map (fun s => D.str (bS s)) by simp, ← ih]
    have e := fs_3 (fs := fsFm) (e1 := .sem (DV.uniF (.var 2) DV.fmtD)) (e2 := .sem (DV.uniF (.var 3) DV.fmtD)) (e3 := .sem (DV.uniF (.var 4) DV.fmtD)) (Γ := [some (O, false), some (.lst l, true), some (.int a, false), some (.int b, false), some (.int c, false)]) ha hb hc
      (by rw [ev_uni]; simp [DV.SC, DV.SE, DV.SX, fmt_nat ha]) (by rw [ev_uni]; simp [DV.SC, DV.SE, DV.SX, fmt_nat hb]) (by rw [ev_uni]; simp [DV.SC, DV.SE, DV.SX, fmt_nat hc])
    rw [← en] at e
    have hz : l.length < 16777216 := by omega
    refine forLoop_step (Γ1 := [some (O, false), some (.lst l, true), some (.int a, false), some (.int b, false), some (.int c, false)]) (by simp [DV.SC, DV.SE, DV.SX]) ?_
    unfold B_format_row_1
    simp only [DV.exs.eq_2]
    simp [DV.SC, DV.SE, DV.SX, e, hz, sizeLine]
theorem nat_of {x : Int} (h : 0 ≤ x) : ((x.toNat : Nat) : Int) = x := Int.toNat_of_nonneg h
theorem format_ok {r : List Sp} {p h : Int} (k : okR r p h) : F_format_row [some (RO r p h, false)] = some (.fz (.str (rowS r p h)), [some (RO r p h, false)]) := by
  have b1 := bl_ok r p h false
  have b2 := sl_ok r p h false
  have b3 := ph_ok r p h false
  have n1 := hasF_no nof_bl r p h
  have n2 := hasF_no nof_sl r p h
  have n3 := hasF_no nof_ph r p h
  have o1 : isObj 1 (RO r p h) = true := rfl
  have hp := big40 k.p1
  have hh := big40 k.h1
  have ep := nat_of (x := p) (by have := k.p0; omega)
  have eh := nat_of k.h0
  have lk := k.len
  have jn := joinD_ok (rowLines_ok k) (by have := rowLines_len k; omega)
  have el : (rowLines r p h).map D.str = [.str (lnS (Str.ofString "row") [p.toNat, h.toNat])] ++ r.map (fun s => .str (bS s)) := by
    simp only [rowLines, List.map_cons, List.map_map, List.singleton_append]
    rfl
  rw [el] at jn
  obtain ⟨y2, y3, y4, lp⟩ := fm_loop (RO r p h) r [.str (lnS (Str.ofString "row") [p.toNat, h.toNat])] none none none k.sp (by simp; omega)
  have b1' : F_Row_breaker_list [some (RO r p h, false)] = some (.nw (.lst (r.map sD)), [some (RO r p h, false)]) := b1
  have e0 : ev fsFm (.sem (DV.fsF [.cst (.str (Str.ofString "row ")), .sem (DV.uniF (.meth 1 "step_length" 0 (.var 0) []) DV.fmtD), .cst (.str (Str.ofString " ")), .sem (DV.uniF (.meth 1 "phase_time" 1 (.var 0) []) DV.fmtD)])) [some (RO r p h, false), none, none, none, none] = some (.fz (.str (lnS (Str.ofString "row") [p.toNat, h.toNat])), [some (RO r p h, false), none, none, none, none]) := by
    rw [← line2]
    refine fs_2 (by decide +kernel) hp hh ?_ ?_
    · rw [ev_uni]
      have f := fmt_nat hp
      rw [ep] at f
      generalize RO r p h = O at *
      simp [DV.SC, DV.SE, DV.SX, b2, n2, o1, f]
    · rw [ev_uni]
      have f := fmt_nat hh
      rw [eh] at f
      generalize RO r p h = O at *
      simp [DV.SC, DV.SE, DV.SX, b3, n3, o1, f]
  have rs : rowS r p h = Txt.join NL (rowLines r p h) := rfl
  rw [rs]
  generalize Txt.join NL (rowLines r p h) = T at *
  generalize lnS (Str.ofString "row") [p.toNat, h.toNat] = L0 at *
  generalize RO r p h = O at *
  refine runF_by (o := .rt (.fz (.str T)) [some (O, false), some (.lst ([.str L0] ++ r.map fun s => .str (bS s)), true), y2, y3, y4]) rfl (?_ : exs _ [] _ [some (O, false), none, none, none, none] = _) rfl
  refine (exs_nx (Γ1 := [some (O, false), some (.lst [.str L0], true), none, none, none]) (by simp [DV.SC, DV.SE, DV.SX, e0, sizeLine])).trans ?_
  refine (exs_nx (ex_for (Γ2 := [some (O, false), some (.lst [.str L0], true), none, none, none]) (ds := r.map sD) (by generalize r.map sD = SD at *; simp [DV.SC, DV.SE, DV.SX, b1', n1, o1]) rfl lp)).trans ?_
  generalize [D.str L0] ++ r.map (fun s => D.str (bS s)) = LS at *
  have : ev fsFm (.sem (DV.uniF (.var 1) (DV.joinD NL))) [some (O, false), some (.lst LS, true), y2, y3, y4] = some (.fz (.str T), [some (O, false), some (.lst LS, true), y2, y3, y4]) := by
    rw [ev_uni]
    simp [DV.SC, DV.SE, DV.SX, jn]
  simp [DV.SC, DV.SE, DV.SX, this]

/-! ### parse_row -/
theorem runX_b {fs : List FS} {np n : Nat} {body : List S} {G0 : Ct} {o : Out} {r : RV × Ct} (hl : G0.length = np) (e : exs fs (ownPs 0 G0) body (G0 ++ List.replicate (n - np) none) = some o) (f : DV.finishX np G0 o = some r) : runX fs np n body G0 = some r := by
  simp only [runX, hl, if_true, e, Option.bind_some, f]
theorem chk_loopx (pn : List Nat) (R : D) : ∀ (r : List Sp) (n : Nat) (x1 x2 : Sl), (∀ s ∈ r, okS s) → ∃ y1 y2, forLoop (.tp [.nm 1, .nm 2]) (exs [F_is_breaker] pn B_check_breakers_x_1) (enumD n (r.map sD)) [some (R, false), x1, x2] = some (.nx [some (R, false), y1, y2])
  | [], n, x1, x2, _ => ⟨x1, x2, by simp [enumD, forLoop]⟩
  | s :: r, n, x1, x2, h => by
    obtain ⟨y1, y2, ih⟩ := chk_loopx pn R r (n + 1) (some (.int (n : Int), false)) (some (sD s, false)) fun u m => h u (List.mem_cons_of_mem _ m)
    refine ⟨y1, y2, ?_⟩
    rw [List.map_cons, enumD, ← ih]
    have b := breaker_ok (h s List.mem_cons_self)
    refine forLoop_step (Γ1 := [some (R, false), some (.int (n : Int), false), some (sD s, false)]) (by simp [DV.SC, DV.SE, DV.SX]) ?_
    generalize sD s = S at *
    simp [B_check_breakers_x_1, DV.SC, DV.SE, DV.SX, b]
theorem check_breakers_okx {r : List Sp} (h : ∀ s ∈ r, okS s) (hl : r.length ≤ 12) (fl : Bool) : F_check_breakers_x [some (spD r, fl)] = some (.fz .non, [some (spD r, false)]) := by
  have hl2 : ¬ (12 : Int) < (r.length : Int) := by omega
  obtain ⟨y1, y2, e⟩ := chk_loopx (ownPs 0 [some (spD r, fl)]) (spD r) r 0 none none h
  refine runX_b (o := .nx [some (spD r, false), y1, y2]) rfl (?_ : exs _ _ _ [some (spD r, fl), none, none] = _) (by cases fl <;> rfl)
  refine (exs_nx (Γ1 := [some (spD r, fl), none, none]) (by cases fl <;> simp [DV.SC, DV.SE, DV.SX, hl2])).trans ?_
  exact (exs_nx (ex_for (Γ2 := [some (spD r, false), none, none]) (ds := enumD 0 (r.map sD)) (by cases fl <;> simp [DV.SC, DV.SE, DV.SX]) (by cases fl <;> rfl) e)).trans (by simp only [DV.exs.eq_1])
theorem ex_drop {fs : List FS} {pn : List Nat} {e : DV.E} {d : D} {Γ Γ1 : Ct} (h : ev fs e Γ = some (.fz d, Γ1)) (hx : isXc (.fz d) = false) : ex fs pn (.xex e .drop) Γ = some (.nx Γ1) := by
  cases d <;> first | (simp only [ex, h, Option.bind_some]; done) | cases hx
theorem row_okx {r : List Sp} {p h : Int} (k : okR r p h) (fl : Bool) : F_Row___init___x [some (.obj 1 [] [], true), some (spD r, fl), some (.int p, false), some (.int h, false)] = some (.fz .non, [some (RO r p h, true), some (spD r, false), some (.int p, false), some (.int h, false)]) := by
  have e1 := check_breakers_okx k.sp k.len fl
  have e2 := between_ok p 1 1000000000000000000000000000000
  have e3 := between_ok h 0 1000000000000000000000000000000
  rw [decide_eq_true ⟨k.p0, k.p1⟩] at e2
  rw [decide_eq_true ⟨k.h0, k.h1⟩] at e3
  have e1' : F_check_breakers_x [some (.lst (r.map sD), fl)] = some (.fz .non, [some (.lst (r.map sD), false)]) := e1
  refine runX_b (o := .nx [some (RO r p h, true), some (spD r, false), some (.int p, false), some (.int h, false)]) rfl (?_ : exs _ _ _ [some (.obj 1 [] [], true), some (.lst (r.map sD), fl), some (.int p, false), some (.int h, false)] = _) (by cases fl <;> rfl)
  show _ = some (Out.nx [some (.obj 1 ["specs", "pace", "shift"] [.lst (r.map sD), .int p, .int h], true), some (.lst (r.map sD), false), some (.int p, false), some (.int h, false)])
  generalize r.map sD = SD at *
  refine (exs_nx (Γ1 := [some (.obj 1 [] [], true), some (.lst SD, false), some (.int p, false), some (.int h, false)]) (ex_drop (d := .non) (by cases fl <;> simp [DV.SC, DV.SE, DV.SX, e1']) rfl)).trans ?_
  simp [DV.SC, DV.SE, DV.SX, e2, e3, nm_1, nm_2, nm_3]

theorem exs_one {fs : List FS} {pn : List Nat} {s : DV.S} {Γ Γ1 : Ct} (h : ex fs pn s Γ = some (.nx Γ1)) : exs fs pn [s] Γ = some (.nx Γ1) := (exs_nx h).trans (by simp only [DV.exs.eq_1])
theorem cut_tail (x : D) (xs : List D) : cutD (x :: xs) (some 1) none = xs := by
  unfold cutD
  rw [show (1 : Int) = ((1 : Nat) : Int) from rfl, HT.sIx_nat]
  simp [HT.sIx]
abbrev fsPr : List FS := [F_numbers_of, F_Row___init__]
abbrev fsPx : List FS := [F_numbers_of_x, F_Row___init___x]
abbrev prG (T : Str) (LL : List D) (B : D) (x3 x4 x5 x6 : Sl) : Ct := [some (.str T, false), some (.lst LL, true), some (B, true), x3, x4, x5, x6]
theorem bS_num {s : Sp} (k : okS s) (n : Int) : F_numbers_of [some (.str (bS s), false), some (.int n, false), some (.str (Str.ofString "breaker"), false), some (.int 3, false)] = some (.fz (sD s), [some (.str (bS s), false), some (.int n, false), some (.str (Str.ofString "breaker"), false), some (.int 3, false)]) := by
  obtain ⟨a, b, c, rfl, ha, hb, hc, en⟩ := bS_at k
  have e := numbers3 nm_brk n ha hb hc
  rw [← en] at e
  exact e
theorem bS_numx {s : Sp} (k : okS s) (n : Int) : F_numbers_of_x [some (.str (bS s), false), some (.int n, false), some (.str (Str.ofString "breaker"), false), some (.int 3, false)] = some (.fz (sD s), [some (.str (bS s), false), some (.int n, false), some (.str (Str.ofString "breaker"), false), some (.int 3, false)]) := by
  obtain ⟨a, b, c, rfl, ha, hb, hc, en⟩ := bS_at k
  have e := numbers3x nm_brk n ha hb hc
  rw [← en] at e
  exact e
theorem ex_appX {fs : List FS} {pn : List Nat} {i : Nat} {ie : DV.E} {Γ Γ1 : Ct} {d : D} {xs : List D} (hl : isLst Γ i = true) (h : ev fs ie Γ = some (.fz d, Γ1)) (hx : isXc (.fz d) = false) (hi : Γ1[i]? = some (some (.lst xs, true))) (hz : xs.length < 16777216) : ex fs pn (.sem [] (DV.appXF i ie)) Γ = some (.nx (Γ1.set i (some (.lst (xs ++ [d]), true)))) := by
  have hz2 : xs.length < sizeLine := hz
  simp only [ex, disjB, List.all_nil, if_true, DV.appXF, hl, h, Option.bind_some]
  cases d <;> first | (simp only [fre, Option.bind_some, hi, appD, if_pos hz2, Option.map_some]; done) | cases hx
theorem ex_appXx {fs : List FS} {pn : List Nat} {i : Nat} {ie : DV.E} {Γ Γ1 : Ct} {c : Nat} {ks : List Str} {ds : List D} (hl : isLst Γ i = true) (h : ev fs ie Γ = some (.fz (.exc c ks ds), Γ1)) : ex fs pn (.sem [] (DV.appXF i ie)) Γ = some (.xc c ks ds Γ1) := by
  simp only [ex, disjB, List.all_nil, if_true, DV.appXF, hl, h, Option.bind_some]
theorem pr_body (T : Str) (LL : List D) (l : List D) (x3 x4 : Sl) {s : Sp} (k : okS s) (n : Nat) (hz : l.length < 16777216) : exs fsPr [] B_parse_row_1 (prG T LL (.lst l) x3 x4 (some (.int n, false)) (some (.str (bS s), false))) = some (.nx (prG T LL (.lst (l ++ [sD s])) x3 x4 (some (.int n, false)) (some (.str (bS s), false)))) := by
  have e := bS_num k ((n : Int) + 1)
  generalize bS s = A at *
  generalize sD s = S at *
  simp [B_parse_row_1, DV.SC, DV.SE, DV.SX, e, hz, sizeLine]
theorem pr_evx (T : Str) (LL : List D) (l : List D) (x3 x4 : Sl) (A : Str) (n : Nat) (S : D) (o0 o1 o2 o3 : Sl)
    (e : F_numbers_of_x [some (.str A, false), some (.int ((n : Int) + 1), false), some (.str (Str.ofString "breaker"), false), some (.int 3, false)] = some (.fz S, [o0, o1, o2, o3])) :
    ev fsPx (.call 0 [.var 6, .bin .add (.var 5) (.cst (.int 1)), .cst (.str (Str.ofString "breaker")), .cst (.int 3)]) (prG T LL (.lst l) x3 x4 (some (.int n, false)) (some (.str A, false))) = some (.fz S, prG T LL (.lst l) x3 x4 (some (.int n, false)) (some (.str A, false))) := by
  simp [DV.SC, DV.SE, DV.SX, e]
theorem pr_bodyx (T : Str) (LL : List D) (l : List D) (x3 x4 : Sl) {s : Sp} (k : okS s) (n : Nat) (hz : l.length < 16777216) : exs fsPx [] B_parse_row_x_1 (prG T LL (.lst l) x3 x4 (some (.int n, false)) (some (.str (bS s), false))) = some (.nx (prG T LL (.lst (l ++ [sD s])) x3 x4 (some (.int n, false)) (some (.str (bS s), false)))) := by
  have e := pr_evx T LL l x3 x4 (bS s) n (sD s) _ _ _ _ (bS_numx k _)
  exact exs_one (ex_appX rfl e rfl rfl hz)
theorem pr_loop (T : Str) (LL : List D) (x3 x4 : Sl) : ∀ (t l : List Sp) (n : Nat) (x5 x6 : Sl), (∀ s ∈ t, okS s) → l.length + t.length ≤ 1000 → ∃ y5 y6, forLoop (.tp [.nm 5, .nm 6]) (exs fsPr [] B_parse_row_1) (enumD n (t.map fun s => .str (bS s))) (prG T LL (spD l) x3 x4 x5 x6) = some (.nx (prG T LL (spD (l ++ t)) x3 x4 y5 y6))
  | [], l, n, x5, x6, _, _ => ⟨x5, x6, by simp [enumD, forLoop]⟩
  | s :: t, l, n, x5, x6, h, hl => by
    obtain ⟨y5, y6, ih⟩ := pr_loop T LL x3 x4 t (l ++ [s]) (n + 1) (some (.int n, false)) (some (.str (bS s), false)) (fun u m => h u (List.mem_cons_of_mem _ m)) (by simp at hl ⊢; omega)
    refine ⟨y5, y6, ?_⟩
    rw [List.append_assoc, List.singleton_append] at ih
    rw [List.map_cons, enumD, ← ih]
    have b := pr_body T LL (l.map sD) x3 x4 (h s List.mem_cons_self) n (by simp at hl ⊢; omega)
    rw [show spD (l ++ [s]) = .lst (l.map sD ++ [sD s]) by simp [spD]]
    exact forLoop_step (Γ1 := prG T LL (spD l) x3 x4 (some (.int n, false)) (some (.str (bS s), false))) (by simp [DV.SC, DV.SE, DV.SX]) b
theorem pr_loopx (T : Str) (LL : List D) (x3 x4 : Sl) (rest : List D) : ∀ (t l : List Sp) (n : Nat) (x5 x6 : Sl), (∀ s ∈ t, okS s) → l.length + t.length ≤ 1000 → ∃ y5 y6, forLoop (.tp [.nm 5, .nm 6]) (exs fsPx [] B_parse_row_x_1) (enumD n ((t.map fun s => .str (bS s)) ++ rest)) (prG T LL (spD l) x3 x4 x5 x6) = forLoop (.tp [.nm 5, .nm 6]) (exs fsPx [] B_parse_row_x_1) (enumD (n + t.length) rest) (prG T LL (spD (l ++ t)) x3 x4 y5 y6)
  | [], l, n, x5, x6, _, _ => ⟨x5, x6, by simp⟩
  | s :: t, l, n, x5, x6, h, hl => by
    obtain ⟨y5, y6, ih⟩ := pr_loopx T LL x3 x4 rest t (l ++ [s]) (n + 1) (some (.int n, false)) (some (.str (bS s), false)) (fun u m => h u (List.mem_cons_of_mem _ m)) (by simp at hl ⊢; omega)
    refine ⟨y5, y6, ?_⟩
    rw [List.append_assoc, List.singleton_append, show n + 1 + t.length = n + (s :: t).length by simp; omega] at ih
    rw [List.map_cons, List.cons_append, enumD, ← ih]
    have b := pr_bodyx T LL (l.map sD) x3 x4 (h s List.mem_cons_self) n (by simp at hl ⊢; omega)
    rw [show spD (l ++ [s]) = .lst (l.map sD ++ [sD s]) by simp [spD]]
    exact forLoop_step (Γ1 := prG T LL (spD l) x3 x4 (some (.int n, false)) (some (.str (bS s), false))) (by simp [DV.SC, DV.SE, DV.SX]) b
theorem pr_bad (T : Str) (LL : List D) (B : List D) (x3 x4 x5 x6 : Sl) (n : Nat) : forLoop (.tp [.nm 5, .nm 6]) (exs fsPx [] B_parse_row_x_1) (enumD n [.str (Str.ofString "")]) (prG T LL (.lst B) x3 x4 x5 x6) = some (.xc 17 ["line", "word"] [.int ((n : Int) + 1), .int 0] (prG T LL (.lst B) x3 x4 (some (.int n, false)) (some (.str (Str.ofString ""), false)))) := by
  have e := pr_evx T LL B x3 x4 (Str.ofString "") n _ _ _ _ _ (numbers_badx ((n : Int) + 1))
  have b : exs fsPx [] B_parse_row_x_1 (prG T LL (.lst B) x3 x4 (some (.int n, false)) (some (.str (Str.ofString ""), false))) = some (.xc 17 ["line", "word"] [.int ((n : Int) + 1), .int 0] (prG T LL (.lst B) x3 x4 (some (.int n, false)) (some (.str (Str.ofString ""), false)))) := by
    have := ex_appXx (fs := fsPx) (pn := []) (i := 2) rfl e
    unfold B_parse_row_x_1
    simp only [DV.exs.eq_2, this, Option.bind_some]
  have a : asgT (.tp [.nm 5, .nm 6]) (.tup [.int n, .str (Str.ofString "")]) (prG T LL (.lst B) x3 x4 x5 x6) = some (prG T LL (.lst B) x3 x4 (some (.int n, false)) (some (.str (Str.ofString ""), false))) := by simp [DV.SC, DV.SE, DV.SX]
  simp only [enumD, forLoop, a, Option.bind_some, b]
/-! ### parse_row, as a whole -/
theorem parse_ok {r : List Sp} {p h : Int} (k : okR r p h) : F_parse_row [some (.str (rowS r p h), false)] = some (.nw (RO r p h), [some (.str (rowS r p h), false)]) := by
  have e1 := spl_lines (rowLines_ok k) (by simp [rowLines]) (by have := rowLines_len k; omega)
  have e1 : DV.splD NL (.str (rowS r p h)) = some (.str (lnS (Str.ofString "row") [p.toNat, h.toNat]) :: r.map fun s => .str (bS s)) := by
    rw [rowS, e1]
    simp only [rowLines, List.map_cons, List.map_map]
    rfl
  have lk := k.len
  have e2 := numbers2 nm_row 0 (big40 k.p1) (big40 k.h1)
  rw [nat_of (x := p) (by have := k.p0; omega), nat_of k.h0] at e2
  have e3 := row_ok k true
  generalize rowS r p h = T at *
  generalize lnS (Str.ofString "row") [p.toNat, h.toNat] = L0 at *
  obtain ⟨y5, y6, lp⟩ := pr_loop T (.str L0 :: r.map fun s => .str (bS s)) (some (.int p, false)) (some (.int h, false)) r [] 0 none none k.sp (by simp; omega)
  rw [List.nil_append] at lp
  have hc : cutD (.str L0 :: r.map fun s => D.str (bS s)) (some 1) none = r.map fun s => .str (bS s) := cut_tail _ _
  have a0 : atI (.str L0 :: r.map fun s => D.str (bS s)) 0 = some (.str L0) := atI_nat (j := 0) rfl
  generalize hLS : (r.map fun s => D.str (bS s)) = LS at *
  have e3' : F_Row___init__ [some (.obj 1 [] [], true), some (.lst (r.map sD), true), some (.int p, false), some (.int h, false)] = some (.fz .non, [some (RO r p h, true), some (.lst (r.map sD), false), some (.int p, false), some (.int h, false)]) := e3
  have lp' : forLoop (.tp [.nm 5, .nm 6]) (exs fsPr [] B_parse_row_1) (enumD 0 LS) (prG T (.str L0 :: LS) (.lst []) (some (.int p, false)) (some (.int h, false)) none none) = some (.nx (prG T (.str L0 :: LS) (.lst (r.map sD)) (some (.int p, false)) (some (.int h, false)) y5 y6)) := lp
  have iR : ∃ ks ds, RO r p h = .obj 1 ks ds := ⟨_, _, rfl⟩
  generalize RO r p h = O at *
  obtain ⟨ks, ds, rfl⟩ := iR
  generalize r.map sD = SD at *
  refine runF_by (o := .rt (.nw (.obj 1 ks ds)) [some (.str T, false), some (.lst (.str L0 :: LS), true), some (.lst SD, false), some (.int p, false), some (.int h, false), y5, y6]) rfl (?_ : exs _ [] _ [some (.str T, false), none, none, none, none, none, none] = _) rfl
  refine (exs_nx (Γ1 := [some (.str T, false), none, none, none, none, none, none]) (by simp [DV.SC, DV.SE, DV.SX])).trans ?_
  refine (exs_nx (Γ1 := [some (.str T, false), some (.lst (.str L0 :: LS), true), none, none, none, none, none]) (by simp [DV.SC, DV.SE, DV.SX, ev_spl, e1])).trans ?_
  refine (exs_nx (Γ1 := [some (.str T, false), some (.lst (.str L0 :: LS), true), none, some (.int p, false), some (.int h, false), none, none]) (by simp [DV.SC, DV.SE, DV.SX, a0, e2])).trans ?_
  refine (exs_nx (Γ1 := prG T (.str L0 :: LS) (.lst []) (some (.int p, false)) (some (.int h, false)) none none) (by simp [DV.SC, DV.SE, DV.SX, sizeLine])).trans ?_
  refine (exs_nx (ex_for (Γ2 := prG T (.str L0 :: LS) (.lst []) (some (.int p, false)) (some (.int h, false)) none none) (ds := enumD 0 LS) (by simp [DV.SC, DV.SE, DV.SX, hc]) rfl lp')).trans ?_
  simp [DV.SC, DV.SE, DV.SX, e3']

/-! ### parse_row that may raise; row_of -/
theorem ev_iso (fs : List FS) (ia : DV.E) (cs : List Nat) (ty : Ty) (Γ : Ct) : ev fs (.sem (DV.isoF cs ty ia)) Γ = (ev fs ia Γ).bind fun (x, Γ1) => (datum Γ1 x).bind fun d => (DV.isoD cs ty d).map fun b => (.fz (.bl b), Γ1) := by simp only [ev, DV.isoF]
theorem iso_str (cs : List Nat) (x : Str) : DV.isoD cs .str (.str x) = some true := rfl
theorem ex_xasg {fs : List FS} {pn : List Nat} {e : DV.E} {tg : Tg} {d : D} {Γ Γ1 Γ2 : Ct} (h : ev fs e Γ = some (.fz d, Γ1)) (hx : isXc (.fz d) = false) (hd : disjB (tgIx tg) pn = true) (ha : asgT tg d Γ1 = some Γ2) : ex fs pn (.xex e (.asg tg)) Γ = some (.nx Γ2) := by
  cases d <;> first | (simp only [ex, h, Option.bind_some, fre, if_pos hd, ha, Option.map_some]; done) | cases hx
theorem ex_xret {fs : List FS} {pn : List Nat} {e : DV.E} {d : D} {Γ Γ1 : Ct} (h : ev fs e Γ = some (.nw d, Γ1)) : ex fs pn (.xex e .ret) Γ = some (.rt (.nw d) Γ1) := by
  simp only [ex, h, Option.bind_some]
theorem exs_xc {fs : List FS} {pn : List Nat} {s : DV.S} {ss : List DV.S} {Γ Γ1 : Ct} {c : Nat} {ks : List Str} {ds : List D} (h : ex fs pn s Γ = some (.xc c ks ds Γ1)) : exs fs pn (s :: ss) Γ = some (.xc c ks ds Γ1) := by
  simp only [exs, h, Option.bind_some]
theorem exs_rt {fs : List FS} {pn : List Nat} {s : DV.S} {ss : List DV.S} {Γ Γ1 : Ct} {r : RV} (h : ex fs pn s Γ = some (.rt r Γ1)) : exs fs pn (s :: ss) Γ = some (.rt r Γ1) := by
  simp only [exs, h, Option.bind_some]
theorem parse_okx {r : List Sp} {p h : Int} (k : okR r p h) : F_parse_row_x [some (.str (rowS r p h), false)] = some (.nw (RO r p h), [some (.str (rowS r p h), false)]) := by
  have e1 := spl_lines (rowLines_ok k) (by simp [rowLines]) (by have := rowLines_len k; omega)
  have e1 : DV.splD NL (.str (rowS r p h)) = some (.str (lnS (Str.ofString "row") [p.toNat, h.toNat]) :: r.map fun s => .str (bS s)) := by
    rw [rowS, e1]
    simp only [rowLines, List.map_cons, List.map_map]
    rfl
  have lk := k.len
  have e2 := numbers2x nm_row 0 (big40 k.p1) (big40 k.h1)
  rw [nat_of (x := p) (by have := k.p0; omega), nat_of k.h0] at e2
  have e3 := row_okx k true
  generalize rowS r p h = T at *
  generalize lnS (Str.ofString "row") [p.toNat, h.toNat] = L0 at *
  obtain ⟨y5, y6, lp⟩ := pr_loopx T (.str L0 :: r.map fun s => .str (bS s)) (some (.int p, false)) (some (.int h, false)) [] r [] 0 none none k.sp (by simp; omega)
  rw [List.nil_append, List.append_nil] at lp
  have hc : cutD (.str L0 :: r.map fun s => D.str (bS s)) (some 1) none = r.map fun s => .str (bS s) := cut_tail _ _
  have a0 : atI (.str L0 :: r.map fun s => D.str (bS s)) 0 = some (.str L0) := atI_nat (j := 0) rfl
  generalize hLS : (r.map fun s => D.str (bS s)) = LS at *
  have e3' : F_Row___init___x [some (.obj 1 [] [], true), some (.lst (r.map sD), true), some (.int p, false), some (.int h, false)] = some (.fz .non, [some (RO r p h, true), some (.lst (r.map sD), false), some (.int p, false), some (.int h, false)]) := e3
  have lp' : forLoop (.tp [.nm 5, .nm 6]) (exs fsPx [] B_parse_row_x_1) (enumD 0 LS) (prG T (.str L0 :: LS) (.lst []) (some (.int p, false)) (some (.int h, false)) none none) = some (.nx (prG T (.str L0 :: LS) (.lst (r.map sD)) (some (.int p, false)) (some (.int h, false)) y5 y6)) := lp.trans (by simp [enumD, forLoop])
  have iR : ∃ ks ds, RO r p h = .obj 1 ks ds := ⟨_, _, rfl⟩
  generalize RO r p h = O at *
  obtain ⟨ks, ds, rfl⟩ := iR
  generalize r.map sD = SD at *
  refine runX_b (o := .rt (.nw (.obj 1 ks ds)) [some (.str T, false), some (.lst (.str L0 :: LS), true), some (.lst SD, false), some (.int p, false), some (.int h, false), y5, y6]) rfl (?_ : exs _ [] _ [some (.str T, false), none, none, none, none, none, none] = _) rfl
  refine (exs_nx (Γ1 := [some (.str T, false), none, none, none, none, none, none]) (by simp [DV.SC, DV.SE, DV.SX, ev_iso, iso_str])).trans ?_
  refine (exs_nx (Γ1 := [some (.str T, false), some (.lst (.str L0 :: LS), true), none, none, none, none, none]) (by simp [DV.SC, DV.SE, DV.SX, ev_spl, e1])).trans ?_
  refine (exs_nx (ex_xasg (d := .tup [.int p, .int h]) (Γ1 := [some (.str T, false), some (.lst (.str L0 :: LS), true), none, none, none, none, none]) (Γ2 := [some (.str T, false), some (.lst (.str L0 :: LS), true), none, some (.int p, false), some (.int h, false), none, none]) (by simp [DV.SC, DV.SE, DV.SX, a0, e2]) rfl rfl (by simp [DV.SC, DV.SE, DV.SX]))).trans ?_
  refine (exs_nx (Γ1 := prG T (.str L0 :: LS) (.lst []) (some (.int p, false)) (some (.int h, false)) none none) (by simp [DV.SC, DV.SE, DV.SX, sizeLine])).trans ?_
  refine (exs_nx (ex_for (Γ2 := prG T (.str L0 :: LS) (.lst []) (some (.int p, false)) (some (.int h, false)) none none) (ds := enumD 0 LS) (by simp [DV.SC, DV.SE, DV.SX, hc]) rfl lp')).trans ?_
  refine exs_rt (ex_xret ?_)
  rw [DV.ev.eq_def]
  simp [DV.mkpxF, DV.mkX, dfl, DV.SC, DV.SE, DV.SX, e3']
theorem join_snoc : ∀ (ls : List Str), ls ≠ [] → Txt.join NL (ls ++ [Str.ofString ""]) = Txt.join NL ls ++ NL := by
  intro ls hne
  refine TL.ext_tl ?_
  rw [TL.tl_append, TL.join_eq, TL.join_eq, TL.tl_join, TL.tl_join, List.map_append, tl_NL]
  have key : ∀ (l : List (List Nat)), l ≠ [] → TL.joinL [10] (l ++ [[]]) = TL.joinL [10] l ++ [10] := by
    intro l
    induction l with
    | nil => intro h; exact absurd rfl h
    | cons a l ih =>
      intro _
      cases l with
      | nil => simp [TL.joinL]
      | cons b l =>
        have := ih (by simp)
        simp only [List.cons_append, TL.joinL] at this ⊢
        rw [this]
        simp
  exact key _ (by simpa using hne)
theorem tl_em : TL.tl (Str.ofString "") = [] := by decide +kernel
theorem em_ln : Ln (Str.ofString "") := ⟨fun c m => absurd m (by rw [tl_em]; simp), by decide +kernel⟩
theorem parse_badx {r : List Sp} {p h : Int} (k : okR r p h) : ∃ n, F_parse_row_x [some (.str (rowS r p h ++ NL), false)] = some (.fz (.exc 17 ["line", "word"] n), [none]) := by
  have lk := k.len
  have hl : ∀ x ∈ rowLines r p h ++ [Str.ofString ""], Ln x := by
    intro x m
    rcases List.mem_append.mp m with m | m
    · exact rowLines_ok k x m
    · rw [List.mem_singleton] at m; subst m; exact em_ln
  have e1 := spl_lines hl (by simp [rowLines]) (by have := rowLines_len k; simp; omega)
  rw [join_snoc _ (by simp [rowLines])] at e1
  have e1 : DV.splD NL (.str (rowS r p h ++ NL)) = some (.str (lnS (Str.ofString "row") [p.toNat, h.toNat]) :: ((r.map fun s => .str (bS s)) ++ [.str (Str.ofString "")])) := by
    rw [rowS, e1]
    simp only [rowLines, List.map_cons, List.map_map, List.map_append, List.cons_append, List.map_nil]
    rfl
  have e2 := numbers2x nm_row 0 (big40 k.p1) (big40 k.h1)
  rw [nat_of (x := p) (by have := k.p0; omega), nat_of k.h0] at e2
  generalize rowS r p h ++ NL = T at *
  generalize lnS (Str.ofString "row") [p.toNat, h.toNat] = L0 at *
  obtain ⟨y5, y6, lp⟩ := pr_loopx T (.str L0 :: ((r.map fun s => .str (bS s)) ++ [.str (Str.ofString "")])) (some (.int p, false)) (some (.int h, false)) [.str (Str.ofString "")] r [] 0 none none k.sp (by simp; omega)
  have pb := pr_bad T (.str L0 :: ((r.map fun s => .str (bS s)) ++ [.str (Str.ofString "")])) (r.map sD) (some (.int p, false)) (some (.int h, false)) y5 y6 (0 + r.length)
  rw [List.nil_append] at lp
  have lp' := lp.trans pb
  have hc : cutD (.str L0 :: ((r.map fun s => D.str (bS s)) ++ [.str (Str.ofString "")])) (some 1) none = (r.map fun s => .str (bS s)) ++ [.str (Str.ofString "")] := cut_tail _ _
  have a0 : atI (.str L0 :: ((r.map fun s => D.str (bS s)) ++ [.str (Str.ofString "")])) 0 = some (.str L0) := atI_nat (j := 0) rfl
  generalize hLS : ((r.map fun s => D.str (bS s)) ++ [.str (Str.ofString "")]) = LS at *
  generalize (((0 + r.length : Nat) : Int) + 1) = N at *
  refine ⟨[.int N, .int 0], ?_⟩
  refine runX_b (o := .xc 17 ["line", "word"] [.int N, .int 0] (prG T (.str L0 :: LS) (.lst (r.map sD)) (some (.int p, false)) (some (.int h, false)) (some (.int ((0 + r.length : Nat) : Int), false)) (some (.str (Str.ofString ""), false)))) rfl (?_ : exs _ [] _ [some (.str T, false), none, none, none, none, none, none] = _) rfl
  refine (exs_nx (Γ1 := [some (.str T, false), none, none, none, none, none, none]) (by simp [DV.SC, DV.SE, DV.SX, ev_iso, iso_str])).trans ?_
  refine (exs_nx (Γ1 := [some (.str T, false), some (.lst (.str L0 :: LS), true), none, none, none, none, none]) (by simp [DV.SC, DV.SE, DV.SX, ev_spl, e1])).trans ?_
  refine (exs_nx (ex_xasg (d := .tup [.int p, .int h]) (Γ1 := [some (.str T, false), some (.lst (.str L0 :: LS), true), none, none, none, none, none]) (Γ2 := [some (.str T, false), some (.lst (.str L0 :: LS), true), none, some (.int p, false), some (.int h, false), none, none]) (by simp [DV.SC, DV.SE, DV.SX, a0, e2]) rfl rfl (by simp [DV.SC, DV.SE, DV.SX]))).trans ?_
  refine (exs_nx (Γ1 := prG T (.str L0 :: LS) (.lst []) (some (.int p, false)) (some (.int h, false)) none none) (by simp [DV.SC, DV.SE, DV.SX, sizeLine])).trans ?_
  exact exs_xc (ex_for (Γ2 := prG T (.str L0 :: LS) (.lst []) (some (.int p, false)) (some (.int h, false)) none none) (ds := enumD 0 LS) (by simp [DV.SC, DV.SE, DV.SX, hc]) rfl lp')
theorem parse_notx {d : D} (hd : DV.isoD [1] .str d = some false) : F_parse_row_x [some (d, false)] = some (.fz (.exc 17 ["line", "word"] [.int (-1), .int (-1)]), [none]) := by
  simp [F_parse_row_x, DV.runX, DV.finishX, DV.SC, DV.SE, DV.SX, ev_iso, hd, ex_rse, fres, exc_2]
/-! ### row_of -/
theorem ex_tryR {fs : List FS} {pn : List Nat} {ie ir : DV.E} {al : List Nat} {d : D} {Γ Γ1 : Ct} (h : ev fs ie Γ = some (.nw d, Γ1)) : ex fs pn (.sem [] (DV.tryRR ie al ir)) Γ = some (.rt (.nw d) Γ1) := by
  simp only [ex, disjB, List.all_nil, if_true, DV.tryRR, h, Option.bind_some]
theorem ex_tryX {fs : List FS} {pn : List Nat} {ie : DV.E} {al : List Nat} {c : Nat} {ks : List Str} {ds : List D} {Γ Γ1 : Ct} (h : ev fs ie Γ = some (.fz (.exc c ks ds), Γ1)) (ha : al.contains c = true) : ex fs pn (.sem [] (DV.tryRR ie al (.cst .non))) Γ = some (.rt (.fz .non) Γ1) := by
  simp only [ex, disjB, List.all_nil, if_true, DV.tryRR, h, Option.bind_some, ha, ev, Option.map_some]
theorem row_of_ok {r : List Sp} {p h : Int} (k : okR r p h) : F_row_of [some (.str (rowS r p h), false)] = some (.nw (RO r p h), [some (.str (rowS r p h), false)]) := by
  have e := parse_okx k
  have iR : ∃ ks ds, RO r p h = .obj 1 ks ds := ⟨_, _, rfl⟩
  generalize rowS r p h = T at *
  generalize RO r p h = O at *
  obtain ⟨ks, ds, rfl⟩ := iR
  refine runF_by (o := .rt (.nw (.obj 1 ks ds)) [some (.str T, false)]) rfl (?_ : exs _ [] _ [some (.str T, false)] = _) rfl
  exact exs_rt (ex_tryR (by simp [DV.SC, DV.SE, DV.SX, e]))
theorem row_of_no {d : D} {c : Nat} {ks : List Str} {ds : List D} {o : Sl} (hc : [13, 9, 17].contains c = true) (e : F_parse_row_x [some (d, false)] = some (.fz (.exc c ks ds), [o])) (hr : nrf (.fz d) = true) : F_row_of [some (d, false)] = some (.fz .non, [some (d, false)]) := by
  refine runF_by (o := .rt (.fz .non) [some (d, false)]) rfl (?_ : exs _ [] _ [some (d, false)] = _) rfl
  have h : ev [F_parse_row_x] (.call 0 [.var 0]) [some (d, false)] = some (.fz (.exc c ks ds), [some (d, false)]) := by simp [DV.SC, DV.SE, DV.SX, e]
  exact exs_rt (ex_tryX h hc)
/-- a value that is no text of a row -/
def Odd (d : D) : Prop := F_row_of [some (d, false)] = some (.fz .non, [some (d, false)])
theorem odd_not {d : D} (hd : DV.isoD [1] .str d = some false) (hr : nrf (.fz d) = true) : Odd d := row_of_no rfl (parse_notx hd) hr
theorem odd_nl {r : List Sp} {p h : Int} (k : okR r p h) : Odd (.str (rowS r p h ++ NL)) := by
  obtain ⟨n, e⟩ := parse_badx k
  exact row_of_no rfl e rfl
theorem odd_c1 : Odd (.str (Str.ofString "")) := by unfold Odd; kernel_rfl
theorem odd_c2 : Odd (.str (Str.ofString "x")) := by unfold Odd; kernel_rfl
theorem odd_c3 : Odd (.str (Str.ofString "row 0 0")) := by unfold Odd; kernel_rfl
theorem odd_c4 : Odd (.str (Str.ofString "row 1 0\nbreaker 0 1 1")) := by unfold Odd; kernel_rfl
/-! ### same_text -/
theorem rowS_inj {r r' : List Sp} {p h p' h' : Int} (k : okR r p h) (k' : okR r' p' h') (e : rowS r p h = rowS r' p' h') : r = r' ∧ p = p' ∧ h = h' := by
  have a := parse_ok k
  rw [e, parse_ok k'] at a
  simp only [Option.some.injEq, Prod.mk.injEq, RV.nw.injEq, D.obj.injEq, List.cons.injEq, D.int.injEq, and_true, true_and] at a
  have q : eqd (spD r) (spD r') = true := by rw [show spD r = spD r' from a.1.symm]; exact eqd_refl _ 12 (okB_sp 10 r')
  exact ⟨(eqd_sp r r').mp q, a.2.1.symm, a.2.2.symm⟩
theorem eq_words {r r' : List Sp} {p h p' h' : Int} (k : okR r p h) (k' : okR r' p' h') : eqd (.tup [spD r, .int p, .int h]) (.tup [spD r', .int p', .int h']) = (rowS r p h == rowS r' p' h') := by
  by_cases e : rowS r p h = rowS r' p' h'
  · obtain ⟨rfl, rfl, rfl⟩ := rowS_inj k k' e
    rw [eqd_refl _ 12 (okB_facts r p h)]
    simp
  · have : (rowS r p h == rowS r' p' h') = false := by simpa using e
    rw [this]
    cases q : eqd (.tup [spD r, .int p, .int h]) (.tup [spD r', .int p', .int h']) with
    | false => rfl
    | true =>
      simp only [eqd, eqds, Bool.and_eq_true, beq_iff_eq] at q
      obtain ⟨q1, q2, q3, _⟩ := q
      have e1 := (eqds_sp r r').mp q1
      subst e1 q2 q3
      exact absurd rfl e
theorem row_non (r : List Sp) (p h : Int) : F_Row___eq__ [some (RO r p h, false), some (.non, false)] = some (.fz (.bl false), [some (RO r p h, false), some (.non, false)]) := by
  generalize RO r p h = O
  simp [F_Row___eq__, DV.SC, DV.SE, DV.SX]
theorem same_rows {r r' : List Sp} {p h p' h' : Int} (k : okR r p h) (k' : okR r' p' h') : F_same_text [some (.str (rowS r p h), false), some (.str (rowS r' p' h'), false)] = some (.fz (.bl (rowS r p h == rowS r' p' h')), [some (.str (rowS r p h), false), some (.str (rowS r' p' h'), false)]) := by
  have e1 := row_of_ok k
  have e2 := row_of_ok k'
  have e3 := row_eq_ok r r' p h p' h'
  rw [eq_words k k'] at e3
  generalize (rowS r p h == rowS r' p' h') = b at *
  generalize rowS r p h = T at *
  generalize rowS r' p' h' = T' at *
  have o1 : isObj 1 (RO r p h) = true := rfl
  have iR : ∃ ks ds, RO r p h = .obj 1 ks ds := ⟨_, _, rfl⟩
  have iR' : ∃ ks ds, RO r' p' h' = .obj 1 ks ds := ⟨_, _, rfl⟩
  generalize RO r p h = O at *
  generalize RO r' p' h' = O' at *
  obtain ⟨ks, ds, rfl⟩ := iR
  obtain ⟨ks', ds', rfl⟩ := iR'
  simp [F_same_text, DV.SC, DV.SE, DV.SX, e1, e2, e3]
theorem same_odd1 {d e : D} (h : Odd d) (he : nrf (.fz e) = true) : F_same_text [some (d, false), some (e, false)] = some (.fz (.bl false), [some (d, false), some (e, false)]) := by
  unfold Odd at h
  simp [F_same_text, DV.SC, DV.SE, DV.SX, h]
theorem same_odd2 {r : List Sp} {p h : Int} (k : okR r p h) {d : D} (o : Odd d) : F_same_text [some (.str (rowS r p h), false), some (d, false)] = some (.fz (.bl false), [some (.str (rowS r p h), false), some (d, false)]) := by
  have e1 := row_of_ok k
  have e3 := row_non r p h
  unfold Odd at o
  generalize rowS r p h = T at *
  have iR : ∃ ks ds, RO r p h = .obj 1 ks ds := ⟨_, _, rfl⟩
  generalize RO r p h = O at *
  obtain ⟨ks, ds, rfl⟩ := iR
  simp [F_same_text, DV.SC, DV.SE, DV.SX, e1, o, e3]

/-! ### _law_same_right -/
abbrev srG (O : D) (T T' : Str) (x : Sl) : Ct := [some (O, false), some (.str T, false), some (.str T', false), x]
theorem isnot_b (a b : Bool) : cmpD .isnot (.bl a) (.bl b) = some (!(a == b)) := by simp only [cmpD]
theorem sr_body (O : D) (T T' : Str) (d : D) (e1 : F_same_text [some (.str T, false), some (d, false)] = some (.fz (.bl false), [some (.str T, false), some (d, false)])) (e2 : F_same_text [some (d, false), some (.str T, false)] = some (.fz (.bl false), [some (d, false), some (.str T, false)]))
    (e3 : F_same_text [some (d, false), some (d, false)] = some (.fz (.bl false), [some (d, false), some (d, false)])) : exs [F_same_text] [] B__law_same_right_1 (srG O T T' (some (d, false))) = some (.nx (srG O T T' (some (d, false)))) := by
  simp [B__law_same_right_1, DV.SC, DV.SE, DV.SX, e1, e2, e3, isnot_b]
theorem sr_loop {r : List Sp} {p h : Int} (k : okR r p h) (O : D) (T' : Str) : ∀ (ds : List D) (x : Sl), (∀ d ∈ ds, Odd d ∧ nrf (.fz d) = true) → ∃ y, forLoop (.nm 3) (exs [F_same_text] [] B__law_same_right_1) ds (srG O (rowS r p h) T' x) = some (.nx (srG O (rowS r p h) T' y))
  | [], x, _ => ⟨x, by simp [forLoop]⟩
  | d :: ds, x, hh => by
    obtain ⟨o, n⟩ := hh d List.mem_cons_self
    obtain ⟨y, ih⟩ := sr_loop k O T' ds (some (d, false)) fun e m => hh e (List.mem_cons_of_mem _ m)
    refine ⟨y, ?_⟩
    rw [← ih]
    exact forLoop_step (Γ1 := srG O (rowS r p h) T' (some (d, false))) (by simp [DV.SC, DV.SE, DV.SX]) (sr_body O _ T' d (same_odd2 k o) (same_odd1 o rfl) (same_odd1 o n))
theorem beq_com (a b : Str) : (a == b) = (b == a) := by
  cases h : (a == b) with
  | true => rw [beq_iff_eq] at h; subst h; simp
  | false =>
    cases h' : (b == a) with
    | true => rw [beq_iff_eq] at h'; subst h'; simp at h
    | false => rfl
theorem rowS_ok {r : List Sp} {p h : Int} (k : okR r p h) : PyData.strOk (rowS r p h) = true := joined_ok (rowLines_ok k)
theorem rowS_len {r : List Sp} {p h : Int} (k : okR r p h) : (rowS r p h).length ≤ 1742 := by
  have := joined_len (rowLines_ok k)
  have := rowLines_len k
  unfold rowS
  omega
theorem same_right_ok {r r' : List Sp} {p h p' h' : Int} (k : okR r p h) (k' : okR r' p' h') : F__law_same_right [some (RO r p h, false), some (.str (rowS r p h), false), some (.str (rowS r' p' h'), false)] = some (.fz (.bl true), [some (RO r p h, false), some (.str (rowS r p h), false), some (.str (rowS r' p' h'), false)]) := by
  have e1 := same_rows k k
  have e2 := same_rows k k'
  have e3 := same_rows k' k
  rw [beq_com (rowS r' p' h')] at e3
  have s1 := rowS_ok k
  have s2 := rowS_ok k'
  rw [show (rowS r p h == rowS r p h) = true by simp] at e1
  have odds : ∀ d ∈ [D.non, .int 5, .str (rowS r p h ++ NL), .str (Str.ofString ""), .lst [.str (rowS r p h)], RO r p h, .bl true, .str (Str.ofString "x"), .str (Str.ofString "row 0 0"), .str (Str.ofString "row 1 0\nbreaker 0 1 1")], Odd d ∧ nrf (.fz d) = true := by
    intro d m
    simp only [List.mem_cons, List.not_mem_nil, or_false] at m
    rcases m with rfl | rfl | rfl | rfl | rfl | rfl | rfl | rfl | rfl | rfl
    · exact ⟨odd_not rfl rfl, rfl⟩
    · exact ⟨odd_not rfl rfl, rfl⟩
    · exact ⟨odd_nl k, rfl⟩
    · exact ⟨odd_c1, rfl⟩
    · exact ⟨odd_not rfl rfl, rfl⟩
    · exact ⟨odd_not rfl rfl, rfl⟩
    · exact ⟨odd_not rfl rfl, rfl⟩
    · exact ⟨odd_c2, rfl⟩
    · exact ⟨odd_c3, rfl⟩
    · exact ⟨odd_c4, rfl⟩
  obtain ⟨y, lp⟩ := sr_loop k (RO r p h) (rowS r' p' h') _ none odds
  have lz : (rowS r p h).length + NL.length ≤ sizeLine := by
    have := rowS_len k
    have n1 : NL.length = 1 := by decide +kernel
    exact Nat.le_trans (show _ ≤ 2000 by omega) (by decide)
  have bn : binD .add (.str (rowS r p h)) (.str NL) = some (.fz (.str (rowS r p h ++ NL))) := by simp only [binD, if_pos lz]
  generalize hT : rowS r p h = T at *
  generalize hT' : rowS r' p' h' = T' at *
  generalize hTN : T ++ NL = TN at *
  generalize RO r p h = O at *
  have q1 : cmpD .eq (.str T) (.str T') = some (T == T') := by simp only [cmpD, okB, s1, s2, Bool.and_self, if_true, eqd]
  generalize (T == T') = b at *
  have q2 : cmpD .ne (.bl b) (.bl b) = some false := by cases b <;> rfl
  refine runF_by (o := .rt (.fz (.bl true)) (srG O T T' y)) rfl (?_ : exs _ [] _ (srG O T T' none) = _) rfl
  refine (exs_nx (ex_itf (Γ1 := srG O T T' none) (ev_or_f (x := .fz (.bl false)) (Γ1 := srG O T T' none) (by simp [DV.SC, DV.SE, DV.SX, e1, isnot_b]) (test_b _ _) (ev_cmp (x := .fz (.bl b)) (y := .fz (.bl b)) (Γ1 := srG O T T' none) (by simp [DV.SC, DV.SE, DV.SX, e2]) (ev_cmp (x := .sl 1) (y := .sl 2) (Γ1 := srG O T T' none) (by simp [DV.SC, DV.SE, DV.SX]) (by simp [DV.SC, DV.SE, DV.SX]) rfl rfl q1) rfl rfl q2)))).trans ?_
  refine (exs_nx (ex_itf (Γ1 := srG O T T' none) (ev_cmp (x := .fz (.bl b)) (y := .fz (.bl b)) (Γ1 := srG O T T' none) (by simp [DV.SC, DV.SE, DV.SX, e3]) (ev_cmp (x := .sl 1) (y := .sl 2) (Γ1 := srG O T T' none) (by simp [DV.SC, DV.SE, DV.SX]) (by simp [DV.SC, DV.SE, DV.SX]) rfl rfl q1) rfl rfl q2))).trans ?_
  refine (exs_nx (ex_for (Γ2 := srG O T T' none) (ds := [D.non, .int 5, .str TN, .str (Str.ofString ""), .lst [.str T], O, .bl true, .str (Str.ofString "x"), .str (Str.ofString "row 0 0"), .str (Str.ofString "row 1 0\nbreaker 0 1 1")]) ?_ rfl lp)).trans (by simp [DV.SC, DV.SE, DV.SX])
  simp [DV.SC, DV.SX, bn, sizeLine, DV.ev.eq_5, DV.ev.eq_2, DV.ev.eq_3]

/-! ### outages as texts -/
theorem comp_gen3 {fs : List FS} {own : List Nat} {tg : Tg} {ik : IK} {its : List DV.E} {elt : DV.E} {ds out : List D} {Γ0 Γ G : Ct} (e1 : (evs fs its Γ0).bind (fun p => iterD ik p.1 p.2) = some (ds, Γ)) (hw : wipeG Γ own = G) (hp : plainIx Γ own = true) (ht : (tgIx tg).all (fun i => own.contains i) = true) (hl : ds.length ≤ 16777216) (hr : restG Γ G own = Γ)
    (lp : compLoop own tg (evc fs []) (ev fs elt) ds [] G = some (out, G)) : ev fs (.comp own tg ik its [] elt) Γ0 = some (.nw (.lst out), Γ) := by
  obtain ⟨⟨xs, Γ1⟩, a1, a2⟩ := Option.bind_eq_some_iff.mp e1
  rw [DV.ev.eq_18]
  simp only [a1, Option.bind_some, a2]
  rw [if_pos (by rw [hp, ht, decide_eq_true (show ds.length ≤ sizeLine from hl)]; rfl), hw, lp]
  simp only [Option.map_some, hr]
theorem cl_pairs3 {fs : List FS} {u v : Nat} {elt : DV.E} {Γ : Ct} (hu : Γ[u]? = some none) (hv : Γ[v]? = some none) (huv : u ≠ v) : ∀ (ps : List ((D × D) × D)) (acc : List D), (∀ p ∈ ps, ev fs elt ((Γ.set u (some (p.1.1, false))).set v (some (p.1.2, false))) = some (.fz p.2, (Γ.set u (some (p.1.1, false))).set v (some (p.1.2, false)))) → compLoop [u, v] (.tp [.nm u, .nm v]) (evc fs []) (ev fs elt) (ps.map fun p => .tup [p.1.1, p.1.2]) acc Γ = some (acc ++ ps.map (fun p => p.2), Γ) := by
  have hul : u < Γ.length := (List.getElem?_eq_some_iff.mp hu).1
  have hvl : v < Γ.length := (List.getElem?_eq_some_iff.mp hv).1
  have sn : ∀ {i : Nat}, Γ[i]? = some none → Γ.set i none = Γ := by
    intro i hi
    apply List.ext_getElem?
    intro j
    by_cases q : i = j
    · subst q; rw [List.getElem?_set_self (List.getElem?_eq_some_iff.mp hi).1, hi]
    · rw [List.getElem?_set_ne q]
  have hct : ∀ G, evc fs [] G = some (true, G) := fun _ => by simp only [evc]
  have wp : ∀ p : D × D, wipeG ((Γ.set u (some (p.1, false))).set v (some (p.2, false))) [u, v] = Γ := by
    intro p
    simp only [wipeG]
    rw [List.set_set, List.set_comm _ _ huv, List.set_set, sn hv, sn hu]
  have pl : ∀ p : D × D, plainIx ((Γ.set u (some (p.1, false))).set v (some (p.2, false))) [u, v] = true := by
    intro p
    have g1 : ((Γ.set u (some (p.1, false))).set v (some (p.2, false)))[u]? = some (some (p.1, false)) := by
      rw [List.getElem?_set_ne (show v ≠ u from fun z => huv z.symm), List.getElem?_set_self hul]
    have g2 : ((Γ.set u (some (p.1, false))).set v (some (p.2, false)))[v]? = some (some (p.2, false)) := List.getElem?_set_self (by rw [List.length_set]; exact hvl)
    simp only [plainIx, List.all_cons, List.all_nil, g1, g2, Bool.and_self]
  intro ps
  induction ps with
  | nil => intro acc _; simp [compLoop]
  | cons p ps ih =>
    intro acc h
    have q := h p List.mem_cons_self
    have a1 : asgT (.tp [.nm u, .nm v]) (.tup [p.1.1, p.1.2]) Γ = some ((Γ.set u (some (p.1.1, false))).set v (some (p.1.2, false))) := by
      simp [asgT, asgT.asgTs, hul, hvl]
    rw [List.map_cons]
    simp only [compLoop, a1, Option.bind_some, hct, if_true, q, fre]
    rw [if_pos (pl p.1), wp p.1, ih _ fun p' m => h p' (List.mem_cons_of_mem _ m)]
    simp
abbrev oS (o : Int × Int) : Str := lnS (Str.ofString "outage") [o.1.toNat, o.2.toNat]
def outS (os : List (Int × Int)) : Str := Txt.join NL (os.map oS)
/-- outages with times that are printed -/
def OkT (os : List (Int × Int)) : Prop := ∀ o ∈ os, 0 ≤ o.1 ∧ 0 ≤ o.2 ∧ o.1 ≤ 1000000000000000000000000000000 ∧ o.2 ≤ 1000000000000000000000000000000
theorem okT_of {os : List (Int × Int)} (h : okO 1000000000000000000000000000000 0 os) : OkT os := fun o m => by
  have := h.ge o m
  omega
theorem oS_ln {os : List (Int × Int)} (h : OkT os) : ∀ x ∈ os.map oS, Ln x := by
  intro x m
  obtain ⟨o, mo, rfl⟩ := List.mem_map.mp m
  have := h o mo
  refine ln_ok nm_out ?_ (by simp)
  intro n mn
  simp only [List.mem_cons, List.not_mem_nil, or_false] at mn
  rcases mn with rfl | rfl <;> exact big40 (by omega)
theorem oS_num {os : List (Int × Int)} (h : OkT os) {o : Int × Int} (m : o ∈ os) (n : Int) : F_numbers_of [some (.str (oS o), false), some (.int n, false), some (.str (Str.ofString "outage"), false), some (.int 2, false)] = some (.fz (oD o), [some (.str (oS o), false), some (.int n, false), some (.str (Str.ofString "outage"), false), some (.int 2, false)]) := by
  have b := h o m
  have e := numbers2 nm_out n (big40 (x := o.1) (by omega)) (big40 (x := o.2) (by omega))
  rw [nat_of b.1, nat_of b.2.1] at e
  exact e
theorem chk_r {os : List (Int × Int)} (ho : okO 1000000000000000000000000000000 0 os) (hl : os.length ≤ 50) (fl : Bool) : F_check_outages_r [some (osD os, fl)] = some (.fz .non, [some (osD os, fl)]) := by
  have noLs_os : ∀ os : List (Int × Int), DV.noLs (os.map oD) = true := by
    intro os
    induction os with
    | nil => rfl
    | cons o os ih => rw [List.map_cons]; simp only [DV.noLs, ih]; rfl
  show DV.reown 0 F_check_outages [some (osD os, fl)] = _
  unfold DV.reown
  rw [check_outages_ok ho hl fl]
  cases fl
  · simp
  · simp [DV.resOk, DV.noL, noLs_os os, DV.othOk, DV.putBack]
theorem fmt_int {x : Int} (h0 : 0 ≤ x) (h1 : x ≤ 1000000000000000000000000000000) : DV.fmtD (.int x) = some (.str (numS x.toNat)) := by
  have := fmt_nat (big40 h1)
  rwa [nat_of h0] at this
theorem str_int {x : Int} (h0 : 0 ≤ x) (h1 : x ≤ 1000000000000000000000000000000) : DV.strD (.int x) = some (.str (numS x.toNat)) := by
  have := str_nat (big40 h1)
  rwa [nat_of h0] at this
theorem pairs_of (os : List (Int × Int)) : os.map oD = (os.map fun o => (((.int o.1 : D), (.int o.2 : D)), (D.str (oS o)))).map fun p => .tup [p.1.1, p.1.2] := by
  rw [List.map_map]; rfl
theorem format_out_ok {os : List (Int × Int)} (ho : okO 1000000000000000000000000000000 0 os) (hl : os.length ≤ 50) : F_format_outages [some (osD os, false)] = some (.fz (.str (outS os)), [some (osD os, false)]) := by
  have hT := okT_of ho
  have e0 := chk_r ho hl false
  have cp : ev [F_check_outages_r] (.comp [1, 2] (.tp [.nm 1, .nm 2]) .seq [.var 0] [] (.sem (DV.fsF [.cst (.str (Str.ofString "outage ")), .sem (DV.uniF (.var 1) DV.fmtD), .cst (.str SP), .sem (DV.uniF (.var 2) DV.fmtD)]))) [some (osD os, false), none, none] = some (.nw (.lst ((os.map oS).map D.str)), [some (osD os, false), none, none]) := by
    refine comp_gen3 (ds := os.map oD) (G := [some (osD os, false), none, none]) (by simp [DV.SC, DV.SE, DV.SX]) rfl rfl rfl (by simp; omega) rfl ?_
    have lp := cl_pairs3 (fs := [F_check_outages_r]) (u := 1) (v := 2) (elt := .sem (DV.fsF [.cst (.str (Str.ofString "outage ")), .sem (DV.uniF (.var 1) DV.fmtD), .cst (.str SP), .sem (DV.uniF (.var 2) DV.fmtD)])) (Γ := [some (osD os, false), none, none]) rfl rfl (by decide) (os.map fun o => (((.int o.1 : D), (.int o.2 : D)), (D.str (oS o)))) [] ?_
    · rw [← pairs_of, List.map_map] at lp
      rw [lp, List.map_map]
      rfl
    · intro p m
      obtain ⟨o, mo, rfl⟩ := List.mem_map.mp m
      have b := hT o mo
      have f1 := fmt_int b.1 b.2.2.1
      have f2 := fmt_int b.2.1 b.2.2.2
      have := fs_2 (fs := [F_check_outages_r]) (e1 := .sem (DV.uniF (.var 1) DV.fmtD)) (e2 := .sem (DV.uniF (.var 2) DV.fmtD)) (Γ := [some (osD os, false), some (.int o.1, false), some (.int o.2, false)]) (nm := Str.ofString "outage ") (by decide +kernel) (big40 b.2.2.1) (big40 b.2.2.2)
        (by rw [ev_uni]; simp [DV.SC, DV.SE, DV.SX, f1]) (by rw [ev_uni]; simp [DV.SC, DV.SE, DV.SX, f2])
      rw [lineo] at this
      exact this
  have jn := joinD_ok (oS_ln hT) (by simp; omega)
  generalize hLS : (os.map oS).map D.str = LS at *
  have eo : outS os = Txt.join NL (os.map oS) := rfl
  rw [eo]
  generalize Txt.join NL (os.map oS) = T at *
  generalize osD os = O at *
  have e1 : ev [F_check_outages_r] (.sem (DV.uniF (.comp [1, 2] (.tp [.nm 1, .nm 2]) .seq [.var 0] [] (.sem (DV.fsF [.cst (.str (Str.ofString "outage ")), .sem (DV.uniF (.var 1) DV.fmtD), .cst (.str SP), .sem (DV.uniF (.var 2) DV.fmtD)]))) (DV.joinD NL))) [some (O, false), none, none] = some (.fz (.str T), [some (O, false), none, none]) := by
    rw [ev_uni, cp]
    simp [DV.SC, DV.SE, DV.SX, jn]
  refine runF_by (o := .rt (.fz (.str T)) [some (O, false), none, none]) rfl (?_ : exs _ [] _ [some (O, false), none, none] = _) rfl
  refine (exs_nx (Γ1 := [some (O, false), none, none]) (by simp [DV.SC, DV.SE, DV.SX, e0])).trans ?_
  simp [DV.SC, DV.SE, DV.SX, e1]

/-! ### parse_outages -/
abbrev fsPo : List FS := [F_numbers_of, F_check_outages_r]
def enP : Nat → List (Int × Int) → List ((D × D) × D)
  | _, [] => []
  | n, o :: os => ((.int (n : Nat), .str (oS o)), oD o) :: enP (n + 1) os
theorem enP_ds : ∀ (n : Nat) (os : List (Int × Int)), enumD n ((os.map oS).map D.str) = (enP n os).map fun p => .tup [p.1.1, p.1.2]
  | _, [] => rfl
  | n, o :: os => by simp only [List.map_cons, enumD, enP, enP_ds (n + 1) os]
theorem enP_out : ∀ (n : Nat) (os : List (Int × Int)), (enP n os).map (fun p => p.2) = os.map oD
  | _, [] => rfl
  | n, o :: os => by simp only [List.map_cons, enP, enP_out (n + 1) os]
theorem enP_mem : ∀ (n : Nat) (os : List (Int × Int)) (p : (D × D) × D), p ∈ enP n os → ∃ (i : Nat) (o : Int × Int), o ∈ os ∧ p = ((.int (i : Nat), .str (oS o)), oD o)
  | _, [], p, h => by simp [enP] at h
  | n, o :: os, p, h => by
    rcases List.mem_cons.mp h with rfl | h
    · exact ⟨n, o, List.mem_cons_self, rfl⟩
    · obtain ⟨i, q, m, e⟩ := enP_mem (n + 1) os p h
      exact ⟨i, q, List.mem_cons_of_mem _ m, e⟩
theorem enumD_ln : ∀ (n : Nat) (l : List D), (enumD n l).length = l.length
  | _, [] => rfl
  | n, d :: l => by rw [enumD, List.length_cons, List.length_cons, enumD_ln (n + 1) l]
theorem split_em : Txt.split (Str.ofString "") NL = [Str.ofString ""] := by decide +kernel
theorem outS_ne {o : Int × Int} {os : List (Int × Int)} (h : OkT (o :: os)) : ¬ outS (o :: os) = Str.ofString "" := by
  intro e
  have s := split_lines (oS_ln h) (by simp)
  rw [show Txt.join NL ((o :: os).map oS) = outS (o :: os) from rfl, e, split_em] at s
  have e2 : Str.ofString "" = oS o := by
    rw [List.map_cons] at s
    exact (List.cons.inj s).1
  have e3 := congrArg TL.tl e2
  rw [tl_lnS, tl_em, show TL.tl (Str.ofString "outage") = [111, 117, 116, 97, 103, 101] by decide +kernel] at e3
  simp at e3
theorem outS_ok {os : List (Int × Int)} (h : OkT os) : PyData.strOk (outS os) = true := joined_ok (oS_ln h)
theorem ex_asgO_nw {fs : List FS} {pn : List Nat} {e : DV.E} {i : Nat} {d : D} {Γ Γ1 : Ct} (h : ev fs e Γ = some (.nw d, Γ1)) (hl : i < Γ1.length) (hd : disjB [i] pn = true) : ex fs pn (.asgO i e) Γ = some (.nx (Γ1.set i (some (d, true)))) := by
  simp only [ex, h, Option.bind_some]
  rw [if_pos ⟨hl, hd⟩]
theorem parse_out_ok {os : List (Int × Int)} (ho : okO 1000000000000000000000000000000 0 os) (hl : os.length ≤ 50) : F_parse_outages [some (.str (outS os), false)] = some (.nw (osD os), [some (.str (outS os), false)]) := by
  have hT := okT_of ho
  have e0 := chk_r ho hl true
  have sk := outS_ok hT
  have e1 : ev fsPo (.ite (.cmp .eq (.var 0) (.cst (.str (Str.ofString "")))) (.lst []) (.sem (DV.splF (.var 0) NL))) [some (.str (outS os), false), none, none, none, none] = some (.nw (.lst ((os.map oS).map D.str)), [some (.str (outS os), false), none, none, none, none]) := by
    cases os with
    | nil =>
      have e : outS [] = Str.ofString "" := by decide +kernel
      rw [e]
      have s := se_ok
      simp [DV.SC, DV.SX, DV.cmpD.eq_1, DV.okB.eq_4, s, eqd_s, sizeLine]
    | cons o os =>
      have ne := outS_ne hT
      have sp := spl_lines (oS_ln hT) (by simp) (by simp at hl ⊢; omega)
      rw [show Txt.join NL ((o :: os).map oS) = outS (o :: os) from rfl] at sp
      have s := se_ok
      generalize ((o :: os).map oS).map D.str = LS at *
      generalize outS (o :: os) = T at *
      simp [DV.SC, DV.SX, DV.cmpD.eq_1, DV.okB.eq_4, s, sk, eqd_s, ne, ev_spl, sp]
  have hz : (os.map oS).length ≤ 16777216 := by simp; omega
  have cp : ev fsPo (.comp [3, 4] (.tp [.nm 3, .nm 4]) .enum [.var 1] [] (.call 0 [.var 4, .var 3, .cst (.str (Str.ofString "outage")), .cst (.int 2)])) [some (.str (outS os), false), some (.lst ((os.map oS).map D.str), true), none, none, none] = some (.nw (.lst (os.map oD)), [some (.str (outS os), false), some (.lst ((os.map oS).map D.str), false), none, none, none]) := by
    refine comp_gen3 (ds := enumD 0 ((os.map oS).map D.str)) (G := [some (.str (outS os), false), some (.lst ((os.map oS).map D.str), false), none, none, none]) ?_ rfl rfl rfl (by rw [enumD_ln]; simp; omega) rfl ?_
    · generalize (os.map oS).map D.str = LS
      simp [DV.SC, DV.SE, DV.SX]
    · rw [enP_ds]
      have lp := cl_pairs3 (fs := fsPo) (u := 3) (v := 4) (elt := .call 0 [.var 4, .var 3, .cst (.str (Str.ofString "outage")), .cst (.int 2)]) (Γ := [some (.str (outS os), false), some (.lst ((os.map oS).map D.str), false), none, none, none]) rfl rfl (by decide) (enP 0 os) [] ?_
      · rw [enP_out] at lp
        exact lp
      · intro p m
        obtain ⟨i, o, mo, rfl⟩ := enP_mem _ _ _ m
        have e := oS_num hT mo (i : Nat)
        generalize oS o = A at *
        generalize oD o = B at *
        generalize (os.map oS).map D.str = LS at *
        generalize outS os = T at *
        simp [DV.SC, DV.SE, DV.SX, e]
  generalize (os.map oS).map D.str = LS at *
  generalize outS os = T at *
  have e0' : F_check_outages_r [some (.lst (os.map oD), true)] = some (.fz .non, [some (.lst (os.map oD), true)]) := e0
  show _ = some (RV.nw (D.lst (os.map oD)), _)
  generalize os.map oD = O at *
  refine runF_by (o := .rt (.sl 2) [some (.str T, false), some (.lst LS, false), some (.lst O, true), none, none]) rfl (?_ : exs _ [] _ [some (.str T, false), none, none, none, none] = _) rfl
  refine (exs_nx (Γ1 := [some (.str T, false), none, none, none, none]) (by simp [DV.SC, DV.SE, DV.SX])).trans ?_
  refine (exs_nx (ex_asgO_nw e1 (by simp) rfl)).trans ?_
  refine (exs_nx (ex_asgO_nw cp (by simp) rfl)).trans ?_
  refine (exs_nx (Γ1 := [some (.str T, false), some (.lst LS, false), some (.lst O, true), none, none]) (by simp [DV.SC, DV.SE, DV.SX, e0'])).trans ?_
  simp [DV.SC, DV.SE, DV.SX]

/-! ### _law_outages_right -/
abbrev fsOu : List FS := [F__law_next, F__law_one, F_format_outages, F_parse_outages]
abbrev ouG (W : D) (os : List (Int × Int)) (t : Int) (x3 x6 : Sl) : Ct := [some (W, true), some (osD os, true), some (.int t, false), x3, none, none, x6, none]
theorem or_body (a : Int) {c k : Int} {N : Nat} (w : Wl c k (N + 4)) (os : List (Int × Int)) (hl : os.length ≤ 1000) (t : Int) (n : Nat) (x6 : Sl) : ∃ a' k' b e, exs fsOu [0] B__law_outages_right_1 (ouG (wl a c k) os t (some (.int (n : Int), false)) x6) = some (.nx (ouG (wl a' c k') (os ++ [(b, e)]) e (some (.int (n : Int), false)) (some (.int b, false)))) ∧ Wl c k' N ∧
    t ≤ b ∧ (0 < n → t < b) ∧ b < e ∧ e ≤ t + 20000000000000000000000000002 := by
  have bb := BB_big
  obtain ⟨d1, r1, a1, k1, a2, k2, e1, e2, p0, p1, v1⟩ := pick1_ok a (N := N + 2) w [3, 10000000000000000000000000000] 10000000000000000000000000000 (by simp) (by simp) (by simp) (by omega)
  obtain ⟨d2, r2, a3, k3, a4, k4, e3, e4, p2, p3, v2⟩ := pick1_ok a2 (N := N) v1 [3, 10000000000000000000000000000] 10000000000000000000000000000 (by simp) (by simp) (by simp) (by omega)
  simp only [List.map_cons, List.map_nil] at e1 e3
  have p28 : (10 : Int) ^ 28 = 10000000000000000000000000000 := rfl
  have hz : os.length < 16777216 := by omega
  by_cases h : 0 < n
  · have h' : (0 : Int) < (n : Int) := by omega
    have h2 : ¬ n = 0 := by omega
    have el : osD (os ++ [(t + r1 + 1, t + r1 + 1 + 1 + r2)]) = .lst (os.map oD ++ [.tup [.int (t + r1 + 1), .int (t + r1 + 1 + 1 + r2)]]) := by simp [osD, oD]
    refine ⟨a4, k4, t + r1 + 1, t + r1 + 1 + 1 + r2, ?_, v2, by omega, fun _ => by omega, by omega, by omega⟩
    simp only [ouG]
    rw [el]
    simp [B__law_outages_right_1, DV.SC, DV.SE, DV.SX, e1, e2, e3, e4, p28, sizeLine, hz, h', h2]
  · have h' : ¬ (0 : Int) < (n : Int) := by omega
    have h2 : n = 0 := by omega
    have el : osD (os ++ [(t + r1 + 0, t + r1 + 0 + 1 + r2)]) = .lst (os.map oD ++ [.tup [.int (t + r1), .int (t + r1 + 1 + r2)]]) := by simp [osD, oD]
    refine ⟨a4, k4, t + r1 + 0, t + r1 + 0 + 1 + r2, ?_, v2, by omega, fun z => absurd z h, by omega, by omega⟩
    simp only [ouG]
    rw [el]
    simp [B__law_outages_right_1, DV.SC, DV.SE, DV.SX, e1, e2, e3, e4, p28, sizeLine, hz, h', h2]
def Six (x : Sl) : Prop := x = none ∨ ∃ b : Int, x = some (.int b, false)
theorem or_loop {c : Int} : ∀ (m n : Nat) (a k : Int) (N : Nat) (os : List (Int × Int)) (t : Int) (x3 x6 : Sl), Wl c k (N + 4 * m) → n + m ≤ 7 → os.length ≤ n → (n = 0 → os = []) → 0 ≤ t → t ≤ 20000000000000000000000000002 * (n : Int) → okO 1000000000000000000000000000000 0 os → (∀ o ∈ os, o.2 ≤ t) → Six x6 →
    ∃ a' k' os' t' y3 y6, forLoop (.nm 3) (exs fsOu [0] B__law_outages_right_1) (rngD (n : Int) 1 m) (ouG (wl a c k) os t x3 x6) = some (.nx (ouG (wl a' c k') os' t' y3 y6)) ∧ Wl c k' N ∧ os'.length ≤ n + m ∧ okO 1000000000000000000000000000000 0 os' ∧ Six y6
  | 0, n, a, k, N, os, t, x3, x6, w, _, hl, _, _, _, ho, _, s => ⟨a, k, os, t, x3, x6, by simp [rngD, forLoop], w, by omega, ho, s⟩
  | m + 1, n, a, k, N, os, t, x3, x6, w, hn, hl, h0, t0, t1, ho, hm, s => by
    obtain ⟨a1, k1, b, e, e1, w1, b0, b1, be, et⟩ := or_body a (N := N + 4 * m) (by exact (show N + 4 * (m + 1) = N + 4 * m + 4 by omega) ▸ w) os (by omega) t n x6
    have hn2 : (n : Int) ≤ 6 := by omega
    have t2 : e ≤ 20000000000000000000000000002 * ((n + 1 : Nat) : Int) := by
      have : ((n + 1 : Nat) : Int) = (n : Int) + 1 := by omega
      rw [this]; omega
    have ho2 : okO 1000000000000000000000000000000 0 (os ++ [(b, e)]) := okO_snoc2 ho (fun o m' => by
      by_cases z : n = 0
      · rw [h0 z] at m'; cases m'
      · have := hm o m'
        have := b1 (by omega)
        omega) (by omega) be (by omega)
    obtain ⟨a2, k2, os2, t3, y3, y6, e2, w2, l2, ho3, s3⟩ := or_loop m (n + 1) a1 k1 N (os ++ [(b, e)]) e (some (.int (n : Int), false)) (some (.int b, false)) w1 (by omega) (by simp; omega) (fun z => absurd z (by omega)) (by omega) t2 ho2 (fun o m' => by
      rcases List.mem_append.mp m' with m' | m'
      · have := hm o m'; omega
      · rw [List.mem_singleton] at m'; subst m'; exact Int.le_refl _) (.inr ⟨b, rfl⟩)
    refine ⟨a2, k2, os2, t3, y3, y6, ?_, w2, by omega, ho3, s3⟩
    rw [rngD, show (n : Int) + 1 = ((n + 1 : Nat) : Int) by omega, ← e2]
    exact forLoop_step (Γ1 := ouG (wl a c k) os t (some (.int (n : Int), false)) x6) (by simp [DV.SC, DV.SE, DV.SX]) e1
theorem okB_os (n : Nat) (os : List (Int × Int)) : okB (n + 2) (osD os) = true := by
  simp only [osD, okB, List.all_eq_true, List.mem_map]
  rintro d ⟨s, _, rfl⟩
  simp [okB]
theorem out_told (os : List (Int × Int)) (hT : OkT os) (hl : os.length ≤ 50) (W : D) (t : Int) (y3 y6 : Sl) (s : Six y6) : ev fsOu (.comp [6, 7] (.tp [.nm 6, .nm 7]) .seq [.var 1] [] (.bin .add (.bin .add (.bin .add (.cst (.str (Str.ofString "outage "))) (.sem (DV.uniF (.var 6) DV.strD))) (.cst (.str SP))) (.sem (DV.uniF (.var 7) DV.strD)))) [some (W, true), some (osD os, true), some (.int t, false), y3, none, none, y6, none] = some (.nw (.lst ((os.map oS).map D.str)), [some (W, true), some (osD os, false), some (.int t, false), y3, none, none, y6, none]) := by
  refine comp_gen3 (ds := os.map oD) (G := [some (W, true), some (osD os, false), some (.int t, false), y3, none, none, none, none]) (by simp [DV.SC, DV.SE, DV.SX]) rfl (by rcases s with rfl | ⟨b, rfl⟩ <;> rfl) rfl (by simp; omega) (by rcases s with rfl | ⟨b, rfl⟩ <;> rfl) ?_
  have lp := cl_pairs3 (fs := fsOu) (u := 6) (v := 7) (elt := .bin .add (.bin .add (.bin .add (.cst (.str (Str.ofString "outage "))) (.sem (DV.uniF (.var 6) DV.strD))) (.cst (.str SP))) (.sem (DV.uniF (.var 7) DV.strD))) (Γ := [some (W, true), some (osD os, false), some (.int t, false), y3, none, none, none, none]) rfl rfl (by decide) (os.map fun o => (((.int o.1 : D), (.int o.2 : D)), (D.str (oS o)))) [] ?_
  · rw [← pairs_of, List.map_map] at lp
    rw [lp, List.map_map]
    rfl
  · intro p m
    obtain ⟨o, mo, rfl⟩ := List.mem_map.mp m
    have b := hT o mo
    have f1 := str_int b.1 b.2.2.1
    have f2 := str_int b.2.1 b.2.2.2
    have l1 := numS_len (big40 b.2.2.1)
    have l2 := numS_len (big40 b.2.2.2)
    have q := len_sp
    have q2 := len_nm.2.2
    have z1 : (Str.ofString "outage ").length + (numS o.1.toNat).length ≤ sizeLine := Nat.le_trans (show _ ≤ 100 by omega) (by decide)
    have z2 : (Str.ofString "outage " ++ numS o.1.toNat).length + SP.length ≤ sizeLine := Nat.le_trans (show _ ≤ 100 by rw [app_len]; omega) (by decide)
    have z3 : (Str.ofString "outage " ++ numS o.1.toNat ++ SP).length + (numS o.2.toNat).length ≤ sizeLine := Nat.le_trans (show _ ≤ 100 by rw [app_len, app_len]; omega) (by decide)
    have lo := lineop o.1.toNat o.2.toNat
    have g1 : ev fsOu (.sem (DV.uniF (.var 6) DV.strD)) [some (W, true), some (osD os, false), some (.int t, false), y3, none, none, some (.int o.1, false), some (.int o.2, false)] = some (.fz (.str (numS o.1.toNat)), [some (W, true), some (osD os, false), some (.int t, false), y3, none, none, some (.int o.1, false), some (.int o.2, false)]) := by rw [ev_uni]; simp [DV.SC, DV.SE, DV.SX, f1]
    have g2 : ev fsOu (.sem (DV.uniF (.var 7) DV.strD)) [some (W, true), some (osD os, false), some (.int t, false), y3, none, none, some (.int o.1, false), some (.int o.2, false)] = some (.fz (.str (numS o.2.toNat)), [some (W, true), some (osD os, false), some (.int t, false), y3, none, none, some (.int o.1, false), some (.int o.2, false)]) := by rw [ev_uni]; simp [DV.SC, DV.SE, DV.SX, f2]
    show ev fsOu _ [some (W, true), some (osD os, false), some (.int t, false), y3, none, none, some (.int o.1, false), some (.int o.2, false)] = some (.fz (.str (oS o)), [some (W, true), some (osD os, false), some (.int t, false), y3, none, none, some (.int o.1, false), some (.int o.2, false)])
    have b1 := ev_bin (o := .add) (ev_cst fsOu (.str (Str.ofString "outage ")) [some (W, true), some (osD os, false), some (.int t, false), y3, none, none, some (.int o.1, false), some (.int o.2, false)]) g1 rfl rfl (r := .fz (.str (Str.ofString "outage " ++ numS o.1.toNat))) (by simp only [binD, if_pos z1])
    have b2 := ev_bin (o := .add) b1 (ev_cst fsOu (.str SP) _) rfl rfl (r := .fz (.str (Str.ofString "outage " ++ numS o.1.toNat ++ SP))) (by simp only [binD, if_pos z2])
    exact ev_bin (o := .add) b2 g2 rfl rfl (by simp only [binD, if_pos z3, lo])
theorem outages_right_ok (a : Int) {c k : Int} {N : Nat} (w : Wl c k (N + 30)) : ∃ a' k', F__law_outages_right [some (wl a c k, true)] = some (.fz (.bl true), [some (wl a' c k', true)]) ∧ Wl c k' N := by
  have bb := BB_big
  obtain ⟨q, a1, k1, e1, q0, q1, w1⟩ := next_ok a (N := N + 29) w (m := 7) (by omega) (by omega)
  obtain ⟨m, rfl⟩ : ∃ m : Nat, q = m := ⟨q.toNat, by omega⟩
  obtain ⟨a2, k2, os, t, y3, y6, lp, w2, l2, ho, s6⟩ := or_loop m 0 a1 k1 N [] 0 none none (w1.le (by omega)) (by omega) (by simp) (fun _ => rfl) (by decide) (by simp) trivial (fun o m' => by cases m') (.inl rfl)
  have hT := okT_of ho
  have l50 : os.length ≤ 50 := by omega
  have td := out_told os hT l50 (wl a2 c k2) t y3 y6 s6
  have jn := joinD_ok (oS_ln hT) (by simp; omega)
  have f1 := format_out_ok ho l50
  have p1 := parse_out_ok ho l50
  have sk := outS_ok hT
  have nT : cmpD .ne (.str (outS os)) (.str (outS os)) = some false := cmp_ne_self (by simpa only [okB] using sk)
  have nO : cmpD .ne (osD os) (osD os) = some false := cmp_ne_self (okB_os 10 os)
  have qO : cmpD .eq (osD os) (osD os) = some true := cmp_eq_self (okB_os 10 os)
  have hn := fun Γ => rngN1 Γ m (by omega)
  have eo : outS os = Txt.join NL (os.map oS) := rfl
  rw [← eo] at jn
  have z16 : os.length < 16777216 := by omega
  refine ⟨a2, k2, ?_, w2⟩
  have td2 : ev fsOu (.sem (DV.uniF (.comp [6, 7] (.tp [.nm 6, .nm 7]) .seq [.var 1] [] (.bin .add (.bin .add (.bin .add (.cst (.str (Str.ofString "outage "))) (.sem (DV.uniF (.var 6) DV.strD))) (.cst (.str SP))) (.sem (DV.uniF (.var 7) DV.strD)))) (DV.joinD NL))) [some (wl a2 c k2, true), some (osD os, true), some (.int t, false), y3, none, none, y6, none] = some (.fz (.str (outS os)), [some (wl a2 c k2, true), some (osD os, false), some (.int t, false), y3, none, none, y6, none]) := by
    rw [ev_uni, td]
    generalize (os.map oS).map D.str = LS at *
    simp [DV.SC, DV.SE, DV.SX, jn]
  have lp0 : forLoop (.nm 3) (exs fsOu [0] B__law_outages_right_1) (rngD 0 1 m) [some (wl a1 c k1, true), some (.lst [], true), some (.int 0, false), none, none, none, none, none] = some (.nx [some (wl a2 c k2, true), some (osD os, true), some (.int t, false), y3, none, none, y6, none]) := lp
  generalize outS os = T at *
  have z17 : (os.map oD).length < 16777216 := by simpa using z16
  unfold osD at f1 p1 nO qO lp0 td2
  clear td lp
  generalize os.map oD = OL at *
  refine runF_by (o := .rt (.fz (.bl true)) [some (wl a2 c k2, true), some (.lst OL, false), some (.int t, false), y3, some (.str T, false), some (.lst OL, false), y6, none]) rfl (?_ : exs _ [0] _ [some (wl a c k, true), none, none, none, none, none, none, none] = _) rfl
  refine (exs_nx (Γ1 := [some (wl a c k, true), some (.lst [], true), none, none, none, none, none, none]) (by simp [DV.SC, DV.SE, DV.SX, sizeLine])).trans ?_
  refine (exs_nx (Γ1 := [some (wl a c k, true), some (.lst [], true), some (.int 0, false), none, none, none, none, none]) (by simp [DV.SC, DV.SE, DV.SX])).trans ?_
  refine (exs_nx (ex_for (Γ2 := [some (wl a1 c k1, true), some (.lst [], true), some (.int 0, false), none, none, none, none, none]) (ds := rngD 0 1 m) (by simp [DV.SC, DV.SE, DV.SX, e1, hn]) rfl lp0)).trans ?_
  refine (exs_nx (Γ1 := [some (wl a2 c k2, true), some (.lst OL, false), some (.int t, false), y3, some (.str T, false), none, y6, none]) (by rw [DV.ex.eq_6, td2]; simp [DV.SC, DV.SE, DV.SX])).trans ?_
  refine (exs_nx (Γ1 := [some (wl a2 c k2, true), some (.lst OL, false), some (.int t, false), y3, some (.str T, false), some (.lst OL, false), y6, none]) (by simp [DV.SC, DV.SE, DV.SX])).trans ?_
  refine (exs_nx (Γ1 := [some (wl a2 c k2, true), some (.lst OL, false), some (.int t, false), y3, some (.str T, false), some (.lst OL, false), y6, none]) (by simp [DV.SC, DV.SX, f1, nT, nO])).trans ?_
  refine (exs_nx (Γ1 := [some (wl a2 c k2, true), some (.lst OL, false), some (.int t, false), y3, some (.str T, false), some (.lst OL, false), y6, none]) (by simp [DV.SC, DV.SX, p1, nT, nO])).trans ?_
  refine (exs_nx (Γ1 := [some (wl a2 c k2, true), some (.lst OL, false), some (.int t, false), y3, some (.str T, false), some (.lst OL, false), y6, none]) (by simp [DV.SC, DV.SE, DV.SX, p1, z17, sizeLine])).trans ?_
  simp [DV.SC, DV.SX, p1, qO]

/-! ### the law -/
abbrev fsLw : List FS := [F__law_cell_at, F__law_source_of, F__law_one, F__law_specs, F__law_next, F_Row___init__, F_format_row, F_parse_row, F_Row___eq__, F_Row_breaker_list, F_Row_step_length, F_Row_phase_time, F__law_outages_right, F__law_same_right]
abbrev twG (S : D) (x1 x2 x3 x4 x5 x6 x7 x8 x9 x10 x11 : Sl) : Ct := [some (S, false), x1, x2, x3, x4, x5, x6, x7, x8, x9, x10, x11, none]
theorem row_0 : rowS [] 1 0 = Str.ofString "row 1 0" := by decide +kernel
theorem ok_0 : okR [] 1 0 := ⟨fun _ m => absurd m (by simp), by decide, by decide, by decide, by decide, by decide⟩
theorem lw_comp {s : Sp} (k : okS s) (S : D) (x1 x2 x3 x4 x5 x6 x7 x8 x10 x11 : Sl) : ev fsLw (.bin .add (.cst (.str (Str.ofString "breaker "))) (.sem (DV.uniF (.comp [12] (.nm 12) .seq [.var 9] [] (.sem (DV.uniF (.var 12) DV.strD))) (DV.joinD SP)))) (twG S x1 x2 x3 x4 x5 x6 x7 x8 (some (sD s, false)) x10 x11) = some (.fz (.str (bS s)), twG S x1 x2 x3 x4 x5 x6 x7 x8 (some (sD s, false)) x10 x11) := by
  obtain ⟨a, b, c, rfl, ha, hb, hc, en⟩ := bS_at k
  have cp := comp_mapX (fs := fsLw) (v := 12) (ik := .seq) (its := [.var 9]) (elt := .sem (DV.uniF (.var 12) DV.strD)) (ds := [.int a, .int b, .int c]) (fun d => match DV.strD d with | some x => x | none => .non) (Γ0 := twG S x1 x2 x3 x4 x5 x6 x7 x8 (some (sD ⟨a, b, c⟩, false)) x10 x11) (Γ := twG S x1 x2 x3 x4 x5 x6 x7 x8 (some (sD ⟨a, b, c⟩, false)) x10 x11) (by simp [DV.SC, DV.SE, DV.SX]) rfl (by simp) (fun d hd => by
    simp only [List.mem_cons, List.not_mem_nil, or_false] at hd
    rcases hd with rfl | rfl | rfl
    · exact ⟨.fz (.str (numS a)), by rw [ev_uni]; simp [DV.SC, DV.SE, DV.SX, str_nat ha], .inl (by rw [str_nat ha])⟩
    · exact ⟨.fz (.str (numS b)), by rw [ev_uni]; simp [DV.SC, DV.SE, DV.SX, str_nat hb], .inl (by rw [str_nat hb])⟩
    · exact ⟨.fz (.str (numS c)), by rw [ev_uni]; simp [DV.SC, DV.SE, DV.SX, str_nat hc], .inl (by rw [str_nat hc])⟩)
  simp only [List.map_cons, List.map_nil, str_nat ha, str_nat hb, str_nat hc] at cp
  have l1 := numS_len ha
  have l2 := numS_len hb
  have l3 := numS_len hc
  have q := len_sp
  have jn : DV.joinD SP (.lst [.str (numS a), .str (numS b), .str (numS c)]) = some (.str (Txt.join SP [numS a, numS b, numS c])) := by
    have : (([numS a, numS b, numS c] : List Str).map (·.length)).sum + ([numS a, numS b, numS c] : List Str).length * SP.length ≤ 16777216 := by
      simp only [List.map_cons, List.map_nil, List.sum_cons, List.sum_nil, List.length_cons, List.length_nil, q]
      omega
    simp only [DV.joinD, DV.strsD, Option.map_some, Option.bind_some, DV.joinS, if_pos this]
  have g1 : ev fsLw (.sem (DV.uniF (.comp [12] (.nm 12) .seq [.var 9] [] (.sem (DV.uniF (.var 12) DV.strD))) (DV.joinD SP))) (twG S x1 x2 x3 x4 x5 x6 x7 x8 (some (sD ⟨a, b, c⟩, false)) x10 x11) = some (.fz (.str (Txt.join SP [numS a, numS b, numS c])), twG S x1 x2 x3 x4 x5 x6 x7 x8 (some (sD ⟨a, b, c⟩, false)) x10 x11) := by
    rw [ev_uni, cp]
    simp only [Option.bind_some, datum, jn, Option.map_some]
  have ll : (Str.ofString "breaker ").length + (Txt.join SP [numS a, numS b, numS c]).length ≤ sizeLine := by
    rw [← app_len, line3j]
    have := ln_len nm_brk [a, b, c] (by simp [ha, hb, hc])
    exact Nat.le_trans (show _ ≤ 200 by simp at this; omega) (by decide)
  have e := line3j a b c
  rw [← en] at e
  exact ev_bin (o := .add) (ev_cst fsLw (.str (Str.ofString "breaker ")) _) g1 rfl rfl (by simp only [binD, if_pos ll, e])
theorem lw_loop (S : D) (x1 x2 x3 x4 x5 x6 x7 x10 x11 : Sl) : ∀ (t : List Sp) (l : List D) (x9 : Sl), (∀ s ∈ t, okS s) → l.length + t.length ≤ 1000 → ∃ y9, forLoop (.nm 9) (exs fsLw [] B_law_1) (t.map sD) (twG S x1 x2 x3 x4 x5 x6 x7 (some (.lst l, true)) x9 x10 x11) = some (.nx (twG S x1 x2 x3 x4 x5 x6 x7 (some (.lst (l ++ t.map fun s => .str (bS s)), true)) y9 x10 x11))
  | [], l, x9, _, _ => ⟨x9, by simp [forLoop]⟩
  | s :: t, l, x9, h, hl => by
    obtain ⟨y9, ih⟩ := lw_loop S x1 x2 x3 x4 x5 x6 x7 x10 x11 t (l ++ [.str (bS s)]) (some (sD s, false)) (fun u m => h u (List.mem_cons_of_mem _ m)) (by simp at hl ⊢; omega)
    refine ⟨y9, ?_⟩
    rw [List.map_cons, List.map_cons, show l ++ D.str (bS s) :: t.map (fun s => D.str (bS s)) = (l ++ [.str (bS s)]) ++ t.map (fun s => D.str (bS s)) by simp, ← ih]
    have e := lw_comp (h s List.mem_cons_self) S x1 x2 x3 x4 x5 x6 x7 (some (.lst l, true)) x10 x11
    have hz : l.length < 16777216 := by simp at hl; omega
    refine forLoop_step (Γ1 := twG S x1 x2 x3 x4 x5 x6 x7 (some (.lst l, true)) (some (sD s, false)) x10 x11) (by simp [DV.SC, DV.SE, DV.SX]) ?_
    unfold B_law_1
    generalize sD s = A at *
    have a : ex fsLw [] (.app 8 (.bin .add (.cst (.str (Str.ofString "breaker "))) (.sem (DV.uniF (.comp [12] (.nm 12) .seq [.var 9] [] (.sem (DV.uniF (.var 12) DV.strD))) (DV.joinD SP))))) (twG S x1 x2 x3 x4 x5 x6 x7 (some (.lst l, true)) (some (A, false)) x10 x11) = some (.nx (twG S x1 x2 x3 x4 x5 x6 x7 (some (.lst (l ++ [.str (bS s)]), true)) (some (A, false)) x10 x11)) := by
      have hz2 : l.length < sizeLine := hz
      have i1 : isLst (twG S x1 x2 x3 x4 x5 x6 x7 (some (.lst l, true)) (some (A, false)) x10 x11) 8 = true := rfl
      have i2 : (twG S x1 x2 x3 x4 x5 x6 x7 (some (.lst l, true)) (some (A, false)) x10 x11)[8]? = some (some (.lst l, true)) := rfl
      simp only [ex, i1, if_true, e, Option.bind_some, fre, i2, appD, if_pos hz2, Option.map_some]
      rfl
    exact exs_one a

theorem lw_8 (S : D) (x1 x2 x3 x4 x5 x6 x8 x9 x11 : Sl) {r : List Sp} {p h : Int} (k : okR r p h) : ex fsLw [] (.ite (.or (.cmp .ne (.call 6 [.var 7]) (.var 10)) (.cmp .ne (.callp 6 [0] [.var 7]) (.var 10))) [.ret (.cst (.bl false))] []) (twG S x1 x2 x3 x4 x5 x6 (some (RO r p h, false)) x8 x9 (some (.str (rowS r p h), false)) x11) = some (.nx (twG S x1 x2 x3 x4 x5 x6 (some (RO r p h, false)) x8 x9 (some (.str (rowS r p h), false)) x11)) := by
  have f := format_ok k
  have sk := rowS_ok k
  have nT : cmpD .ne (.str (rowS r p h)) (.str (rowS r p h)) = some false := cmp_ne_self (by simpa only [okB] using sk)
  generalize rowS r p h = T at *
  generalize RO r p h = O at *
  simp [DV.SC, DV.SX, f, nT]
theorem lw_9 (S : D) (x1 x2 x3 x4 x5 x6 x8 x9 x11 : Sl) {r : List Sp} {p h : Int} (k : okR r p h) : ex fsLw [] (.ite (.or (.own .ne 1 8 (.call 7 [.var 10]) (.var 7)) (.own .ne 1 8 (.callp 7 [0] [.var 10]) (.var 7))) [.ret (.cst (.bl false))] []) (twG S x1 x2 x3 x4 x5 x6 (some (RO r p h, false)) x8 x9 (some (.str (rowS r p h), false)) x11) = some (.nx (twG S x1 x2 x3 x4 x5 x6 (some (RO r p h, false)) x8 x9 (some (.str (rowS r p h), false)) x11)) := by
  have f := parse_ok k
  have q := row_eq_t r p h
  have o1 : isObj 1 (RO r p h) = true := rfl
  have iR : ∃ ks ds, RO r p h = .obj 1 ks ds := ⟨_, _, rfl⟩
  generalize rowS r p h = T at *
  generalize RO r p h = O at *
  obtain ⟨ks, ds, rfl⟩ := iR
  simp [DV.SC, DV.SE, DV.SX, f, q]
theorem lw_11 (S : D) (x1 x2 x3 x7 x8 x9 x10 : Sl) (r : List Sp) (p h : Int) : ex fsLw [] (.ite (.cmp .ne (.tup [.meth 1 "breaker_list" 9 (.var 11) [], .meth 1 "step_length" 10 (.var 11) [], .meth 1 "phase_time" 11 (.var 11) []]) (.tup [.var 4, .var 5, .var 6])) [.ret (.cst (.bl false))] []) (twG S x1 x2 x3 (some (spD r, false)) (some (.int p, false)) (some (.int h, false)) x7 x8 x9 x10 (some (RO r p h, false))) = some (.nx (twG S x1 x2 x3 (some (spD r, false)) (some (.int p, false)) (some (.int h, false)) x7 x8 x9 x10 (some (RO r p h, false)))) := by
  have b1 := bl_ok r p h false
  have b2 := sl_ok r p h false
  have b3 := ph_ok r p h false
  have n1 := hasF_no nof_bl r p h
  have n2 := hasF_no nof_sl r p h
  have n3 := hasF_no nof_ph r p h
  have o1 : isObj 1 (RO r p h) = true := rfl
  have q := cmp_ne_self (okB_facts r p h)
  refine ex_itf (ev_cmp (x := .fz (.tup [spD r, .int p, .int h])) (y := .fz (.tup [spD r, .int p, .int h])) (Γ1 := twG S x1 x2 x3 (some (spD r, false)) (some (.int p, false)) (some (.int h, false)) x7 x8 x9 x10 (some (RO r p h, false))) ?_ ?_ rfl rfl q)
  · generalize RO r p h = O at *
    generalize spD r = SD at *
    simp [DV.SC, DV.SE, DV.SX, b1, b2, b3, n1, n2, n3, o1, sizeLine]
  · generalize RO r p h = O at *
    generalize spD r = SD at *
    simp [DV.SC, DV.SE, DV.SX, sizeLine]
theorem ev_lst1 {fs : List FS} {e : DV.E} {d : D} {Γ Γ1 : Ct} (h : ev fs e Γ = some (.fz d, Γ1)) : ev fs (.lst [e]) Γ = some (.nw (.lst [d]), Γ1) := by
  have z : ([d] : List D).length ≤ sizeLine := by show 1 ≤ sizeLine; decide
  simp only [ev, evs, h, Option.bind_some, Option.map_some, fres, fre]
  rw [if_pos z]
theorem ex_asg_fz {fs : List FS} {pn : List Nat} {e : DV.E} {tg : Tg} {d : D} {Γ Γ1 Γ2 : Ct} (h : ev fs e Γ = some (.fz d, Γ1)) (hd : disjB (tgIx tg) pn = true) (ha : asgT tg d Γ1 = some Γ2) : ex fs pn (.asg tg e) Γ = some (.nx Γ2) := by
  simp only [ex, h, Option.bind_some, fre, if_pos hd, ha, Option.map_some]
theorem lw_5 (S : D) (x1 x2 x3 x4 x7 x8 x9 x10 x11 : Sl) {p h : Int} (p0 : 0 ≤ p) (p1 : p ≤ 1000000000000000000000000000000) (h0 : 0 ≤ h) (h1 : h ≤ 1000000000000000000000000000000) : ex fsLw [] (.asgO 8 (.lst [.bin .add (.bin .add (.bin .add (.cst (.str "row ")) (.sem (uniF (.var 5) strD))) (.cst (.str " "))) (.sem (uniF (.var 6) strD))])) (twG S x1 x2 x3 x4 (some (.int p, false)) (some (.int h, false)) x7 x8 x9 x10 x11) = some (.nx (twG S x1 x2 x3 x4 (some (.int p, false)) (some (.int h, false)) x7 (some (.lst [.str (lnS (Str.ofString "row") [p.toNat, h.toNat])], true)) x9 x10 x11)) := by
  have s1 := str_int p0 p1
  have s2 := str_int h0 h1
  have l1 := numS_len (big40 p1)
  have l2 := numS_len (big40 h1)
  have q := len_sp
  have q2 := len_nm.2.1
  have z1 : (Str.ofString "row ").length + (numS p.toNat).length ≤ sizeLine := Nat.le_trans (show _ ≤ 100 by omega) (by decide)
  have z2 : (Str.ofString "row " ++ numS p.toNat).length + SP.length ≤ sizeLine := Nat.le_trans (show _ ≤ 100 by rw [app_len]; omega) (by decide)
  have z3 : (Str.ofString "row " ++ numS p.toNat ++ SP).length + (numS h.toNat).length ≤ sizeLine := Nat.le_trans (show _ ≤ 100 by rw [app_len, app_len]; omega) (by decide)
  have lo := line2p p.toNat h.toNat
  have g1 : ev fsLw (.sem (DV.uniF (.var 5) DV.strD)) (twG S x1 x2 x3 x4 (some (.int p, false)) (some (.int h, false)) x7 x8 x9 x10 x11) = some (.fz (.str (numS p.toNat)), twG S x1 x2 x3 x4 (some (.int p, false)) (some (.int h, false)) x7 x8 x9 x10 x11) := by rw [ev_uni]; simp [DV.SC, DV.SE, DV.SX, s1]
  have g2 : ev fsLw (.sem (DV.uniF (.var 6) DV.strD)) (twG S x1 x2 x3 x4 (some (.int p, false)) (some (.int h, false)) x7 x8 x9 x10 x11) = some (.fz (.str (numS h.toNat)), twG S x1 x2 x3 x4 (some (.int p, false)) (some (.int h, false)) x7 x8 x9 x10 x11) := by rw [ev_uni]; simp [DV.SC, DV.SE, DV.SX, s2]
  have b1 := ev_bin (o := .add) (ev_cst fsLw (.str (Str.ofString "row ")) (twG S x1 x2 x3 x4 (some (.int p, false)) (some (.int h, false)) x7 x8 x9 x10 x11)) g1 rfl rfl (r := .fz (.str (Str.ofString "row " ++ numS p.toNat))) (by simp only [binD, if_pos z1])
  have b2 := ev_bin (o := .add) b1 (ev_cst fsLw (.str SP) _) rfl rfl (r := .fz (.str (Str.ofString "row " ++ numS p.toNat ++ SP))) (by simp only [binD, if_pos z2])
  have b3 := ev_bin (o := .add) b2 g2 rfl rfl (r := .fz (.str (lnS (Str.ofString "row") [p.toNat, h.toNat]))) (by simp only [binD, if_pos z3, lo])
  exact ex_asgO_nw (ev_lst1 b3) (by simp) rfl
theorem lw_cell (S : D) (cell : Int) {r' : List Sp} {p' h' : Int} (k' : okR r' p' h') (x3 x4 x5 x6 x7 x8 x9 x10 x11 : Sl) : ∃ r p h y3 y4 y5 y6 y7 y8 y9 y10 y11, okR r p h ∧ exs fsLw [] B_law_2 (twG S (some (.str (rowS r' p' h'), false)) (some (.int cell, false)) x3 x4 x5 x6 x7 x8 x9 x10 x11) = some (.nx (twG S (some (.str (rowS r p h), false)) (some (.int cell, false)) y3 y4 y5 y6 y7 y8 y9 y10 y11)) := by
  have bb := BB_big
  obtain ⟨a, c, e0, c0, c1⟩ := source_ok cell
  have w0 : Wl c 0 200 := ⟨c0, c1, by decide, by decide⟩
  obtain ⟨q1, a1, k1, e1, m1, w1⟩ := one_ok a (N := 199) w0 [.int 9, .int 1000000000000000000000000000000] true (by simp) (by simp)
  obtain ⟨q2, a2, k2, e2, m2, w2⟩ := one_ok a1 (N := 198) w1 [.int 5, .int 1000000000000] true (by simp) (by simp)
  obtain ⟨wd, rfl, wd0, wd1⟩ : ∃ wd : Int, q1 = .int wd ∧ 0 < wd ∧ wd ≤ 1000000000000000000000000000000 := by
    simp only [List.mem_cons, List.not_mem_nil, or_false] at m1
    rcases m1 with rfl | rfl <;> exact ⟨_, rfl, by decide, by decide⟩
  obtain ⟨mn, rfl, mn0, mn1⟩ : ∃ mn : Int, q2 = .int mn ∧ 0 < mn ∧ mn ≤ 1000000000000 := by
    simp only [List.mem_cons, List.not_mem_nil, or_false] at m2
    rcases m2 with rfl | rfl <;> exact ⟨_, rfl, by decide, by decide⟩
  obtain ⟨r, a3, k3, e3, w3, hl, hr⟩ := specs_ok a2 (N := 100) 12 wd mn (w2.le (by omega)) wd0 wd1 mn0 mn1 (by decide)
  obtain ⟨d4, r4, a4, k4, a5, k5, e4, e5, p0, p1, w5⟩ := pick1_ok a3 (N := 98) w3 [9, 1000000000000000000000000000000] 1000000000000000000000000000000 (by simp) (by simp) (by simp) (by omega)
  obtain ⟨d6, h, a6, k6, a7, k7, e6, e7, h0, h1, w7⟩ := pick1_ok a5 (N := 96) w5 [2, 1000000000000000000000000000000] 1000000000000000000000000000000 (by simp) (by simp) (by simp) (by omega)
  have ok : okR r (1 + r4) h := ⟨fun s m => (hr s m).1, by omega, by omega, by omega, h0, by omega⟩
  obtain ⟨a8, k8, e8, w8⟩ := outages_right_ok a7 (N := 0) (w7.le (by omega))
  simp only [List.map_cons, List.map_nil] at e4 e6
  have e3 : F__law_specs [some (wl a2 c k2, true), some (.int 12, false), some (.int wd, false), some (.int mn, false)] = some (.nw (spD r), [some (wl a3 c k3, true), some (.int 12, false), some (.int wd, false), some (.int mn, false)]) := e3
  have p30 : (10 : Int) ^ 30 = 1000000000000000000000000000000 := rfl
  have p12 : (10 : Int) ^ 12 = 1000000000000 := rfl
  generalize hp : 1 + r4 = p at *
  have wf := row_ok ok false
  have pk := parse_ok ok
  have sr := same_right_ok ok k'
  have t8 := lw_8 S (some (.str (rowS r' p' h'), false)) (some (.int cell, false)) (some (wl a7 c k7, true)) (some (spD r, false)) (some (.int p, false)) (some (.int h, false)) (some (.lst ((rowLines r p h).map D.str), true))
  have hpn := big40 ok.p1
  have hhn := big40 ok.h1
  have lk := ok.len
  have jn := joinD_ok (rowLines_ok ok) (by have := rowLines_len ok; omega)
  have el : (rowLines r p h).map D.str = [.str (lnS (Str.ofString "row") [p.toNat, h.toNat])] ++ r.map (fun s => .str (bS s)) := by
    simp only [rowLines, List.map_cons, List.map_map, List.singleton_append]
    rfl
  rw [show Txt.join NL (rowLines r p h) = rowS r p h from rfl] at jn
  obtain ⟨y9, lp⟩ := lw_loop S (some (.str (rowS r' p' h'), false)) (some (.int cell, false)) (some (wl a7 c k7, true)) (some (spD r, false)) (some (.int p, false)) (some (.int h, false)) (some (RO r p h, false)) x10 x11 r [.str (lnS (Str.ofString "row") [p.toNat, h.toNat])] x9 ok.sp (by simp; omega)
  rw [← el] at lp
  have t5 := lw_5 S (some (.str (rowS r' p' h'), false)) (some (.int cell, false)) (some (wl a7 c k7, true)) (some (spD r, false)) (some (RO r p h, false)) x8 x9 x10 x11 (p := p) (h := h) (by have := ok.p0; omega) ok.p1 ok.h0 ok.h1
  have t8 := lw_8 S (some (.str (rowS r' p' h'), false)) (some (.int cell, false)) (some (wl a7 c k7, true)) (some (spD r, false)) (some (.int p, false)) (some (.int h, false)) (some (.lst ((rowLines r p h).map D.str), true)) y9 x11 ok
  have t9 := lw_9 S (some (.str (rowS r' p' h'), false)) (some (.int cell, false)) (some (wl a7 c k7, true)) (some (spD r, false)) (some (.int p, false)) (some (.int h, false)) (some (.lst ((rowLines r p h).map D.str), true)) y9 x11 ok
  have t11 := lw_11 S (some (.str (rowS r' p' h'), false)) (some (.int cell, false)) (some (wl a7 c k7, true)) (some (RO r p h, false)) (some (.lst ((rowLines r p h).map D.str), true)) y9 (some (.str (rowS r p h), false)) r p h
  have iR : ∃ ks ds, RO r p h = .obj 1 ks ds := ⟨_, _, rfl⟩
  refine ⟨r, p, h, some (wl a8 c k8, true), some (spD r, false), some (.int p, false), some (.int h, false), some (RO r p h, false), some (.lst ((rowLines r p h).map D.str), true), y9, some (.str (rowS r p h), false), some (RO r p h, false), ok, ?_⟩
  clear el
  unfold spD at e3 wf lp t5 t8 t9 t11 ⊢
  generalize (rowLines r p h).map D.str = LS at *
  generalize rowS r p h = T at *
  generalize rowS r' p' h' = T' at *
  generalize RO r p h = O at *
  obtain ⟨ks, ds, rfl⟩ := iR
  generalize r.map sD = SD at *
  unfold B_law_2
  refine (exs_nx (Γ1 := twG S (some (.str T', false)) (some (.int cell, false)) (some (wl a c 0, true)) x4 x5 x6 x7 x8 x9 x10 x11) (by simp [DV.SC, DV.SE, DV.SX, e0])).trans ?_
  refine (exs_nx (Γ1 := twG S (some (.str T', false)) (some (.int cell, false)) (some (wl a3 c k3, true)) (some (.lst SD, false)) x5 x6 x7 x8 x9 x10 x11) (by simp [DV.SC, DV.SE, DV.SX, p30, p12, e1, e2, e3, sizeLine])).trans ?_
  refine (exs_nx (Γ1 := twG S (some (.str T', false)) (some (.int cell, false)) (some (wl a5 c k5, true)) (some (.lst SD, false)) (some (.int p, false)) x6 x7 x8 x9 x10 x11) (by simp [DV.SC, DV.SE, DV.SX, p30, e4, e5, hp, sizeLine])).trans ?_
  refine (exs_nx (Γ1 := twG S (some (.str T', false)) (some (.int cell, false)) (some (wl a7 c k7, true)) (some (.lst SD, false)) (some (.int p, false)) (some (.int h, false)) x7 x8 x9 x10 x11) (by simp [DV.SC, DV.SE, DV.SX, p30, e6, e7, sizeLine])).trans ?_
  refine (exs_nx (Γ1 := twG S (some (.str T', false)) (some (.int cell, false)) (some (wl a7 c k7, true)) (some (.lst SD, false)) (some (.int p, false)) (some (.int h, false)) (some (.obj 1 ks ds, false)) x8 x9 x10 x11) (by simp [DV.SC, DV.SE, DV.SX, wf])).trans ?_
  refine (exs_nx t5).trans ?_
  refine (exs_nx (ex_for (Γ2 := twG S (some (.str T', false)) (some (.int cell, false)) (some (wl a7 c k7, true)) (some (.lst SD, false)) (some (.int p, false)) (some (.int h, false)) (some (.obj 1 ks ds, false)) (some (.lst [.str (lnS (Str.ofString "row") [p.toNat, h.toNat])], true)) x9 x10 x11) (ds := SD) (by simp [DV.SC, DV.SE, DV.SX]) rfl lp)).trans ?_
  refine (exs_nx (ex_asg_fz (d := .str T) (Γ1 := twG S (some (.str T', false)) (some (.int cell, false)) (some (wl a7 c k7, true)) (some (.lst SD, false)) (some (.int p, false)) (some (.int h, false)) (some (.obj 1 ks ds, false)) (some (.lst LS, true)) y9 x10 x11) (Γ2 := twG S (some (.str T', false)) (some (.int cell, false)) (some (wl a7 c k7, true)) (some (.lst SD, false)) (some (.int p, false)) (some (.int h, false)) (some (.obj 1 ks ds, false)) (some (.lst LS, true)) y9 (some (.str T, false)) x11) (by rw [ev_uni]; simp [DV.SC, DV.SE, DV.SX, jn]) rfl (by simp [DV.SC, DV.SE, DV.SX]))).trans ?_
  refine (exs_nx t8).trans ?_
  refine (exs_nx t9).trans ?_
  refine (exs_nx (Γ1 := twG S (some (.str T', false)) (some (.int cell, false)) (some (wl a7 c k7, true)) (some (.lst SD, false)) (some (.int p, false)) (some (.int h, false)) (some (.obj 1 ks ds, false)) (some (.lst LS, true)) y9 (some (.str T, false)) (some (.obj 1 ks ds, false))) (by simp [DV.SC, DV.SE, DV.SX, pk])).trans ?_
  refine (exs_nx t11).trans ?_
  refine (exs_nx (Γ1 := twG S (some (.str T', false)) (some (.int cell, false)) (some (wl a8 c k8, true)) (some (.lst SD, false)) (some (.int p, false)) (some (.int h, false)) (some (.obj 1 ks ds, false)) (some (.lst LS, true)) y9 (some (.str T, false)) (some (.obj 1 ks ds, false))) (by simp [DV.SC, DV.SE, DV.SX, e8, sr])).trans ?_
  exact exs_one (by simp [DV.SC, DV.SE, DV.SX])
theorem lw_cells (S : D) : ∀ (cs : List Int) (r' : List Sp) (p' h' : Int) (x2 x3 x4 x5 x6 x7 x8 x9 x10 x11 : Sl), okR r' p' h' → ∃ y1 y2 y3 y4 y5 y6 y7 y8 y9 y10 y11, forLoop (.nm 2) (exs fsLw [] B_law_2) (cs.map D.int) (twG S (some (.str (rowS r' p' h'), false)) x2 x3 x4 x5 x6 x7 x8 x9 x10 x11) = some (.nx (twG S y1 y2 y3 y4 y5 y6 y7 y8 y9 y10 y11))
  | [], r', p', h', x2, x3, x4, x5, x6, x7, x8, x9, x10, x11, _ => ⟨some (.str (rowS r' p' h'), false), x2, x3, x4, x5, x6, x7, x8, x9, x10, x11, by simp only [List.map_nil, forLoop]⟩
  | c :: cs, r', p', h', x2, x3, x4, x5, x6, x7, x8, x9, x10, x11, k' => by
    obtain ⟨r, p, h, z3, z4, z5, z6, z7, z8, z9, z10, z11, ok, e1⟩ := lw_cell S c k' x3 x4 x5 x6 x7 x8 x9 x10 x11
    obtain ⟨y1, y2, y3, y4, y5, y6, y7, y8, y9, y10, y11, e2⟩ := lw_cells S cs r p h (some (.int c, false)) z3 z4 z5 z6 z7 z8 z9 z10 z11 ok
    refine ⟨y1, y2, y3, y4, y5, y6, y7, y8, y9, y10, y11, ?_⟩
    rw [List.map_cons, ← e2]
    exact forLoop_step (Γ1 := twG S (some (.str (rowS r' p' h'), false)) (some (.int c, false)) x3 x4 x5 x6 x7 x8 x9 x10 x11) (by simp [DV.SC, DV.SE, DV.SX]) e1
theorem cut_scr63 (ns : List Int) (lo hi : Nat) : ∃ cs : List Int, cutD (ns.map D.int) (some (lo : Int)) (some (hi : Int)) = cs.map D.int ∧ cs.length ≤ hi := by
  unfold cutD
  rw [HT.sIx_nat, HT.sIx_nat, ← List.map_drop, ← List.map_take]
  exact ⟨_, rfl, by rw [List.length_take]; omega⟩
theorem law_true (ns : List Int) (hl : ns.length ≤ 63) (hb : ∀ z ∈ ns, Builtin.Int.intBits z ≤ 1048576) : ∃ os, F_law [some (.scr ns, false)] = some (.fz (.bl true), os) := by
  obtain ⟨c0, e0⟩ := cell_at_ok ns
  obtain ⟨cs, e1, l1⟩ := cut_scr63 ns 1 6
  obtain ⟨y1, y2, y3, y4, y5, y6, y7, y8, y9, y10, y11, e⟩ := lw_cells (.scr ns) (c0 :: cs) [] 1 0 none none none none none none none none none none ok_0
  rw [row_0] at e
  refine ⟨[some (.scr ns, false)], ?_⟩
  refine runF_by (o := .rt (.fz (.bl true)) (twG (.scr ns) y1 y2 y3 y4 y5 y6 y7 y8 y9 y10 y11)) rfl (?_ : exs _ [] _ (twG (.scr ns) none none none none none none none none none none none) = _) rfl
  refine (exs_nx (Γ1 := twG (.scr ns) (some (.str (Str.ofString "row 1 0"), false)) none none none none none none none none none none) (by simp [DV.SC, DV.SE, DV.SX])).trans ?_
  refine (exs_nx (ex_for (Γ2 := twG (.scr ns) (some (.str (Str.ofString "row 1 0"), false)) none none none none none none none none none none) (ds := (c0 :: cs).map D.int) ?_ rfl e)).trans (by simp [DV.SC, DV.SE, DV.SX])
  have e1 : cutD (ns.map D.int) (some 1) (some 6) = cs.map D.int := e1
  have hz : 1 + cs.length ≤ 16777216 := by omega
  have hz2 : cs.length + 1 ≤ 16777216 := by omega
  simp [DV.SC, DV.SE, DV.SX, e0, e1, hz, hz2, sizeLine, Nat.add_comm]

end L
open PySem PySem.W PyProof.Rows
set_option maxHeartbeats 0 in
theorem PySem.Challenge.cw_breakerrow_k63_texts_of_rows_and_outages_holds : PySem.Challenge.rw_breakerrow_k63_texts_of_rows_and_outages.Holds := by
  refine L_top ?_
  k_fill
  refine L2.walk_ofB (l := PySem.Challenge.rw_breakerrow_k63_texts_of_rows_and_outages) (n := 63) (k := 14) (x := "_law_script") (CX := fun _ => L2.CX0) (sp := fun w => DV.spN _ L.F_law) rfl (by decide) rfl ⟨rfl, by decide, by decide⟩ (fun w h Y => PySem.W.kIn_of Y) ?F (fun _ H a ns hl hb _ hS => DV.sp_lawN (L.law_true ns hl hb).choose_spec hS) (fun _ _ _ _ _ h => h)
  case F =>
    intro w mg fa h KX G hmg
    refine' L.all_mk KX G hmg ?aC1 ?aC8 ?aC9 ?aC13 ?aC17 ?a0 ?l0 ?e0 ?k0 ?a1 ?l1 ?e1 ?k1 ?a2 ?l2 ?e2 ?k2 ?a3 ?l3 ?e3 ?k3 ?a4 ?l4 ?e4 ?k4 ?a5 ?l5 ?e5 ?k5 ?a6 ?l6 ?e6 ?k6 ?a7 ?l7 ?e7 ?k7 ?a8 ?l8 ?e8 ?k8 ?a9 ?i9 ?l9 ?e9 ?k9 ?d9 ?a10 ?i10 ?l10 ?e10 ?k10 ?a11 ?i11 ?l11 ?e11 ?k11 ?a12 ?i12 ?l12 ?e12 ?k12 ?a13 ?l13 ?e13 ?k13 ?a14 ?l14 ?e14 ?k14 ?a15 ?l15 ?e15 ?k15 ?a16 ?l16 ?e16 ?k16 ?a17 ?l17 ?e17 ?k17 ?a18 ?i18 ?l18 ?e18 ?k18 ?a19 ?i19 ?l19 ?e19 ?k19 ?a20 ?l20 ?e20 ?k20 ?a21 ?l21 ?e21 ?k21 ?a22 ?l22 ?e22 ?k22 ?a23 ?l23 ?e23 ?k23 ?a24 ?l24 ?e24 ?k24 ?a25 ?i25 ?l25 ?e25 ?ti25 ?k25 ?a26 ?l26 ?e26 ?k26 ?a27 ?i27 ?l27 ?e27 ?ti27 ?k27 ?a28 ?l28 ?e28 ?k28 ?a29 ?i29 ?l29 ?e29 ?k29 ?d29 ?a30 ?l30 ?e30 ?k30 ?a31 ?l31 ?e31 ?k31 ?a32 ?l32 ?e32 ?k32 ?a33 ?l33 ?e33 ?k33 ?a34 ?l34 ?e34 ?k34 ?z_all ?z_bool ?z_enumerate ?z_int ?z_isinstance ?z_len ?z_list ?z_range ?z_str ?z_tuple ?g_MOST_BREAKERS ?g_MOST_COUNT ?g_MOST_WAIT ?g_MOST_OUTAGES ?g_MOST_END ?pg1 ?hd1 ?po1 ?sa1 ?ha1 ?hn1 ?ht1 ?hm1 ?nf1_NoneType ?nf1_bool ?nf1_int ?nf1_str ?nf1_list ?nf1_tuple ?nf1_dict ?na_Row_specs ?na_Row_pace ?na_Row_shift ?ic1 ?ty1 ?ne_Row ?sn1_str ?qin17 ?qov17 ?qhd17 ?qsa17 ?qsb17 ?qty17 ?qkc17 ?qtg8 ?qrd8 ?qat8 ?tx_InvalidText_line ?tx_InvalidText_word ?qin9 ?qov9 ?qhd9 ?qsa9 ?qsb9 ?qty9 ?qkc9 ?tx_InvalidRow_part ?tx_InvalidRow_at ?xm_InvalidIndex_BreakerError ?xm_InvalidRow_BreakerError ?xm_InvalidText_BreakerError ?mk1 ?kc1
    (case aC1 => k_is)
    (case aC8 => k_is)
    (case aC9 => k_is)
    (case aC13 => k_is)
    (case aC17 => k_is)
    (case a0 => k_is)
    (case l0 => k_is)
    (case e0 => k_is)
    (case k0 => k_is)
    (case a1 => k_is)
    (case l1 => k_is)
    (case e1 => k_is)
    (case k1 => k_is)
    (case a2 => k_is)
    (case l2 => k_is)
    (case e2 => k_is)
    (case k2 => k_is)
    (case a3 => k_is)
    (case l3 => k_is)
    (case e3 => k_is)
    (case k3 => k_is)
    (case a4 => k_is)
    (case l4 => k_is)
    (case e4 => k_is)
    (case k4 => k_is)
    (case a5 => k_is)
    (case l5 => k_is)
    (case e5 => k_is)
    (case k5 => k_is)
    (case a6 => k_is)
    (case l6 => k_is)
    (case e6 => k_is)
    (case k6 => k_is)
    (case a7 => k_is)
    (case l7 => k_is)
    (case e7 => k_is)
    (case k7 => k_is)
    (case a8 => k_is)
    (case l8 => k_is)
    (case e8 => k_is)
    (case k8 => k_is)
    (case a9 => k_is)
    (case i9 => k_is)
    (case l9 => k_is)
    (case e9 => k_is)
    (case k9 => k_is)
    (case d9 => k_is)
    (case a10 => k_is)
    (case i10 => k_is)
    (case l10 => k_is)
    (case e10 => k_is)
    (case k10 => k_is)
    (case a11 => k_is)
    (case i11 => k_is)
    (case l11 => k_is)
    (case e11 => k_is)
    (case k11 => k_is)
    (case a12 => k_is)
    (case i12 => k_is)
    (case l12 => k_is)
    (case e12 => k_is)
    (case k12 => k_is)
    (case a13 => k_is)
    (case l13 => k_is)
    (case e13 => k_is)
    (case k13 => k_is)
    (case a14 => k_is)
    (case l14 => k_is)
    (case e14 => k_is)
    (case k14 => k_is)
    (case a15 => k_is)
    (case l15 => k_is)
    (case e15 => k_is)
    (case k15 => k_is)
    (case a16 => k_is)
    (case l16 => k_is)
    (case e16 => k_is)
    (case k16 => k_is)
    (case a17 => k_is)
    (case l17 => k_is)
    (case e17 => k_is)
    (case k17 => k_is)
    (case a18 => k_is)
    (case i18 => k_is)
    (case l18 => k_is)
    (case e18 => k_is)
    (case k18 => k_is)
    (case a19 => k_is)
    (case i19 => k_is)
    (case l19 => k_is)
    (case e19 => k_is)
    (case k19 => k_is)
    (case a20 => k_is)
    (case l20 => k_is)
    (case e20 => k_is)
    (case k20 => k_is)
    (case a21 => k_is)
    (case l21 => k_is)
    (case e21 => k_is)
    (case k21 => k_is)
    (case a22 => k_is)
    (case l22 => k_is)
    (case e22 => k_is)
    (case k22 => k_is)
    (case a23 => k_is)
    (case l23 => k_is)
    (case e23 => k_is)
    (case k23 => k_is)
    (case a24 => k_is)
    (case l24 => k_is)
    (case e24 => k_is)
    (case k24 => k_is)
    (case a25 => k_is)
    (case i25 => k_is)
    (case l25 => k_is)
    (case e25 => k_is)
    (case ti25 => k_is)
    (case k25 => k_is)
    (case a26 => k_is)
    (case l26 => k_is)
    (case e26 => k_is)
    (case k26 => k_is)
    (case a27 => k_is)
    (case i27 => k_is)
    (case l27 => k_is)
    (case e27 => k_is)
    (case ti27 => k_is)
    (case k27 => k_is)
    (case a28 => k_is)
    (case l28 => k_is)
    (case e28 => k_is)
    (case k28 => k_is)
    (case a29 => k_is)
    (case i29 => k_is)
    (case l29 => k_is)
    (case e29 => k_is)
    (case k29 => k_is)
    (case d29 => k_is)
    (case a30 => k_is)
    (case l30 => k_is)
    (case e30 => k_is)
    (case k30 => k_is)
    (case a31 => k_is)
    (case l31 => k_is)
    (case e31 => k_is)
    (case k31 => k_is)
    (case a32 => k_is)
    (case l32 => k_is)
    (case e32 => k_is)
    (case k32 => k_is)
    (case a33 => k_is)
    (case l33 => k_is)
    (case e33 => k_is)
    (case k33 => k_is)
    (case a34 => k_is)
    (case l34 => k_is)
    (case e34 => k_is)
    (case k34 => k_is)
    (case z_all => k_is)
    (case z_bool => k_is)
    (case z_enumerate => k_is)
    (case z_int => k_is)
    (case z_isinstance => k_is)
    (case z_len => k_is)
    (case z_list => k_is)
    (case z_range => k_is)
    (case z_str => k_is)
    (case z_tuple => k_is)
    (case g_MOST_BREAKERS => k_is)
    (case g_MOST_COUNT => k_is)
    (case g_MOST_WAIT => k_is)
    (case g_MOST_OUTAGES => k_is)
    (case g_MOST_END => k_is)
    (case pg1 => k_is)
    (case hd1 => k_is)
    (case po1 => k_is)
    (case sa1 => k_is)
    (case ha1 => k_is)
    (case hn1 => k_is)
    (case ht1 => k_is)
    (case hm1 => k_is)
    (case nf1_NoneType => k_is)
    (case nf1_bool => k_is)
    (case nf1_int => k_is)
    (case nf1_str => k_is)
    (case nf1_list => k_is)
    (case nf1_tuple => k_is)
    (case nf1_dict => k_is)
    (case na_Row_specs => k_is)
    (case na_Row_pace => k_is)
    (case na_Row_shift => k_is)
    (case ic1 => k_is)
    (case ty1 => k_is)
    (case ne_Row => k_is)
    (case sn1_str => k_is)
    (case qin17 => kx_is)
    (case qov17 => kx_is)
    (case qhd17 => k_is)
    (case qsa17 => k_is)
    (case qsb17 => k_is)
    (case qty17 => k_is)
    (case qkc17 => k_is)
    (case qtg8 => k_is)
    (case qrd8 => k_is)
    (case qat8 => k_is)
    (case tx_InvalidText_line => k_is)
    (case tx_InvalidText_word => k_is)
    (case qin9 => kx_is)
    (case qov9 => kx_is)
    (case qhd9 => k_is)
    (case qsa9 => k_is)
    (case qsb9 => k_is)
    (case qty9 => k_is)
    (case qkc9 => k_is)
    (case tx_InvalidRow_part => k_is)
    (case tx_InvalidRow_at => k_is)
    (case xm_InvalidIndex_BreakerError => kernel_rfl)
    (case xm_InvalidRow_BreakerError => kernel_rfl)
    (case xm_InvalidText_BreakerError => kernel_rfl)
    (case mk1 => k_is)
    (case kc1 => k_is)
