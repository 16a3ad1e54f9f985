import PyProof.Rows.All
import Wide.All
import OpenK.AllK
import Wide.FinOn
import HandS.ForMost
import HandS.ForExc
import HandS.CallSlots
import HandS.IsInst
import HandS.Deep
import HandS.Wide
import HandS.TupAny
import HandS.Small
import HandS.Finally
import HandS.Flow
import HandS.RevRange
import KE.BitLaws
import KE.OsArith
import PySem.Challenge.RW_ringheaps_k01_words_told
import PyProof.FitsReplace
import HandS.EndBits
set_option Elab.async false
set_option linter.all false
set_option maxRecDepth 100000
set_option maxHeartbeats 4000000
/-! VMA: data as trees, the slots of a frame, how they stand for the heap -/
namespace VM
open PySem PySem.Spec PyProof.Rows L2

/-- data, without addresses -/
inductive D where
  | non | bl (b : Bool) | int (i : Int) | str (s : Str)
  | tup (xs : List D) | lst (xs : List D) | frl (xs : List D) | frt (xs : List D)
  | dic (kvs : List (Key × D)) | dit (kvs : List (List Key × D))
  | ins (c : Str) (fs : List (Str × D))
  | fn (x : Str) | ty (n : String) | cls (c : Str)
  | exc (c : Str) (d : D)

instance : Inhabited D := ⟨.non⟩

/-- what the proof knows of the program's top: the written part, the classes and the defs by name -/
structure Gi where
  K : PySem.W.Frag
  cls : Str → Option Addr
  fns : Str → Option Addr

/-- v stands for d, all of it in H -/
inductive Rep (G : Gi) (H : Hp) : V → D → Prop
  | non : Rep G H .non .non
  | bl {b : Bool} : Rep G H (.bl b) (.bl b)
  | int {i : Int} : Rep G H (.int i) (.int i)
  | str {s : Str} : Rep G H (.str s) (.str s)
  | tup {p : Addr} {vs : List V} {ds : List D} (h : H p = some (.tup vs)) (l : vs.length = ds.length)
      (r : ∀ (i : Nat) (v : V) (d : D), vs[i]? = some v → ds[i]? = some d → Rep G H v d) : Rep G H (.ref p) (.tup ds)
  | frt {p : Addr} {vs : List V} {ds : List D} (h : SqT G.K H p vs) (l : vs.length = ds.length)
      (r : ∀ (i : Nat) (v : V) (d : D), vs[i]? = some v → ds[i]? = some d → Rep G H v d) : Rep G H (.ref p) (.frt ds)
  | lst {p : Addr} {vs : List V} {ds : List D} (h : H p = some (.lst vs)) (l : vs.length = ds.length)
      (r : ∀ (i : Nat) (v : V) (d : D), vs[i]? = some v → ds[i]? = some d → Rep G H v d) : Rep G H (.ref p) (.lst ds)
  | frl {p : Addr} {vs : List V} {ds : List D} (h : SqL G.K H p vs) (l : vs.length = ds.length)
      (r : ∀ (i : Nat) (v : V) (d : D), vs[i]? = some v → ds[i]? = some d → Rep G H v d) : Rep G H (.ref p) (.frl ds)
  | dic {p : Addr} {kvs : List (Key × V)} {kds : List (Key × D)} (h : Rd H p (.dK kvs)) (l : kvs.map (·.1) = kds.map (·.1))
      (r : ∀ (i : Nat) (a : Key × V) (b : Key × D), kvs[i]? = some a → kds[i]? = some b → Rep G H a.2 b.2) : Rep G H (.ref p) (.dic kds)
  | dit {p : Addr} {kvs : List (List Key × V)} {kds : List (List Key × D)} (h : Rd H p (.dT kvs)) (l : kvs.map (·.1) = kds.map (·.1))
      (r : ∀ (i : Nat) (a : List Key × V) (b : List Key × D), kvs[i]? = some a → kds[i]? = some b → Rep G H a.2 b.2) : Rep G H (.ref p) (.dit kds)
  | ins {a C dx : Addr} {c : Str} {fs : List (Str × V)} {fds : List (Str × D)} (h : H a = some (.ins C dx fs)) (hc : G.cls c = some C) (l : fs.map (·.1) = fds.map (·.1))
      (r : ∀ (i : Nat) (x : Str × V) (y : Str × D), fs[i]? = some x → fds[i]? = some y → Rep G H x.2 y.2) : Rep G H (.ref a) (.ins c fds)
  | fn {x : Str} {f : Addr} (h : G.fns x = some f) : Rep G H (.ref f) (.fn x)
  | ty {n : String} : Rep G H (.ty n) (.ty n)
  | cls {c : Str} {C : Addr} (h : G.cls c = some C) : Rep G H (.ref C) (.cls c)

theorem Rd.mono {H H' : Hp} (s : Same H H') {p : Addr} {o : HO} (h : Rd H p o) : Rd H' p o := by
  rcases h with h | ⟨q, h⟩
  · exact .inl (s _ _ h)
  · exact .inr ⟨q, s _ _ h⟩
theorem SqL.mono {K : PySem.W.Frag} {H H' : Hp} (s : Same H H') {p : Addr} {vs : List V} (h : SqL K H p vs) : SqL K H' p vs := by
  rcases h with h | h
  · exact .inl (Rd.mono s h)
  · exact .inr h
theorem SqT.mono {K : PySem.W.Frag} {H H' : Hp} (s : Same H H') {p : Addr} {vs : List V} (h : SqT K H p vs) : SqT K H' p vs := by
  rcases h with h | h
  · exact .inl (Rd.mono s h)
  · exact .inr h

theorem Rep.mono {G : Gi} {H H' : Hp} (s : Same H H') {v : V} {d : D} (h : Rep G H v d) : Rep G H' v d := by
  induction h with
  | non => exact .non
  | bl => exact .bl
  | int => exact .int
  | str => exact .str
  | tup h l _ ih => exact .tup (s _ _ h) l ih
  | frt h l _ ih => exact .frt (SqT.mono s h) l ih
  | lst h l _ ih => exact .lst (s _ _ h) l ih
  | frl h l _ ih => exact .frl (SqL.mono s h) l ih
  | dic h l _ ih => exact .dic (Rd.mono s h) l ih
  | dit h l _ ih => exact .dit (Rd.mono s h) l ih
  | ins h hc l _ ih => exact .ins (s _ _ h) hc l ih
  | fn h => exact .fn h
  | ty => exact .ty
  | cls h => exact .cls h

/-- lists, item by item -/
structure Reps (G : Gi) (H : Hp) (vs : List V) (ds : List D) : Prop where
  len : vs.length = ds.length
  at' : ∀ (i : Nat) (v : V) (d : D), vs[i]? = some v → ds[i]? = some d → Rep G H v d
theorem Reps.nil {G : Gi} {H : Hp} : Reps G H [] [] := ⟨rfl, fun i v d h => by simp at h⟩
theorem Reps.cons {G : Gi} {H : Hp} {v : V} {d : D} {vs : List V} {ds : List D} (h : Rep G H v d) (r : Reps G H vs ds) : Reps G H (v :: vs) (d :: ds) := by
  refine ⟨by simp [r.len], fun i w e h1 h2 => ?_⟩
  cases i with
  | zero => simp at h1 h2; subst h1; subst h2; exact h
  | succ i => simp at h1 h2; exact r.at' i w e h1 h2
theorem Reps.inv {G : Gi} {H : Hp} {v : V} {d : D} {vs : List V} {ds : List D} (r : Reps G H (v :: vs) (d :: ds)) : Rep G H v d ∧ Reps G H vs ds :=
  ⟨r.at' 0 v d rfl rfl, by have := r.len; simpa using this, fun i w e h1 h2 => r.at' (i + 1) w e (by simpa using h1) (by simpa using h2)⟩
theorem Reps.mono {G : Gi} {H H' : Hp} (s : Same H H') {vs : List V} {ds : List D} (r : Reps G H vs ds) : Reps G H' vs ds := ⟨r.len, fun i v d h1 h2 => (r.at' i v d h1 h2).mono s⟩
theorem Reps.append {G : Gi} {H : Hp} : ∀ {vs ws : List V} {ds es : List D}, Reps G H vs ds → Reps G H ws es → Reps G H (vs ++ ws) (ds ++ es)
  | [], ws, [], es, _, q => q
  | [], ws, d :: ds, es, r, _ => by have := r.len; simp at this
  | v :: vs, ws, [], es, r, _ => by have := r.len; simp at this
  | v :: vs, ws, d :: ds, es, r, q => .cons r.inv.1 (Reps.append r.inv.2 q)
theorem Reps.get {G : Gi} {H : Hp} {vs : List V} {ds : List D} (r : Reps G H vs ds) {i : Nat} {d : D} (h : ds[i]? = some d) : ∃ v, vs[i]? = some v ∧ Rep G H v d := by
  have hl : i < vs.length := by rw [r.len]; exact (List.getElem?_eq_some_iff.mp h).1
  exact ⟨vs[i], List.getElem?_eq_getElem hl, r.at' i _ _ (List.getElem?_eq_getElem hl) h⟩
theorem Reps.get' {G : Gi} {H : Hp} {vs : List V} {ds : List D} (r : Reps G H vs ds) {i : Nat} {v : V} (h : vs[i]? = some v) : ∃ d, ds[i]? = some d ∧ Rep G H v d := by
  have hl : i < ds.length := by rw [← r.len]; exact (List.getElem?_eq_some_iff.mp h).1
  exact ⟨ds[i], List.getElem?_eq_getElem hl, r.at' i _ _ h (List.getElem?_eq_getElem hl)⟩
theorem Reps.set {G : Gi} {H : Hp} {vs : List V} {ds : List D} (r : Reps G H vs ds) (i : Nat) {v : V} {d : D} (h : Rep G H v d) : Reps G H (vs.set i v) (ds.set i d) := by
  refine ⟨by simp [r.len], fun j w e h1 h2 => ?_⟩
  by_cases hj : i = j
  · subst hj
    have l1 : i < vs.length := by have := (List.getElem?_eq_some_iff.mp h1).1; simpa using this
    have l2 : i < ds.length := by have := (List.getElem?_eq_some_iff.mp h2).1; simpa using this
    rw [List.getElem?_set_self l1] at h1
    rw [List.getElem?_set_self l2] at h2
    cases h1; cases h2; exact h
  · rw [List.getElem?_set_ne hj] at h1 h2
    exact r.at' j w e h1 h2
theorem Reps.take {G : Gi} {H : Hp} {vs : List V} {ds : List D} (r : Reps G H vs ds) (n : Nat) : Reps G H (vs.take n) (ds.take n) := by
  refine ⟨by simp [r.len], fun j w e h1 h2 => ?_⟩
  rw [List.getElem?_take] at h1 h2
  split at h1
  · rename_i hj
    rw [if_pos hj] at h2
    exact r.at' j w e h1 h2
  · cases h1
theorem Reps.drop {G : Gi} {H : Hp} {vs : List V} {ds : List D} (r : Reps G H vs ds) (n : Nat) : Reps G H (vs.drop n) (ds.drop n) := by
  refine ⟨by simp [r.len], fun j w e h1 h2 => ?_⟩
  rw [List.getElem?_drop] at h1 h2
  exact r.at' _ w e h1 h2
theorem Reps.ofMap {G : Gi} {H : Hp} {α : Type} {f : α → V} {g : α → D} (h : ∀ a, Rep G H (f a) (g a)) (l : List α) : Reps G H (l.map f) (l.map g) := by
  refine ⟨by simp, fun i v d h1 h2 => ?_⟩
  rw [List.getElem?_map] at h1 h2
  cases e : l[i]? with
  | none => rw [e] at h1; cases h1
  | some a => rw [e] at h1 h2; cases h1; cases h2; exact h a

/-- the content o stands for d's top, what is below in Hf -/
def TopO (G : Gi) (Hf : Hp) (o : HO) : D → Prop
  | .lst ds => ∃ vs, o = .lst vs ∧ Reps G Hf vs ds
  | .dic kds => ∃ kvs : List (Key × V), o = .dK kvs ∧ kvs.map (·.1) = kds.map (·.1) ∧ Reps G Hf (kvs.map (·.2)) (kds.map (·.2))
  | .dit kds => ∃ kvs : List (List Key × V), o = .dT kvs ∧ kvs.map (·.1) = kds.map (·.1) ∧ Reps G Hf (kvs.map (·.2)) (kds.map (·.2))
  | .ins c fds => ∃ (C dx : Addr) (fs : List (Str × V)), o = .ins C dx fs ∧ G.cls c = some C ∧ fs.map (·.1) = fds.map (·.1) ∧ Reps G Hf (fs.map (·.2)) (fds.map (·.2))
  | _ => False
theorem TopO.mono {G : Gi} {Hf Hf' : Hp} (s : Same Hf Hf') {o : HO} {d : D} (h : TopO G Hf o d) : TopO G Hf' o d := by
  cases d with
  | lst ds => obtain ⟨vs, e, r⟩ := h; exact ⟨vs, e, r.mono s⟩
  | dic kds => obtain ⟨vs, e, l, r⟩ := h; exact ⟨vs, e, l, r.mono s⟩
  | dit kds => obtain ⟨vs, e, l, r⟩ := h; exact ⟨vs, e, l, r.mono s⟩
  | ins c fds => obtain ⟨C, dx, fs, e, hc, l, r⟩ := h; exact ⟨C, dx, fs, e, hc, l, r.mono s⟩
  | non => exact h.elim
  | bl b => exact h.elim
  | int b => exact h.elim
  | str b => exact h.elim
  | tup b => exact h.elim
  | frl b => exact h.elim
  | frt b => exact h.elim
  | fn b => exact h.elim
  | ty b => exact h.elim
  | cls b => exact h.elim
  | exc b c => exact h.elim
theorem TopO.mut {G : Gi} {Hf : Hp} {o : HO} {d : D} (h : TopO G Hf o d) : Mut (some o) := by
  cases d with
  | lst ds => obtain ⟨vs, e, r⟩ := h; subst e; trivial
  | dic kds => obtain ⟨vs, e, l, r⟩ := h; subst e; trivial
  | dit kds => obtain ⟨vs, e, l, r⟩ := h; subst e; trivial
  | ins c fds => obtain ⟨C, dx, fs, e, hc, l, r⟩ := h; subst e; trivial
  | non => exact h.elim
  | bl b => exact h.elim
  | int b => exact h.elim
  | str b => exact h.elim
  | tup b => exact h.elim
  | frl b => exact h.elim
  | frt b => exact h.elim
  | fn b => exact h.elim
  | ty b => exact h.elim
  | cls b => exact h.elim
  | exc b c => exact h.elim
/-- put into the shared part, it is shared data -/
theorem TopO.rep {G : Gi} {Hf : Hp} {o : HO} {d : D} {p : Addr} (h : TopO G Hf o d) (hp : Hf p = some o) : Rep G Hf (.ref p) d := by
  cases d with
  | lst ds => obtain ⟨vs, e, r⟩ := h; subst e; exact .lst hp r.len r.at'
  | dic kds =>
    obtain ⟨kvs, e, l, r⟩ := h; subst e
    refine .dic (.inl hp) l fun i a b h1 h2 => r.at' i a.2 b.2 ?_ ?_
    · rw [List.getElem?_map, h1]; rfl
    · rw [List.getElem?_map, h2]; rfl
  | dit kds =>
    obtain ⟨kvs, e, l, r⟩ := h; subst e
    refine .dit (.inl hp) l fun i a b h1 h2 => r.at' i a.2 b.2 ?_ ?_
    · rw [List.getElem?_map, h1]; rfl
    · rw [List.getElem?_map, h2]; rfl
  | ins c fds =>
    obtain ⟨C, dx, fs, e, hc, l, r⟩ := h; subst e
    refine .ins hp hc l fun i a b h1 h2 => r.at' i a.2 b.2 ?_ ?_
    · rw [List.getElem?_map, h1]; rfl
    · rw [List.getElem?_map, h2]; rfl
  | non => exact h.elim
  | bl b => exact h.elim
  | int b => exact h.elim
  | str b => exact h.elim
  | tup b => exact h.elim
  | frl b => exact h.elim
  | frt b => exact h.elim
  | fn b => exact h.elim
  | ty b => exact h.elim
  | cls b => exact h.elim
  | exc b c => exact h.elim

/-- how a slot stands: shared; owned here; owned by the caller, who sees the change; another name of slot j -/
inductive M where
  | sh | ow | io | al (j : Nat)
  deriving DecidableEq
structure Slot where
  m : M
  d : D
abbrev Env := List (Option Slot)
abbrev sh (d : D) : Option Slot := some ⟨.sh, d⟩
abbrev ow (d : D) : Option Slot := some ⟨.ow, d⟩
abbrev io (d : D) : Option Slot := some ⟨.io, d⟩

def M.mut : M → Bool
  | .ow => true
  | .io => true
  | _ => false

/-- how the frame was entered: what the caller gave to be changed, what was shared then -/
structure En where
  io : Addr → Prop
  f0 : Hp
/-- the slots and the values in hand (behind them) stand in the heap. Hf: what is shared. H0: the heap at the entry. IO: what the caller owns and gave to be changed -/
structure SR (n : Nat) (G : Gi) (IO : En) (H0 Hf : Hp) (σ : L2.St) (env : Env) (H : Hp) : Prop where
  sub : Same Hf H
  keep : ∀ b o, H0 b = some o → ¬ IO.io b → H b = some o
  grow : ∀ b, H b = none → H0 b = none
  nf : ∀ b o, Hf b = some o → H0 b = none ∨ IO.f0 b = some o
  len : σ.length = env.length
  shr : ∀ (i : Nat) d, env[i]? = some (sh d) → ∃ v, σ[i]? = some (some v) ∧ Rep G Hf v d
  own : ∀ (i : Nat) d, env[i]? = some (ow d) → ∃ p o, σ[i]? = some (some (V.ref p)) ∧ Hf p = none ∧ H0 p = none ∧ H p = some o ∧ TopO G Hf o d
  inout : ∀ (i : Nat) d, env[i]? = some (io d) → ∃ p o, σ[i]? = some (some (V.ref p)) ∧ Hf p = none ∧ IO.io p ∧ H p = some o ∧ TopO G Hf o d
  ali : ∀ (i j : Nat) d, env[i]? = some (some ⟨.al j, d⟩) → j < n ∧ ∃ v, σ[i]? = some (some v) ∧ σ[j]? = some (some v) ∧ ∃ s : Slot, env[j]? = some (some s) ∧ ∀ k, s.m ≠ .al k
  sep : ∀ (i j : Nat) (a b : Slot) v, i ≠ j → env[i]? = some (some a) → env[j]? = some (some b) → a.m.mut = true → b.m.mut = true → σ[i]? = some (some v) → σ[j]? = some (some v) → False


section
variable {n : Nat} {G : Gi} {IO : En} {H0 Hf H : Hp} {σ tv : L2.St} {env te : Env}

theorem same_upd {H : Hp} {p : Addr} {o : HO} (h : H p = none) : Same H (upd H p o) := fun b x e => by
  rw [upd_ne (ne_of_none e h)]
  exact e
theorem get_last {α : Type} {l : List α} {x : α} : (l ++ [x])[l.length]? = some x := by simp
theorem get_before {α : Type} {l : List α} {x : α} {i : Nat} (h : i < l.length) : (l ++ [x])[i]? = l[i]? := List.getElem?_append_left h
theorem snoc_cases {α : Type} {l : List α} {x y : α} {i : Nat} (h : (l ++ [x])[i]? = some y) : (i < l.length ∧ l[i]? = some y) ∨ (i = l.length ∧ x = y) := by
  have hl : i < (l ++ [x]).length := (List.getElem?_eq_some_iff.mp h).1
  rw [List.length_append, List.length_singleton] at hl
  by_cases hi : i < l.length
  · rw [get_before hi] at h
    exact .inl ⟨hi, h⟩
  · have e : i = l.length := by omega
    subst e
    rw [get_last] at h
    exact .inr ⟨rfl, Option.some.inj h⟩
theorem lt_of_get {α : Type} {l : List α} {i : Nat} {x : α} (h : l[i]? = some x) : i < l.length := (List.getElem?_eq_some_iff.mp h).1

theorem SR.lift (R : SR n G IO H0 Hf σ env H) {i : Nat} {s : Option Slot} (h : env[i]? = some s) : i < σ.length := by rw [R.len]; exact lt_of_get h

/-- one thing more, at the end: shared -/
theorem SR.push_sh (R : SR n G IO H0 Hf σ env H) {v : V} {d : D} (r : Rep G Hf v d) : SR n G IO H0 Hf (σ ++ [some v]) (env ++ [sh d]) H where
  sub := R.sub
  keep := R.keep
  grow := R.grow
  nf := R.nf
  len := by simp [R.len]
  shr := fun i d' h => by
    rcases snoc_cases h with ⟨hi, h⟩ | ⟨hi, h⟩
    · obtain ⟨w, e, q⟩ := R.shr i d' h
      exact ⟨w, by rw [get_before (R.lift h)]; exact e, q⟩
    · cases h
      refine ⟨v, ?_, r⟩
      rw [hi, ← R.len]; exact get_last
  own := fun i d' h => by
    rcases snoc_cases h with ⟨hi, h⟩ | ⟨hi, h⟩
    · obtain ⟨p, o, e, q⟩ := R.own i d' h
      exact ⟨p, o, by rw [get_before (R.lift h)]; exact e, q⟩
    · cases h
  inout := fun i d' h => by
    rcases snoc_cases h with ⟨hi, h⟩ | ⟨hi, h⟩
    · obtain ⟨p, o, e, q⟩ := R.inout i d' h
      exact ⟨p, o, by rw [get_before (R.lift h)]; exact e, q⟩
    · cases h
  ali := fun i j d' h => by
    rcases snoc_cases h with ⟨hi, h⟩ | ⟨hi, h⟩
    · obtain ⟨jn, w, e1, e2, s, e3, e4⟩ := R.ali i j d' h
      exact ⟨jn, w, by rw [get_before (R.lift h)]; exact e1, by rw [get_before (R.lift e3)]; exact e2, s, by rw [get_before (lt_of_get e3)]; exact e3, e4⟩
    · cases h
  sep := fun i j a b w ne ha hb ma mb h1 h2 => by
    rcases snoc_cases ha with ⟨hi, ha⟩ | ⟨hi, ha⟩
    · rcases snoc_cases hb with ⟨hj, hb⟩ | ⟨hj, hb⟩
      · rw [get_before (R.lift ha)] at h1
        rw [get_before (R.lift hb)] at h2
        exact R.sep i j a b w ne ha hb ma mb h1 h2
      · cases hb; simp [M.mut] at mb
    · cases ha; simp [M.mut] at ma
/-- what is mutable stands at no new place -/
theorem SR.fresh (R : SR n G IO H0 Hf σ env H) {p : Addr} (hp : H p = none) : Hf p = none ∧ H0 p = none := by
  refine ⟨?_, R.grow p hp⟩
  cases e : Hf p with
  | none => rfl
  | some o => rw [R.sub p o e] at hp; cases hp
/-- the heap grows -/
theorem SR.more (R : SR n G IO H0 Hf σ env H) {p : Addr} {o : HO} (hp : H p = none) : SR n G IO H0 Hf σ env (upd H p o) where
  sub := fun b x e => same_upd hp b x (R.sub b x e)
  keep := fun b x e n => same_upd hp b x (R.keep b x e n)
  grow := fun b e => by
    by_cases hb : b = p
    · subst hb; rw [upd_same] at e; cases e
    · rw [upd_ne hb] at e; exact R.grow b e
  nf := R.nf
  len := R.len
  shr := R.shr
  own := fun i d h => by
    obtain ⟨q, x, e, a, b, c, t⟩ := R.own i d h
    exact ⟨q, x, e, a, b, same_upd hp _ _ c, t⟩
  inout := fun i d h => by
    obtain ⟨q, x, e, a, b, c, t⟩ := R.inout i d h
    exact ⟨q, x, e, a, b, same_upd hp _ _ c, t⟩
  ali := R.ali
  sep := R.sep
/-- one thing more: new, owned -/
theorem SR.push_ow (R : SR n G IO H0 Hf σ env H) {p : Addr} {o : HO} {d : D} (hp : H p = none) (t : TopO G Hf o d) : SR n G IO H0 Hf (σ ++ [some (V.ref p)]) (env ++ [ow d]) (upd H p o) := by
  have R1 := R.more (o := o) hp
  have f := R.fresh hp
  have nin : ∀ (i : Nat) (s : Slot), env[i]? = some (some s) → s.m.mut = true → σ[i]? ≠ some (some (V.ref p)) := fun i s hs hm e => by
    obtain ⟨m, d'⟩ := s
    cases m with
    | sh => cases hm
    | ow =>
      obtain ⟨q, x, e2, _, _, c, _⟩ := R.own i d' hs
      rw [e] at e2; cases e2
      rw [hp] at c; cases c
    | io =>
      obtain ⟨q, x, e2, _, _, c, _⟩ := R.inout i d' hs
      rw [e] at e2; cases e2
      rw [hp] at c; cases c
    | al j => cases hm
  refine ⟨R1.sub, R1.keep, R1.grow, R1.nf, by simp [R.len], fun i d' h => ?_, fun i d' h => ?_, fun i d' h => ?_, fun i j d' h => ?_, fun i j a b w ne ha hb ma mb h1 h2 => ?_⟩
  · rcases snoc_cases h with ⟨hi, h⟩ | ⟨hi, h⟩
    · obtain ⟨w, e, q⟩ := R1.shr i d' h
      exact ⟨w, by rw [get_before (R.lift h)]; exact e, q⟩
    · cases h
  · rcases snoc_cases h with ⟨hi, h⟩ | ⟨hi, h⟩
    · obtain ⟨q, x, e, z⟩ := R1.own i d' h
      exact ⟨q, x, by rw [get_before (R.lift h)]; exact e, z⟩
    · cases h
      refine ⟨p, o, ?_, f.1, f.2, upd_same, t⟩
      rw [hi, ← R.len]; exact get_last
  · rcases snoc_cases h with ⟨hi, h⟩ | ⟨hi, h⟩
    · obtain ⟨q, x, e, z⟩ := R1.inout i d' h
      exact ⟨q, x, by rw [get_before (R.lift h)]; exact e, z⟩
    · cases h
  · rcases snoc_cases h with ⟨hi, h⟩ | ⟨hi, h⟩
    · obtain ⟨jn, w, e1, e2, s, e3, e4⟩ := R.ali i j d' h
      exact ⟨jn, w, by rw [get_before (R.lift h)]; exact e1, by rw [get_before (R.lift e3)]; exact e2, s, by rw [get_before (lt_of_get e3)]; exact e3, e4⟩
    · cases h
  · rcases snoc_cases ha with ⟨hi, ha⟩ | ⟨hi, ha⟩
    · rcases snoc_cases hb with ⟨hj, hb⟩ | ⟨hj, hb⟩
      · rw [get_before (R.lift ha)] at h1
        rw [get_before (R.lift hb)] at h2
        exact R.sep i j a b w ne ha hb ma mb h1 h2
      · rw [get_before (R.lift ha)] at h1
        have : w = V.ref p := by rw [hj, ← R.len, get_last] at h2; exact (Option.some.inj (Option.some.inj h2)).symm
        subst this
        exact nin i a ha ma h1
    · rcases snoc_cases hb with ⟨hj, hb⟩ | ⟨hj, hb⟩
      · rw [get_before (R.lift hb)] at h2
        have : w = V.ref p := by rw [hi, ← R.len, get_last] at h1; exact (Option.some.inj (Option.some.inj h1)).symm
        subst this
        exact nin j b hb mb h2
      · exact ne (hi.trans hj.symm)
/-- what is shared grows by a new thing -/
theorem SR.wider (R : SR n G IO H0 Hf σ env H) {p : Addr} {o : HO} (hp : H p = none) : SR n G IO H0 (upd Hf p o) σ env (upd H p o) := by
  have f := R.fresh hp
  have R1 := R.more (o := o) hp
  have s : Same Hf (upd Hf p o) := same_upd f.1
  refine ⟨fun b x e => ?_, R1.keep, R1.grow, fun b x e => ?_, R.len, fun i d h => ?_, fun i d h => ?_, fun i d h => ?_, R.ali, R.sep⟩
  · by_cases hb : b = p
    · subst hb; rw [upd_same] at e ⊢; exact e
    · rw [upd_ne hb] at e ⊢; exact R.sub b x e
  · by_cases hb : b = p
    · subst hb; exact .inl f.2
    · rw [upd_ne hb] at e; exact R.nf b x e
  · obtain ⟨v, e, r⟩ := R.shr i d h
    exact ⟨v, e, r.mono s⟩
  · obtain ⟨q, x, e, a, b, c, t⟩ := R1.own i d h
    refine ⟨q, x, e, ?_, b, c, t.mono s⟩
    have nq : q ≠ p := fun z => by
      subst z
      obtain ⟨q', x', e', _, _, c', _⟩ := R.own i d h
      rw [e] at e'; cases e'
      rw [hp] at c'; cases c'
    rw [upd_ne nq]; exact a
  · obtain ⟨q, x, e, a, b, c, t⟩ := R1.inout i d h
    refine ⟨q, x, e, ?_, b, c, t.mono s⟩
    have nq : q ≠ p := fun z => by
      subst z
      obtain ⟨q', x', e', _, _, c', _⟩ := R.inout i d h
      rw [e] at e'; cases e'
      rw [hp] at c'; cases c'
    rw [upd_ne nq]; exact a
/-- one thing more: a new tuple -/
theorem SR.push_tup (R : SR n G IO H0 Hf σ env H) {p : Addr} {vs : List V} {ds : List D} (hp : H p = none) (r : Reps G Hf vs ds) :
    SR n G IO H0 (upd Hf p (.tup vs)) (σ ++ [some (V.ref p)]) (env ++ [sh (.tup ds)]) (upd H p (.tup vs)) := by
  have f := R.fresh hp
  have s : Same Hf (upd Hf p (.tup vs)) := same_upd f.1
  exact (R.wider hp).push_sh (.tup upd_same r.len (r.mono s).at')
/-- the last thing is forgotten -/
theorem SR.pop {x : Option V} {y : Option Slot} (R : SR n G IO H0 Hf (σ ++ [x]) (env ++ [y]) H) (hn : n ≤ env.length) : SR n G IO H0 Hf σ env H := by
  have hl : σ.length = env.length := by have := R.len; simpa using this
  have g : ∀ {i : Nat} {s : Slot}, env[i]? = some (some s) → (env ++ [y])[i]? = some (some s) := fun {i s} h => by rw [get_before (lt_of_get h)]; exact h
  have b : ∀ {i : Nat} {s : Slot} {w : V}, env[i]? = some (some s) → (σ ++ [x])[i]? = some (some w) → σ[i]? = some (some w) := fun {i s w} h e => by rwa [get_before (by rw [hl]; exact lt_of_get h)] at e
  refine ⟨R.sub, R.keep, R.grow, R.nf, hl, fun i d h => ?_, fun i d h => ?_, fun i d h => ?_, fun i j d h => ?_, fun i j a b' w ne ha hb ma mb h1 h2 => ?_⟩
  · obtain ⟨v, e, r⟩ := R.shr i d (g h); exact ⟨v, b h e, r⟩
  · obtain ⟨q, o, e, r⟩ := R.own i d (g h); exact ⟨q, o, b h e, r⟩
  · obtain ⟨q, o, e, r⟩ := R.inout i d (g h); exact ⟨q, o, b h e, r⟩
  · obtain ⟨jn, w, e1, e2, s, e3, e4⟩ := R.ali i j d (g h)
    have hj : j < env.length := Nat.lt_of_lt_of_le jn hn
    rw [get_before hj] at e3
    exact ⟨jn, w, b h e1, b e3 e2, s, e3, e4⟩
  · refine R.sep i j a b' w ne (g ha) (g hb) ma mb ?_ ?_
    · rw [get_before (by rw [hl]; exact lt_of_get ha)]; exact h1
    · rw [get_before (by rw [hl]; exact lt_of_get hb)]; exact h2
/-- one thing more: another name of slot j -/
theorem SR.push_al (R : SR n G IO H0 Hf σ env H) {j : Nat} {v : V} {s : Slot} {d : D} (hj : j < n) (hv : σ[j]? = some (some v)) (hs : env[j]? = some (some s)) (na : ∀ k, s.m ≠ .al k) :
    SR n G IO H0 Hf (σ ++ [some v]) (env ++ [some ⟨.al j, d⟩]) H where
  sub := R.sub
  keep := R.keep
  grow := R.grow
  nf := R.nf
  len := by simp [R.len]
  shr := fun i d' h => by
    rcases snoc_cases h with ⟨hi, h⟩ | ⟨hi, h⟩
    · obtain ⟨w, e, q⟩ := R.shr i d' h
      exact ⟨w, by rw [get_before (R.lift h)]; exact e, q⟩
    · cases h
  own := fun i d' h => by
    rcases snoc_cases h with ⟨hi, h⟩ | ⟨hi, h⟩
    · obtain ⟨p, o, e, q⟩ := R.own i d' h
      exact ⟨p, o, by rw [get_before (R.lift h)]; exact e, q⟩
    · cases h
  inout := fun i d' h => by
    rcases snoc_cases h with ⟨hi, h⟩ | ⟨hi, h⟩
    · obtain ⟨p, o, e, q⟩ := R.inout i d' h
      exact ⟨p, o, by rw [get_before (R.lift h)]; exact e, q⟩
    · cases h
  ali := fun i k d' h => by
    rcases snoc_cases h with ⟨hi, h⟩ | ⟨hi, h⟩
    · obtain ⟨jn, w, e1, e2, s, e3, e4⟩ := R.ali i k d' h
      exact ⟨jn, w, by rw [get_before (R.lift h)]; exact e1, by rw [get_before (R.lift e3)]; exact e2, s, by rw [get_before (lt_of_get e3)]; exact e3, e4⟩
    · cases h
      refine ⟨hj, v, ?_, by rw [get_before (R.lift hs)]; exact hv, s, by rw [get_before (lt_of_get hs)]; exact hs, na⟩
      rw [hi, ← R.len]; exact get_last
  sep := fun i j a b w ne ha hb ma mb h1 h2 => by
    rcases snoc_cases ha with ⟨hi, ha⟩ | ⟨hi, ha⟩
    · rcases snoc_cases hb with ⟨hj, hb⟩ | ⟨hj, hb⟩
      · rw [get_before (R.lift ha)] at h1
        rw [get_before (R.lift hb)] at h2
        exact R.sep i j a b w ne ha hb ma mb h1 h2
      · cases hb; simp [M.mut] at mb
    · cases ha; simp [M.mut] at ma
/-- a slot's record is put otherwise: what is said of slot i; all else as it was -/
theorem SR.recast (R : SR n G IO H0 Hf σ env H) {Hf' H' : Hp} {i : Nat} {s s' : Slot} (hs : env[i]? = some (some s)) (na : ∀ k, s.m ≠ .al k) (na' : ∀ k, s'.m ≠ .al k) (hm : s'.m.mut = true → s.m.mut = true)
    (sub : Same Hf' H') (keep : ∀ b o, H0 b = some o → ¬ IO.io b → H' b = some o) (grow : ∀ b, H' b = none → H0 b = none) (nf : ∀ b o, Hf' b = some o → H0 b = none ∨ IO.f0 b = some o) (sf : Same Hf Hf')
    (new : ∀ v, σ[i]? = some (some v) → match s'.m with
      | .sh => Rep G Hf' v s'.d
      | .ow => ∃ p o, v = .ref p ∧ Hf' p = none ∧ H0 p = none ∧ H' p = some o ∧ TopO G Hf' o s'.d
      | .io => ∃ p o, v = .ref p ∧ Hf' p = none ∧ IO.io p ∧ H' p = some o ∧ TopO G Hf' o s'.d
      | .al _ => False)
    (old : ∀ (j : Nat) (a : Slot) (p : Addr) (o : HO), j ≠ i → env[j]? = some (some a) → a.m.mut = true → σ[j]? = some (some (V.ref p)) → Hf p = none → H p = some o → Hf' p = none ∧ H' p = some o) :
    SR n G IO H0 Hf' σ (env.set i (some s')) H' := by
  have hi : i < env.length := lt_of_get hs
  have hv : ∃ v, σ[i]? = some (some v) := by
    obtain ⟨m, d⟩ := s
    cases m with
    | sh => obtain ⟨v, e, _⟩ := R.shr i d hs; exact ⟨v, e⟩
    | ow => obtain ⟨v, _, e, _⟩ := R.own i d hs; exact ⟨_, e⟩
    | io => obtain ⟨v, _, e, _⟩ := R.inout i d hs; exact ⟨_, e⟩
    | al k => exact absurd rfl (na k)
  obtain ⟨v, hv⟩ := hv
  have nw := new v hv
  have gs : ∀ {j : Nat} {a : Slot}, (env.set i (some s'))[j]? = some (some a) → (j = i ∧ a = s') ∨ (j ≠ i ∧ env[j]? = some (some a)) := fun {j a} h => by
    by_cases hj : j = i
    · subst hj
      rw [List.getElem?_set_self hi] at h
      exact .inl ⟨rfl, (Option.some.inj (Option.some.inj h)).symm⟩
    · rw [List.getElem?_set_ne (Ne.symm hj)] at h
      exact .inr ⟨hj, h⟩
  refine ⟨sub, keep, grow, nf, by simp [R.len], fun j d h => ?_, fun j d h => ?_, fun j d h => ?_, fun j k d h => ?_, fun j k a b w ne ha hb ma mb h1 h2 => ?_⟩
  · rcases gs h with ⟨e, e2⟩ | ⟨ne, h⟩
    · subst e; subst e2; exact ⟨v, hv, nw⟩
    · obtain ⟨w, e, r⟩ := R.shr j d h; exact ⟨w, e, r.mono sf⟩
  · rcases gs h with ⟨e, e2⟩ | ⟨ne, h⟩
    · subst e; subst e2
      obtain ⟨p, o, e, z⟩ := nw
      subst e; exact ⟨p, o, hv, z⟩
    · obtain ⟨p, o, e, a, b, c, t⟩ := R.own j d h
      obtain ⟨x, y⟩ := old j _ p o ne h rfl e a c
      exact ⟨p, o, e, x, b, y, t.mono sf⟩
  · rcases gs h with ⟨e, e2⟩ | ⟨ne, h⟩
    · subst e; subst e2
      obtain ⟨p, o, e, z⟩ := nw
      subst e; exact ⟨p, o, hv, z⟩
    · obtain ⟨p, o, e, a, b, c, t⟩ := R.inout j d h
      obtain ⟨x, y⟩ := old j _ p o ne h rfl e a c
      exact ⟨p, o, e, x, b, y, t.mono sf⟩
  · rcases gs h with ⟨e, e2⟩ | ⟨ne, h⟩
    · subst e2; exact absurd rfl (na' k)
    · obtain ⟨jn, w, e1, e2, a, e3, e4⟩ := R.ali j k d h
      by_cases hk : k = i
      · subst hk
        exact ⟨jn, w, e1, e2, s', by rw [List.getElem?_set_self hi], na'⟩
      · exact ⟨jn, w, e1, e2, a, by rw [List.getElem?_set_ne (Ne.symm hk)]; exact e3, e4⟩
  · have z : ∀ {j : Nat} {a : Slot}, (env.set i (some s'))[j]? = some (some a) → a.m.mut = true → ∃ a', env[j]? = some (some a') ∧ a'.m.mut = true := fun {j a} h m => by
      rcases gs h with ⟨e, e2⟩ | ⟨_, h⟩
      · subst e; subst e2; exact ⟨s, hs, hm m⟩
      · exact ⟨a, h, m⟩
    obtain ⟨a', ha', ma'⟩ := z ha ma
    obtain ⟨b', hb', mb'⟩ := z hb mb
    exact R.sep j k a' b' w ne ha' hb' ma' mb' h1 h2
/-- an owned thing is from now on shared -/
theorem SR.freeze (R : SR n G IO H0 Hf σ env H) {i : Nat} {d : D} (hs : env[i]? = some (ow d)) : ∃ Hf', Same Hf Hf' ∧ SR n G IO H0 Hf' σ (env.set i (sh d)) H := by
  obtain ⟨p, o, e, a, b, c, t⟩ := R.own i d hs
  have s : Same Hf (upd Hf p o) := same_upd a
  refine ⟨upd Hf p o, s, R.recast (s := ⟨.ow, d⟩) (s' := ⟨.sh, d⟩) hs (fun k => by simp) (fun k => by simp) (fun z => by simp [M.mut] at z) (fun q x h => ?_) R.keep R.grow (fun q x h => ?_) s (fun v hv => ?_) (fun j x q y ne hj hm hq hf hy => ⟨?_, hy⟩)⟩
  · by_cases hq : q = p
    · subst hq; rw [upd_same] at h; rw [c]; exact h
    · rw [upd_ne hq] at h; exact R.sub q x h
  · by_cases hq : q = p
    · subst hq; exact .inl b
    · rw [upd_ne hq] at h; exact R.nf q x h
  · rw [e] at hv; cases hv
    exact (t.mono s).rep upd_same
  · have hqp : q ≠ p := fun z => by
      subst z
      exact R.sep j i x ⟨.ow, d⟩ (V.ref q) ne hj hs hm rfl hq e
    rw [upd_ne hqp]; exact hf
/-- a mutable thing is changed -/
theorem SR.change (R : SR n G IO H0 Hf σ env H) {i : Nat} {s : Slot} {d' : D} {p : Addr} {o' : HO} (hs : env[i]? = some (some s)) (hm : s.m.mut = true) (hp : σ[i]? = some (some (V.ref p))) (t' : TopO G Hf o' d') :
    SR n G IO H0 Hf σ (env.set i (some ⟨s.m, d'⟩)) (upd H p o') := by
  obtain ⟨m, d⟩ := s
  have na : ∀ k, m ≠ .al k := fun k e => by subst e; cases hm
  have hfp : Hf p = none ∧ (m = .ow → H0 p = none) ∧ (m = .io → IO.io p) ∧ ∃ o, H p = some o := by
    cases m with
    | sh => cases hm
    | al j => cases hm
    | ow =>
      obtain ⟨q, o, e, a, b, c, t⟩ := R.own i d hs
      rw [hp] at e; cases e
      exact ⟨a, fun _ => b, (fun z => nomatch z), o, c⟩
    | io =>
      obtain ⟨q, o, e, a, b, c, t⟩ := R.inout i d hs
      rw [hp] at e; cases e
      exact ⟨a, (fun z => nomatch z), fun _ => b, o, c⟩
  obtain ⟨hf, h1, h2, o, ho⟩ := hfp
  refine R.recast (s := ⟨m, d⟩) (s' := ⟨m, d'⟩) hs na na (fun z => z) (fun q x h => ?_) (fun q x h n => ?_) (fun q h => ?_) R.nf (Same.refl _) (fun v hv => ?_) (fun j x q y ne hj hmx hq hfq hy => ⟨hfq, ?_⟩)
  · by_cases hq : q = p
    · subst hq; rw [hf] at h; cases h
    · rw [upd_ne hq]; exact R.sub q x h
  · by_cases hq : q = p
    · subst hq
      cases m with
      | sh => cases hm
      | al j => cases hm
      | ow => rw [h1 rfl] at h; cases h
      | io => exact absurd (h2 rfl) n
    · rw [upd_ne hq]; exact R.keep q x h n
  · by_cases hq : q = p
    · subst hq; rw [upd_same] at h; cases h
    · rw [upd_ne hq] at h; exact R.grow q h
  · rw [hp] at hv; cases hv
    cases m with
    | sh => cases hm
    | al j => cases hm
    | ow => exact ⟨p, o', rfl, hf, h1 rfl, upd_same, t'⟩
    | io => exact ⟨p, o', rfl, hf, h2 rfl, upd_same, t'⟩
  · have hqp : q ≠ p := fun z => by
      subst z
      exact R.sep j i x ⟨m, d⟩ (V.ref q) ne hj hs hmx hm hq hp
    rw [upd_ne hqp]; exact hy
end

end VM

/-! VMB: the evaluator of expressions, and what its answers grant -/
namespace VM
open PySem PySem.Spec PyProof.Rows L2

inductive Ans where
  | ok (s : Slot) (e : Env) | ex (c : Str) (d : D) (e : Env) | no
inductive TAns where
  | ok (b : Bool) (e : Env) | ex (c : Str) (d : D) (e : Env) | no
inductive LAns where
  | ok (ss : List Slot) (e : Env) | ex (c : Str) (d : D) (e : Env) | no
/-- what a rule on values gives: shared data, a new thing of one's own, a new tuple -/
inductive RR where
  | sh (d : D) | ow (d : D) | tp (ds : List D) | no
abbrev Sm := Env → Ans
abbrev Tm := Env → TAns
abbrev Lm := Env → LAns

def deref (e : Env) (s : Slot) : Option D := match s.m with
  | .al j => match e[j]? with
    | some (some t) => some t.d
    | _ => none
  | _ => some s.d
def PRep (G : Gi) (Hf H : Hp) (v : V) (d : D) : Prop := Rep G Hf v d ∨ ∃ p o, v = .ref p ∧ H p = some o ∧ TopO G Hf o d
def RRok (G : Gi) (Hf H : Hp) (T : VK → Prop) : RR → Prop
  | .sh d => ∀ Q : VK, (∀ v, Rep G Hf v d → Q v H) → T Q
  | .ow d => ∀ Q : VK, (∀ p o, H p = none → TopO G Hf o d → Q (.ref p) (upd H p o)) → T Q
  | .tp ds => ∀ Q : VK, (∀ p vs, H p = none → Reps G Hf vs ds → Q (.ref p) (upd H p (.tup vs))) → T Q
  | .no => True
def RR.ans (e : Env) : RR → Ans
  | .sh d => .ok ⟨.sh, d⟩ e
  | .ow d => .ok ⟨.ow, d⟩ e
  | .tp ds => .ok ⟨.sh, .tup ds⟩ e
  | .no => .no

/-- an exception of class c, made of d -/
def XR (exc : Str → Option (Addr × Str)) (G : Gi) (Hf H : Hp) (cv : Value) (dx : Option Addr) (c : Str) (d : D) : Prop :=
  ∃ C f dd v, exc c = some (C, f) ∧ cv = .ref C ∧ dx = some dd ∧ H dd = some (.xd [(f, v)]) ∧ Rep G Hf v d

/-- a place in the text: its contexts, what is known, what is wished of exceptions -/
structure Pl where
  M : Cx → Prop
  G : Gi
  W : WX
  exc : Str → Option (Addr × Str)

section
variable (P : Pl)
structure St0 (n : Nat) (IO : En) (H0 Hf : Hp) (σ tv : L2.St) (env te : Env) (H : Hp) : Prop where
  le : env.length = n
  ls : σ.length = n
  na : ∀ (i : Nat) (s : Slot), env[i]? = some (some s) → ∀ k, s.m ≠ .al k
  sr : SR n P.G IO H0 Hf (σ ++ tv) (env ++ te) H
/-- the reading t grants what m tells -/
def Ev (t : TE) (m : Sm) : Prop := ∀ n IO H0 Hf σ tv env te H, St0 P n IO H0 Hf σ tv env te H → match m env with
  | .ok s env' => ∀ Q : VK, (∀ v Hf' H', Same Hf Hf' → St0 P n IO H0 Hf' σ (tv ++ [some v]) env' (te ++ [some s]) H' → Q v H') → t σ H Q
  | .ex c d env' => (∀ cv dx Hf' H', Same Hf Hf' → St0 P n IO H0 Hf' σ tv env' te H' → XR P.exc P.G Hf' H' cv dx c d → P.W cv dx σ H') → ∀ Q, t σ H Q
  | .no => True
def EvT (t : TT) (m : Tm) : Prop := ∀ n IO H0 Hf σ tv env te H, St0 P n IO H0 Hf σ tv env te H → match m env with
  | .ok b env' => ∀ Q : Bool → Hp → Prop, (∀ Hf' H', Same Hf Hf' → St0 P n IO H0 Hf' σ tv env' te H' → Q b H') → t σ H Q
  | .ex c d env' => (∀ cv dx Hf' H', Same Hf Hf' → St0 P n IO H0 Hf' σ tv env' te H' → XR P.exc P.G Hf' H' cv dx c d → P.W cv dx σ H') → ∀ Q, t σ H Q
  | .no => True
def EvL (t : TA) (m : Lm) : Prop := ∀ n IO H0 Hf σ tv env te H, St0 P n IO H0 Hf σ tv env te H → match m env with
  | .ok ss env' => ∀ Q : List V → Hp → Prop, (∀ vs Hf' H', Same Hf Hf' → vs.length = ss.length → St0 P n IO H0 Hf' σ (tv ++ vs.map some) env' (te ++ ss.map some) H' → Q vs H') → t σ H Q
  | .ex c d env' => (∀ cv dx Hf' H', Same Hf Hf' → St0 P n IO H0 Hf' σ tv env' te H' → XR P.exc P.G Hf' H' cv dx c d → P.W cv dx σ H') → ∀ Q, t σ H Q
  | .no => True
def SE (e : Expr) (m : Sm) : Prop := ∃ t, (∀ X, P.M X → PE X e t) ∧ Ev P t m
def SC (op : CmpOp) (a b : Expr) (m : Sm) : Prop := ∃ t, (∀ X, P.M X → PC X op a b t) ∧ Ev P t m
def ST (e : Expr) (m : Tm) : Prop := ∃ t, (∀ X, P.M X → PT X e t) ∧ EvT P t m
def SW (e : Expr) (m : Tm) : Prop := ∃ t, (∀ X, P.M X → PW X e t) ∧ EvT P t m
def tAll : List TE → TA
  | [] => tNil
  | t :: ts => tCons t (tAll ts)
inductive PEs (X : Cx) : List Expr → List TE → Prop
  | nil : PEs X [] []
  | cons {e es t ts} : PE X e t → PEs X es ts → PEs X (e :: es) (t :: ts)
def SL (es : List Expr) (m : Lm) : Prop := ∃ ts, (∀ X, P.M X → PEs X es ts) ∧ EvL P (tAll ts) m
end

section
variable {P : Pl} {n : Nat} {IO : En} {H0 Hf H : Hp} {σ tv : L2.St} {env te : Env}
theorem St0.l2 (S : St0 P n IO H0 Hf σ tv env te H) : tv.length = te.length := by
  have h := S.sr.len
  rw [List.length_append, List.length_append, S.le, S.ls] at h
  omega
theorem St0.push_sh (S : St0 P n IO H0 Hf σ tv env te H) {v : V} {d : D} (r : Rep P.G Hf v d) : St0 P n IO H0 Hf σ (tv ++ [some v]) env (te ++ [sh d]) H :=
  ⟨S.le, S.ls, S.na, by rw [← List.append_assoc, ← List.append_assoc]; exact S.sr.push_sh r⟩
theorem St0.push_ow (S : St0 P n IO H0 Hf σ tv env te H) {p : Addr} {o : HO} {d : D} (hp : H p = none) (t : TopO P.G Hf o d) : St0 P n IO H0 Hf σ (tv ++ [some (V.ref p)]) env (te ++ [ow d]) (upd H p o) :=
  ⟨S.le, S.ls, S.na, by rw [← List.append_assoc, ← List.append_assoc]; exact S.sr.push_ow hp t⟩
theorem St0.push_tup (S : St0 P n IO H0 Hf σ tv env te H) {p : Addr} {vs : List V} {ds : List D} (hp : H p = none) (r : Reps P.G Hf vs ds) : Same Hf (upd Hf p (.tup vs)) ∧ St0 P n IO H0 (upd Hf p (.tup vs)) σ (tv ++ [some (V.ref p)]) env (te ++ [sh (.tup ds)]) (upd H p (.tup vs)) :=
  ⟨same_upd (S.sr.fresh hp).1, S.le, S.ls, S.na, by rw [← List.append_assoc, ← List.append_assoc]; exact S.sr.push_tup hp r⟩
theorem St0.pop {x : Option V} {y : Option Slot} (S : St0 P n IO H0 Hf σ (tv ++ [x]) env (te ++ [y]) H) : St0 P n IO H0 Hf σ tv env te H :=
  ⟨S.le, S.ls, S.na, by
    have h := S.sr
    rw [← List.append_assoc, ← List.append_assoc] at h
    exact h.pop (by rw [List.length_append, S.le]; omega)⟩
theorem St0.pops : ∀ (k : Nat) {xs : L2.St} {ys : Env}, xs.length = k → ys.length = k → St0 P n IO H0 Hf σ (tv ++ xs) env (te ++ ys) H → St0 P n IO H0 Hf σ tv env te H
  | 0, xs, ys, h1, h2, S => by
    have e1 : xs = [] := List.eq_nil_of_length_eq_zero h1
    have e2 : ys = [] := List.eq_nil_of_length_eq_zero h2
    subst e1; subst e2
    simpa using S
  | k + 1, xs, ys, h1, h2, S => by
    have n1 : xs ≠ [] := fun e => by subst e; simp at h1
    have n2 : ys ≠ [] := fun e => by subst e; simp at h2
    rw [← List.dropLast_concat_getLast n1, ← List.dropLast_concat_getLast n2, ← List.append_assoc, ← List.append_assoc] at S
    exact St0.pops k (by simp [h1]) (by simp [h2]) S.pop
/-- a value in hand -/
theorem St0.prep (S : St0 P n IO H0 Hf σ tv env te H) {i : Nat} {v : V} {s : Slot} {d : D} (h1 : tv[i]? = some (some v)) (h2 : te[i]? = some (some s)) (hd : deref env s = some d) : PRep P.G Hf H v d := by
  have g1 : (σ ++ tv)[n + i]? = some (some v) := by
    rw [List.getElem?_append_right (by rw [S.ls]; omega), S.ls, Nat.add_sub_cancel_left]; exact h1
  have g2 : (env ++ te)[n + i]? = some (some s) := by
    rw [List.getElem?_append_right (by rw [S.le]; omega), S.le, Nat.add_sub_cancel_left]; exact h2
  have at' : ∀ (k : Nat) (a : Slot), (env ++ te)[k]? = some (some a) → (σ ++ tv)[k]? = some (some v) → (∀ j, a.m ≠ .al j) → PRep P.G Hf H v a.d := fun k a ha hv na => by
    obtain ⟨m, e⟩ := a
    cases m with
    | sh =>
      obtain ⟨w, e1, r⟩ := S.sr.shr k e ha
      rw [hv] at e1; cases e1
      exact .inl r
    | ow =>
      obtain ⟨p, o, e1, _, _, c, t⟩ := S.sr.own k e ha
      rw [hv] at e1; cases e1
      exact .inr ⟨p, o, rfl, c, t⟩
    | io =>
      obtain ⟨p, o, e1, _, _, c, t⟩ := S.sr.inout k e ha
      rw [hv] at e1; cases e1
      exact .inr ⟨p, o, rfl, c, t⟩
    | al j => exact absurd rfl (na j)
  obtain ⟨m, e⟩ := s
  cases m with
  | al j =>
    obtain ⟨jn, w, e1, e2, a, e3, e4⟩ := S.sr.ali (n + i) j e g2
    rw [g1] at e1; cases e1
    have e3' : env[j]? = some (some a) := by rwa [List.getElem?_append_left (by rw [S.le]; exact jn)] at e3
    have : d = a.d := by
      unfold deref at hd
      simp only [e3'] at hd
      exact (Option.some.inj hd).symm
    subst this
    exact at' j a e3 e2 e4
  | sh => unfold deref at hd; cases hd; exact at' _ _ g2 g1 (fun j => by simp)
  | ow => unfold deref at hd; cases hd; exact at' _ _ g2 g1 (fun j => by simp)
  | io => unfold deref at hd; cases hd; exact at' _ _ g2 g1 (fun j => by simp)
theorem St0.rr (S : St0 P n IO H0 Hf σ tv env te H) {T : VK → Prop} {r : RR} (h : RRok P.G Hf H T r) : match r.ans env with
    | .ok s env' => ∀ Q : VK, (∀ v Hf' H', Same Hf Hf' → St0 P n IO H0 Hf' σ (tv ++ [some v]) env' (te ++ [some s]) H' → Q v H') → T Q
    | .ex _ _ _ => False
    | .no => True := by
  cases r with
  | sh d => exact fun Q q => h Q fun v r => q v Hf H (Same.refl _) (S.push_sh r)
  | ow d => exact fun Q q => h Q fun p o hp t => q _ Hf _ (Same.refl _) (S.push_ow hp t)
  | tp ds => exact fun Q q => h Q fun p vs hp r => let ⟨s, S'⟩ := S.push_tup hp r; q _ _ _ s S'
  | no => trivial

/-! ### constants and names -/
def mC (d : D) : Sm := fun e => .ok ⟨.sh, d⟩ e
theorem se_c {e : Expr} {v : V} {d : D} (h : ∀ X, P.M X → PE X e (tC v)) (r : ∀ H, Rep P.G H v d) : SE P e (mC d) :=
  ⟨_, h, fun n IO H0 Hf σ tv env te H S Q q => q v Hf H (Same.refl _) (S.push_sh (r Hf))⟩
def mV (i : Nat) : Sm := fun e => match e[i]? with
  | some (some ⟨.sh, d⟩) => .ok ⟨.sh, d⟩ e
  | some (some ⟨.ow, _⟩) => .ok ⟨.al i, .non⟩ e
  | some (some ⟨.io, _⟩) => .ok ⟨.al i, .non⟩ e
  | _ => .no
theorem se_v {e : Expr} {i : Nat} (h : ∀ X, P.M X → PE X e (tVar i)) : SE P e (mV i) := by
  refine ⟨_, h, fun n IO H0 Hf σ tv env te H S => ?_⟩
  have base : ∀ {s : Option Slot}, env[i]? = some s → i < n ∧ (env ++ te)[i]? = some s ∧ (σ ++ tv)[i]? = σ[i]? := fun {s} hs => by
    have hi : i < env.length := lt_of_get hs
    refine ⟨by rw [← S.le]; exact hi, by rw [List.getElem?_append_left hi]; exact hs, List.getElem?_append_left (by rw [S.ls, ← S.le]; exact hi)⟩
  have al : ∀ (a : Slot), env[i]? = some (some a) → (∀ k, a.m ≠ .al k) → (∃ v, (σ ++ tv)[i]? = some (some v)) → ∀ Q : VK, (∀ v Hf' H', Same Hf Hf' → St0 P n IO H0 Hf' σ (tv ++ [some v]) env (te ++ [some ⟨.al i, .non⟩]) H' → Q v H') → tVar i σ H Q := fun a ha na hv Q q => by
    obtain ⟨b1, b2, b3⟩ := base ha
    obtain ⟨v, hv⟩ := hv
    refine ⟨v, by rw [← b3]; exact hv, q v Hf H (Same.refl _) ⟨S.le, S.ls, S.na, ?_⟩⟩
    rw [← List.append_assoc, ← List.append_assoc]
    exact S.sr.push_al b1 hv b2 na
  unfold mV
  cases hs : env[i]? with
  | none => trivial
  | some o =>
    cases o with
    | none => trivial
    | some s =>
      obtain ⟨b1, b2, b3⟩ := base hs
      obtain ⟨m, d⟩ := s
      cases m with
      | sh =>
        intro Q q
        obtain ⟨v, e1, r⟩ := S.sr.shr i d b2
        exact ⟨v, by rw [← b3]; exact e1, q v Hf H (Same.refl _) (S.push_sh r)⟩
      | ow =>
        obtain ⟨p, o, e1, _⟩ := S.sr.own i d b2
        exact al _ hs (fun k => by simp) ⟨_, e1⟩
      | io =>
        obtain ⟨p, o, e1, _⟩ := S.sr.inout i d b2
        exact al _ hs (fun k => by simp) ⟨_, e1⟩
      | al j => trivial

/-! ### lists of values -/
def lNil : Lm := fun e => .ok [] e
def lCons (a : Sm) (r : Lm) : Lm := fun e => match a e with
  | .ok s e1 => match r e1 with
    | .ok ss e2 => .ok (s :: ss) e2
    | .ex c d e2 => .ex c d e2
    | .no => .no
  | .ex c d e1 => .ex c d e1
  | .no => .no
theorem sl_nil : SL P [] lNil := ⟨[], fun _ _ => .nil, fun n IO H0 Hf σ tv env te H S Q q => q [] Hf H (Same.refl _) rfl (by simpa using S)⟩
theorem evl_nil : EvL P tNil lNil := fun n IO H0 Hf σ tv env te H S Q q => q [] Hf H (Same.refl _) rfl (by simpa using S)
theorem evl_cons {ta : TE} {tr : TA} {a : Sm} {r : Lm} (fa : Ev P ta a) (fr : EvL P tr r) : EvL P (tCons ta tr) (lCons a r) := by
  intro n IO H0 Hf σ tv env te H S
  have h1 := fa n IO H0 Hf σ tv env te H S
  unfold lCons
  cases ea : a env with
  | no => trivial
  | ex c d e1 => rw [ea] at h1; exact fun w Q => h1 w _
  | ok s e1 =>
    rw [ea] at h1
    show match (match r e1 with | .ok ss e2 => LAns.ok (s :: ss) e2 | .ex c d e2 => .ex c d e2 | .no => .no) with | .ok ss env' => _ | .ex c d env' => _ | .no => _
    cases er : r e1 with
    | no => trivial
    | ex c d e2 =>
      refine fun w Q => h1 _ fun v Hf1 H1 s1 S1 => ?_
      have h2 := fr n IO H0 Hf1 σ _ e1 _ H1 S1
      rw [er] at h2
      exact h2 (fun cv dx Hf2 H2 s2 S2 x => w cv dx Hf2 H2 (s1.trans s2) S2.pop x) _
    | ok ss e2 =>
      refine fun Q q => h1 _ fun v Hf1 H1 s1 S1 => ?_
      have h2 := fr n IO H0 Hf1 σ _ e1 _ H1 S1
      rw [er] at h2
      refine h2 _ fun vs Hf2 H2 s2 l2 S2 => q (v :: vs) Hf2 H2 (s1.trans s2) (by simp [l2]) ?_
      simpa using S2

theorem sl_cons {e : Expr} {es : List Expr} {a : Sm} {r : Lm} (ha : SE P e a) (hr : SL P es r) : SL P (e :: es) (lCons a r) := by
  obtain ⟨ta, pa, fa⟩ := ha
  obtain ⟨tr, pr, fr⟩ := hr
  exact ⟨_, fun X hX => .cons (pa X hX) (pr X hX), evl_cons fa fr⟩

/-! ### rules on values -/
def derefs (e : Env) : List Slot → Option (List D)
  | [] => some []
  | s :: r => match deref e s, derefs e r with
    | some d, some ds => some (d :: ds)
    | _, _ => none
inductive PReps (G : Gi) (Hf H : Hp) : List V → List D → Prop
  | nil : PReps G Hf H [] []
  | cons {v d vs ds} : PRep G Hf H v d → PReps G Hf H vs ds → PReps G Hf H (v :: vs) (d :: ds)
theorem St0.preps (S : St0 P n IO H0 Hf σ tv env te H) : ∀ {vs : List V} {ss : List Slot} {k : Nat} {ds : List D}, (∀ i v, vs[i]? = some v → tv[k + i]? = some (some v)) → (∀ i s, ss[i]? = some s → te[k + i]? = some (some s)) → vs.length = ss.length → derefs env ss = some ds → PReps P.G Hf H vs ds
  | [], [], k, ds, _, _, _, h => by
    cases h; exact .nil
  | [], s :: ss, _, _, _, _, h, _ => by simp at h
  | v :: vs, [], _, _, _, _, h, _ => by simp at h
  | v :: vs, s :: ss, k, ds, h1, h2, hl, h => by
    unfold derefs at h
    cases e1 : deref env s with
    | none => rw [e1] at h; cases h
    | some d =>
      cases e2 : derefs env ss with
      | none => rw [e1, e2] at h; cases h
      | some r =>
        rw [e1, e2] at h; cases h
        refine .cons (S.prep (i := k) (h1 0 v rfl) (h2 0 s rfl) e1) (S.preps (k := k + 1) (fun i w hw => ?_) (fun i w hw => ?_) (by simpa using hl) e2)
        · have := h1 (i + 1) w (by simpa using hw); rwa [Nat.add_right_comm, Nat.add_assoc] 
        · have := h2 (i + 1) w (by simpa using hw); rwa [Nat.add_right_comm, Nat.add_assoc]
/-- a rule on a list of values keeps its word -/
def SN (G : Gi) (r : List V → Hp → VK → Prop) (f : List D → RR) : Prop := ∀ Hf H vs ds, Same Hf H → PReps G Hf H vs ds → RRok G Hf H (r vs H) (f ds)
def mN (f : List D → RR) (l : Lm) : Sm := fun e => match l e with
  | .ok ss e1 => match derefs e1 ss with
    | some ds => (f ds).ans e1
    | none => .no
  | .ex c d e1 => .ex c d e1
  | .no => .no
theorem RR.ans_ex {r : RR} {e e' : Env} {c : Str} {d : D} : r.ans e ≠ .ex c d e' := by cases r <;> simp [RR.ans]
theorem ev_n {t : TA} {r : List V → Hp → VK → Prop} {f : List D → RR} {l : Lm} (hf : SN P.G r f) (fl : EvL P t l) : Ev P (fun σ H Q => t σ H fun vs H1 => r vs H1 Q) (mN f l) := by
  intro n IO H0 Hf σ tv env te H S
  have h1 := fl n IO H0 Hf σ tv env te H S
  unfold mN
  cases el : l env with
  | no => trivial
  | ex c d e1 => rw [el] at h1; exact fun w Q => h1 w _
  | ok ss e1 =>
    rw [el] at h1
    show match (match derefs e1 ss with | some ds => (f ds).ans e1 | none => Ans.no) with | .ok s env' => _ | .ex c d env' => _ | .no => _
    cases ed : derefs e1 ss with
    | none => trivial
    | some ds =>
      show match (f ds).ans e1 with | .ok s env' => _ | .ex c d env' => _ | .no => _
      cases er : (f ds).ans e1 with
      | no => trivial
      | ex c d e2 => exact absurd er RR.ans_ex
      | ok s e2 =>
        refine fun Q q => h1 _ fun vs Hf1 H1 s1 l1 S1 => ?_
        have pr : PReps P.G Hf1 H1 vs ds := S1.preps (k := tv.length) (fun i v hv => ?_) (fun i v hv => ?_) l1 ed
        · have h0 : Same Hf1 H1 := S1.sr.sub
          have S2 : St0 P n IO H0 Hf1 σ tv e1 te H1 := St0.pops ss.length (by simp [l1]) (by simp) S1
          have h2 := S2.rr (hf Hf1 H1 vs ds h0 pr)
          rw [er] at h2
          exact h2 Q fun v Hf2 H2 s2 S3 => q v Hf2 H2 (s1.trans s2) S3
        · rw [List.getElem?_append_right (by omega), Nat.add_sub_cancel_left, List.getElem?_map, hv]; rfl
        · rw [List.getElem?_append_right (by rw [S.l2]; omega), S.l2, Nat.add_sub_cancel_left, List.getElem?_map, hv]; rfl
end

end VM

/-! VMC: tests, choices, displays; escapes -/
namespace VM
open PySem PySem.Spec PyProof.Rows L2

/-- data's truth -/
def tru : D → Option Bool
  | .non => some false
  | .bl b => some b
  | .int i => some (i != 0)
  | .str s => if s.length ≤ sizeLine then some ((s.length : Int) != 0) else none
  | .lst xs => some (!xs.isEmpty)
  | .frl xs => some (!xs.isEmpty)
  | .tup xs => some (!xs.isEmpty)
  | .frt xs => some (!xs.isEmpty)
  | _ => none
def mTru (m : Sm) : Tm := fun e => match m e with
  | .ok s e1 => match deref e1 s with
    | some d => match tru d with
      | some b => .ok b e1
      | none => .no
    | none => .no
  | .ex c d e1 => .ex c d e1
  | .no => .no
/-- a comparison's answer as a test -/
def mBl (m : Sm) : Tm := fun e => match m e with
  | .ok s e1 => match deref e1 s with
    | some (.bl b) => .ok b e1
    | _ => .no
  | .ex c d e1 => .ex c d e1
  | .no => .no
def mBV (m : Tm) : Sm := fun e => match m e with
  | .ok b e1 => .ok ⟨.sh, .bl b⟩ e1
  | .ex c d e1 => .ex c d e1
  | .no => .no
def tmAnd (a b : Tm) : Tm := fun e => match a e with
  | .ok true e1 => b e1
  | .ok false e1 => .ok false e1
  | .ex c d e1 => .ex c d e1
  | .no => .no
def tmOr (a b : Tm) : Tm := fun e => match a e with
  | .ok true e1 => .ok true e1
  | .ok false e1 => b e1
  | .ex c d e1 => .ex c d e1
  | .no => .no
def tmNot (a : Tm) : Tm := fun e => match a e with
  | .ok b e1 => .ok (!b) e1
  | .ex c d e1 => .ex c d e1
  | .no => .no
def mIf (c : Tm) (a b : Sm) : Sm := fun e => match c e with
  | .ok true e1 => a e1
  | .ok false e1 => b e1
  | .ex c d e1 => .ex c d e1
  | .no => .no
/-- x and y, x or y, not x as values -/
def mAnd (a b : Sm) : Sm := fun e => match a e with
  | .ok s e1 => match deref e1 s with
    | some d => match tru d with
      | some true => b e1
      | some false => .ok s e1
      | none => .no
    | none => .no
  | .ex c d e1 => .ex c d e1
  | .no => .no
def mOr (a b : Sm) : Sm := fun e => match a e with
  | .ok s e1 => match deref e1 s with
    | some d => match tru d with
      | some true => .ok s e1
      | some false => b e1
      | none => .no
    | none => .no
  | .ex c d e1 => .ex c d e1
  | .no => .no
def mNot (a : Sm) : Sm := fun e => match a e with
  | .ok s e1 => match deref e1 s with
    | some d => match tru d with
      | some b => .ok ⟨.sh, .bl (!b)⟩ e1
      | none => .no
    | none => .no
  | .ex c d e1 => .ex c d e1
  | .no => .no
/-- from now on shared -/
def mF (m : Sm) : Sm := fun e => match m e with
  | .ok ⟨.sh, d⟩ e1 => .ok ⟨.sh, d⟩ e1
  | .ok ⟨.ow, d⟩ e1 => .ok ⟨.sh, d⟩ e1
  | .ok ⟨.io, d⟩ e1 => .no
  | .ok ⟨.al j, _⟩ e1 => match e1[j]? with
    | some (some ⟨.ow, d⟩) => .ok ⟨.sh, d⟩ (e1.set j (sh d))
    | some (some ⟨.sh, d⟩) => .ok ⟨.sh, d⟩ e1
    | _ => .no
  | .ex c d e1 => .ex c d e1
  | .no => .no
/-- to be kept: what is new stays owned, what has a name is from now on shared -/
def mE (m : Sm) : Sm := fun e => match m e with
  | .ok ⟨.ow, d⟩ e1 => .ok ⟨.ow, d⟩ e1
  | _ => mF m e

section
variable {P : Pl} {n : Nat} {IO : En} {H0 Hf H : Hp} {σ tv : L2.St} {env te : Env}

theorem tru_v {G : Gi} {Hf H : Hp} {v : V} {d : D} {b : Bool} (s : Same Hf H) (r : PRep G Hf H v d) (h : tru d = some b) : TruV G.K v H b := by
  rcases r with r | ⟨p, o, rfl, hp, t⟩
  · cases r with
    | non => cases h; rfl
    | bl => cases h; rfl
    | int => cases h; rfl
    | @str x =>
      by_cases hl : x.length ≤ sizeLine
      · simp only [tru, if_pos hl] at h; cases h; exact ⟨hl, rfl⟩
      · simp only [tru, if_neg hl] at h; cases h
    | tup h1 l r =>
      cases h
      refine .inr (.inl ⟨_, .inl (.inl (s _ _ h1)), ?_⟩)
      rename_i vs ds
      cases vs <;> cases ds <;> simp at l ⊢
    | frt h1 l r =>
      cases h
      refine .inr (.inl ⟨_, SqT.mono s h1, ?_⟩)
      rename_i vs ds
      cases vs <;> cases ds <;> simp at l ⊢
    | lst h1 l r =>
      cases h
      refine .inl ⟨_, .inl (.inl (s _ _ h1)), ?_⟩
      rename_i vs ds
      cases vs <;> cases ds <;> simp at l ⊢
    | frl h1 l r =>
      cases h
      refine .inl ⟨_, SqL.mono s h1, ?_⟩
      rename_i vs ds
      cases vs <;> cases ds <;> simp at l ⊢
    | dic => cases h
    | dit => cases h
    | ins => cases h
    | fn => cases h
    | ty => cases h
    | cls => cases h
  · cases d with
    | lst ds =>
      obtain ⟨vs, e, r⟩ := t
      subst e; cases h
      refine .inl ⟨_, .inl (.inl hp), ?_⟩
      have l := r.len
      cases vs <;> cases ds <;> simp at l ⊢
    | dic => cases h
    | dit => cases h
    | ins => cases h
    | non => exact t.elim
    | bl b => exact t.elim
    | int b => exact t.elim
    | str b => exact t.elim
    | tup b => exact t.elim
    | frl b => exact t.elim
    | frt b => exact t.elim
    | fn b => exact t.elim
    | ty b => exact t.elim
    | cls b => exact t.elim
    | exc b c => exact t.elim

/-- the value in hand, by its record -/
theorem St0.last {v : V} {s : Slot} {d : D} (S : St0 P n IO H0 Hf σ (tv ++ [some v]) env (te ++ [some s]) H) (l : tv.length = te.length) (hd : deref env s = some d) : PRep P.G Hf H v d :=
  S.prep (i := tv.length) get_last (by rw [l]; exact get_last) hd

theorem evT_tru {t : TE} {m : Sm} (f : Ev P t m)  : EvT P (fun σ H Q => t σ H fun x H' => ∃ k, TruV P.G.K x H' k ∧ Q k H') (mTru m) := by
  intro n IO H0 Hf σ tv env te H S
  have h1 := f n IO H0 Hf σ tv env te H S
  unfold mTru
  cases em : m env with
  | no => trivial
  | ex c d e1 => rw [em] at h1; exact fun w Q => h1 w _
  | ok s e1 =>
    rw [em] at h1
    show match (match deref e1 s with | some d => (match tru d with | some b => TAns.ok b e1 | none => .no) | none => TAns.no) with | .ok s env' => _ | .ex c d env' => _ | .no => _
    cases ed : deref e1 s with
    | none => trivial
    | some d =>
      show match (match tru d with | some b => TAns.ok b e1 | none => .no) with | .ok s env' => _ | .ex c d env' => _ | .no => _
      cases eb : tru d with
      | none => trivial
      | some b => exact fun Q q => h1 _ fun v Hf1 H1 s1 S1 => ⟨b, tru_v S1.sr.sub (S1.last S.l2 ed) eb, q Hf1 H1 s1 S1.pop⟩
theorem evT_bl {t : TE} {m : Sm} (f : Ev P t m) : EvT P (tB t) (mBl m) := by
  intro n IO H0 Hf σ tv env te H S
  have h1 := f n IO H0 Hf σ tv env te H S
  unfold mBl
  cases em : m env with
  | no => trivial
  | ex c d e1 => rw [em] at h1; exact fun w Q => h1 w _
  | ok s e1 =>
    rw [em] at h1
    show match (match deref e1 s with | some (.bl b) => TAns.ok b e1 | _ => TAns.no) with | .ok s env' => _ | .ex c d env' => _ | .no => _
    cases ed : deref e1 s with
    | none => trivial
    | some d =>
      cases d with
      | bl b =>
        refine fun Q q => h1 _ fun v Hf1 H1 s1 S1 => ?_
        rcases S1.last S.l2 ed with r | ⟨p, o, _, _, t⟩
        · cases r; exact ⟨b, rfl, q Hf1 H1 s1 S1.pop⟩
        · exact t.elim
      | _ => trivial
theorem st_cmp {op : CmpOp} {a b : Expr} {pos : Pos} {m : Sm} (h : SC P op a b m) (h1 : behindInMarks op b = false) : ST P (.Compare a [op] [b] pos) (mBl m) :=
  let ⟨_, p, f⟩ := h; ⟨_, fun X hX => pt_cmp (p X hX) h1, evT_bl f⟩
theorem se_cmp {op : CmpOp} {a b : Expr} {pos : Pos} {m : Sm} (h : SC P op a b m) (h1 : behindInMarks op b = false) : SE P (.Compare a [op] [b] pos) m :=
  let ⟨_, p, f⟩ := h; ⟨_, fun X hX => pe_cmp (p X hX) h1, f⟩
theorem st_tru {e : Expr} {m : Sm} (hK : ∀ X, P.M X → X.K = P.G.K) (h : SE P e m) (he : ∀ env whole, isTrue e env whole = (do let v ← whole; standAt e.pos; holding [v] (truthy v))) : ST P e (mTru m) :=
  let ⟨_, p, f⟩ := h; ⟨_, fun X hX => (hK X hX) ▸ pt_truth (p X hX) (he _), evT_tru f⟩
theorem st_w {e : Expr} {m : Tm} (h : SW P e m) : ST P e m := let ⟨_, p, f⟩ := h; ⟨_, fun X hX => (p X hX).pt, f⟩
theorem sw_and1 {a : Expr} {pos : Pos} {m : Tm} (h : ST P a m) : SW P (.BoolOp .And [a] pos) m := let ⟨_, p, f⟩ := h; ⟨_, fun X hX => pw_and1 (p X hX), f⟩
theorem sw_or1 {a : Expr} {pos : Pos} {m : Tm} (h : ST P a m) : SW P (.BoolOp .Or [a] pos) m := let ⟨_, p, f⟩ := h; ⟨_, fun X hX => pw_or1 (p X hX), f⟩
theorem evT_and {t u : TT} {a b : Tm} (f : EvT P t a) (g : EvT P u b) : EvT P (tAnd t u) (tmAnd a b) := by
  intro n IO H0 Hf σ tv env te H S
  have h1 := f n IO H0 Hf σ tv env te H S
  unfold tmAnd
  cases ea : a env with
  | no => trivial
  | ex c d e1 => rw [ea] at h1; exact fun w Q => h1 w _
  | ok k e1 =>
    rw [ea] at h1
    cases k with
    | false => exact fun Q q => h1 _ fun Hf1 H1 s1 S1 => iteF (q Hf1 H1 s1 S1)
    | true =>
      show match b e1 with | .ok s env' => _ | .ex c d env' => _ | .no => _
      cases eb : b e1 with
      | no => trivial
      | ex c d e2 =>
        refine fun w Q => h1 _ fun Hf1 H1 s1 S1 => iteT ?_
        have h2 := g n IO H0 Hf1 σ tv e1 te H1 S1
        rw [eb] at h2
        exact h2 (fun cv dx Hf2 H2 s2 S2 x => w cv dx Hf2 H2 (s1.trans s2) S2 x) _
      | ok k2 e2 =>
        refine fun Q q => h1 _ fun Hf1 H1 s1 S1 => iteT ?_
        have h2 := g n IO H0 Hf1 σ tv e1 te H1 S1
        rw [eb] at h2
        exact h2 _ fun Hf2 H2 s2 S2 => q Hf2 H2 (s1.trans s2) S2
theorem evT_or {t u : TT} {a b : Tm} (f : EvT P t a) (g : EvT P u b) : EvT P (tOr t u) (tmOr a b) := by
  intro n IO H0 Hf σ tv env te H S
  have h1 := f n IO H0 Hf σ tv env te H S
  unfold tmOr
  cases ea : a env with
  | no => trivial
  | ex c d e1 => rw [ea] at h1; exact fun w Q => h1 w _
  | ok k e1 =>
    rw [ea] at h1
    cases k with
    | true => exact fun Q q => h1 _ fun Hf1 H1 s1 S1 => iteT (q Hf1 H1 s1 S1)
    | false =>
      show match b e1 with | .ok s env' => _ | .ex c d env' => _ | .no => _
      cases eb : b e1 with
      | no => trivial
      | ex c d e2 =>
        refine fun w Q => h1 _ fun Hf1 H1 s1 S1 => iteF ?_
        have h2 := g n IO H0 Hf1 σ tv e1 te H1 S1
        rw [eb] at h2
        exact h2 (fun cv dx Hf2 H2 s2 S2 x => w cv dx Hf2 H2 (s1.trans s2) S2 x) _
      | ok k2 e2 =>
        refine fun Q q => h1 _ fun Hf1 H1 s1 S1 => iteF ?_
        have h2 := g n IO H0 Hf1 σ tv e1 te H1 S1
        rw [eb] at h2
        exact h2 _ fun Hf2 H2 s2 S2 => q Hf2 H2 (s1.trans s2) S2
theorem sw_and {a b : Expr} {rest : List Expr} {pos : Pos} {m k : Tm} (h : ST P a m) (g : SW P (.BoolOp .And (b :: rest) pos) k) : SW P (.BoolOp .And (a :: b :: rest) pos) (tmAnd m k) :=
  let ⟨_, p, f⟩ := h; let ⟨_, p', f'⟩ := g; ⟨_, fun X hX => pw_and (p X hX) (p' X hX), evT_and f f'⟩
theorem sw_or {a b : Expr} {rest : List Expr} {pos : Pos} {m k : Tm} (h : ST P a m) (g : SW P (.BoolOp .Or (b :: rest) pos) k) : SW P (.BoolOp .Or (a :: b :: rest) pos) (tmOr m k) :=
  let ⟨_, p, f⟩ := h; let ⟨_, p', f'⟩ := g; ⟨_, fun X hX => pw_or (p X hX) (p' X hX), evT_or f f'⟩
theorem st_not {a : Expr} {pos : Pos} {m : Tm} (h : ST P a m) : ST P (.UnaryOp .Not a pos) (tmNot m) := by
  obtain ⟨t, p, f⟩ := h
  refine ⟨_, fun X hX => pt_not (p X hX), fun n IO H0 Hf σ tv env te H S => ?_⟩
  have h1 := f n IO H0 Hf σ tv env te H S
  unfold tmNot
  cases em : m env with
  | no => trivial
  | ex c d e1 => rw [em] at h1; exact fun w Q => h1 w _
  | ok k e1 => rw [em] at h1; exact fun Q q => h1 _ fun Hf1 H1 s1 S1 => q Hf1 H1 s1 S1
theorem se_if {c a b : Expr} {pos : Pos} {mc : Tm} {ma mb : Sm} (hc : ST P c mc) (ha : SE P a ma) (hb : SE P b mb) : SE P (.IfExp c a b pos) (mIf mc ma mb) := by
  obtain ⟨tc, pc, fc⟩ := hc
  obtain ⟨ta, pa, fa⟩ := ha
  obtain ⟨tb, pb, fb⟩ := hb
  refine ⟨_, fun X hX => pe_ifExp (pc X hX) (pa X hX) (pb X hX), fun n IO H0 Hf σ tv env te H S => ?_⟩
  have h1 := fc n IO H0 Hf σ tv env te H S
  unfold mIf
  cases ec : mc env with
  | no => trivial
  | ex c d e1 => rw [ec] at h1; exact fun w Q => h1 w _
  | ok k e1 =>
    rw [ec] at h1
    have two : ∀ (t : TE) (m : Sm), Ev P t m → (∀ Q H1, t σ H1 Q → (if k = true then ta σ H1 Q else tb σ H1 Q)) → match m e1 with
        | .ok s env' => ∀ Q : VK, (∀ v Hf' H', Same Hf Hf' → St0 P n IO H0 Hf' σ (tv ++ [some v]) env' (te ++ [some s]) H' → Q v H') → tIf tc ta tb σ H Q
        | .ex c d env' => (∀ cv dx Hf' H', Same Hf Hf' → St0 P n IO H0 Hf' σ tv env' te H' → XR P.exc P.G Hf' H' cv dx c d → P.W cv dx σ H') → ∀ Q, tIf tc ta tb σ H Q
        | .no => True := fun t m g way => by
      cases em : m e1 with
      | no => trivial
      | ex c d e2 =>
        refine fun w Q => h1 _ fun Hf1 H1 s1 S1 => way Q H1 ?_
        have h2 := g n IO H0 Hf1 σ tv e1 te H1 S1
        rw [em] at h2
        exact h2 (fun cv dx Hf2 H2 s2 S2 x => w cv dx Hf2 H2 (s1.trans s2) S2 x) _
      | ok s e2 =>
        refine fun Q q => h1 _ fun Hf1 H1 s1 S1 => way Q H1 ?_
        have h2 := g n IO H0 Hf1 σ tv e1 te H1 S1
        rw [em] at h2
        exact h2 _ fun v Hf2 H2 s2 S2 => q v Hf2 H2 (s1.trans s2) S2
    cases k with
    | true => exact two ta ma fa fun Q H1 h => iteT h
    | false => exact two tb mb fb fun Q H1 h => iteF h
/-- x and y as values -/
theorem ev_and {ta tb : TE} {a b : Sm} {K : PySem.W.Frag} (hK : P.G.K = K) (f : Ev P ta a) (g : Ev P tb b) :
    Ev P (fun σ H Q => ta σ H fun x H1 => ∃ k, TruV K x H1 k ∧ if k = true then tb σ H1 Q else Q x H1) (mAnd a b) := by
  subst hK
  intro n IO H0 Hf σ tv env te H S
  have h1 := f n IO H0 Hf σ tv env te H S
  unfold mAnd
  cases ea : a env with
  | no => trivial
  | ex c d e1 => rw [ea] at h1; exact fun w Q => h1 w _
  | ok s e1 =>
    rw [ea] at h1
    show match (match deref e1 s with | some d => (match tru d with | some true => b e1 | some false => Ans.ok s e1 | none => .no) | none => Ans.no) with | .ok s env' => _ | .ex c d env' => _ | .no => _
    cases ed : deref e1 s with
    | none => trivial
    | some d =>
      show match (match tru d with | some true => b e1 | some false => Ans.ok s e1 | none => .no) with | .ok s env' => _ | .ex c d env' => _ | .no => _
      cases et : tru d with
      | none => trivial
      | some k =>
        cases k with
        | false => exact fun Q q => h1 _ fun v Hf1 H1 s1 S1 => ⟨false, tru_v S1.sr.sub (S1.last S.l2 ed) et, iteF (q v Hf1 H1 s1 S1)⟩
        | true =>
          show match b e1 with | .ok s env' => _ | .ex c d env' => _ | .no => _
          cases eb : b e1 with
          | no => trivial
          | ex c d e2 =>
            refine fun w Q => h1 _ fun v Hf1 H1 s1 S1 => ⟨true, tru_v S1.sr.sub (S1.last S.l2 ed) et, iteT ?_⟩
            have h2 := g n IO H0 Hf1 σ tv e1 te H1 S1.pop
            rw [eb] at h2
            exact h2 (fun cv dx Hf2 H2 s2 S2 x => w cv dx Hf2 H2 (s1.trans s2) S2 x) _
          | ok s' e2 =>
            refine fun Q q => h1 _ fun v Hf1 H1 s1 S1 => ⟨true, tru_v S1.sr.sub (S1.last S.l2 ed) et, iteT ?_⟩
            have h2 := g n IO H0 Hf1 σ tv e1 te H1 S1.pop
            rw [eb] at h2
            exact h2 _ fun v Hf2 H2 s2 S2 => q v Hf2 H2 (s1.trans s2) S2
theorem ev_or {ta tb : TE} {a b : Sm} {K : PySem.W.Frag} (hK : P.G.K = K) (f : Ev P ta a) (g : Ev P tb b) :
    Ev P (fun σ H Q => ta σ H fun x H1 => ∃ k, TruV K x H1 k ∧ if k = true then Q x H1 else tb σ H1 Q) (mOr a b) := by
  subst hK
  intro n IO H0 Hf σ tv env te H S
  have h1 := f n IO H0 Hf σ tv env te H S
  unfold mOr
  cases ea : a env with
  | no => trivial
  | ex c d e1 => rw [ea] at h1; exact fun w Q => h1 w _
  | ok s e1 =>
    rw [ea] at h1
    show match (match deref e1 s with | some d => (match tru d with | some true => Ans.ok s e1 | some false => b e1 | none => .no) | none => Ans.no) with | .ok s env' => _ | .ex c d env' => _ | .no => _
    cases ed : deref e1 s with
    | none => trivial
    | some d =>
      show match (match tru d with | some true => Ans.ok s e1 | some false => b e1 | none => .no) with | .ok s env' => _ | .ex c d env' => _ | .no => _
      cases et : tru d with
      | none => trivial
      | some k =>
        cases k with
        | true => exact fun Q q => h1 _ fun v Hf1 H1 s1 S1 => ⟨true, tru_v S1.sr.sub (S1.last S.l2 ed) et, iteT (q v Hf1 H1 s1 S1)⟩
        | false =>
          show match b e1 with | .ok s env' => _ | .ex c d env' => _ | .no => _
          cases eb : b e1 with
          | no => trivial
          | ex c d e2 =>
            refine fun w Q => h1 _ fun v Hf1 H1 s1 S1 => ⟨false, tru_v S1.sr.sub (S1.last S.l2 ed) et, iteF ?_⟩
            have h2 := g n IO H0 Hf1 σ tv e1 te H1 S1.pop
            rw [eb] at h2
            exact h2 (fun cv dx Hf2 H2 s2 S2 x => w cv dx Hf2 H2 (s1.trans s2) S2 x) _
          | ok s' e2 =>
            refine fun Q q => h1 _ fun v Hf1 H1 s1 S1 => ⟨false, tru_v S1.sr.sub (S1.last S.l2 ed) et, iteF ?_⟩
            have h2 := g n IO H0 Hf1 σ tv e1 te H1 S1.pop
            rw [eb] at h2
            exact h2 _ fun v Hf2 H2 s2 S2 => q v Hf2 H2 (s1.trans s2) S2
theorem ev_not {ta : TE} {a : Sm} {K : PySem.W.Frag} (hK : P.G.K = K) (f : Ev P ta a) :
    Ev P (fun σ H Q => ta σ H fun x H1 => ∃ k, TruV K x H1 k ∧ Q (.bl (!k)) H1) (mNot a) := by
  subst hK
  intro n IO H0 Hf σ tv env te H S
  have h1 := f n IO H0 Hf σ tv env te H S
  unfold mNot
  cases ea : a env with
  | no => trivial
  | ex c d e1 => rw [ea] at h1; exact fun w Q => h1 w _
  | ok s e1 =>
    rw [ea] at h1
    show match (match deref e1 s with | some d => (match tru d with | some b => Ans.ok ⟨.sh, .bl (!b)⟩ e1 | none => .no) | none => Ans.no) with | .ok s env' => _ | .ex c d env' => _ | .no => _
    cases ed : deref e1 s with
    | none => trivial
    | some d =>
      show match (match tru d with | some b => Ans.ok ⟨.sh, .bl (!b)⟩ e1 | none => .no) with | .ok s env' => _ | .ex c d env' => _ | .no => _
      cases et : tru d with
      | none => trivial
      | some k => exact fun Q q => h1 _ fun v Hf1 H1 s1 S1 => ⟨k, tru_v S1.sr.sub (S1.last S.l2 ed) et, q _ Hf1 H1 s1 (S1.pop.push_sh .bl)⟩

/-! ### escapes -/
theorem set_app_right {α : Type} {l : List α} {x y : α} : (l ++ [x]).set l.length y = l ++ [y] := by
  induction l with
  | nil => rfl
  | cons a l ih => show a :: (l ++ [x]).set l.length y = _; rw [ih]; rfl
theorem set_app_left {α : Type} {l r : List α} {i : Nat} {y : α} (h : i < l.length) : (l ++ r).set i y = l.set i y ++ r := by
  induction l generalizing i with
  | nil => simp at h
  | cons a l ih =>
    cases i with
    | zero => rfl
    | succ i => show a :: (l ++ r).set i y = _; rw [ih (by simpa using h)]; rfl
theorem na_set {env : Env} {j : Nat} {t : Slot} (h : ∀ (i : Nat) (s : Slot), env[i]? = some (some s) → ∀ k, s.m ≠ .al k) (ht : ∀ k, t.m ≠ .al k) : ∀ (i : Nat) (s : Slot), (env.set j (some t))[i]? = some (some s) → ∀ k, s.m ≠ .al k := fun i s hs => by
  by_cases hj : j = i
  · subst hj
    rw [List.getElem?_set_self (by have := lt_of_get hs; simpa using this)] at hs
    cases hs; exact ht
  · rw [List.getElem?_set_ne hj] at hs
    exact h i s hs
/-- an owned slot is from now on shared -/
theorem St0.freeze (S : St0 P n IO H0 Hf σ tv env te H) {j : Nat} {d : D} (h : env[j]? = some (ow d)) : ∃ Hf', Same Hf Hf' ∧ St0 P n IO H0 Hf' σ tv (env.set j (sh d)) te H := by
  have hj := lt_of_get h
  obtain ⟨Hf', s, R⟩ := S.sr.freeze (i := j) (d := d) (by rw [List.getElem?_append_left hj]; exact h)
  refine ⟨Hf', s, by rw [List.length_set]; exact S.le, S.ls, na_set S.na (fun k => by simp), ?_⟩
  rwa [set_app_left hj] at R
/-- the thing in hand is from now on shared -/
theorem St0.freezeL {v : V} {d : D} (S : St0 P n IO H0 Hf σ (tv ++ [some v]) env (te ++ [ow d]) H) : ∃ Hf', Same Hf Hf' ∧ St0 P n IO H0 Hf' σ (tv ++ [some v]) env (te ++ [sh d]) H := by
  have hR := S.sr
  rw [← List.append_assoc env] at hR
  obtain ⟨Hf', s, R⟩ := hR.freeze (i := (env ++ te).length) (d := d) get_last
  refine ⟨Hf', s, S.le, S.ls, S.na, ?_⟩
  rwa [set_app_right, List.append_assoc] at R
/-- a shared slot's value -/
theorem St0.slot_sh (S : St0 P n IO H0 Hf σ tv env te H) {j : Nat} {d : D} (h : env[j]? = some (sh d)) : ∃ v, σ[j]? = some (some v) ∧ Rep P.G Hf v d := by
  have hj := lt_of_get h
  obtain ⟨v, e, r⟩ := S.sr.shr j d (by rw [List.getElem?_append_left hj]; exact h)
  rw [List.getElem?_append_left (by rw [S.ls, ← S.le]; exact hj)] at e
  exact ⟨v, e, r⟩
/-- another name of slot j in hand -/
theorem St0.ali {v : V} {d : D} {j : Nat} (S : St0 P n IO H0 Hf σ (tv ++ [some v]) env (te ++ [some ⟨.al j, d⟩]) H) (l : tv.length = te.length) : j < n ∧ σ[j]? = some (some v) := by
  have g2 : (env ++ (te ++ [some (⟨.al j, d⟩ : Slot)]))[n + te.length]? = some (some ⟨.al j, d⟩) := by
    rw [List.getElem?_append_right (by rw [S.le]; omega), S.le, Nat.add_sub_cancel_left]; exact get_last
  obtain ⟨jn, w, e1, e2, a, e3, e4⟩ := S.sr.ali _ j d g2
  have g1 : (σ ++ (tv ++ [some v]))[n + te.length]? = some (some v) := by
    rw [List.getElem?_append_right (by rw [S.ls]; omega), S.ls, Nat.add_sub_cancel_left, ← l]; exact get_last
  rw [g1] at e1; cases e1
  exact ⟨jn, by rwa [List.getElem?_append_left (by rw [S.ls]; exact jn)] at e2⟩
theorem ev_F {t : TE} {m : Sm} (f : Ev P t m) : Ev P t (mF m) := by
  intro n IO H0 Hf σ tv env te H S
  have h1 := f n IO H0 Hf σ tv env te H S
  unfold mF
  cases em : m env with
  | no => trivial
  | ex c d e1 => rw [em] at h1; exact h1
  | ok s e1 =>
    rw [em] at h1
    obtain ⟨k, d⟩ := s
    cases k with
    | sh => exact h1
    | ow => exact fun Q q => h1 _ fun v Hf1 H1 s1 S1 => let ⟨Hf2, s2, S2⟩ := S1.freezeL; q v Hf2 H1 (s1.trans s2) S2
    | io => trivial
    | al j =>
      show match (match e1[j]? with | some (some ⟨.ow, d⟩) => Ans.ok ⟨.sh, d⟩ (e1.set j (sh d)) | some (some ⟨.sh, d⟩) => .ok ⟨.sh, d⟩ e1 | _ => .no) with | .ok s env' => _ | .ex c d env' => _ | .no => _
      cases ej : e1[j]? with
      | none => trivial
      | some o =>
        cases o with
        | none => trivial
        | some s =>
          obtain ⟨k, d'⟩ := s
          cases k with
          | io => trivial
          | al _ => trivial
          | sh =>
            refine fun Q q => h1 _ fun v Hf1 H1 s1 S1 => q v Hf1 H1 s1 ?_
            obtain ⟨jn, hv⟩ := S1.ali S.l2
            obtain ⟨w, e, r⟩ := S1.slot_sh ej
            rw [hv] at e; cases e
            exact S1.pop.push_sh r
          | ow =>
            refine fun Q q => h1 _ fun v Hf1 H1 s1 S1 => ?_
            obtain ⟨jn, hv⟩ := S1.ali S.l2
            obtain ⟨Hf2, s2, S2⟩ := S1.pop.freeze ej
            obtain ⟨w, e, r⟩ := S2.slot_sh (j := j) (d := d') (by rw [List.getElem?_set_self (lt_of_get ej)])
            rw [hv] at e; cases e
            exact q v Hf2 H1 (s1.trans s2) (S2.push_sh r)
theorem ev_E {t : TE} {m : Sm} (f : Ev P t m) : Ev P t (mE m) := by
  intro n IO H0 Hf σ tv env te H S
  have h1 := f n IO H0 Hf σ tv env te H S
  have h2 := ev_F f n IO H0 Hf σ tv env te H S
  unfold mE
  cases em : m env with
  | no => exact h2
  | ex c d e1 => exact h2
  | ok s e1 =>
    obtain ⟨k, d⟩ := s
    cases k with
    | ow => rw [em] at h1; exact h1
    | sh => exact h2
    | io => exact h2
    | al j => exact h2
theorem se_F {e : Expr} {m : Sm} (h : SE P e m) : SE P e (mF m) := let ⟨_, p, f⟩ := h; ⟨_, p, ev_F f⟩
theorem se_E {e : Expr} {m : Sm} (h : SE P e m) : SE P e (mE m) := let ⟨_, p, f⟩ := h; ⟨_, p, ev_E f⟩
end

end VM

/-! VMD: displays; calls of the text's own defs -/
namespace VM
open PySem PySem.Spec PyProof.Rows L2

def notStar : Expr → Bool
  | .Starred _ _ => false
  | _ => true
theorem star_ok {e : Expr} {es : List Expr} {env : PySem.Env} (h : notStar e = true) : starEach (e :: es) env = (false, eval e env) :: starEach es env := by
  cases e <;> first | rfl | (simp [notStar] at h)
theorem pa_of {X : Cx} : ∀ {es : List Expr} {ts : List TE}, PEs X es ts → es.all notStar = true → PA X es (tAll ts)
  | _, _, .nil, _ => pa_nil
  | _, _, .cons h r, hs => by
    rw [List.all_cons, Bool.and_eq_true] at hs
    exact pa_cons h (pa_of r hs.2) (star_ok hs.1)
theorem star_any {env : PySem.Env} {pos : Pos} : ∀ {es : List Expr}, es.all notStar = true → (backTo pos (starEach es env)).any (·.1) = false
  | [], _ => rfl
  | e :: es, hs => by
    rw [List.all_cons, Bool.and_eq_true] at hs
    rw [star_ok hs.1]
    show (false || (backTo pos (starEach es env)).any (·.1)) = false
    rw [star_any hs.2]
    rfl

def shs : List Slot → Option (List D)
  | [] => some []
  | ⟨.sh, d⟩ :: r => match shs r with
    | some ds => some (d :: ds)
    | none => none
  | _ => none
def mTup (l : Lm) : Sm := fun e => match l e with
  | .ok ss e1 => match shs ss with
    | some ds => if ds.length ≤ 1000 then .ok ⟨.sh, .tup ds⟩ e1 else .no
    | none => .no
  | .ex c d e1 => .ex c d e1
  | .no => .no
def mLst (l : Lm) : Sm := fun e => match l e with
  | .ok ss e1 => match shs ss with
    | some ds => if ds.length ≤ 1000 then .ok ⟨.ow, .lst ds⟩ e1 else .no
    | none => .no
  | .ex c d e1 => .ex c d e1
  | .no => .no

section
variable {P : Pl} {n : Nat} {IO : En} {H0 Hf H : Hp} {σ tv : L2.St} {env te : Env}
theorem St0.at_sh (S : St0 P n IO H0 Hf σ tv env te H) {i : Nat} {v : V} {d : D} (h1 : tv[i]? = some (some v)) (h2 : te[i]? = some (sh d)) : Rep P.G Hf v d := by
  have g1 : (σ ++ tv)[n + i]? = some (some v) := by
    rw [List.getElem?_append_right (by rw [S.ls]; omega), S.ls, Nat.add_sub_cancel_left]; exact h1
  have g2 : (env ++ te)[n + i]? = some (sh d) := by
    rw [List.getElem?_append_right (by rw [S.le]; omega), S.le, Nat.add_sub_cancel_left]; exact h2
  obtain ⟨w, e, r⟩ := S.sr.shr _ d g2
  rw [g1] at e; cases e
  exact r
theorem shs_get : ∀ {ss : List Slot} {ds : List D}, shs ss = some ds → ss.length = ds.length ∧ ∀ (i : Nat) (d : D), ds[i]? = some d → ss[i]? = some (⟨.sh, d⟩ : Slot)
  | [], ds, h => by cases h; exact ⟨rfl, fun i d h => by simp at h⟩
  | ⟨m, d⟩ :: r, ds, h => by
    cases m with
    | sh =>
      unfold shs at h
      cases e : shs r with
      | none => rw [e] at h; cases h
      | some ds' =>
        rw [e] at h; cases h
        obtain ⟨l, g⟩ := shs_get e
        refine ⟨by simp [l], fun i d' hd => ?_⟩
        cases i with
        | zero => simp at hd ⊢; exact hd
        | succ i => simp at hd ⊢; exact g i d' hd
    | ow => unfold shs at h; cases h
    | io => unfold shs at h; cases h
    | al j => unfold shs at h; cases h
/-- the values in hand, all shared -/
theorem St0.all_sh {vs : List V} {ss : List Slot} {ds : List D} (S : St0 P n IO H0 Hf σ (tv ++ vs.map some) env (te ++ ss.map some) H) (l : tv.length = te.length) (hl : vs.length = ss.length) (h : shs ss = some ds) : Reps P.G Hf vs ds := by
  obtain ⟨l2, g⟩ := shs_get h
  refine ⟨by omega, fun i v d h1 h2 => S.at_sh (i := tv.length + i) ?_ ?_⟩
  · rw [List.getElem?_append_right (by omega), Nat.add_sub_cancel_left, List.getElem?_map, h1]; rfl
  · rw [l, List.getElem?_append_right (by omega), Nat.add_sub_cancel_left, List.getElem?_map, g i d h2]; rfl
theorem small_line {n : Nat} (h : n ≤ 1000) : n ≤ sizeLine := Nat.le_of_lt (small1000 h)
theorem ev_tup {t : TA} {l : Lm} (f : EvL P t l) : Ev P (tTup t) (mTup l) := by
  intro n IO H0 Hf σ tv env te H S
  have h1 := f n IO H0 Hf σ tv env te H S
  unfold mTup
  cases el : l env with
  | no => trivial
  | ex c d e1 => rw [el] at h1; exact fun w Q => h1 w _
  | ok ss e1 =>
    rw [el] at h1
    show match (match shs ss with | some ds => (if ds.length ≤ 1000 then Ans.ok ⟨.sh, .tup ds⟩ e1 else .no) | none => Ans.no) with | .ok s env' => _ | .ex c d env' => _ | .no => _
    cases es : shs ss with
    | none => trivial
    | some ds =>
      show match (if ds.length ≤ 1000 then Ans.ok ⟨.sh, .tup ds⟩ e1 else .no) with | .ok s env' => _ | .ex c d env' => _ | .no => _
      by_cases hz : ds.length ≤ 1000
      · rw [if_pos hz]
        refine fun Q q => h1 _ fun vs Hf1 H1 s1 l1 S1 => ?_
        have r := S1.all_sh S.l2 l1 es
        have S2 : St0 P n IO H0 Hf1 σ tv e1 te H1 := St0.pops ss.length (by simp [l1]) (by simp) S1
        refine ⟨by rw [r.len]; exact small_line hz, fun p hp => ?_⟩
        obtain ⟨s2, S3⟩ := S2.push_tup hp r
        exact q _ _ _ (s1.trans s2) S3
      · rw [if_neg hz]; trivial
theorem ev_lst {t : TA} {l : Lm} (f : EvL P t l) : Ev P (tLst t) (mLst l) := by
  intro n IO H0 Hf σ tv env te H S
  have h1 := f n IO H0 Hf σ tv env te H S
  unfold mLst
  cases el : l env with
  | no => trivial
  | ex c d e1 => rw [el] at h1; exact fun w Q => h1 w _
  | ok ss e1 =>
    rw [el] at h1
    show match (match shs ss with | some ds => (if ds.length ≤ 1000 then Ans.ok ⟨.ow, .lst ds⟩ e1 else .no) | none => Ans.no) with | .ok s env' => _ | .ex c d env' => _ | .no => _
    cases es : shs ss with
    | none => trivial
    | some ds =>
      show match (if ds.length ≤ 1000 then Ans.ok ⟨.ow, .lst ds⟩ e1 else .no) with | .ok s env' => _ | .ex c d env' => _ | .no => _
      by_cases hz : ds.length ≤ 1000
      · rw [if_pos hz]
        refine fun Q q => h1 _ fun vs Hf1 H1 s1 l1 S1 => ?_
        have r := S1.all_sh S.l2 l1 es
        have S2 : St0 P n IO H0 Hf1 σ tv e1 te H1 := St0.pops ss.length (by simp [l1]) (by simp) S1
        refine ⟨by rw [r.len]; exact small_line hz, fun p hp => ?_⟩
        exact q _ _ _ s1 (S2.push_ow hp ⟨vs, rfl, r⟩)
      · rw [if_neg hz]; trivial
theorem se_tup {es : List Expr} {k : Nat} {pos : Pos} {l : Lm} (h : SL P es l) (hs : es.all notStar = true) : SE P (.Tuple es k pos) (mTup l) :=
  let ⟨_, p, f⟩ := h; ⟨_, fun X hX => pe_tup (pa_of (p X hX) hs), ev_tup f⟩
theorem se_lst {es : List Expr} {pos : Pos} {l : Lm} (h : SL P es l) (hs : es.all notStar = true) : SE P (.List es pos) (mLst l) :=
  let ⟨_, p, f⟩ := h; ⟨_, fun X hX => pe_lst (pa_of (p X hX) hs), ev_lst f⟩
end

/-! ### what a def does, by its data -/
inductive FA where
  | ok (own : Bool) (d : D) (outs : List D)
  | ex (c : Str) (d : D) (outs : List D)
  | no
/-- io: which arguments are changed; F: what comes of the arguments -/
structure FS where
  io : List Bool
  F : List D → FA

mutual
/-- nothing within can be changed -/
def D.pu : D → Bool
  | .non => true
  | .bl _ => true
  | .int _ => true
  | .str _ => true
  | .fn _ => true
  | .ty _ => true
  | .cls _ => true
  | .tup xs => D.pus xs
  | .lst _ => false
  | .frl _ => false
  | .frt _ => false
  | .dic _ => false
  | .dit _ => false
  | .ins _ _ => false
  | .exc _ _ => false
def D.pus : List D → Bool
  | [] => true
  | x :: r => D.pu x && D.pus r
end
theorem D.pus_get : ∀ {xs : List D} {i : Nat} {d : D}, D.pus xs = true → xs[i]? = some d → d.pu = true
  | [], i, d, _, h => by simp at h
  | x :: r, 0, d, p, h => by
    simp at h; subst h
    unfold D.pus at p
    exact (Bool.and_eq_true _ _ ▸ p).1
  | x :: r, i + 1, d, p, h => by
    unfold D.pus at p
    exact D.pus_get (Bool.and_eq_true _ _ ▸ p).2 (by simpa using h)
/-- what stands below the top -/
def D.kids : D → Option (List D)
  | .lst xs => some xs
  | .dic kvs => some (kvs.map (·.2))
  | .dit kvs => some (kvs.map (·.2))
  | .ins _ fs => some (fs.map (·.2))
  | _ => none
def D.kpu (d : D) : Bool := match d.kids with
  | some ds => D.pus ds
  | none => false
/-- the thing may be handed on without a tie to what was handed in -/
def clean (own : Bool) (d : D) : Bool := if own then d.kpu else d.pu

theorem Rep.pure {G : Gi} {Hf Hg : Hp} {v : V} {d : D} (r : Rep G Hf v d) (hg : ∀ p o, Hf p = some o → ¬ Mut (some o) → Hg p = some o) (h : d.pu = true) : Rep G Hg v d := by
  induction r with
  | non => exact .non
  | bl => exact .bl
  | int => exact .int
  | str => exact .str
  | fn h' => exact .fn h'
  | ty => exact .ty
  | cls h' => exact .cls h'
  | tup hq l _ ih =>
    exact .tup (hg _ _ hq (fun z => z)) l fun i v d h1 h2 => ih i v d h1 h2 (D.pus_get (by simpa [D.pu] using h) h2)
  | frt => simp [D.pu] at h
  | lst => simp [D.pu] at h
  | frl => simp [D.pu] at h
  | dic => simp [D.pu] at h
  | dit => simp [D.pu] at h
  | ins => simp [D.pu] at h
theorem Reps.pure {G : Gi} {Hf Hg : Hp} {vs : List V} {ds : List D} (r : Reps G Hf vs ds) (hg : ∀ p o, Hf p = some o → ¬ Mut (some o) → Hg p = some o) (h : D.pus ds = true) : Reps G Hg vs ds :=
  ⟨r.len, fun i v d h1 h2 => (r.at' i v d h1 h2).pure hg (D.pus_get h h2)⟩
theorem TopO.pure {G : Gi} {Hf Hg : Hp} {o : HO} {d : D} (t : TopO G Hf o d) (hg : ∀ p o, Hf p = some o → ¬ Mut (some o) → Hg p = some o) (h : d.kpu = true) : TopO G Hg o d := by
  cases d with
  | lst ds => obtain ⟨vs, e, r⟩ := t; exact ⟨vs, e, r.pure hg h⟩
  | dic kds => obtain ⟨vs, e, l, r⟩ := t; exact ⟨vs, e, l, r.pure hg h⟩
  | dit kds => obtain ⟨vs, e, l, r⟩ := t; exact ⟨vs, e, l, r.pure hg h⟩
  | ins c fds => obtain ⟨C, dx, fs, e, hc, l, r⟩ := t; exact ⟨C, dx, fs, e, hc, l, r.pure hg h⟩
  | _ => exact t.elim

/-- the addresses that a call may change -/
def IOs (io : List Bool) (vs : List V) : Addr → Prop := fun p => ∃ i : Nat, io[i]? = some true ∧ vs[i]? = some (V.ref p)
/-- the heap behind a call -/
structure Post (G : Gi) (io : List Bool) (vs : List V) (Hf H Hf' H' : Hp) : Prop where
  sf : Same Hf Hf'
  sub : Same Hf' H'
  keep : ∀ b o, H b = some o → ¬ IOs io vs b → H' b = some o
  grow : ∀ b, H' b = none → H b = none
  nf : ∀ b o, Hf' b = some o → H b = none ∨ Hf b = some o
/-- the changed arguments -/
def Outs (G : Gi) (io : List Bool) (vs : List V) (Hf' H' : Hp) (outs : List D) : Prop :=
  outs.length = vs.length ∧ ∀ (i : Nat) (p : Addr) (d : D), io[i]? = some true → vs[i]? = some (V.ref p) → outs[i]? = some d → ∃ o, H' p = some o ∧ TopO G Hf' o d
def VRes (G : Gi) (H Hf' H' : Hp) (v : V) (own : Bool) (d : D) : Prop :=
  if own then ∃ p o, v = .ref p ∧ Hf' p = none ∧ H p = none ∧ H' p = some o ∧ TopO G Hf' o d else Rep G Hf' v d
/-- the arguments as they are handed in -/
structure ArgsR (G : Gi) (io : List Bool) (Hf H : Hp) (vs : List V) (ds : List D) : Prop where
  lv : vs.length = io.length
  ld : ds.length = io.length
  shr : ∀ (i : Nat) v d, io[i]? = some false → vs[i]? = some v → ds[i]? = some d → Rep G Hf v d
  inout : ∀ (i : Nat) v d, io[i]? = some true → vs[i]? = some v → ds[i]? = some d → ∃ p o, v = .ref p ∧ Hf p = none ∧ H p = some o ∧ TopO G Hf o d
  sep : ∀ (i j : Nat) v, i ≠ j → io[i]? = some true → io[j]? = some true → vs[i]? = some v → vs[j]? = some v → False
def spOf (exc : Str → Option (Addr × Str)) (G : Gi) (fs : FS) : Sp := fun vs H Q E => ∃ (Hf : Hp) (ds : List D), Same Hf H ∧ ArgsR G fs.io Hf H vs ds ∧
  match fs.F ds with
  | .ok own d outs => ∀ v Hf' H', Post G fs.io vs Hf H Hf' H' → VRes G H Hf' H' v own d → Outs G fs.io vs Hf' H' outs → Q v H'
  | .ex c d outs => ∀ cv dx Hf' H', Post G fs.io vs Hf H Hf' H' → XR exc G Hf' H' cv dx c d → Outs G fs.io vs Hf' H' outs → E cv dx H'
  | .no => False

end VM

/-! VME: calls of the text's own defs -/
namespace VM
open PySem PySem.Spec PyProof.Rows L2

/-- temporaries that are new are from now on shared -/
def mT (m : Sm) : Sm := fun e => match m e with
  | .ok ⟨.ow, d⟩ e1 => .ok ⟨.sh, d⟩ e1
  | r => r
/-- an argument's record: does it suit (st: what is only read must be shared) -/
def argOk (st : Bool) (e : Env) (ss : List Slot) : Bool → Slot → Bool
  | false, s => match s.m with
    | .sh => true
    | .al j => match e[j]? with
      | some (some t) => !(st && t.m.mut)
      | _ => false
    | _ => false
  | true, s => match s.m with
    | .ow => true
    | .al j => (match e[j]? with
      | some (some t) => t.m.mut
      | _ => false) && (ss.filter fun t => decide (t.m = .al j)).length == 1
    | _ => false
def argsOk (st : Bool) (e : Env) (ss : List Slot) : List Bool → List Slot → Bool
  | [], [] => true
  | b :: bs, s :: r => argOk st e ss b s && argsOk st e ss bs r
  | _, _ => false
/-- the changed arguments written back -/
def writeBack : List Bool → List Slot → List D → Env → Env
  | true :: bs, s :: ss, d :: ds, e => match s.m with
    | .al j => match e[j]? with
      | some (some t) => writeBack bs ss ds (e.set j (some ⟨t.m, d⟩))
      | _ => writeBack bs ss ds e
    | _ => writeBack bs ss ds e
  | false :: bs, _ :: ss, _ :: ds, e => writeBack bs ss ds e
  | _, _, _, e => e
/-- an owned thing that was handed in to be read is from now on shared -/
def shareArgs : List Bool → List Slot → Env → Option Env
  | false :: bs, s :: ss, e => match s.m with
    | .al j => match e[j]? with
      | some (some ⟨.ow, d⟩) => shareArgs bs ss (e.set j (sh d))
      | some (some ⟨.sh, _⟩) => shareArgs bs ss e
      | _ => none
    | _ => shareArgs bs ss e
  | true :: bs, _ :: ss, e => shareArgs bs ss e
  | [], [], e => some e
  | _, _, _ => none
def outsClean : List Bool → List D → Bool
  | true :: bs, d :: ds => d.kpu && outsClean bs ds
  | false :: bs, _ :: ds => outsClean bs ds
  | [], [] => true
  | _, _ => false
def callW (fs : FS) (ss : List Slot) (st : Bool) (e : Env) : Ans :=
  if argsOk st e ss fs.io ss then match derefs e ss with
    | some ds => match fs.F ds with
      | .ok own d outs => if outs.length = ss.length ∧ (st || (clean own d && outsClean fs.io outs)) = true then .ok ⟨if own then .ow else .sh, d⟩ (writeBack fs.io ss outs e) else .no
      | .ex c d outs => if outs.length = ss.length ∧ (st || (d.pu && outsClean fs.io outs)) = true then .ex c d (writeBack fs.io ss outs e) else .no
      | .no => .no
    | none => .no
  else .no
def callS (fs : FS) (ss : List Slot) (e : Env) : Ans := match callW fs ss true e with
  | .no => match callW fs ss false e with
    | .no => match shareArgs fs.io ss e with
      | some e2 => callW fs ss true e2
      | none => .no
    | r => r
  | r => r
def mCall (fs : FS) (l : Lm) : Sm := fun e => match l e with
  | .ok ss e1 => callS fs ss e1
  | .ex c d e1 => .ex c d e1
  | .no => .no

section
variable {n : Nat} {G : Gi} {IO : En} {H0 Hf H Hg H' : Hp} {σ tv : L2.St} {env te E E' : Env}
/-- behind a call: what is changed stands changed, all else as it was -/
theorem SR.after (R : SR n G IO H0 Hf σ E H) (chg : Addr → Prop) (hl : E'.length = E.length) (sf : Same Hf Hg) (sub : Same Hg H') (nf : ∀ b o, Hg b = some o → H0 b = none ∨ IO.f0 b = some o) (keep : ∀ b o, H b = some o → ¬ chg b → H' b = some o) (grow : ∀ b, H' b = none → H b = none)
    (hc : ∀ p, chg p → ∃ (k : Nat) (s : Slot), E[k]? = some (some s) ∧ s.m.mut = true ∧ σ[k]? = some (some (V.ref p)))
    (hfr : ∀ (k : Nat) (s : Slot) p, E[k]? = some (some s) → s.m.mut = true → σ[k]? = some (some (V.ref p)) → Hg p = none)
    (h : ∀ k : Nat, (E'[k]? = E[k]? ∧ ∀ (s : Slot) p, E[k]? = some (some s) → s.m.mut = true → σ[k]? = some (some (V.ref p)) → ¬ chg p) ∨
      ∃ (m : M) (d d' : D) (p : Addr) (o : HO), E[k]? = some (some ⟨m, d⟩) ∧ m.mut = true ∧ E'[k]? = some (some ⟨m, d'⟩) ∧ σ[k]? = some (some (V.ref p)) ∧ H' p = some o ∧ TopO G Hg o d') : SR n G IO H0 Hg σ E' H' := by
  have back : ∀ {k : Nat} {s : Slot}, E'[k]? = some (some s) → ∃ d, E[k]? = some (some ⟨s.m, d⟩) := fun {k s} hs => by
    rcases h k with ⟨e, _⟩ | ⟨m, d, d', p, o, e1, hm, e2, e3, e4, t⟩
    · rw [e] at hs; exact ⟨s.d, hs⟩
    · rw [e2] at hs; cases hs; exact ⟨d, e1⟩
  have forth : ∀ {k : Nat} {s : Slot}, E[k]? = some (some s) → ∃ d, E'[k]? = some (some ⟨s.m, d⟩) := fun {k s} hs => by
    rcases h k with ⟨e, _⟩ | ⟨m, d, d', p, o, e1, hm, e2, e3, e4, t⟩
    · rw [← e] at hs; exact ⟨s.d, hs⟩
    · rw [e1] at hs; cases hs; exact ⟨d', e2⟩
  refine ⟨sub, fun b o e nio => ?_, fun b e => R.grow b (grow b e), nf, by rw [hl]; exact R.len, fun k d hs => ?_, fun k d hs => ?_, fun k d hs => ?_, fun k j d hs => ?_, fun i j a b w ne ha hb ma mb h1 h2 => ?_⟩
  · have hb := R.keep b o e nio
    by_cases hcb : chg b
    · obtain ⟨k, s, hk, hm, hp⟩ := hc b hcb
      obtain ⟨m, d⟩ := s
      cases m with
      | sh => cases hm
      | al j => cases hm
      | ow =>
        obtain ⟨p, x, e1, _, z, _⟩ := R.own k d hk
        rw [hp] at e1; cases e1
        rw [e] at z; cases z
      | io =>
        obtain ⟨p, x, e1, _, z, _⟩ := R.inout k d hk
        rw [hp] at e1; cases e1
        exact absurd z nio
    · exact keep b o hb hcb
  · rcases h k with ⟨e, _⟩ | ⟨m, d1, d', p, o, e1, hm, e2, e3, e4, t⟩
    · rw [e] at hs
      obtain ⟨v, hv, r⟩ := R.shr k d hs
      exact ⟨v, hv, r.mono sf⟩
    · rw [e2] at hs; cases hs; cases hm
  · rcases h k with ⟨e, nc⟩ | ⟨m, d1, d', p, o, e1, hm, e2, e3, e4, t⟩
    · rw [e] at hs
      obtain ⟨p, o, e1, a, b, c, t⟩ := R.own k d hs
      exact ⟨p, o, e1, hfr k _ p hs rfl e1, b, keep p o c (nc _ p hs rfl e1), t.mono sf⟩
    · rw [e2] at hs; cases hs
      obtain ⟨p', o', e5, a, b, c, t'⟩ := R.own k d1 e1
      rw [e3] at e5; cases e5
      exact ⟨p, o, e3, hfr k _ p e1 rfl e3, b, e4, t⟩
  · rcases h k with ⟨e, nc⟩ | ⟨m, d1, d', p, o, e1, hm, e2, e3, e4, t⟩
    · rw [e] at hs
      obtain ⟨p, o, e1, a, b, c, t⟩ := R.inout k d hs
      exact ⟨p, o, e1, hfr k _ p hs rfl e1, b, keep p o c (nc _ p hs rfl e1), t.mono sf⟩
    · rw [e2] at hs; cases hs
      obtain ⟨p', o', e5, a, b, c, t'⟩ := R.inout k d1 e1
      rw [e3] at e5; cases e5
      exact ⟨p, o, e3, hfr k _ p e1 rfl e3, b, e4, t⟩
  · obtain ⟨d0, hk⟩ := back hs
    obtain ⟨jn, w, e1, e2, s, e3, e4⟩ := R.ali k j d0 hk
    obtain ⟨d2, h2⟩ := forth e3
    exact ⟨jn, w, e1, e2, _, h2, e4⟩
  · obtain ⟨d1, h3⟩ := back ha
    obtain ⟨d2, h4⟩ := back hb
    exact R.sep i j _ _ w ne h3 h4 ma mb h1 h2
end

section
variable {P : Pl}
theorem wb_len : ∀ {io : List Bool} {ss : List Slot} {ds : List D} {e : Env}, (writeBack io ss ds e).length = e.length
  | [], _, _, _ => by simp [writeBack]
  | true :: bs, [], _, _ => by simp [writeBack]
  | false :: bs, [], _, _ => by simp [writeBack]
  | true :: bs, s :: ss, [], _ => by simp [writeBack]
  | false :: bs, s :: ss, [], _ => by simp [writeBack]
  | false :: bs, s :: ss, d :: ds, e => by unfold writeBack; exact wb_len
  | true :: bs, s :: ss, d :: ds, e => by
    unfold writeBack
    obtain ⟨m, x⟩ := s
    cases m with
    | al j =>
      dsimp only
      split
      · rw [wb_len, List.length_set]
      · exact wb_len
    | _ => exact wb_len
theorem wb_same {k : Nat} : ∀ {io : List Bool} {ss : List Slot} {ds : List D} {e : Env}, (∀ (i : Nat) (s : Slot), io[i]? = some true → ss[i]? = some s → s.m ≠ .al k) → (writeBack io ss ds e)[k]? = e[k]?
  | [], _, _, _, _ => by simp [writeBack]
  | true :: bs, [], _, _, _ => by simp [writeBack]
  | false :: bs, [], _, _, _ => by simp [writeBack]
  | true :: bs, s :: ss, [], _, _ => by simp [writeBack]
  | false :: bs, s :: ss, [], _, _ => by simp [writeBack]
  | false :: bs, s :: ss, d :: ds, e, h => by
    unfold writeBack
    exact wb_same fun i t h1 h2 => h (i + 1) t (by simpa using h1) (by simpa using h2)
  | true :: bs, s :: ss, d :: ds, e, h => by
    have ih : ∀ e' : Env, (writeBack bs ss ds e')[k]? = e'[k]? := fun e' => wb_same fun i t h1 h2 => h (i + 1) t (by simpa using h1) (by simpa using h2)
    have h0 := h 0 s rfl rfl
    unfold writeBack
    obtain ⟨m, x⟩ := s
    cases m with
    | al j =>
      dsimp only
      have : j ≠ k := fun z => h0 (by rw [z])
      split
      · rw [ih, List.getElem?_set_ne this]
      · exact ih e
    | _ => exact ih e
theorem wb_at {k : Nat} {t : Slot} : ∀ {io : List Bool} {ss : List Slot} {ds : List D} {e : Env} {i : Nat} {s : Slot} {d : D}, io[i]? = some true → ss[i]? = some s → s.m = .al k → ds[i]? = some d → e[k]? = some (some t) →
    (∀ (i' : Nat) (s' : Slot), i' ≠ i → io[i']? = some true → ss[i']? = some s' → s'.m ≠ .al k) → (writeBack io ss ds e)[k]? = some (some ⟨t.m, d⟩)
  | [], _, _, _, i, _, _, h, _, _, _, _, _ => by simp at h
  | b :: bs, [], _, _, i, _, _, _, h, _, _, _, _ => by simp at h
  | b :: bs, s :: ss, [], _, i, _, _, _, _, _, h, _, _ => by simp at h
  | b :: bs, s :: ss, d :: ds, e, 0, s', d', h1, h2, h3, h4, h5, u => by
    simp at h1 h2 h4
    subst h1; subst h2; subst h4
    unfold writeBack
    obtain ⟨m, x⟩ := s
    have h3' : m = .al k := h3
    subst h3'
    dsimp only
    rw [h5]
    dsimp only
    rw [wb_same fun i t h1 h2 => u (i + 1) t (by omega) (by simpa using h1) (by simpa using h2), List.getElem?_set_self (lt_of_get h5)]
  | b :: bs, s :: ss, d :: ds, e, i + 1, s', d', h1, h2, h3, h4, h5, u => by
    simp at h1 h2 h4
    have ih : ∀ e' : Env, e'[k]? = some (some t) → (writeBack bs ss ds e')[k]? = some (some ⟨t.m, d'⟩) := fun e' he => wb_at h1 h2 h3 h4 he fun i' s'' hi h1' h2' => u (i' + 1) s'' (by omega) (by simpa using h1') (by simpa using h2')
    cases b with
    | false => unfold writeBack; exact ih e h5
    | true =>
      unfold writeBack
      have h0 := u 0 s (by omega) rfl rfl
      obtain ⟨m, x⟩ := s
      cases m with
      | al j =>
        dsimp only
        have : j ≠ k := fun z => h0 (by rw [z])
        split
        · exact ih _ (by rw [List.getElem?_set_ne this]; exact h5)
        · exact ih e h5
      | _ => exact ih e h5
theorem argsOk_get {st : Bool} {e : Env} {ss : List Slot} : ∀ {bs : List Bool} {r : List Slot}, argsOk st e ss bs r = true → bs.length = r.length ∧ ∀ (i : Nat) b s, bs[i]? = some b → r[i]? = some s → argOk st e ss b s = true
  | [], [], _ => ⟨rfl, fun i b s h => by simp at h⟩
  | [], s :: r, h => by simp [argsOk] at h
  | b :: bs, [], h => by simp [argsOk] at h
  | b :: bs, s :: r, h => by
    unfold argsOk at h
    rw [Bool.and_eq_true] at h
    obtain ⟨l, g⟩ := argsOk_get h.2
    refine ⟨by simp [l], fun i b' s' h1 h2 => ?_⟩
    cases i with
    | zero => simp at h1 h2; subst h1; subst h2; exact h.1
    | succ i => exact g i b' s' (by simpa using h1) (by simpa using h2)
theorem filter_two {p : Slot → Bool} : ∀ {ss : List Slot} {i j : Nat} {a b : Slot}, i ≠ j → ss[i]? = some a → ss[j]? = some b → p a = true → p b = true → 2 ≤ (ss.filter p).length
  | [], i, j, _, _, _, h, _, _, _ => by simp at h
  | s :: ss, 0, 0, _, _, ne, _, _, _, _ => absurd rfl ne
  | s :: ss, 0, j + 1, a, b, _, h1, h2, pa, pb => by
    simp at h1 h2; subst h1
    rw [List.filter_cons, if_pos pa, List.length_cons]
    have : 0 < (ss.filter p).length := List.length_pos_of_mem (List.mem_filter.mpr ⟨List.mem_of_getElem? h2, pb⟩)
    omega
  | s :: ss, i + 1, 0, a, b, _, h1, h2, pa, pb => by
    simp at h1 h2; subst h2
    rw [List.filter_cons, if_pos pb, List.length_cons]
    have : 0 < (ss.filter p).length := List.length_pos_of_mem (List.mem_filter.mpr ⟨List.mem_of_getElem? h1, pa⟩)
    omega
  | s :: ss, i + 1, j + 1, a, b, ne, h1, h2, pa, pb => by
    have ih := filter_two (p := p) (ss := ss) (i := i) (j := j) (by omega) (by simpa using h1) (by simpa using h2) pa pb
    rw [List.filter_cons]
    split
    · rw [List.length_cons]; omega
    · exact ih
theorem derefs_get {e : Env} : ∀ {ss : List Slot} {ds : List D}, derefs e ss = some ds → ss.length = ds.length ∧ ∀ (i : Nat) s d, ss[i]? = some s → ds[i]? = some d → deref e s = some d
  | [], ds, h => by cases h; exact ⟨rfl, fun i s d h => by simp at h⟩
  | s :: ss, ds, h => by
    unfold derefs at h
    cases e1 : deref e s with
    | none => rw [e1] at h; cases h
    | some d =>
      cases e2 : derefs e ss with
      | none => rw [e1, e2] at h; cases h
      | some r =>
        rw [e1, e2] at h; cases h
        obtain ⟨l, g⟩ := derefs_get e2
        refine ⟨by simp [l], fun i s' d' h1 h2 => ?_⟩
        cases i with
        | zero => simp at h1 h2; subst h1; subst h2; exact e1
        | succ i => exact g i s' d' (by simpa using h1) (by simpa using h2)
end

end VM

/-! VMF: a call's reading is granted -/
namespace VM
open PySem PySem.Spec PyProof.Rows L2

/-- the temporaries behind a call -/
def upT : List Bool → List Slot → List D → List Slot
  | true :: bs, s :: ss, d :: ds => (if s.m = .ow then ⟨.ow, d⟩ else s) :: upT bs ss ds
  | false :: bs, s :: ss, _ :: ds => s :: upT bs ss ds
  | _, ss, _ => ss
theorem upT_len : ∀ {io : List Bool} {ss : List Slot} {ds : List D}, (upT io ss ds).length = ss.length
  | [], _, _ => rfl
  | true :: bs, [], _ => rfl
  | false :: bs, [], _ => rfl
  | true :: bs, s :: ss, [] => rfl
  | false :: bs, s :: ss, [] => rfl
  | true :: bs, s :: ss, d :: ds => by simp [upT, upT_len (io := bs) (ss := ss) (ds := ds)]
  | false :: bs, s :: ss, d :: ds => by simp [upT, upT_len (io := bs) (ss := ss) (ds := ds)]
theorem upT_get : ∀ {io : List Bool} {ss : List Slot} {ds : List D} {i : Nat} {s : Slot}, ss[i]? = some s → (∀ d, io[i]? = some true → s.m = .ow → ds[i]? = some d → (upT io ss ds)[i]? = some ⟨.ow, d⟩) ∧
    ((io[i]? = some false ∨ s.m ≠ .ow) → (upT io ss ds)[i]? = some s)
  | [], ss, ds, i, s, h => ⟨fun d h => by simp at h, fun _ => h⟩
  | b :: bs, [], ds, i, s, h => by simp at h
  | true :: bs, s :: ss, [], i, t, h => ⟨fun d _ _ h => by simp at h, fun _ => h⟩
  | false :: bs, s :: ss, [], i, t, h => ⟨fun d _ _ h => by simp at h, fun _ => h⟩
  | true :: bs, s :: ss, d :: ds, 0, t, h => by
    simp at h; subst h
    refine ⟨fun d' _ hm hd => ?_, fun hh => ?_⟩
    · simp at hd; subst hd
      simp [upT, hm]
    · rcases hh with hh | hh
      · simp at hh
      · simp [upT, hh]
  | false :: bs, s :: ss, d :: ds, 0, t, h => by
    simp at h; subst h
    exact ⟨fun d' z => by simp at z, fun _ => by simp [upT]⟩
  | true :: bs, s :: ss, d :: ds, i + 1, t, h => by
    have ih := upT_get (io := bs) (ss := ss) (ds := ds) (i := i) (s := t) (by simpa using h)
    simpa [upT] using ih
  | false :: bs, s :: ss, d :: ds, i + 1, t, h => by
    have ih := upT_get (io := bs) (ss := ss) (ds := ds) (i := i) (s := t) (by simpa using h)
    simpa [upT] using ih
theorem outsClean_get : ∀ {io : List Bool} {ds : List D} {i : Nat} {d : D}, outsClean io ds = true → io[i]? = some true → ds[i]? = some d → d.kpu = true
  | [], _, i, _, _, h, _ => by simp at h
  | b :: bs, [], i, _, _, _, h => by simp at h
  | true :: bs, d :: ds, 0, e, h, _, h2 => by
    simp at h2; subst h2
    unfold outsClean at h
    exact (Bool.and_eq_true _ _ ▸ h).1
  | false :: bs, d :: ds, 0, e, h, h1, _ => by simp at h1
  | true :: bs, d :: ds, i + 1, e, h, h1, h2 => by
    unfold outsClean at h
    exact outsClean_get (Bool.and_eq_true _ _ ▸ h).2 (by simpa using h1) (by simpa using h2)
  | false :: bs, d :: ds, i + 1, e, h, h1, h2 => by
    unfold outsClean at h
    exact outsClean_get h (by simpa using h1) (by simpa using h2)

/-- writing back keeps how a slot stands -/
theorem wb_mode {k : Nat} : ∀ {io : List Bool} {ss : List Slot} {ds : List D} {e : Env} {s : Slot}, (writeBack io ss ds e)[k]? = some (some s) → ∃ z : Slot, e[k]? = some (some z) ∧ z.m = s.m
  | [], _, _, e, s, h => ⟨s, by simpa [writeBack] using h, rfl⟩
  | true :: bs, [], _, e, s, h => ⟨s, by simpa [writeBack] using h, rfl⟩
  | false :: bs, [], _, e, s, h => ⟨s, by simpa [writeBack] using h, rfl⟩
  | true :: bs, t :: ss, [], e, s, h => ⟨s, by simpa [writeBack] using h, rfl⟩
  | false :: bs, t :: ss, [], e, s, h => ⟨s, by simpa [writeBack] using h, rfl⟩
  | false :: bs, t :: ss, d :: ds, e, s, h => by
    unfold writeBack at h
    exact wb_mode h
  | true :: bs, t :: ss, d :: ds, e, s, h => by
    unfold writeBack at h
    obtain ⟨m, x⟩ := t
    cases m with
    | al j =>
      dsimp only at h
      cases ej : e[j]? with
      | none => rw [ej] at h; exact wb_mode h
      | some o =>
        cases o with
        | none => rw [ej] at h; exact wb_mode h
        | some u =>
          rw [ej] at h
          obtain ⟨z, h1, h2⟩ := wb_mode h
          by_cases hj : j = k
          · subst hj
            rw [List.getElem?_set_self (lt_of_get ej)] at h1
            cases h1
            exact ⟨u, ej, h2⟩
          · rw [List.getElem?_set_ne hj] at h1
            exact ⟨z, h1, h2⟩
    | _ => exact wb_mode h
section
variable {n : Nat} {G : Gi} {IO : En} {H0 Hf H : Hp} {σ : L2.St} {env : Env}
/-- one thing more: owned, at a place of its own -/
theorem SR.add_ow (R : SR n G IO H0 Hf σ env H) {p : Addr} {o : HO} {d : D} (h1 : Hf p = none) (h2 : H0 p = none) (h3 : H p = some o) (t : TopO G Hf o d)
    (nin : ∀ (i : Nat) (s : Slot), env[i]? = some (some s) → s.m.mut = true → σ[i]? = some (some (V.ref p)) → False) : SR n G IO H0 Hf (σ ++ [some (V.ref p)]) (env ++ [ow d]) H := by
  refine ⟨R.sub, R.keep, R.grow, R.nf, by simp [R.len], fun i d' h => ?_, fun i d' h => ?_, fun i d' h => ?_, fun i j d' h => ?_, fun i j a b w ne ha hb ma mb g1 g2 => ?_⟩
  · rcases snoc_cases h with ⟨hi, h⟩ | ⟨hi, h⟩
    · obtain ⟨w, e, q⟩ := R.shr i d' h
      exact ⟨w, by rw [get_before (R.lift h)]; exact e, q⟩
    · cases h
  · rcases snoc_cases h with ⟨hi, h⟩ | ⟨hi, h⟩
    · obtain ⟨q, x, e, z⟩ := R.own i d' h
      exact ⟨q, x, by rw [get_before (R.lift h)]; exact e, z⟩
    · cases h
      refine ⟨p, o, ?_, h1, h2, h3, t⟩
      rw [hi, ← R.len]; exact get_last
  · rcases snoc_cases h with ⟨hi, h⟩ | ⟨hi, h⟩
    · obtain ⟨q, x, e, z⟩ := R.inout i d' h
      exact ⟨q, x, by rw [get_before (R.lift h)]; exact e, z⟩
    · cases h
  · rcases snoc_cases h with ⟨hi, h⟩ | ⟨hi, h⟩
    · obtain ⟨jn, w, e1, e2, s, e3, e4⟩ := R.ali i j d' h
      exact ⟨jn, w, by rw [get_before (R.lift h)]; exact e1, by rw [get_before (R.lift e3)]; exact e2, s, by rw [get_before (lt_of_get e3)]; exact e3, e4⟩
    · cases h
  · rcases snoc_cases ha with ⟨hi, ha⟩ | ⟨hi, ha⟩
    · rcases snoc_cases hb with ⟨hj, hb⟩ | ⟨hj, hb⟩
      · rw [get_before (R.lift ha)] at g1
        rw [get_before (R.lift hb)] at g2
        exact R.sep i j a b w ne ha hb ma mb g1 g2
      · rw [get_before (R.lift ha)] at g1
        have : w = V.ref p := by rw [hj, ← R.len, get_last] at g2; exact (Option.some.inj (Option.some.inj g2)).symm
        subst this
        exact nin i a ha ma g1
    · rcases snoc_cases hb with ⟨hj, hb⟩ | ⟨hj, hb⟩
      · rw [get_before (R.lift hb)] at g2
        have : w = V.ref p := by rw [hi, ← R.len, get_last] at g1; exact (Option.some.inj (Option.some.inj g1)).symm
        subst this
        exact nin j b hb mb g2
      · exact ne (hi.trans hj.symm)
end

section
variable {P : Pl} {n : Nat} {IO : En} {H0 Hf H : Hp} {σ tv : L2.St} {e te : Env} {vs : List V} {ss : List Slot} {io : List Bool} {ds : List D} {st : Bool}

/-- where a temporary's thing stands -/
def rt (b : Nat) (ss : List Slot) (i : Nat) : Nat := match ss[i]? with
  | some ⟨.al j, _⟩ => j
  | _ => b + i

/-- all that a call's setting gives -/
structure CallEnv (n : Nat) (G : Gi) (IO : En) (H0 Hf H : Hp) (E : Env) (S : L2.St) (b : Nat) (e : Env) (ss : List Slot) (vs : List V) (io : List Bool) (ds : List D) (st : Bool) : Prop where
  R : SR n G IO H0 Hf S E H
  nb : n ≤ b
  lv : vs.length = ss.length
  lio : io.length = ss.length
  ld : ds.length = ss.length
  le : e.length = n
  base : ∀ j : Nat, j < n → E[j]? = e[j]?
  tmpE : ∀ i : Nat, E[b + i]? = (ss[i]?).map some
  tmpS : ∀ i : Nat, S[b + i]? = (vs[i]?).map some
  ok : ∀ (i : Nat) k s, io[i]? = some k → ss[i]? = some s → argOk st e ss k s = true
  de : ∀ (i : Nat) s d, ss[i]? = some s → ds[i]? = some d → deref e s = some d

variable {G : Gi} {E : Env} {S : L2.St} {b : Nat}
theorem CallEnv.alias (c : CallEnv n G IO H0 Hf H E S b e ss vs io ds st) {i j : Nat} {d : D} {v : V} (hs : ss[i]? = some ⟨.al j, d⟩) (hv : vs[i]? = some v) :
    j < n ∧ S[j]? = some (some v) ∧ ∃ t : Slot, e[j]? = some (some t) ∧ E[j]? = some (some t) ∧ ∀ k, t.m ≠ .al k := by
  have g : E[b + i]? = some (some ⟨.al j, d⟩) := by rw [c.tmpE, hs]; rfl
  obtain ⟨jn, w, e1, e2, t, e3, e4⟩ := c.R.ali _ j d g
  have e1' : S[b + i]? = some (some v) := by rw [c.tmpS, hv]; rfl
  rw [e1'] at e1; cases e1
  exact ⟨jn, e2, t, by rw [← c.base j jn]; exact e3, e3, e4⟩
/-- a changed argument's thing -/
theorem CallEnv.ioat (c : CallEnv n G IO H0 Hf H E S b e ss vs io ds st) {i : Nat} {s : Slot} {v : V} (hi : io[i]? = some true) (hs : ss[i]? = some s) (hv : vs[i]? = some v) :
    ∃ t : Slot, E[rt b ss i]? = some (some t) ∧ t.m.mut = true ∧ S[rt b ss i]? = some (some v) ∧ (∀ d, ds[i]? = some d → t.d = d) := by
  have h := c.ok i true s hi hs
  obtain ⟨m, d⟩ := s
  cases m with
  | sh => simp [argOk] at h
  | io => simp [argOk] at h
  | ow =>
    have er : rt b ss i = b + i := by unfold rt; rw [hs]
    rw [er]
    refine ⟨⟨.ow, d⟩, by rw [c.tmpE, hs]; rfl, rfl, by rw [c.tmpS, hv]; rfl, fun d' hd => ?_⟩
    have := c.de i _ d' hs hd
    unfold deref at this
    exact Option.some.inj this
  | al j =>
    have er : rt b ss i = j := by unfold rt; rw [hs]
    rw [er]
    obtain ⟨jn, e2, t, e3, e4, e5⟩ := c.alias hs hv
    simp only [argOk, e3, Bool.and_eq_true] at h
    refine ⟨t, e4, h.1, e2, fun d' hd => ?_⟩
    have := c.de i _ d' hs hd
    unfold deref at this
    simp only [e3] at this
    exact Option.some.inj this
/-- no two names of a changed argument's thing -/
theorem CallEnv.uniq (c : CallEnv n G IO H0 Hf H E S b e ss vs io ds st) {i k : Nat} {s t : Slot} (hi : io[i]? = some true) (hs : ss[i]? = some s) (ht : ss[k]? = some t) (ne : i ≠ k) : rt b ss i ≠ rt b ss k := by
  have h := c.ok i true s hi hs
  have al : ∀ {i j : Nat} {d : D}, ss[i]? = some (⟨.al j, d⟩ : Slot) → rt b ss i = j ∧ j < n := fun {i j d} hs => by
    refine ⟨by unfold rt; rw [hs], ?_⟩
    have hl : i < vs.length := by rw [c.lv]; exact lt_of_get hs
    exact (c.alias hs (List.getElem?_eq_getElem hl)).1
  have nal : ∀ {i : Nat} {s : Slot}, ss[i]? = some s → (∀ j, s.m ≠ .al j) → rt b ss i = b + i := fun {i s} hs na => by
    unfold rt
    rw [hs]
    obtain ⟨m, d⟩ := s
    cases m with
    | al j => exact absurd rfl (na j)
    | _ => rfl
  have nb := c.nb
  obtain ⟨m, d⟩ := s
  obtain ⟨m', d'⟩ := t
  by_cases ha : ∃ j, m = .al j
  · obtain ⟨j, rfl⟩ := ha
    obtain ⟨r1, jn⟩ := al hs
    by_cases hb : ∃ j', m' = .al j'
    · obtain ⟨j', rfl⟩ := hb
      obtain ⟨r2, _⟩ := al ht
      rw [r1, r2]
      intro ej
      subst ej
      simp only [argOk, Bool.and_eq_true] at h
      have h2 := filter_two (p := fun t : Slot => decide (t.m = .al j)) ne hs ht (by simp) (by simp)
      have h1 : (ss.filter fun t => decide (t.m = .al j)).length = 1 := by simpa using h.2
      omega
    · rw [r1, nal ht (fun j' z => hb ⟨j', z⟩)]; omega
  · rw [nal hs (fun j z => ha ⟨j, z⟩)]
    by_cases hb : ∃ j', m' = .al j'
    · obtain ⟨j', rfl⟩ := hb
      obtain ⟨r2, jn⟩ := al ht
      rw [r2]; omega
    · rw [nal ht (fun j' z => hb ⟨j', z⟩)]; omega
/-- the things that are only read and are owned here -/
def rdo (E : Env) (b : Nat) (ss : List Slot) (vs : List V) (io : List Bool) : Addr → Prop := fun p =>
  ∃ (i : Nat) (j : Nat) (d : D) (t : Slot), io[i]? = some false ∧ ss[i]? = some ⟨.al j, d⟩ ∧ vs[i]? = some (V.ref p) ∧ E[j]? = some (some t) ∧ t.m.mut = true
theorem SR.mutAt {R : SR n G IO H0 Hf S E H} {k : Nat} {t : Slot} {p : Addr} (ht : E[k]? = some (some t)) (hm : t.m.mut = true) (hp : S[k]? = some (some (V.ref p))) : Hf p = none ∧ ∃ o, H p = some o ∧ TopO G Hf o t.d ∧ (H0 p = none ∨ IO.io p) := by
  obtain ⟨m, d⟩ := t
  cases m with
  | sh => cases hm
  | al j => cases hm
  | ow =>
    obtain ⟨q, o, e1, a, b, c, t⟩ := R.own k d ht
    rw [hp] at e1; cases e1
    exact ⟨a, o, c, t, .inl b⟩
  | io =>
    obtain ⟨q, o, e1, a, b, c, t⟩ := R.inout k d ht
    rw [hp] at e1; cases e1
    exact ⟨a, o, c, t, .inr b⟩
open Classical in
/-- what is shared for the callee -/
noncomputable def hfc (Hf H : Hp) (A : Addr → Prop) : Hp := fun b => if A b then H b else Hf b
open Classical in
/-- what is shared behind the call -/
noncomputable def hfg (Hf Hf' H : Hp) : Hp := fun b => if H b = none then Hf' b else Hf b

theorem CallEnv.rdoAt (c : CallEnv n G IO H0 Hf H E S b e ss vs io ds st) {p : Addr} (h : rdo E b ss vs io p) : Hf p = none ∧ ∃ o d, H p = some o ∧ TopO G Hf o d := by
  obtain ⟨i, j, d, t, h1, h2, h3, h4, h5⟩ := h
  obtain ⟨jn, e2, t', e3, e4, e5⟩ := c.alias h2 h3
  obtain ⟨a, o, x, y, z⟩ := SR.mutAt (R := c.R) h4 h5 e2
  exact ⟨a, o, _, x, y⟩
theorem CallEnv.apart (c : CallEnv n G IO H0 Hf H E S b e ss vs io ds st) {p : Addr} (h : rdo E b ss vs io p) : ¬ IOs io vs p := by
  rintro ⟨k, hk, hv⟩
  obtain ⟨i, j, d, t, h1, h2, h3, h4, h5⟩ := h
  obtain ⟨jn, e2, _⟩ := c.alias h2 h3
  have hl : k < ss.length := by rw [← c.lio]; exact lt_of_get hk
  obtain ⟨t', a1, a2, a3, _⟩ := c.ioat hk (List.getElem?_eq_getElem hl) hv
  have ne : k ≠ i := fun z => by subst z; rw [hk] at h1; cases h1
  have u := c.uniq hk (List.getElem?_eq_getElem hl) h2 ne
  have r : rt b ss i = j := by unfold rt; rw [h2]
  rw [r] at u
  exact c.R.sep _ _ t' t _ u a1 h4 a2 h5 a3 e2
theorem CallEnv.args (c : CallEnv n G IO H0 Hf H E S b e ss vs io ds st) : Same Hf (hfc Hf H (rdo E b ss vs io)) ∧ Same (hfc Hf H (rdo E b ss vs io)) H ∧ ArgsR G io (hfc Hf H (rdo E b ss vs io)) H vs ds := by
  have s1 : Same Hf (hfc Hf H (rdo E b ss vs io)) := fun q o h => by
    unfold hfc
    by_cases hq : rdo E b ss vs io q
    · rw [(c.rdoAt hq).1] at h; cases h
    · rw [if_neg hq]; exact h
  refine ⟨s1, fun q o h => ?_, by rw [c.lv, c.lio], by rw [c.ld, c.lio], fun i v d h1 h2 h3 => ?_, fun i v d h1 h2 h3 => ?_, fun i k v ne h1 h2 h3 h4 => ?_⟩
  · unfold hfc at h
    by_cases hq : rdo E b ss vs io q
    · rw [if_pos hq] at h; exact h
    · rw [if_neg hq] at h; exact c.R.sub q o h
  · have hl : i < ss.length := by rw [← c.lio]; exact lt_of_get h1
    have hs := List.getElem?_eq_getElem hl
    generalize ss[i] = s at hs
    have ok := c.ok i false s h1 hs
    have de := c.de i s d hs h3
    obtain ⟨m, x⟩ := s
    cases m with
    | sh =>
      have g : E[b + i]? = some (sh x) := by rw [c.tmpE, hs]; rfl
      obtain ⟨w, e1, r⟩ := c.R.shr _ x g
      rw [c.tmpS, h2] at e1
      cases e1
      have : d = x := by unfold deref at de; exact (Option.some.inj de).symm
      subst this
      exact r.mono s1
    | ow => simp [argOk] at ok
    | io => simp [argOk] at ok
    | al j =>
      obtain ⟨jn, e2, t, e3, e4, e5⟩ := c.alias hs h2
      have ed : d = t.d := by unfold deref at de; simp only [e3] at de; exact (Option.some.inj de).symm
      subst ed
      by_cases hm : t.m.mut = true
      · have hp : ∃ p, v = V.ref p := by
          obtain ⟨m, y⟩ := t
          cases m with
          | sh => cases hm
          | al _ => cases hm
          | ow => obtain ⟨q, o, e1, _⟩ := c.R.own j y e4; rw [e2] at e1; cases e1; exact ⟨q, rfl⟩
          | io => obtain ⟨q, o, e1, _⟩ := c.R.inout j y e4; rw [e2] at e1; cases e1; exact ⟨q, rfl⟩
        obtain ⟨p, rfl⟩ := hp
        obtain ⟨a, o, x1, y1, z⟩ := SR.mutAt (R := c.R) e4 hm e2
        refine (y1.mono s1).rep ?_
        unfold hfc
        rw [if_pos ⟨i, j, x, t, h1, hs, h2, e4, hm⟩]
        exact x1
      · obtain ⟨m, y⟩ := t
        cases m with
        | ow => exact absurd rfl hm
        | io => exact absurd rfl hm
        | al k => exact absurd rfl (e5 k)
        | sh =>
          obtain ⟨w, e1, r⟩ := c.R.shr j y e4
          rw [e2] at e1; cases e1
          exact r.mono s1
  · have hl : i < ss.length := by rw [← c.lio]; exact lt_of_get h1
    obtain ⟨t, a1, a2, a3, a4⟩ := c.ioat h1 (List.getElem?_eq_getElem hl) h2
    have hp : ∃ p, v = V.ref p := by
      obtain ⟨m, y⟩ := t
      cases m with
      | sh => cases a2
      | al _ => cases a2
      | ow => obtain ⟨q, o, e1, _⟩ := c.R.own _ y a1; rw [a3] at e1; cases e1; exact ⟨q, rfl⟩
      | io => obtain ⟨q, o, e1, _⟩ := c.R.inout _ y a1; rw [a3] at e1; cases e1; exact ⟨q, rfl⟩
    obtain ⟨p, rfl⟩ := hp
    obtain ⟨a, o, x1, y1, z⟩ := SR.mutAt (R := c.R) a1 a2 a3
    refine ⟨p, o, rfl, ?_, x1, ?_⟩
    · unfold hfc
      rw [if_neg fun q => c.apart q ⟨i, h1, h2⟩]
      exact a
    · rw [← a4 d h3]; exact y1.mono s1
  · have hl : i < ss.length := by rw [← c.lio]; exact lt_of_get h1
    have hl2 : k < ss.length := by rw [← c.lio]; exact lt_of_get h2
    obtain ⟨t, a1, a2, a3, a4⟩ := c.ioat h1 (List.getElem?_eq_getElem hl) h3
    obtain ⟨t', b1, b2, b3, b4⟩ := c.ioat h2 (List.getElem?_eq_getElem hl2) h4
    exact c.R.sep _ _ t t' v (c.uniq h1 (List.getElem?_eq_getElem hl) (List.getElem?_eq_getElem hl2) ne) a1 b1 a2 b2 a3 b3
theorem CallEnv.post (c : CallEnv n G IO H0 Hf H E S b e ss vs io ds st) {Hf' H' : Hp} {outs : List D} (p : Post G io vs (hfc Hf H (rdo E b ss vs io)) H Hf' H') (hE : E = e ++ (te ++ ss.map some)) (hb : b = n + te.length)
    (ho : Outs G io vs Hf' H' outs) (hl : outs.length = ss.length) (hst : st = true ∨ outsClean io outs = true) :
    Same Hf (hfg Hf Hf' H) ∧ SR n G IO H0 (hfg Hf Hf' H) S (writeBack io ss outs e ++ (te ++ (upT io ss outs).map some)) H' ∧
    (∀ v own d, VRes G H Hf' H' v own d → (st = true ∨ clean own d = true) → VRes G H (hfg Hf Hf' H) H' v own d) ∧ (∀ q o, H q = none → Hf' q = some o → hfg Hf Hf' H q = some o) ∧
    (∀ v d, Rep G Hf' v d → (st = true ∨ d.pu = true) → Rep G (hfg Hf Hf' H) v d) := by
  obtain ⟨s1, s2, _⟩ := c.args
  have sg : Same Hf (hfg Hf Hf' H) := fun q o h => by
    unfold hfg
    have : H q ≠ none := by rw [c.R.sub q o h]; simp
    rw [if_neg this]; exact h
  have emp : st = true → ∀ q, ¬ rdo E b ss vs io q := fun hs q ⟨i, j, d, t, h1, h2, h3, h4, h5⟩ => by
    subst hs
    have ok := c.ok i false _ h1 h2
    obtain ⟨jn, e2, t', e3, e4, e5⟩ := c.alias h2 h3
    rw [h4] at e4; cases e4
    simp [argOk, e3, h5] at ok
  have tr : ∀ (strict : Prop), (strict ∨ st = true) → ∀ q o, Hf' q = some o → (st = true ∨ ¬ Mut (some o)) → hfg Hf Hf' H q = some o := fun _ _ q o h hm => by
    unfold hfg
    by_cases hq : H q = none
    · rw [if_pos hq]; exact h
    · rw [if_neg hq]
      rcases p.nf q o h with z | z
      · exact absurd z hq
      · unfold hfc at z
        by_cases hr : rdo E b ss vs io q
        · rcases hm with hm | hm
          · exact absurd hr (emp hm q)
          · rw [if_pos hr] at z
            obtain ⟨_, o', d, e1, t⟩ := c.rdoAt hr
            rw [e1] at z; cases z
            exact absurd t.mut hm
        · rw [if_neg hr] at z; exact z
  have repT : ∀ v d, Rep G Hf' v d → (st = true ∨ d.pu = true) → Rep G (hfg Hf Hf' H) v d := fun v d r h => by
    rcases h with h | h
    · exact r.mono fun q o z => tr True (.inl trivial) q o z (.inl h)
    · exact r.pure (fun q o z hm => tr True (.inl trivial) q o z (.inr hm)) h
  have topT : ∀ o d, TopO G Hf' o d → (st = true ∨ d.kpu = true) → TopO G (hfg Hf Hf' H) o d := fun o d r h => by
    rcases h with h | h
    · exact r.mono fun q o z => tr True (.inl trivial) q o z (.inl h)
    · exact r.pure (fun q o z hm => tr True (.inl trivial) q o z (.inr hm)) h
  have nb := c.nb
  refine ⟨sg, ?_, fun v own d r h => ?_, fun q o hq h => ?_, repT⟩
  · refine SR.after c.R (IOs io vs) ?_ sg (fun q o h => ?_) (fun q o h => ?_) p.keep p.grow (fun q ⟨i, hi, hv⟩ => ?_) (fun k t q ht hm hq => ?_) fun k => ?_
    · rw [hE]; simp [wb_len, upT_len]
    · unfold hfg at h
      by_cases hq : H q = none
      · rw [if_pos hq] at h; exact p.sub q o h
      · rw [if_neg hq] at h; exact p.sub q o (p.sf q o (s1 q o h))
    · unfold hfg at h
      by_cases hq : H q = none
      · exact .inl (c.R.grow q hq)
      · rw [if_neg hq] at h; exact c.R.nf q o h
    · have hl2 : i < ss.length := by rw [← c.lio]; exact lt_of_get hi
      obtain ⟨t, a1, a2, a3, _⟩ := c.ioat hi (List.getElem?_eq_getElem hl2) hv
      exact ⟨_, t, a1, a2, a3⟩
    · obtain ⟨a, o, x, _⟩ := SR.mutAt (R := c.R) ht hm hq
      unfold hfg
      rw [if_neg (by rw [x]; simp)]
      exact a
    · -- which place is it
      by_cases hk : ∃ (i : Nat) (s : Slot), io[i]? = some true ∧ ss[i]? = some s ∧ rt b ss i = k
      · obtain ⟨i, s, hi, hs, hr⟩ := hk
        have hlv : i < vs.length := by rw [c.lv]; exact lt_of_get hs
        have hlo : i < outs.length := by rw [hl]; exact lt_of_get hs
        have hv := List.getElem?_eq_getElem hlv
        have hd := List.getElem?_eq_getElem hlo
        generalize vs[i] = v at hv
        generalize outs[i] = d at hd
        obtain ⟨t, a1, a2, a3, a4⟩ := c.ioat hi hs hv
        have hp : ∃ q, v = V.ref q := by
          obtain ⟨m, y⟩ := t
          cases m with
          | sh => cases a2
          | al _ => cases a2
          | ow => obtain ⟨q, o, e1, _⟩ := c.R.own _ y a1; rw [a3] at e1; cases e1; exact ⟨q, rfl⟩
          | io => obtain ⟨q, o, e1, _⟩ := c.R.inout _ y a1; rw [a3] at e1; cases e1; exact ⟨q, rfl⟩
        obtain ⟨q, rfl⟩ := hp
        obtain ⟨o, ho1, ho2⟩ := ho.2 i q d hi hv hd
        have hkp : st = true ∨ d.kpu = true := hst.imp (fun z => z) fun z => outsClean_get z hi hd
        rw [hr] at a1 a3
        refine .inr ⟨t.m, t.d, d, q, o, a1, a2, ?_, a3, ho1, topT o d ho2 hkp⟩
        obtain ⟨m, x⟩ := s
        have okx := c.ok i true _ hi hs
        cases m with
        | sh => simp [argOk] at okx
        | io => simp [argOk] at okx
        | ow =>
          have er : rt b ss i = b + i := by unfold rt; rw [hs]
          have ek : k = n + te.length + i := by rw [← hr, er, hb]
          have h1 := (upT_get (io := io) (ds := outs) hs).1 d hi rfl hd
          have et : t.m = .ow := by
            rw [← hr, er, c.tmpE, hs] at a1
            cases a1; rfl
          rw [ek, List.getElem?_append_right (by rw [wb_len, c.le]; omega), wb_len, c.le, show n + te.length + i - n = te.length + i by omega, List.getElem?_append_right (by omega), Nat.add_sub_cancel_left, List.getElem?_map, h1, et]
          rfl
        | al j =>
          have er : rt b ss i = j := by unfold rt; rw [hs]
          obtain ⟨jn, e2, t', e3, e4, e5⟩ := c.alias hs hv
          have ek : k = j := by rw [← hr, er]
          subst ek
          rw [a1] at e4; cases e4
          rw [List.getElem?_append_left (by rw [wb_len, c.le]; exact jn)]
          refine wb_at hi hs rfl hd e3 fun i' s' hi' h1 h2 => ?_
          intro z
          have u := c.uniq hi hs h2 (Ne.symm hi')
          have r2 : rt b ss i' = k := by
            unfold rt
            rw [h2]
            obtain ⟨m', x'⟩ := s'
            have z' : m' = .al k := z
            subst z'
            rfl
          exact u (er.trans r2.symm)
      · refine .inl ⟨?_, fun s q hs hm hq ⟨i, hi, hv⟩ => ?_⟩
        · rw [hE]
          by_cases h1 : k < n
          · rw [List.getElem?_append_left (by rw [wb_len, c.le]; exact h1), List.getElem?_append_left (by rw [c.le]; exact h1)]
            refine wb_same fun i s hi hs z => hk ⟨i, s, hi, hs, ?_⟩
            unfold rt
            rw [hs]
            obtain ⟨m, x⟩ := s
            have z' : m = .al k := z
            subst z'
            rfl
          · have q1 : (writeBack io ss outs e ++ (te ++ (upT io ss outs).map some))[k]? = (te ++ (upT io ss outs).map some)[k - e.length]? := by
              rw [List.getElem?_append_right (by rw [wb_len, c.le]; omega), wb_len]
            have q2 : (e ++ (te ++ ss.map some))[k]? = (te ++ ss.map some)[k - e.length]? := by
              rw [List.getElem?_append_right (by rw [c.le]; omega)]
            rw [q1, q2]
            by_cases h2 : k - e.length < te.length
            · rw [List.getElem?_append_left h2, List.getElem?_append_left h2]
            · have q3 : (te ++ (upT io ss outs).map some)[k - e.length]? = ((upT io ss outs).map some)[k - e.length - te.length]? := List.getElem?_append_right (by omega)
              have q4 : (te ++ ss.map some)[k - e.length]? = (ss.map some)[k - e.length - te.length]? := List.getElem?_append_right (by omega)
              rw [q3, q4]
              have ei : k = b + (k - e.length - te.length) := by rw [hb, c.le]; rw [c.le] at h2; omega
              generalize k - e.length - te.length = i at ei
              rw [List.getElem?_map, List.getElem?_map]
              cases hs : ss[i]? with
              | none =>
                have : (upT io ss outs)[i]? = none := by
                  rw [List.getElem?_eq_none_iff, upT_len]
                  exact List.getElem?_eq_none_iff.mp hs
                rw [this]
              | some s =>
                have hli : i < io.length := by rw [c.lio]; exact lt_of_get hs
                have hio := List.getElem?_eq_getElem hli
                generalize io[i] = k1 at hio
                rw [(upT_get (io := io) (ds := outs) hs).2 ?_]
                cases k1 with
                | false => exact .inl hio
                | true =>
                  refine .inr fun z => hk ⟨i, s, hio, hs, ?_⟩
                  unfold rt
                  rw [hs]
                  obtain ⟨m, x⟩ := s
                  have z' : m = .ow := z
                  subst z'
                  exact ei.symm
        · have hl2 : i < ss.length := by rw [← c.lio]; exact lt_of_get hi
          obtain ⟨t, a1, a2, a3, _⟩ := c.ioat hi (List.getElem?_eq_getElem hl2) hv
          by_cases ne : rt b ss i = k
          · exact hk ⟨i, _, hi, List.getElem?_eq_getElem hl2, ne⟩
          · exact c.R.sep _ _ t s _ ne a1 hs a2 hm a3 hq
  · unfold VRes at r ⊢
    cases own with
    | false => exact repT v d r (by simpa [clean] using h)
    | true =>
      obtain ⟨q, o, e1, e2, e3, e4, t⟩ := r
      refine ⟨q, o, e1, ?_, e3, e4, topT o d t (by simpa [clean] using h)⟩
      unfold hfg
      rw [if_pos e3]; exact e2
  · unfold hfg
    rw [if_pos hq]; exact h

theorem callW_ok {fs : FS} {tv : L2.St} (S : St0 P n IO H0 Hf σ (tv ++ vs.map some) e (te ++ ss.map some) H) (l : tv.length = te.length) (lv : vs.length = ss.length) (Q : VK) : match callW fs ss st e with
    | .ok s e' => (∀ v Hf' H', Same Hf Hf' → St0 P n IO H0 Hf' σ (tv ++ [some v]) e' (te ++ [some s]) H' → Q v H') → spOf P.exc P.G fs vs H Q (WE P.W σ)
    | .ex c d e' => (∀ cv dx Hf' H', Same Hf Hf' → St0 P n IO H0 Hf' σ tv e' te H' → XR P.exc P.G Hf' H' cv dx c d → P.W cv dx σ H') → spOf P.exc P.G fs vs H Q (WE P.W σ)
    | .no => True := by
  unfold callW
  by_cases ha : argsOk st e ss fs.io ss = true
  · rw [if_pos ha]
    obtain ⟨lio, ok⟩ := argsOk_get ha
    cases ed : derefs e ss with
    | none => trivial
    | some ds =>
      dsimp only
      obtain ⟨ld, de⟩ := derefs_get ed
      have c : CallEnv n P.G IO H0 Hf H (e ++ (te ++ ss.map some)) (σ ++ (tv ++ vs.map some)) (n + te.length) e ss vs fs.io ds st :=
        ⟨S.sr, by omega, lv, lio, ld.symm, S.le, fun j hj => List.getElem?_append_left (by rw [S.le]; exact hj), fun i => by
          rw [List.getElem?_append_right (by rw [S.le]; omega), S.le, show n + te.length + i - n = te.length + i by omega, List.getElem?_append_right (by omega), Nat.add_sub_cancel_left, List.getElem?_map], fun i => by
          rw [List.getElem?_append_right (by rw [S.ls]; omega), S.ls, show n + te.length + i - n = tv.length + i by omega, List.getElem?_append_right (by omega), Nat.add_sub_cancel_left, List.getElem?_map],
          fun i k s h1 h2 => ok i k s h1 h2, fun i s d h1 h2 => de i s d h1 h2⟩
      obtain ⟨s1, s2, ar⟩ := c.args
      cases ef : fs.F ds with
      | no => trivial
      | ok own d outs =>
        dsimp only
        by_cases hc : outs.length = ss.length ∧ (st || (clean own d && outsClean fs.io outs)) = true
        · rw [if_pos hc]
          have h1 : st = true ∨ outsClean fs.io outs = true := by
            rcases Bool.or_eq_true _ _ ▸ hc.2 with h | h
            · exact .inl h
            · exact .inr (Bool.and_eq_true _ _ ▸ h).2
          have h2 : st = true ∨ clean own d = true := by
            rcases Bool.or_eq_true _ _ ▸ hc.2 with h | h
            · exact .inl h
            · exact .inr (Bool.and_eq_true _ _ ▸ h).1
          intro q
          refine ⟨_, ds, s2, ar, ?_⟩
          rw [ef]
          intro v Hf' H' p r o
          obtain ⟨sg, R, vt, fg, _⟩ := c.post p rfl rfl o hc.1 h1
          have r' := vt v own d r h2
          have S' : St0 P n IO H0 (hfg Hf Hf' H) σ (tv ++ vs.map some) (writeBack fs.io ss outs e) (te ++ (upT fs.io ss outs).map some) H' := ⟨by rw [wb_len]; exact S.le, S.ls, fun i s hs k => by obtain ⟨z, h1, h2⟩ := wb_mode hs; rw [← h2]; exact S.na i z h1 k, R⟩
          have S2 := St0.pops ss.length (by simp [lv]) (by simp [upT_len]) S'
          refine q v _ H' sg ?_
          cases own with
          | false => exact S2.push_sh r'
          | true =>
            obtain ⟨w, x, e1, e2, e3, e4, t⟩ := r'
            subst e1
            refine ⟨S2.le, S2.ls, S2.na, ?_⟩
            rw [← List.append_assoc, ← List.append_assoc]
            refine SR.add_ow S2.sr e2 (c.R.grow _ e3) e4 t fun k s hk hm hw => ?_
            -- no thing of ours stands at a place that was free
            obtain ⟨k0, s0, h0, m0⟩ : ∃ (k0 : Nat) (s0 : Slot), (e ++ (te ++ ss.map some))[k]? = some (some s0) ∧ s0.m = s.m := by
              have hkl : k < (writeBack fs.io ss outs e ++ te).length := lt_of_get hk
              rw [List.length_append, wb_len] at hkl
              have hk' : (writeBack fs.io ss outs e ++ (te ++ (upT fs.io ss outs).map some))[k]? = some (some s) := by
                rw [← List.append_assoc, List.getElem?_append_left (lt_of_get hk)]; exact hk
              by_cases hkn : k < e.length
              · rw [List.getElem?_append_left (by rw [wb_len]; exact hkn)] at hk'
                cases hek : e[k]? with
                | none => exact absurd (List.getElem?_eq_none_iff.mp hek) (by omega)
                | some o0 =>
                  obtain ⟨z, hz⟩ := wb_mode (io := fs.io) (ss := ss) (ds := outs) hk'
                  exact ⟨0, z, by rw [List.getElem?_append_left hkn]; exact hz.1, hz.2⟩
              · refine ⟨0, s, ?_, rfl⟩
                rw [List.getElem?_append_right (by omega)]
                rw [List.getElem?_append_right (by rw [wb_len]; omega), wb_len, List.getElem?_append_left (by omega)] at hk'
                rw [List.getElem?_append_left (by omega)]
                exact hk'
            have hw' : (σ ++ (tv ++ vs.map some))[k]? = some (some (V.ref w)) := by
              rw [← List.append_assoc, List.getElem?_append_left (by have := S2.sr.len; rw [this]; exact lt_of_get hk)]
              exact hw
            obtain ⟨_, y, hy, _⟩ := SR.mutAt (R := S.sr) h0 (by rw [m0]; exact hm) hw'
            rw [e3] at hy; cases hy
        · rw [if_neg hc]; trivial
      | ex cl d outs =>
        dsimp only
        by_cases hc : outs.length = ss.length ∧ (st || (d.pu && outsClean fs.io outs)) = true
        · rw [if_pos hc]
          have h1 : st = true ∨ outsClean fs.io outs = true := by
            rcases Bool.or_eq_true _ _ ▸ hc.2 with h | h
            · exact .inl h
            · exact .inr (Bool.and_eq_true _ _ ▸ h).2
          have h2 : st = true ∨ d.pu = true := by
            rcases Bool.or_eq_true _ _ ▸ hc.2 with h | h
            · exact .inl h
            · exact .inr (Bool.and_eq_true _ _ ▸ h).1
          intro q
          refine ⟨_, ds, s2, ar, ?_⟩
          rw [ef]
          intro cv dx Hf' H' p r o
          obtain ⟨sg, R, vt, fg, rt'⟩ := c.post p rfl rfl o hc.1 h1
          have S' : St0 P n IO H0 (hfg Hf Hf' H) σ (tv ++ vs.map some) (writeBack fs.io ss outs e) (te ++ (upT fs.io ss outs).map some) H' := ⟨by rw [wb_len]; exact S.le, S.ls, fun i s hs k => by obtain ⟨z, h1, h2⟩ := wb_mode hs; rw [← h2]; exact S.na i z h1 k, R⟩
          have S2 := St0.pops ss.length (by simp [lv]) (by simp [upT_len]) S'
          obtain ⟨C, f, dd, w, x1, x2, x3, x4, x5⟩ := r
          exact q cv dx _ H' sg S2 ⟨C, f, dd, w, x1, x2, x3, x4, rt' w d x5 h2⟩
        · rw [if_neg hc]; trivial
  · rw [if_neg ha]; trivial
end

end VM

/-! VMG: calls as expressions; targets; statements -/
namespace VM
open PySem PySem.Spec PyProof.Rows L2

section
variable {P : Pl} {n : Nat} {IO : En} {H0 Hf H : Hp} {σ tv : L2.St} {env te : Env}
theorem share_ok : ∀ {io : List Bool} {ss : List Slot} {e e2 : Env} {Hf : Hp} {tv : L2.St} {te : Env}, shareArgs io ss e = some e2 → St0 P n IO H0 Hf σ tv e te H → ∃ Hf', Same Hf Hf' ∧ St0 P n IO H0 Hf' σ tv e2 te H
  | [], [], e, e2, Hf, tv, te, h, S => by
    unfold shareArgs at h
    cases h; exact ⟨Hf, Same.refl _, S⟩
  | [], s :: ss, e, e2, Hf, tv, te, h, S => by simp [shareArgs] at h
  | true :: bs, [], e, e2, Hf, tv, te, h, S => by simp [shareArgs] at h
  | false :: bs, [], e, e2, Hf, tv, te, h, S => by simp [shareArgs] at h
  | true :: bs, s :: ss, e, e2, Hf, tv, te, h, S => by
    unfold shareArgs at h
    exact share_ok h S
  | false :: bs, s :: ss, e, e2, Hf, tv, te, h, S => by
    unfold shareArgs at h
    obtain ⟨m, x⟩ := s
    cases m with
    | sh => exact share_ok h S
    | ow => exact share_ok h S
    | io => exact share_ok h S
    | al j =>
      dsimp only at h
      cases ej : e[j]? with
      | none => rw [ej] at h; cases h
      | some o =>
        cases o with
        | none => rw [ej] at h; cases h
        | some t =>
          obtain ⟨m, d⟩ := t
          cases m with
          | ow =>
            rw [ej] at h
            obtain ⟨Hf1, s1, S1⟩ := S.freeze ej
            obtain ⟨Hf2, s2, S2⟩ := share_ok h S1
            exact ⟨Hf2, s1.trans s2, S2⟩
          | sh => rw [ej] at h; exact share_ok h S
          | io => rw [ej] at h; cases h
          | al _ => rw [ej] at h; cases h
theorem callS_ok {fs : FS} {e : Env} {vs : List V} {ss : List Slot} (S : St0 P n IO H0 Hf σ (tv ++ vs.map some) e (te ++ ss.map some) H) (l : tv.length = te.length) (lv : vs.length = ss.length) (Q : VK) : match callS fs ss e with
    | .ok s e' => (∀ v Hf' H', Same Hf Hf' → St0 P n IO H0 Hf' σ (tv ++ [some v]) e' (te ++ [some s]) H' → Q v H') → spOf P.exc P.G fs vs H Q (WE P.W σ)
    | .ex c d e' => (∀ cv dx Hf' H', Same Hf Hf' → St0 P n IO H0 Hf' σ tv e' te H' → XR P.exc P.G Hf' H' cv dx c d → P.W cv dx σ H') → spOf P.exc P.G fs vs H Q (WE P.W σ)
    | .no => True := by
  unfold callS
  have h1 := callW_ok (st := true) (fs := fs) S l lv Q
  cases e1 : callW fs ss true e with
  | ok s e' => rw [e1] at h1; exact h1
  | ex c d e' => rw [e1] at h1; exact h1
  | no =>
    dsimp only
    have h2 := callW_ok (st := false) (fs := fs) S l lv Q
    cases e2 : callW fs ss false e with
    | ok s e' => rw [e2] at h2; exact h2
    | ex c d e' => rw [e2] at h2; exact h2
    | no =>
      dsimp only
      cases e3 : shareArgs fs.io ss e with
      | none => trivial
      | some e4 =>
        obtain ⟨Hf1, s1, S1⟩ := share_ok e3 S
        have h3 := callW_ok (st := true) (fs := fs) S1 l lv Q
        dsimp only
        cases e5 : callW fs ss true e4 with
        | no => trivial
        | ok s e' => rw [e5] at h3; exact fun q => h3 fun v Hf2 H2 s2 => q v Hf2 H2 (s1.trans s2)
        | ex c d e' => rw [e5] at h3; exact fun q => h3 fun cv dx Hf2 H2 s2 => q cv dx Hf2 H2 (s1.trans s2)
theorem ev_call {t : TA} {l : Lm} {fs : FS} (f : EvL P t l) : Ev P (tCallS (spOf P.exc P.G fs) (WE P.W) t) (mCall fs l) := by
  intro n IO H0 Hf σ tv env te H S
  have h1 := f n IO H0 Hf σ tv env te H S
  unfold mCall
  cases el : l env with
  | no => trivial
  | ex c d e1 => rw [el] at h1; exact fun w Q => h1 w _
  | ok ss e1 =>
    rw [el] at h1
    dsimp only
    cases ec : callS fs ss e1 with
    | no => trivial
    | ok s e2 =>
      refine fun Q q => h1 _ fun vs Hf1 H1 s1 l1 S1 => ?_
      have h2 := callS_ok (fs := fs) S1 S.l2 l1 Q
      rw [ec] at h2
      exact h2 fun v Hf2 H2 s2 S2 => q v Hf2 H2 (s1.trans s2) S2
    | ex c d e2 =>
      refine fun w Q => h1 _ fun vs Hf1 H1 s1 l1 S1 => ?_
      have h2 := callS_ok (fs := fs) S1 S.l2 l1 Q
      rw [ec] at h2
      exact h2 fun cv dx Hf2 H2 s2 S2 => w cv dx Hf2 H2 (s1.trans s2) S2
/-- the def that the name x holds keeps its word -/
def FnFact (P : Pl) (x : Str) (fs : FS) : Prop := ∀ X, P.M X → ∃ f fd ps k, FnOk X.prog X.w X.K X.mg X.base (L2.CX X.prog X.w) k f fd ps (spOf P.exc P.G fs) ∧ Room k X.A ∧ X.mg x = some (.ref f) ∧ PySem.W.keepIn X.K (.ref f) = true ∧ Binds X.K fd ps []
theorem se_call {x : Str} {fs : FS} {p pos : Pos} {e : Expr} {es : List Expr} {l : Lm} (hF : FnFact P x fs) (hg : ∀ X, P.M X → Gl X x) (tk : ∀ X, P.M X → Takes X P.W) (hl : SL P (e :: es) l) (hs : (e :: es).all notStar = true) (hdb : (x == ("__debug__" : Str)) = false) :
    SE P (.Call (.Name x p) (e :: es) [] pos) (mCall fs l) := by
  obtain ⟨ts, pt, ft⟩ := hl
  have hs2 := hs
  rw [List.all_cons, Bool.and_eq_true] at hs2
  refine ⟨_, fun X hX => ?_, ev_call ft⟩
  obtain ⟨f, fd, ps, k, F, hr, hm, hk, hb⟩ := hF X hX
  exact pe_callS F hr (hg X hX) hm hk hb (fun σ => passAt (tk X hX) σ) (pa_of (pt X hX) hs) hdb (star_ok hs2.1) (star_any hs2.2)

/-! ### slots -/
/-- no other names in hand -/
def NoAl (te : Env) : Prop := ∀ (i : Nat) (s : Slot), te[i]? = some (some s) → ∀ k, s.m ≠ .al k
theorem SR.select {n' : Nat} {G : Gi} {σ' : L2.St} {env' : Env} (R : SR n G IO H0 Hf σ env H) (f : Nat → Nat) (hl : σ'.length = env'.length)
    (inj : ∀ (i j : Nat) (a b : Slot), env'[i]? = some (some a) → env'[j]? = some (some b) → f i = f j → i = j)
    (h : ∀ (i : Nat) (s : Slot), env'[i]? = some (some s) → env[f i]? = some (some s) ∧ σ'[i]? = σ[f i]?) (na : NoAl env') : SR n' G IO H0 Hf σ' env' H := by
  refine ⟨R.sub, R.keep, R.grow, R.nf, hl, fun i d hs => ?_, fun i d hs => ?_, fun i d hs => ?_, fun i j d hs => ?_, fun i j a b w ne ha hb ma mb g1 g2 => ?_⟩
  · obtain ⟨h1, h2⟩ := h i _ hs
    obtain ⟨v, e, r⟩ := R.shr _ d h1
    exact ⟨v, h2.trans e, r⟩
  · obtain ⟨h1, h2⟩ := h i _ hs
    obtain ⟨p, o, e, r⟩ := R.own _ d h1
    exact ⟨p, o, h2.trans e, r⟩
  · obtain ⟨h1, h2⟩ := h i _ hs
    obtain ⟨p, o, e, r⟩ := R.inout _ d h1
    exact ⟨p, o, h2.trans e, r⟩
  · exact absurd rfl (na i _ hs j)
  · obtain ⟨a1, a2⟩ := h i _ ha
    obtain ⟨b1, b2⟩ := h j _ hb
    exact R.sep (f i) (f j) a b w (fun z => ne (inj i j a b ha hb z)) a1 b1 ma mb (a2 ▸ g1) (b2 ▸ g2)

/-- the thing in hand is put into slot i -/
theorem St0.store {v : V} {s : Slot} (S : St0 P n IO H0 Hf σ (tv ++ [some v]) env (te ++ [some s]) H) (nt : NoAl te) (l : tv.length = te.length) (ns : ∀ k, s.m ≠ .al k) {i : Nat} (hi : i < n) : St0 P n IO H0 Hf (σ.set i (some v)) tv (env.set i (some s)) te H := by
  have le := S.le
  have ls := S.ls
  have na := na_set (j := i) S.na ns
  refine ⟨by simpa using le, by simpa using ls, na, ?_⟩
  have up : ∀ (j : Nat) (a : Slot), (env.set i (some s) ++ te)[j]? = some (some a) → (j = i ∧ a = s) ∨ (j ≠ i ∧ j < n + te.length ∧ (env ++ (te ++ [some s]))[j]? = some (some a) ∧ (σ.set i (some v) ++ tv)[j]? = (σ ++ (tv ++ [some v]))[j]?) := fun j a h => by
    have hj := lt_of_get h
    rw [List.length_append, List.length_set, le] at hj
    by_cases e : j = i
    · subst e
      rw [List.getElem?_append_left (by rw [List.length_set, le]; exact hi), List.getElem?_set_self (by rw [le]; exact hi)] at h
      exact .inl ⟨rfl, (Option.some.inj (Option.some.inj h)).symm⟩
    · refine .inr ⟨e, hj, ?_, ?_⟩
      · by_cases h1 : j < n
        · rw [List.getElem?_append_left (by rw [List.length_set, le]; exact h1), List.getElem?_set_ne (Ne.symm e)] at h
          rw [List.getElem?_append_left (by rw [le]; exact h1)]; exact h
        · rw [List.getElem?_append_right (by rw [List.length_set, le]; omega), List.length_set] at h
          rw [List.getElem?_append_right (by rw [le]; omega), List.getElem?_append_left (by rw [le]; omega)]; exact h
      · by_cases h1 : j < n
        · rw [List.getElem?_append_left (by rw [List.length_set, ls]; exact h1), List.getElem?_set_ne (Ne.symm e), List.getElem?_append_left (by rw [ls]; exact h1)]
        · rw [List.getElem?_append_right (by rw [List.length_set, ls]; omega), List.length_set, List.getElem?_append_right (by rw [ls]; omega), List.getElem?_append_left (by rw [ls]; omega)]
  have hv : (σ.set i (some v) ++ tv)[i]? = some (some v) := by
    rw [List.getElem?_append_left (by rw [List.length_set, ls]; exact hi), List.getElem?_set_self (by rw [ls]; exact hi)]
  have lastE : (env ++ (te ++ [some s]))[n + te.length]? = some (some s) := by
    rw [List.getElem?_append_right (by rw [le]; omega), le, Nat.add_sub_cancel_left]; exact get_last
  have lastS : (σ ++ (tv ++ [some v]))[n + te.length]? = some (some v) := by
    rw [List.getElem?_append_right (by rw [ls]; omega), ls, Nat.add_sub_cancel_left, ← l]; exact get_last
  refine SR.select S.sr (fun j => if j = i then n + te.length else j) (by simp [le, ls, l]) (fun a b x y ha hb e => ?_) (fun j a h => ?_) (fun j a h k => ?_)
  · rcases up a x ha with ⟨e1, _⟩ | ⟨e1, l1, _⟩ <;> rcases up b y hb with ⟨e2, _⟩ | ⟨e2, l2, _⟩
    · omega
    · rw [if_pos e1, if_neg e2] at e; omega
    · rw [if_neg e1, if_pos e2] at e; omega
    · rw [if_neg e1, if_neg e2] at e; exact e
  · rcases up j a h with ⟨e1, e2⟩ | ⟨e1, l1, h1, h2⟩
    · subst e1; subst e2
      rw [if_pos rfl]
      exact ⟨lastE, hv.trans lastS.symm⟩
    · rw [if_neg e1]; exact ⟨h1, h2⟩
  · have hj := lt_of_get h
    by_cases h1 : j < n
    · rw [List.getElem?_append_left (by rw [List.length_set, le]; exact h1)] at h
      exact na j a h k
    · rw [List.getElem?_append_right (by rw [List.length_set, le]; omega)] at h
      exact nt _ a h k

/-! ### targets -/
def AsgOk (l : List Nat) (σ σ' : L2.St) : Prop := σ'.length = σ.length ∧ ∀ j, j ∉ l → σ'[j]? = σ[j]?
theorem AsgOk.refl {l : List Nat} {σ : L2.St} : AsgOk l σ σ := ⟨rfl, fun _ _ => rfl⟩
theorem AsgOk.trans {l : List Nat} {σ σ' σ2 : L2.St} (a : AsgOk l σ σ') (b : AsgOk l σ' σ2) : AsgOk l σ σ2 := ⟨b.1.trans a.1, fun j h => (b.2 j h).trans (a.2 j h)⟩
theorem AsgOk.mono {l k : List Nat} {σ σ' : L2.St} (a : AsgOk l σ σ') (h : ∀ j, j ∈ l → j ∈ k) : AsgOk k σ σ' := ⟨a.1, fun j hj => a.2 j fun z => hj (h j z)⟩
theorem AsgOk.set {i : Nat} {σ : L2.St} {v : Option V} : AsgOk [i] σ (σ.set i v) := ⟨by simp, fun j hj => List.getElem?_set_ne (by simpa using Ne.symm (by simpa using hj))⟩
/-- a slot may be stored to -/
def free (e : Env) (i : Nat) : Bool := match e[i]? with
  | some (some s) => decide (s.m ≠ .io)
  | some none => true
  | none => false
structure Tgt where
  run : Slot → Env → Option Env
  asg : List Nat
def gN (i : Nat) : Tgt := ⟨fun s e => if free e i then some (e.set i (some s)) else none, [i]⟩
def setAll : List Nat → List D → Env → Option Env
  | [], [], e => some e
  | i :: is, d :: ds, e => if free e i then setAll is ds (e.set i (sh d)) else none
  | _, _, _ => none
/-- a, b = a tuple, a list -/
def gT (is : List Nat) : Tgt := ⟨fun s e => match s.m with
  | .sh => match s.d with
    | .tup ds => setAll is ds e
    | .lst ds => setAll is ds e
    | _ => none
  | _ => none, is⟩
def EvG (P : Pl) (g : TG) (f : Tgt) : Prop := ∀ n IO H0 Hf σ tv env te H (v : V) (s : Slot), St0 P n IO H0 Hf σ (tv ++ [some v]) env (te ++ [some s]) H → NoAl te → tv.length = te.length → (∀ k, s.m ≠ .al k) → match f.run s env with
  | some env' => ∀ Q : L2.St → Hp → Prop, (∀ σ', AsgOk f.asg σ σ' → St0 P n IO H0 Hf σ' tv env' te H → Q σ' H) → g v σ H Q
  | none => True
def SG (P : Pl) (tg : Expr) (f : Tgt) : Prop := ∃ g, (∀ X, P.M X → PG X tg g) ∧ EvG P g f
theorem free_lt {e : Env} {i : Nat} (h : free e i = true) : i < e.length := by
  unfold free at h
  cases he : e[i]? with
  | none => rw [he] at h; cases h
  | some o => exact lt_of_get he
theorem evg_n {i : Nat} : EvG P (gName i) (gN i) := by
  intro n IO H0 Hf σ tv env te H v s S nt l ns
  show match (if free env i then some (env.set i (some s)) else none) with | some env' => _ | none => _
  by_cases hf : free env i = true
  · rw [if_pos hf]
    exact fun Q q => q _ AsgOk.set (S.store nt l ns (by rw [← S.le]; exact free_lt hf))
  · rw [if_neg hf]; trivial
def gNames : List Nat → TGs
  | [] => gNil
  | i :: is => gCons (gName i) (gNames is)
theorem set_all : ∀ {is : List Nat} {ds : List D} {vs : List V} {env env' : Env} {σ : L2.St}, setAll is ds env = some env' → St0 P n IO H0 Hf σ tv env te H → Reps P.G Hf vs ds → NoAl te → tv.length = te.length →
    ∀ Q : L2.St → Hp → Prop, (∀ σ', AsgOk is σ σ' → St0 P n IO H0 Hf σ' tv env' te H → Q σ' H) → gNames is vs σ H Q
  | [], [], vs, env, env', σ, h, S, r, nt, l, Q, q => by
    cases h
    have e : vs = [] := List.eq_nil_of_length_eq_zero r.len
    exact ⟨e, q σ AsgOk.refl S⟩
  | [], d :: ds, vs, env, env', σ, h, _, _, _, _, _, _ => by simp [setAll] at h
  | i :: is, [], vs, env, env', σ, h, _, _, _, _, _, _ => by simp [setAll] at h
  | i :: is, d :: ds, vs, env, env', σ, h, S, r, nt, l, Q, q => by
    unfold setAll at h
    by_cases hf : free env i = true
    · rw [if_pos hf] at h
      cases vs with
      | nil => have := r.len; simp at this
      | cons v vs =>
        obtain ⟨r1, r2⟩ := r.inv
        refine ⟨v, vs, rfl, ?_⟩
        have S2 := (S.push_sh r1).store nt l (fun k => by simp) (i := i) (by rw [← S.le]; exact free_lt hf)
        refine set_all h S2 r2 nt l Q fun σ' a S' => q σ' ?_ S'
        refine AsgOk.trans (AsgOk.mono AsgOk.set ?_) (AsgOk.mono a ?_)
        · intro j hj; simp at hj; subst hj; exact List.mem_cons_self
        · intro j hj; exact List.mem_cons_of_mem _ hj
    · rw [if_neg hf] at h; cases h
theorem evg_t {is : List Nat} {k : Nat} {K : PySem.W.Frag} (hk : k = is.length) : EvG P (fun v σ H Q => gTup K k (gNames is) v σ H Q ∨ gLst K k (gNames is) v σ H Q) (gT is) := by
  intro n IO H0 Hf σ tv env te H v s S nt l ns
  obtain ⟨m, d⟩ := s
  have ln : ∀ {is : List Nat} {ds : List D} {e e' : Env}, setAll is ds e = some e' → ds.length = is.length := by
    intro is
    induction is with
    | nil => intro ds e e' h; cases ds with
      | nil => rfl
      | cons d ds => simp [setAll] at h
    | cons i is ih => intro ds e e' h; cases ds with
      | nil => simp [setAll] at h
      | cons d ds =>
        unfold setAll at h
        by_cases hf : free e i = true
        · rw [if_pos hf] at h; simp [ih h]
        · rw [if_neg hf] at h; cases h
  cases m with
  | sh =>
    have r := S.at_sh (i := tv.length) get_last (by rw [l]; exact get_last)
    cases d with
    | tup ds =>
      show match setAll is ds env with | some env' => _ | none => _
      cases e : setAll is ds env with
      | none => trivial
      | some env' =>
        refine fun Q q => .inl ?_
        cases r with
        | tup h1 l1 r1 =>
          rename_i p vs
          exact ⟨p, vs, rfl, .inl (.inl (S.sr.sub _ _ h1)), by rw [l1, ln e, hk], set_all e S.pop ⟨l1, r1⟩ nt l Q q⟩
    | lst ds =>
      show match setAll is ds env with | some env' => _ | none => _
      cases e : setAll is ds env with
      | none => trivial
      | some env' =>
        refine fun Q q => .inr ?_
        cases r with
        | lst h1 l1 r1 =>
          rename_i p vs
          exact ⟨p, vs, rfl, .inl (.inl (S.sr.sub _ _ h1)), by rw [l1, ln e, hk], set_all e S.pop ⟨l1, r1⟩ nt l Q q⟩
    | _ => trivial
  | ow => trivial
  | io => trivial
  | al j => exact absurd rfl (ns j)
theorem PG.or {X : Cx} {tg : Expr} {g h : TG} (a : PG X tg g) (b : PG X tg h) : PG X tg (fun v σ H Q => g v σ H Q ∨ h v σ H Q) := ⟨fun pins s σ H v u Q I r w => by
  rcases w with w | w
  · exact a.run pins s σ H v u Q I r w
  · exact b.run pins s σ H v u Q I r w⟩
end
end VM

/-! VMH: statements -/
namespace VM
open PySem PySem.Spec PyProof.Rows L2

inductive SA where
  | nx (e : Env) | bk (e : Env) | ct (e : Env) | rt (s : Slot) (e : Env) | ex (c : Str) (d : D) (e : Env) | no
structure Sx where
  run : Env → SA
  asg : List Nat

/-- what is wanted of the reading T, by the outcome -/
def OutS (P : Pl) (n : Nat) (IO : En) (H0 Hf : Hp) (σ tv : L2.St) (te : Env) (asg : List Nat) (T : Ends → Prop) : SA → Prop
  | .nx e => ∀ D : Ends, (∀ σ' Hf' H', Same Hf Hf' → AsgOk asg σ σ' → St0 P n IO H0 Hf' σ' tv e te H' → D.nx σ' H') → T D
  | .bk e => ∀ D : Ends, (∀ σ' Hf' H', Same Hf Hf' → AsgOk asg σ σ' → St0 P n IO H0 Hf' σ' tv e te H' → D.bk σ' H') → T D
  | .ct e => ∀ D : Ends, (∀ σ' Hf' H', Same Hf Hf' → AsgOk asg σ σ' → St0 P n IO H0 Hf' σ' tv e te H' → D.ct σ' H') → T D
  | .rt s e => ∀ D : Ends, (∀ v σ' Hf' H', Same Hf Hf' → AsgOk asg σ σ' → St0 P n IO H0 Hf' σ' (tv ++ [some v]) e (te ++ [some s]) H' → D.rt v H') → T D
  | .ex c d e => (∀ cv dx σ' Hf' H', Same Hf Hf' → AsgOk asg σ σ' → St0 P n IO H0 Hf' σ' tv e te H' → XR P.exc P.G Hf' H' cv dx c d → P.W cv dx σ' H') → ∀ D, T D
  | .no => True
/-- what is handed back is no other name -/
def RtOk (m : Sx) : Prop := ∀ e s e', m.run e = .rt s e' → ∀ k, s.m ≠ .al k
def EvS (P : Pl) (t : TS) (m : Sx) : Prop := RtOk m ∧ ∀ n IO H0 Hf σ tv env te H, St0 P n IO H0 Hf σ tv env te H → NoAl te → OutS P n IO H0 Hf σ tv te m.asg (fun D => t D σ H) (m.run env)
def SS (P : Pl) (st : Stmt) (m : Sx) : Prop := ∃ t, (∀ X, P.M X → PS X st t) ∧ EvS P t m
def SSs (P : Pl) (sts : List Stmt) (m : Sx) : Prop := ∃ t, (∀ X, P.M X → PSs X sts t) ∧ EvS P t m

def xSkip : Sx := ⟨fun e => .nx e, []⟩
def xBreak : Sx := ⟨fun e => .bk e, []⟩
def xCont : Sx := ⟨fun e => .ct e, []⟩
def xNever : Sx := ⟨fun _ => .no, []⟩
def xSeq (a b : Sx) : Sx := ⟨fun e => match a.run e with
  | .nx e1 => b.run e1
  | r => r, a.asg ++ b.asg⟩
def xExpr (m : Sm) : Sx := ⟨fun e => match m e with
  | .ok _ e1 => .nx e1
  | .ex c d e1 => .ex c d e1
  | .no => .no, []⟩
def xRet (m : Sm) : Sx := ⟨fun e => match m e with
  | .ok ⟨.sh, d⟩ e1 => .rt ⟨.sh, d⟩ e1
  | .ok ⟨.ow, d⟩ e1 => .rt ⟨.ow, d⟩ e1
  | .ok ⟨.al j, _⟩ e1 => match e1[j]? with
    | some (some ⟨.ow, d⟩) => .rt ⟨.ow, d⟩ (e1.set j none)
    | some (some ⟨.sh, d⟩) => .rt ⟨.sh, d⟩ e1
    | _ => .no
  | .ok ⟨.io, _⟩ _ => .no
  | .ex c d e1 => .ex c d e1
  | .no => .no, []⟩
def xRetN : Sx := ⟨fun e => .rt ⟨.sh, .non⟩ e, []⟩
def xAsg (m : Sm) (g : Tgt) : Sx := ⟨fun e => match mE m e with
  | .ok s e1 => match g.run s e1 with
    | some e2 => .nx e2
    | none => .no
  | .ex c d e1 => .ex c d e1
  | .no => .no, g.asg⟩
def xIf (c : Tm) (a b : Sx) : Sx := ⟨fun e => match c e with
  | .ok true e1 => a.run e1
  | .ok false e1 => b.run e1
  | .ex c d e1 => .ex c d e1
  | .no => .no, a.asg ++ b.asg⟩
def forD (g : Tgt) (b : Sx) : List D → Env → SA
  | [], e => .nx e
  | d :: r, e => match g.run ⟨.sh, d⟩ e with
    | some e1 => match b.run e1 with
      | .nx e2 => forD g b r e2
      | .ct e2 => forD g b r e2
      | .bk e2 => .nx e2
      | x => x
    | none => .no
inductive IA where
  | ok (ds : List D) (e : Env) | ex (c : Str) (d : D) (e : Env) | no
abbrev Im := Env → IA
def xFor (i : Im) (g : Tgt) (b : Sx) : Sx := ⟨fun e => match i e with
  | .ok ds e1 => forD g b ds e1
  | .ex c d e1 => .ex c d e1
  | .no => .no, g.asg ++ b.asg⟩
def whileN (c : Tm) (b : Sx) : Nat → Env → SA
  | 0, _ => .no
  | k + 1, e => match c e with
    | .ok false e1 => .nx e1
    | .ok true e1 => match b.run e1 with
      | .nx e2 => whileN c b k e2
      | .ct e2 => whileN c b k e2
      | .bk e2 => .nx e2
      | x => x
    | .ex c d e1 => .ex c d e1
    | .no => .no
open Classical in
noncomputable def xWhile (c : Tm) (b : Sx) : Sx := ⟨fun e => if h : ∃ k, whileN c b k e ≠ .no then whileN c b (Classical.choose h) e else .no, b.asg⟩

section
variable {P : Pl} {n : Nat} {IO : En} {H0 Hf H : Hp} {σ tv : L2.St} {env te : Env}
theorem whileN_more {c : Tm} {b : Sx} : ∀ {k : Nat} {e : Env}, whileN c b k e ≠ .no → whileN c b (k + 1) e = whileN c b k e
  | 0, e, h => absurd rfl h
  | k + 1, e, h => by
    rw [whileN]
    unfold whileN at h
    conv => rhs; rw [whileN]
    cases hc : c e with
    | no => rfl
    | ex _ _ _ => rfl
    | ok x e1 =>
      rw [hc] at h
      cases x with
      | false => rfl
      | true =>
        dsimp only at h ⊢
        cases hb : b.run e1 with
        | nx e2 => rw [hb] at h; exact whileN_more h
        | ct e2 => rw [hb] at h; exact whileN_more h
        | _ => rfl
theorem whileN_le {c : Tm} {b : Sx} {k : Nat} {e : Env} (h : whileN c b k e ≠ .no) : ∀ j, whileN c b (k + j) e = whileN c b k e
  | 0 => rfl
  | j + 1 => by
    have ih := whileN_le h j
    rw [← Nat.add_assoc, whileN_more (by rw [ih]; exact h), ih]
theorem xWhile_eq {c : Tm} {b : Sx} {k : Nat} {e : Env} (h : whileN c b k e ≠ .no) : (xWhile c b).run e = whileN c b k e := by
  have hx : ∃ k, whileN c b k e ≠ .no := ⟨k, h⟩
  simp only [xWhile]
  rw [dif_pos hx]
  have h2 := Classical.choose_spec hx
  generalize Classical.choose hx = j at h2
  rcases Nat.le_total j k with hl | hl
  · obtain ⟨d, rfl⟩ := Nat.le.dest hl
    exact (whileN_le h2 d).symm
  · obtain ⟨d, rfl⟩ := Nat.le.dest hl
    exact whileN_le h d

theorem evs_skip : EvS P tNext xSkip := ⟨fun e s e' h => (by cases h), fun n IO H0 Hf σ tv env te H S _ D q => q σ Hf H (Same.refl _) AsgOk.refl S⟩
theorem evs_break : EvS P tBreak xBreak := ⟨fun e s e' h => (by cases h), fun n IO H0 Hf σ tv env te H S _ D q => q σ Hf H (Same.refl _) AsgOk.refl S⟩
theorem evs_cont : EvS P tCont xCont := ⟨fun e s e' h => (by cases h), fun n IO H0 Hf σ tv env te H S _ D q => q σ Hf H (Same.refl _) AsgOk.refl S⟩
theorem ss_pass {pos : Pos} : SS P (.Pass pos) xSkip := ⟨_, fun _ _ => ps_pass, evs_skip⟩
theorem ss_doc {x : Str} {j : Nat} {pos pos' : Pos} : SS P (.Expr (.Constant (.str x) j pos) pos') xSkip := ⟨_, fun _ _ => ps_doc, evs_skip⟩
theorem ss_break {pos : Pos} : SS P (.Break pos) xBreak := ⟨_, fun _ _ => ps_break, evs_break⟩
theorem ss_cont {pos : Pos} : SS P (.Continue pos) xCont := ⟨_, fun _ _ => ps_continue, evs_cont⟩
theorem ss_never {st : Stmt} : SS P st xNever := ⟨_, fun _ _ => ps_never, fun e s e' h => (by cases h), fun n IO H0 Hf σ tv env te H S _ => trivial⟩
theorem sss_nil : SSs P [] xSkip := ⟨_, fun _ _ => pss_nil, evs_skip⟩
theorem OutS.mono {asg asg' : List Nat} {σ0 : L2.St} {Hf0 : Hp} {T : Ends → Prop} {r : SA} (h : OutS P n IO H0 Hf σ tv te asg T r) (s : Same Hf0 Hf) (a : AsgOk asg' σ0 σ) (m : ∀ j, j ∈ asg → j ∈ asg') : OutS P n IO H0 Hf0 σ0 tv te asg' T r := by
  cases r with
  | nx e => exact fun D q => h D fun σ' Hf' H' s' a' S => q σ' Hf' H' (s.trans s') (a.trans (a'.mono m)) S
  | bk e => exact fun D q => h D fun σ' Hf' H' s' a' S => q σ' Hf' H' (s.trans s') (a.trans (a'.mono m)) S
  | ct e => exact fun D q => h D fun σ' Hf' H' s' a' S => q σ' Hf' H' (s.trans s') (a.trans (a'.mono m)) S
  | rt s1 e => exact fun D q => h D fun v σ' Hf' H' s' a' S => q v σ' Hf' H' (s.trans s') (a.trans (a'.mono m)) S
  | ex c d e => exact fun w D => h (fun cv dx σ' Hf' H' s' a' S x => w cv dx σ' Hf' H' (s.trans s') (a.trans (a'.mono m)) S x) D
  | no => trivial
theorem sss_cons {st : Stmt} {rest : List Stmt} {a b : Sx} (h : SS P st a) (g : SSs P rest b) : SSs P (st :: rest) (xSeq a b) := by
  obtain ⟨t, p, fr, f⟩ := h
  obtain ⟨u, p', fr', f'⟩ := g
  refine ⟨_, fun X hX => pss_cons (p X hX) (p' X hX), fun e s e' h => ?_, fun n IO H0 Hf σ tv env te H S nt => ?_⟩
  · have h : (match a.run e with | .nx e1 => b.run e1 | r => r) = .rt s e' := h
    cases ea : a.run e with
    | nx e1 => rw [ea] at h; exact fr' _ _ _ h
    | rt s1 e1 => rw [ea] at h; cases h; exact fr _ _ _ ea
    | bk e1 => rw [ea] at h; cases h
    | ct e1 => rw [ea] at h; cases h
    | ex c d e1 => rw [ea] at h; cases h
    | no => rw [ea] at h; cases h
  have h1 := f n IO H0 Hf σ tv env te H S nt
  have ml : ∀ j, j ∈ a.asg → j ∈ a.asg ++ b.asg := fun j hj => List.mem_append_left _ hj
  have mr : ∀ j, j ∈ b.asg → j ∈ a.asg ++ b.asg := fun j hj => List.mem_append_right _ hj
  show OutS P n IO H0 Hf σ tv te (a.asg ++ b.asg) _ (match a.run env with | .nx e1 => b.run e1 | r => r)
  cases ea : a.run env with
  | nx e1 =>
    rw [ea] at h1
    dsimp only
    have go : ∀ (D : Ends), (∀ σ' Hf' H', Same Hf Hf' → AsgOk a.asg σ σ' → St0 P n IO H0 Hf' σ' tv e1 te H' → u D σ' H') → tSeq t u D σ H := fun D q => h1 { D with nx := u D } q
    have h2 : ∀ σ' Hf' H', St0 P n IO H0 Hf' σ' tv e1 te H' → OutS P n IO H0 Hf' σ' tv te b.asg (fun D => u D σ' H') (b.run e1) := fun σ' Hf' H' S' => f' n IO H0 Hf' σ' tv e1 te H' S' nt
    cases eb : b.run e1 with
    | nx e2 => exact fun D q => go D fun σ' Hf' H' s' a' S' => (h2 σ' Hf' H' S' |> fun z => by rw [eb] at z; exact z D fun σ2 Hf2 H2 s2 a2 S2 => q σ2 Hf2 H2 (s'.trans s2) ((a'.mono ml).trans (a2.mono mr)) S2)
    | bk e2 => exact fun D q => go D fun σ' Hf' H' s' a' S' => (h2 σ' Hf' H' S' |> fun z => by rw [eb] at z; exact z D fun σ2 Hf2 H2 s2 a2 S2 => q σ2 Hf2 H2 (s'.trans s2) ((a'.mono ml).trans (a2.mono mr)) S2)
    | ct e2 => exact fun D q => go D fun σ' Hf' H' s' a' S' => (h2 σ' Hf' H' S' |> fun z => by rw [eb] at z; exact z D fun σ2 Hf2 H2 s2 a2 S2 => q σ2 Hf2 H2 (s'.trans s2) ((a'.mono ml).trans (a2.mono mr)) S2)
    | rt s e2 => exact fun D q => go D fun σ' Hf' H' s' a' S' => (h2 σ' Hf' H' S' |> fun z => by rw [eb] at z; exact z D fun v σ2 Hf2 H2 s2 a2 S2 => q v σ2 Hf2 H2 (s'.trans s2) ((a'.mono ml).trans (a2.mono mr)) S2)
    | ex c d e2 => exact fun w D => go D fun σ' Hf' H' s' a' S' => (h2 σ' Hf' H' S' |> fun z => by rw [eb] at z; exact z (fun cv dx σ2 Hf2 H2 s2 a2 S2 x => w cv dx σ2 Hf2 H2 (s'.trans s2) ((a'.mono ml).trans (a2.mono mr)) S2 x) D)
    | no => trivial
  | bk e1 => rw [ea] at h1; exact fun D q => h1 { D with nx := u D } fun σ' Hf' H' s' a' S' => q σ' Hf' H' s' (a'.mono ml) S'
  | ct e1 => rw [ea] at h1; exact fun D q => h1 { D with nx := u D } fun σ' Hf' H' s' a' S' => q σ' Hf' H' s' (a'.mono ml) S'
  | rt s e1 => rw [ea] at h1; exact fun D q => h1 { D with nx := u D } fun v σ' Hf' H' s' a' S' => q v σ' Hf' H' s' (a'.mono ml) S'
  | ex c d e1 => rw [ea] at h1; exact fun w D => h1 (fun cv dx σ' Hf' H' s' a' S' x => w cv dx σ' Hf' H' s' (a'.mono ml) S' x) { D with nx := u D }
  | no => trivial
theorem sss_one {st : Stmt} {a : Sx} (h : SS P st a) : SSs P [st] a := let ⟨_, p, f⟩ := h; ⟨_, fun X hX => pss_one (p X hX), f⟩

def notComp : Expr → Bool
  | .ListComp _ _ _ _ => false
  | .SetComp _ _ _ _ => false
  | .DictComp _ _ _ _ _ => false
  | _ => true
theorem swaps_no {e : Expr} {t : Option Expr} {l : Nat} {env : PySem.Env} (h : notComp e = true) : swapsWith e t l env = pure false := by
  cases e <;> first | rfl | (simp [notComp] at h)
theorem ss_expr {e : Expr} {pos : Pos} {m : Sm} (h : SE P e m) (hc : notComp e = true) : SS P (.Expr e pos) (xExpr m) := by
  obtain ⟨t, p, f⟩ := h
  refine ⟨_, fun X hX => ps_expr (p X hX) (swaps_no hc), fun e s e' h => ?_, fun n IO H0 Hf σ tv env te H S nt => ?_⟩
  · have h : (match m e with | .ok _ e1 => SA.nx e1 | .ex c d e1 => .ex c d e1 | .no => .no) = .rt s e' := h
    cases em : m e <;> rw [em] at h <;> cases h
  have h1 := f n IO H0 Hf σ tv env te H S
  show OutS P n IO H0 Hf σ tv te [] _ (match m env with | .ok _ e1 => SA.nx e1 | .ex c d e1 => .ex c d e1 | .no => .no)
  cases em : m env with
  | no => trivial
  | ex c d e1 => rw [em] at h1; exact fun w D => h1 (fun cv dx Hf' H' s' S' x => w cv dx σ Hf' H' s' AsgOk.refl S' x) _
  | ok s e1 => rw [em] at h1; exact fun D q => h1 _ fun v Hf' H' s' S' => q σ Hf' H' s' AsgOk.refl S'.pop
theorem ss_retN {pos : Pos} : SS P (.Return none pos) xRetN := ⟨_, fun _ _ => ps_retN, fun e s e' h => (by cases h; simp), fun n IO H0 Hf σ tv env te H S nt D q => q _ σ Hf H (Same.refl _) AsgOk.refl (S.push_sh .non)⟩
/-- an owned slot's thing is handed on -/
theorem St0.move {v : V} {d d' : D} {j : Nat} (S : St0 P n IO H0 Hf σ (tv ++ [some v]) env (te ++ [some ⟨.al j, d⟩]) H) (nt : NoAl te) (l : tv.length = te.length) (hj : env[j]? = some (ow d')) : St0 P n IO H0 Hf σ (tv ++ [some v]) (env.set j none) (te ++ [ow d']) H := by
  obtain ⟨jn, hv⟩ := S.ali l
  have le := S.le
  have ls := S.ls
  have na : ∀ (i : Nat) (s : Slot), (env.set j none)[i]? = some (some s) → i ≠ j ∧ env[i]? = some (some s) := fun i s hs => by
    by_cases e : j = i
    · subst e
      rw [List.getElem?_set_self (lt_of_get hj)] at hs
      cases hs
    · rw [List.getElem?_set_ne e] at hs
      exact ⟨Ne.symm e, hs⟩
  refine ⟨by simpa using le, ls, fun i s hs => S.na i s (na i s hs).2, ?_⟩
  have up : ∀ (i : Nat) (a : Slot), (env.set j none ++ (te ++ [ow d']))[i]? = some (some a) → (i = n + te.length ∧ a = ⟨.ow, d'⟩) ∨ (i ≠ j ∧ i < n + te.length ∧ (env ++ (te ++ [some ⟨.al j, d⟩]))[i]? = some (some a) ∧ ∀ k, a.m ≠ .al k) := fun i a h => by
    have hi := lt_of_get h
    simp only [List.length_append, List.length_set, List.length_singleton, le] at hi
    by_cases h1 : i < n
    · rw [List.getElem?_append_left (by rw [List.length_set, le]; exact h1)] at h
      obtain ⟨x, y⟩ := na i a h
      exact .inr ⟨x, by omega, by rw [List.getElem?_append_left (by rw [le]; exact h1)]; exact y, S.na i a y⟩
    · rw [List.getElem?_append_right (by rw [List.length_set, le]; omega), List.length_set, le] at h
      by_cases h2 : i < n + te.length
      · rw [List.getElem?_append_left (by omega)] at h
        refine .inr ⟨by omega, h2, ?_, nt _ a h⟩
        rw [List.getElem?_append_right (by rw [le]; omega), le, List.getElem?_append_left (by omega)]; exact h
      · have e : i = n + te.length := by omega
        rw [e, Nat.add_sub_cancel_left, get_last] at h
        exact .inl ⟨e, (Option.some.inj (Option.some.inj h)).symm⟩
  have jE : (env ++ (te ++ [some (⟨.al j, d⟩ : Slot)]))[j]? = some (ow d') := by rw [List.getElem?_append_left (by rw [le]; exact jn)]; exact hj
  have jS : (σ ++ (tv ++ [some v]))[j]? = some (some v) := by rw [List.getElem?_append_left (by rw [ls]; exact jn)]; exact hv
  have lS : (σ ++ (tv ++ [some v]))[n + te.length]? = some (some v) := by
    rw [List.getElem?_append_right (by rw [ls]; omega), ls, Nat.add_sub_cancel_left, ← l]; exact get_last
  refine SR.select S.sr (fun i => if i = n + te.length then j else i) (by simp [le, ls, l]) (fun a b x y ha hb e => ?_) (fun i a h => ?_) (fun i a h k => ?_)
  · rcases up a x ha with ⟨e1, _⟩ | ⟨e1, l1, _⟩ <;> rcases up b y hb with ⟨e2, _⟩ | ⟨e2, l2, _⟩
    · omega
    · rw [if_pos e1, if_neg (by omega)] at e; exact absurd e.symm e2
    · rw [if_neg (by omega), if_pos e2] at e; exact absurd e e1
    · rw [if_neg (by omega), if_neg (by omega)] at e; exact e
  · rcases up i a h with ⟨e1, e2⟩ | ⟨e1, l1, h1, _⟩
    · subst e1; subst e2
      rw [if_pos rfl]
      exact ⟨jE, lS.trans jS.symm⟩
    · rw [if_neg (by omega)]; exact ⟨h1, rfl⟩
  · rcases up i a h with ⟨e1, e2⟩ | ⟨_, _, _, h2⟩
    · subst e2; simp
    · exact h2 k
theorem ss_ret {e : Expr} {pos : Pos} {m : Sm} (h : SE P e m) : SS P (.Return (some e) pos) (xRet m) := by
  obtain ⟨t, p, f⟩ := h
  refine ⟨_, fun X hX => ps_ret (p X hX), fun e s e' h => ?_, fun n IO H0 Hf σ tv env te H S nt => ?_⟩
  · unfold xRet at h
    dsimp only at h
    cases em : m e with
    | no => rw [em] at h; cases h
    | ex c d e1 => rw [em] at h; cases h
    | ok t e1 =>
      rw [em] at h
      obtain ⟨k, d⟩ := t
      cases k with
      | sh => cases h; simp
      | ow => cases h; simp
      | io => cases h
      | al j =>
        dsimp only at h
        cases ej : e1[j]? with
        | none => rw [ej] at h; cases h
        | some o =>
          cases o with
          | none => rw [ej] at h; cases h
          | some u =>
            obtain ⟨k, d'⟩ := u
            cases k with
            | sh => rw [ej] at h; cases h; simp
            | ow => rw [ej] at h; cases h; simp
            | io => rw [ej] at h; cases h
            | al _ => rw [ej] at h; cases h
  have h1 := f n IO H0 Hf σ tv env te H S
  show OutS P n IO H0 Hf σ tv te [] _ (match m env with
    | .ok ⟨.sh, d⟩ e1 => SA.rt ⟨.sh, d⟩ e1
    | .ok ⟨.ow, d⟩ e1 => .rt ⟨.ow, d⟩ e1
    | .ok ⟨.al j, _⟩ e1 => match e1[j]? with
      | some (some ⟨.ow, d⟩) => .rt ⟨.ow, d⟩ (e1.set j none)
      | some (some ⟨.sh, d⟩) => .rt ⟨.sh, d⟩ e1
      | _ => .no
    | .ok ⟨.io, _⟩ _ => .no
    | .ex c d e1 => .ex c d e1
    | .no => .no)
  cases em : m env with
  | no => trivial
  | ex c d e1 => rw [em] at h1; exact fun w D => h1 (fun cv dx Hf' H' s' S' x => w cv dx σ Hf' H' s' AsgOk.refl S' x) _
  | ok s e1 =>
    rw [em] at h1
    obtain ⟨k, d⟩ := s
    cases k with
    | sh => exact fun D q => h1 _ fun v Hf' H' s' S' => q v σ Hf' H' s' AsgOk.refl S'
    | ow => exact fun D q => h1 _ fun v Hf' H' s' S' => q v σ Hf' H' s' AsgOk.refl S'
    | io => trivial
    | al j =>
      dsimp only
      cases ej : e1[j]? with
      | none => trivial
      | some o =>
        cases o with
        | none => trivial
        | some s =>
          obtain ⟨k, d'⟩ := s
          cases k with
          | io => trivial
          | al _ => trivial
          | ow => exact fun D q => h1 _ fun v Hf' H' s' S' => q v σ Hf' H' s' AsgOk.refl (S'.move nt S.l2 ej)
          | sh =>
            refine fun D q => h1 _ fun v Hf' H' s' S' => q v σ Hf' H' s' AsgOk.refl ?_
            obtain ⟨jn, hv⟩ := S'.ali S.l2
            obtain ⟨w, e, r⟩ := S'.slot_sh ej
            rw [hv] at e; cases e
            exact S'.pop.push_sh r
theorem mE_noal {m : Sm} {e e1 : Env} {s : Slot} (h : mE m e = .ok s e1) : ∀ k, s.m ≠ .al k := by
  have hF : ∀ {e1 : Env} {s : Slot}, mF m e = .ok s e1 → ∀ k, s.m ≠ .al k := by
    intro e1 s h
    unfold mF at h
    cases em : m e with
    | no => rw [em] at h; cases h
    | ex _ _ _ => rw [em] at h; cases h
    | ok t e2 =>
      rw [em] at h
      obtain ⟨k, d⟩ := t
      cases k with
      | sh => cases h; simp
      | ow => cases h; simp
      | io => cases h
      | al j =>
        dsimp only at h
        cases ej : e2[j]? with
        | none => rw [ej] at h; cases h
        | some o =>
          cases o with
          | none => rw [ej] at h; cases h
          | some u =>
            obtain ⟨k, d'⟩ := u
            cases k with
            | sh => rw [ej] at h; cases h; simp
            | ow => rw [ej] at h; cases h; simp
            | io => rw [ej] at h; cases h
            | al _ => rw [ej] at h; cases h
  unfold mE at h
  cases em : m e with
  | no => rw [em] at h; exact hF h
  | ex _ _ _ => rw [em] at h; exact hF h
  | ok t e2 =>
    rw [em] at h
    obtain ⟨k, d⟩ := t
    cases k with
    | ow => cases h; simp
    | sh => exact hF h
    | io => exact hF h
    | al j => exact hF h
theorem evs_asg {te' : TE} {g : TG} {m : Sm} {f : Tgt} (a : Ev P te' m) (b : EvG P g f) : EvS P (tAsg te' g) (xAsg m f) := by
  refine ⟨fun e s e' h => ?_, ?_⟩
  · unfold xAsg at h
    dsimp only at h
    cases em : mE m e with
    | no => rw [em] at h; cases h
    | ex c d e1 => rw [em] at h; cases h
    | ok s1 e1 =>
      rw [em] at h
      dsimp only at h
      cases ef : f.run s1 e1 <;> rw [ef] at h <;> cases h
  intro n IO H0 Hf σ tv env te H S nt
  have h1 := ev_E a n IO H0 Hf σ tv env te H S
  show OutS P n IO H0 Hf σ tv te f.asg _ (match mE m env with | .ok s e1 => (match f.run s e1 with | some e2 => SA.nx e2 | none => .no) | .ex c d e1 => .ex c d e1 | .no => .no)
  cases em : mE m env with
  | no => trivial
  | ex c d e1 => rw [em] at h1; exact fun w D => h1 (fun cv dx Hf' H' s' S' x => w cv dx σ Hf' H' s' AsgOk.refl S' x) _
  | ok s e1 =>
    rw [em] at h1
    dsimp only
    cases ef : f.run s e1 with
    | none => trivial
    | some e2 =>
      refine fun D q => h1 _ fun v Hf' H' s' S' => ?_
      have h2 := b n IO H0 Hf' σ tv e1 te H' v s S' nt S.l2 (mE_noal em)
      rw [ef] at h2
      exact h2 _ fun σ' a' S2 => q σ' Hf' H' s' a' S2
theorem ss_asg {tg e : Expr} {pos : Pos} {m : Sm} {f : Tgt} (h : SE P e m) (g : SG P tg f) (hs : ∀ X, P.M X → swapsWithSole [tg] e pos.line X.env = pure false) (hw : ∀ X, P.M X → swappedStores [tg] e X.env = pure none)
    (h1 : ∀ env, (assignEach [tg] env).map (·.2) = [assign tg env]) : SS P (.Assign [tg] e pos) (xAsg m f) :=
  let ⟨_, p, a⟩ := h; let ⟨_, p', b⟩ := g; ⟨_, fun X hX => ps_asg (p X hX) (p' X hX) (hs X hX) (hw X hX) (h1 _), evs_asg a b⟩
theorem ss_if {c : Expr} {a b : List Stmt} {pos : Pos} {mc : Tm} {ma mb : Sx} (hc : ST P c mc) (ha : SSs P a ma) (hb : SSs P b mb) : SS P (.If c a b pos) (xIf mc ma mb) := by
  obtain ⟨tc, pc, fc⟩ := hc
  obtain ⟨ta, pa, fra, fa⟩ := ha
  obtain ⟨tb, pb, frb, fb⟩ := hb
  refine ⟨_, fun X hX => ps_if (pc X hX) (pa X hX) (pb X hX), fun e s e' h => ?_, fun n IO H0 Hf σ tv env te H S nt => ?_⟩
  · unfold xIf at h
    dsimp only at h
    cases ec : mc e with
    | no => rw [ec] at h; cases h
    | ex c d e1 => rw [ec] at h; cases h
    | ok k e1 =>
      rw [ec] at h
      cases k with
      | true => exact fra _ _ _ h
      | false => exact frb _ _ _ h
  have h1 := fc n IO H0 Hf σ tv env te H S
  show OutS P n IO H0 Hf σ tv te (ma.asg ++ mb.asg) _ (match mc env with | .ok true e1 => ma.run e1 | .ok false e1 => mb.run e1 | .ex c d e1 => SA.ex c d e1 | .no => .no)
  cases ec : mc env with
  | no => trivial
  | ex c d e1 => rw [ec] at h1; exact fun w D => h1 (fun cv dx Hf' H' s' S' x => w cv dx σ Hf' H' s' AsgOk.refl S' x) _
  | ok k e1 =>
    rw [ec] at h1
    have two : ∀ (t : TS) (m : Sx), EvS P t m → (∀ j, j ∈ m.asg → j ∈ ma.asg ++ mb.asg) → (∀ D H1, t D σ H1 → (if k = true then ta D σ H1 else tb D σ H1)) → OutS P n IO H0 Hf σ tv te (ma.asg ++ mb.asg) (fun D => tIfS tc ta tb D σ H) (m.run e1) := fun t m ⟨_, g⟩ mm way => by
      have h2 : ∀ Hf' H', Same Hf Hf' → St0 P n IO H0 Hf' σ tv e1 te H' → OutS P n IO H0 Hf σ tv te (ma.asg ++ mb.asg) (fun D => t D σ H') (m.run e1) := fun Hf' H' s' S' => (g n IO H0 Hf' σ tv e1 te H' S' nt).mono s' AsgOk.refl mm
      cases em : m.run e1 with
      | no => trivial
      | nx e2 => exact fun D q => h1 _ fun Hf' H' s' S' => way D H' (h2 Hf' H' s' S' |> fun z => by rw [em] at z; exact z D q)
      | bk e2 => exact fun D q => h1 _ fun Hf' H' s' S' => way D H' (h2 Hf' H' s' S' |> fun z => by rw [em] at z; exact z D q)
      | ct e2 => exact fun D q => h1 _ fun Hf' H' s' S' => way D H' (h2 Hf' H' s' S' |> fun z => by rw [em] at z; exact z D q)
      | rt s e2 => exact fun D q => h1 _ fun Hf' H' s' S' => way D H' (h2 Hf' H' s' S' |> fun z => by rw [em] at z; exact z D q)
      | ex c d e2 => exact fun w D => h1 _ fun Hf' H' s' S' => way D H' (h2 Hf' H' s' S' |> fun z => by rw [em] at z; exact z w D)
    cases k with
    | true => exact two ta ma ⟨fra, fa⟩ (fun j hj => List.mem_append_left _ hj) fun D H1 h => iteT h
    | false => exact two tb mb ⟨frb, fb⟩ (fun j hj => List.mem_append_right _ hj) fun D H1 h => iteF h

/-! ### while -/
theorem ss_while {c : Expr} {body : List Stmt} {pos : Pos} {mc : Tm} {mb : Sx} (hp : ∀ X, P.M X → PassesOwn (model X.prog X.w) X.A X.env X.xe) (hc : ST P c mc) (hb : SSs P body mb) : SS P (.While c body [] pos) (xWhile mc mb) := by
  obtain ⟨tc, pc, fc⟩ := hc
  obtain ⟨tb, pb, fr, fb⟩ := hb
  have rk : ∀ (k : Nat) e s e', whileN mc mb k e = .rt s e' → ∀ j, s.m ≠ .al j := by
    intro k
    induction k with
    | zero => intro e s e' h; cases h
    | succ k ih =>
      intro e s e' h
      rw [whileN] at h
      cases hc : mc e with
      | no => rw [hc] at h; cases h
      | ex _ _ _ => rw [hc] at h; cases h
      | ok x e1 =>
        rw [hc] at h
        cases x with
        | false => cases h
        | true =>
          dsimp only at h
          cases hb : mb.run e1 with
          | nx e2 => rw [hb] at h; exact ih _ _ _ h
          | ct e2 => rw [hb] at h; exact ih _ _ _ h
          | bk e2 => rw [hb] at h; cases h
          | rt s1 e2 => rw [hb] at h; cases h; exact fr _ _ _ hb
          | ex _ _ _ => rw [hb] at h; cases h
          | no => rw [hb] at h; cases h
  refine ⟨_, fun X hX => ps_while (hp X hX) (pc X hX) (pb X hX), fun e s e' h => ?_, fun n IO H0 Hf σ tv env te H S nt => ?_⟩
  · by_cases hx : ∃ k, whileN mc mb k e ≠ .no
    · obtain ⟨k, hk⟩ := hx
      rw [xWhile_eq hk] at h
      exact rk k _ _ _ h
    · have z : (xWhile mc mb).run e = .no := by
        simp only [xWhile]
        rw [dif_neg hx]
      rw [z] at h; cases h
  show OutS P n IO H0 Hf σ tv te mb.asg _ ((xWhile mc mb).run env)
  by_cases hx : ∃ k, whileN mc mb k env ≠ .no
  · obtain ⟨k, hk⟩ := hx
    rw [xWhile_eq hk]
    -- the outcome, for good
    generalize hr : whileN mc mb k env = r at hk
    have key : ∀ D : Ends, (∀ m σ1 H1, (∃ Hf1 e1, Same Hf Hf1 ∧ AsgOk mb.asg σ σ1 ∧ St0 P n IO H0 Hf1 σ1 tv e1 te H1 ∧ whileN mc mb m e1 = r) →
        tc σ1 H1 fun b H2 => if b = true then ∃ N : L2.St → Hp → Prop, (∀ σ' H', N σ' H' → ∃ m', m' < m ∧ ∃ Hf1 e1, Same Hf Hf1 ∧ AsgOk mb.asg σ σ' ∧ St0 P n IO H0 Hf1 σ' tv e1 te H' ∧ whileN mc mb m' e1 = r) ∧ tb { D with nx := N, ct := N, bk := D.nx } σ1 H2 else D.nx σ1 H2) → tWhile tc tb D σ H :=
      fun D h => ⟨fun m σ1 H1 => ∃ Hf1 e1, Same Hf Hf1 ∧ AsgOk mb.asg σ σ1 ∧ St0 P n IO H0 Hf1 σ1 tv e1 te H1 ∧ whileN mc mb m e1 = r, ⟨k, Hf, env, Same.refl _, AsgOk.refl, S, hr⟩, h⟩
    -- one turn
    have turn : ∀ (D : Ends) m σ1 H1 Hf1 e1, Same Hf Hf1 → AsgOk mb.asg σ σ1 → St0 P n IO H0 Hf1 σ1 tv e1 te H1 → whileN mc mb m e1 = r →
        (∀ σ' Hf' H' e', Same Hf Hf' → AsgOk mb.asg σ σ' → St0 P n IO H0 Hf' σ' tv e' te H' → r = .nx e' → D.nx σ' H') →
        (∀ v s σ' Hf' H' e', Same Hf Hf' → AsgOk mb.asg σ σ' → St0 P n IO H0 Hf' σ' (tv ++ [some v]) e' (te ++ [some s]) H' → r = .rt s e' → D.rt v H') →
        (∀ cv dx cl d σ' Hf' H' e', Same Hf Hf' → AsgOk mb.asg σ σ' → St0 P n IO H0 Hf' σ' tv e' te H' → XR P.exc P.G Hf' H' cv dx cl d → r = .ex cl d e' → P.W cv dx σ' H') →
        tc σ1 H1 fun b H2 => if b = true then ∃ N : L2.St → Hp → Prop, (∀ σ' H', N σ' H' → ∃ m', m' < m ∧ ∃ Hf1 e1, Same Hf Hf1 ∧ AsgOk mb.asg σ σ' ∧ St0 P n IO H0 Hf1 σ' tv e1 te H' ∧ whileN mc mb m' e1 = r) ∧ tb { D with nx := N, ct := N, bk := D.nx } σ1 H2 else D.nx σ1 H2 := by
      intro D m σ1 H1 Hf1 e1 s1 a1 S1 hw q1 q2 q3
      cases m with
      | zero => exact absurd (hw.symm.trans rfl) hk
      | succ m =>
        rw [whileN] at hw
        have h1 := fc n IO H0 Hf1 σ1 tv e1 te H1 S1
        cases ec : mc e1 with
        | no => rw [ec] at hw; exact absurd hw.symm hk
        | ex cl d e2 => rw [ec] at h1 hw; exact h1 (fun cv dx Hf2 H2 s2 S2 x => q3 cv dx cl d σ1 Hf2 H2 e2 (s1.trans s2) a1 S2 x hw.symm) _
        | ok b e2 =>
          rw [ec] at h1 hw
          refine h1 _ fun Hf2 H2 s2 S2 => ?_
          cases b with
          | false => exact iteF (q1 σ1 Hf2 H2 e2 (s1.trans s2) a1 S2 hw.symm)
          | true =>
            refine iteT ⟨fun σ' H' => ∃ Hf1 e1, Same Hf Hf1 ∧ AsgOk mb.asg σ σ' ∧ St0 P n IO H0 Hf1 σ' tv e1 te H' ∧ whileN mc mb m e1 = r, fun σ' H' h => ⟨m, Nat.lt_succ_self m, h⟩, ?_⟩
            have h2 := fb n IO H0 Hf2 σ1 tv e2 te H2 S2 nt
            dsimp only at hw
            cases eb : mb.run e2 with
            | no => rw [eb] at hw; exact absurd hw.symm hk
            | nx e3 => rw [eb] at h2 hw; exact h2 _ fun σ' Hf' H' s' a' S' => ⟨Hf', e3, (s1.trans s2).trans s', a1.trans a', S', hw⟩
            | ct e3 => rw [eb] at h2 hw; exact h2 _ fun σ' Hf' H' s' a' S' => ⟨Hf', e3, (s1.trans s2).trans s', a1.trans a', S', hw⟩
            | bk e3 => rw [eb] at h2 hw; exact h2 _ fun σ' Hf' H' s' a' S' => q1 σ' Hf' H' e3 ((s1.trans s2).trans s') (a1.trans a') S' hw.symm
            | rt s e3 => rw [eb] at h2 hw; exact h2 _ fun v σ' Hf' H' s' a' S' => q2 v s σ' Hf' H' e3 ((s1.trans s2).trans s') (a1.trans a') S' hw.symm
            | ex cl d e3 => rw [eb] at h2 hw; exact h2 (fun cv dx σ' Hf' H' s' a' S' x => q3 cv dx cl d σ' Hf' H' e3 ((s1.trans s2).trans s') (a1.trans a') S' x hw.symm) _
    cases r with
    | no => exact absurd rfl hk
    | nx e => exact fun D q => key D fun m σ1 H1 ⟨Hf1, e1, s1, a1, S1, hw⟩ => turn D m σ1 H1 Hf1 e1 s1 a1 S1 hw (fun σ' Hf' H' e' s' a' S' z => by cases z; exact q σ' Hf' H' s' a' S') (fun v s σ' Hf' H' e' _ _ _ z => by cases z) (fun cv dx cl d σ' Hf' H' e' _ _ _ _ z => by cases z)
    | rt s e => exact fun D q => key D fun m σ1 H1 ⟨Hf1, e1, s1, a1, S1, hw⟩ => turn D m σ1 H1 Hf1 e1 s1 a1 S1 hw (fun σ' Hf' H' e' s' a' S' z => by cases z) (fun v s σ' Hf' H' e' s' a' S' z => by cases z; exact q v σ' Hf' H' s' a' S') (fun cv dx cl d σ' Hf' H' e' _ _ _ _ z => by cases z)
    | ex c d e => exact fun w D => key D fun m σ1 H1 ⟨Hf1, e1, s1, a1, S1, hw⟩ => turn D m σ1 H1 Hf1 e1 s1 a1 S1 hw (fun σ' Hf' H' e' s' a' S' z => by cases z) (fun v s σ' Hf' H' e' _ _ _ z => by cases z) (fun cv dx cl d σ' Hf' H' e' s' a' S' x z => by cases z; exact w cv dx σ' Hf' H' s' a' S' x)
    | bk e => exact fun D q => key D fun m σ1 H1 ⟨Hf1, e1, s1, a1, S1, hw⟩ => turn D m σ1 H1 Hf1 e1 s1 a1 S1 hw (fun σ' Hf' H' e' s' a' S' z => by cases z) (fun v s σ' Hf' H' e' s' a' S' z => by cases z) (fun cv dx cl d σ' Hf' H' e' _ _ _ _ z => by cases z)
    | ct e => exact fun D q => key D fun m σ1 H1 ⟨Hf1, e1, s1, a1, S1, hw⟩ => turn D m σ1 H1 Hf1 e1 s1 a1 S1 hw (fun σ' Hf' H' e' s' a' S' z => by cases z) (fun v s σ' Hf' H' e' s' a' S' z => by cases z) (fun cv dx cl d σ' Hf' H' e' _ _ _ _ z => by cases z)
  · have : (xWhile mc mb).run env = .no := by
      simp only [xWhile]
      rw [dif_neg hx]
    rw [this]; trivial

/-- the thing held below the last one is forgotten -/
theorem St0.skip {v : V} {s : Slot} {xv : Option V} {xs : Option Slot} (S : St0 P n IO H0 Hf σ ((tv ++ [xv]) ++ [some v]) env ((te ++ [xs]) ++ [some s]) H) (l : tv.length = te.length) (nt : NoAl te) (ns : ∀ k, s.m ≠ .al k) : St0 P n IO H0 Hf σ (tv ++ [some v]) env (te ++ [some s]) H := by
  have le := S.le
  have ls := S.ls
  refine ⟨le, ls, S.na, ?_⟩
  have up : ∀ (i : Nat) (a : Slot), (env ++ (te ++ [some s]))[i]? = some (some a) → (i = n + te.length ∧ a = s) ∨ (i < n + te.length ∧ (env ++ ((te ++ [xs]) ++ [some s]))[i]? = some (some a) ∧ (σ ++ (tv ++ [some v]))[i]? = (σ ++ ((tv ++ [xv]) ++ [some v]))[i]? ∧ ∀ k, a.m ≠ .al k) := fun i a h => by
    have hi := lt_of_get h
    simp only [List.length_append, List.length_singleton, le] at hi
    by_cases h1 : i < n
    · rw [List.getElem?_append_left (by rw [le]; exact h1)] at h
      refine .inr ⟨by omega, by rw [List.getElem?_append_left (by rw [le]; exact h1)]; exact h, ?_, S.na i a h⟩
      rw [List.getElem?_append_left (by rw [ls]; exact h1), List.getElem?_append_left (by rw [ls]; exact h1)]
    · rw [List.getElem?_append_right (by rw [le]; omega), le] at h
      by_cases h2 : i < n + te.length
      · rw [List.getElem?_append_left (by omega)] at h
        refine .inr ⟨h2, ?_, ?_, nt _ a h⟩
        · rw [List.getElem?_append_right (by rw [le]; omega), le, List.getElem?_append_left (by simp; omega), List.getElem?_append_left (by omega)]; exact h
        · have q1 : (σ ++ (tv ++ [some v]))[i]? = tv[i - n]? := by
            rw [List.getElem?_append_right (by rw [ls]; omega), ls, List.getElem?_append_left (by omega)]
          have q2 : (σ ++ ((tv ++ [xv]) ++ [some v]))[i]? = tv[i - n]? := by
            rw [List.getElem?_append_right (by rw [ls]; omega), ls, List.getElem?_append_left (by simp; omega), List.getElem?_append_left (by omega)]
          rw [q1, q2]
      · have e : i = n + te.length := by omega
        rw [e, Nat.add_sub_cancel_left, get_last] at h
        exact .inl ⟨e, (Option.some.inj (Option.some.inj h)).symm⟩
  have lE : (env ++ ((te ++ [xs]) ++ [some s]))[n + te.length + 1]? = some (some s) := by
    rw [List.getElem?_append_right (by rw [le]; omega), le, show n + te.length + 1 - n = (te ++ [xs]).length by simp; omega]; exact get_last
  have lS : (σ ++ ((tv ++ [xv]) ++ [some v]))[n + te.length + 1]? = some (some v) := by
    rw [List.getElem?_append_right (by rw [ls]; omega), ls, show n + te.length + 1 - n = (tv ++ [xv]).length by simp [l]; omega]; exact get_last
  have lS' : (σ ++ (tv ++ [some v]))[n + te.length]? = some (some v) := by
    rw [List.getElem?_append_right (by rw [ls]; omega), ls, Nat.add_sub_cancel_left, ← l]; exact get_last
  refine SR.select S.sr (fun i => if i = n + te.length then n + te.length + 1 else i) (by simp [le, ls, l]) (fun a b x y ha hb e => ?_) (fun i a h => ?_) (fun i a h k => ?_)
  · rcases up a x ha with ⟨e1, _⟩ | ⟨l1, _⟩ <;> rcases up b y hb with ⟨e2, _⟩ | ⟨l2, _⟩
    · omega
    · rw [if_pos e1, if_neg (by omega)] at e; omega
    · rw [if_neg (by omega), if_pos e2] at e; omega
    · rw [if_neg (by omega), if_neg (by omega)] at e; exact e
  · rcases up i a h with ⟨e1, e2⟩ | ⟨l1, h1, h2, _⟩
    · subst e1; subst e2
      rw [if_pos rfl]
      exact ⟨lE, lS'.trans lS.symm⟩
    · rw [if_neg (by omega)]; exact ⟨h1, h2⟩
  · rcases up i a h with ⟨e1, e2⟩ | ⟨_, _, _, h2⟩
    · subst e2; exact ns k
    · exact h2 k
/-! ### for -/
/-- J walks the items, xv (its record xs) being held -/
def Walks1 (P : Pl) (n : Nat) (IO : En) (H0 : Hp) (xv : Option V) (xs : Option Slot) (J : It) (items : List D) : Prop :=
  ∀ tv te σ' env' Hf' H', St0 P n IO H0 Hf' σ' (tv ++ [xv]) env' (te ++ [xs]) H' → J.stop items.length H' ∧
    ∀ (i : Nat) d, items[i]? = some d → J.go i H' ∧ ∀ x H'', J.yld i H' x H'' → ∃ Hf'', Same Hf' Hf'' ∧ St0 P n IO H0 Hf'' σ' ((tv ++ [xv]) ++ [some x]) env' ((te ++ [xs]) ++ [sh d]) H''
def EvI (P : Pl) (wi : TI) (m : Im) : Prop := ∀ n IO H0 Hf σ tv env te H, St0 P n IO H0 Hf σ tv env te H → match m env with
  | .ok ds env' => ∀ R : It → Hp → Prop, (∀ J xv xs Hf' H', Same Hf Hf' → St0 P n IO H0 Hf' σ (tv ++ [xv]) env' (te ++ [xs]) H' → NoAl [xs] → Walks1 P n IO H0 xv xs J ds → R J H') → wi σ H R
  | .ex c d env' => (∀ cv dx Hf' H', Same Hf Hf' → St0 P n IO H0 Hf' σ tv env' te H' → XR P.exc P.G Hf' H' cv dx c d → P.W cv dx σ H') → ∀ R, wi σ H R
  | .no => True
def SI (P : Pl) (tg iter : Expr) (m : Im) : Prop := ∃ wi, (∀ X, P.M X → PI X tg iter wi) ∧ EvI P wi m
theorem noal_app {a b : Env} (h : NoAl a) (g : NoAl b) : NoAl (a ++ b) := fun i s hs k => by
  by_cases hi : i < a.length
  · rw [List.getElem?_append_left hi] at hs; exact h i s hs k
  · rw [List.getElem?_append_right (by omega)] at hs; exact g _ s hs k
theorem ss_for {tg iter : Expr} {body : List Stmt} {pos : Pos} {mi : Im} {f : Tgt} {mb : Sx} (hp : ∀ X, P.M X → PassesOwn (model X.prog X.w) X.A X.env X.xe) (hc : ∀ X, P.M X → X.calm = true) (hi : SI P tg iter mi) (hg : SG P tg f) (hb : SSs P body mb)
    (hs : ∀ env x, foldedSetIterable iter env x = pure x) : SS P (.For tg iter body [] pos) (xFor mi f mb) := by
  obtain ⟨wi, pi, fi⟩ := hi
  obtain ⟨g, pg, fg⟩ := hg
  obtain ⟨tb, pb, fr, fb⟩ := hb
  have rk : ∀ (ds : List D) e s e', forD f mb ds e = .rt s e' → ∀ j, s.m ≠ .al j := by
    intro ds
    induction ds with
    | nil => intro e s e' h; cases h
    | cons d ds ih =>
      intro e s e' h
      rw [forD] at h
      cases hc : f.run ⟨.sh, d⟩ e with
      | none => rw [hc] at h; cases h
      | some e1 =>
        rw [hc] at h
        dsimp only at h
        cases hb : mb.run e1 with
        | nx e2 => rw [hb] at h; exact ih _ _ _ h
        | ct e2 => rw [hb] at h; exact ih _ _ _ h
        | bk e2 => rw [hb] at h; cases h
        | rt s1 e2 => rw [hb] at h; cases h; exact fr _ _ _ hb
        | ex _ _ _ => rw [hb] at h; cases h
        | no => rw [hb] at h; cases h
  refine ⟨_, fun X hX => ps_for (hp X hX) (hc X hX) (pi X hX) (pg X hX) (pb X hX) (hs _), fun e s e' h => ?_, fun n IO H0 Hf σ tv env te H S nt => ?_⟩
  · unfold xFor at h
    dsimp only at h
    cases ei : mi e with
    | no => rw [ei] at h; cases h
    | ex _ _ _ => rw [ei] at h; cases h
    | ok ds e1 => rw [ei] at h; exact rk _ _ _ _ h
  have h1 := fi n IO H0 Hf σ tv env te H S
  show OutS P n IO H0 Hf σ tv te (f.asg ++ mb.asg) _ (match mi env with | .ok ds e1 => forD f mb ds e1 | .ex c d e1 => SA.ex c d e1 | .no => .no)
  cases ei : mi env with
  | no => trivial
  | ex c d e1 => rw [ei] at h1; exact fun w D => h1 (fun cv dx Hf' H' s' S' x => w cv dx σ Hf' H' s' AsgOk.refl S' x) _
  | ok ds e1 =>
    rw [ei] at h1
    dsimp only
    generalize hr : forD f mb ds e1 = r
    by_cases hno : r = .no
    · subst hno; trivial
    have mg : ∀ j, j ∈ f.asg → j ∈ f.asg ++ mb.asg := fun j hj => List.mem_append_left _ hj
    have mm : ∀ j, j ∈ mb.asg → j ∈ f.asg ++ mb.asg := fun j hj => List.mem_append_right _ hj
    have key : ∀ D : Ends, 
        (∀ σ' Hf' H' e', Same Hf Hf' → AsgOk (f.asg ++ mb.asg) σ σ' → St0 P n IO H0 Hf' σ' tv e' te H' → r = .nx e' → D.nx σ' H') →
        (∀ v s σ' Hf' H' e', Same Hf Hf' → AsgOk (f.asg ++ mb.asg) σ σ' → St0 P n IO H0 Hf' σ' (tv ++ [some v]) e' (te ++ [some s]) H' → r = .rt s e' → D.rt v H') →
        (∀ cv dx cl d σ' Hf' H' e', Same Hf Hf' → AsgOk (f.asg ++ mb.asg) σ σ' → St0 P n IO H0 Hf' σ' tv e' te H' → XR P.exc P.G Hf' H' cv dx cl d → r = .ex cl d e' → P.W cv dx σ' H') → tFor wi g tb D σ H := by
      intro D q1 q2 q3
      refine h1 _ fun J xv xs Hf1 H1 s1 S1 nx wk => ?_
      refine ⟨fun i m σ2 H2 => m = ds.length - i ∧ i ≤ ds.length ∧ ∃ Hf2 e2, Same Hf Hf2 ∧ AsgOk (f.asg ++ mb.asg) σ σ2 ∧ St0 P n IO H0 Hf2 σ2 (tv ++ [xv]) e2 (te ++ [xs]) H2 ∧ forD f mb (ds.drop i) e2 = r,
        ⟨ds.length, by simp, Nat.zero_le _, Hf1, e1, s1, AsgOk.refl, S1, by simpa using hr⟩, ?_⟩
      rintro i m σ2 H2 ⟨rfl, hi, Hf2, e2, s2, a2, S2, hw⟩
      obtain ⟨stop, go⟩ := wk _ _ σ2 e2 Hf2 H2 S2
      by_cases hlt : i < ds.length
      · refine .inr ?_
        have hd := List.getElem?_eq_getElem hlt
        obtain ⟨g1, g2⟩ := go i _ hd
        refine ⟨g1, fun σ3 H3 => ∃ Hf2 e2, Same Hf Hf2 ∧ AsgOk (f.asg ++ mb.asg) σ σ3 ∧ St0 P n IO H0 Hf2 σ3 (tv ++ [xv]) e2 (te ++ [xs]) H3 ∧ forD f mb (ds.drop (i + 1)) e2 = r,
          fun σ3 H3 h => ⟨ds.length - (i + 1), by omega, rfl, hlt, h⟩, fun x H3 hy => ?_⟩
        obtain ⟨Hf3, s3, S3⟩ := g2 x H3 hy
        rw [List.drop_eq_getElem_cons hlt] at hw
        unfold forD at hw
        have h4 := fg n IO H0 Hf3 σ2 _ e2 _ H3 x ⟨.sh, ds[i]⟩ S3 (noal_app nt nx) (by have := S2.l2; exact this) (fun k => by simp)
        cases ef : f.run ⟨.sh, ds[i]⟩ e2 with
        | none => rw [ef] at hw; exact absurd hw.symm hno
        | some e3 =>
          rw [ef] at h4 hw
          refine h4 _ fun σ4 a4 S4 => ?_
          have h5 := fb n IO H0 Hf3 σ4 _ e3 _ H3 S4 (noal_app nt nx)
          dsimp only at hw
          have s23 := s2.trans s3
          have a24 := a2.trans (a4.mono mg)
          cases eb : mb.run e3 with
          | no => rw [eb] at hw; exact absurd hw.symm hno
          | nx e4 => rw [eb] at h5 hw; exact h5 _ fun σ' Hf' H' s' a' S' => ⟨Hf', e4, s23.trans s', a24.trans (a'.mono mm), S', hw⟩
          | ct e4 => rw [eb] at h5 hw; exact h5 _ fun σ' Hf' H' s' a' S' => ⟨Hf', e4, s23.trans s', a24.trans (a'.mono mm), S', hw⟩
          | bk e4 => rw [eb] at h5 hw; exact h5 _ fun σ' Hf' H' s' a' S' => q1 σ' Hf' H' e4 (s23.trans s') (a24.trans (a'.mono mm)) S'.pop hw.symm
          | rt s e4 =>
            rw [eb] at h5 hw
            refine h5 _ fun v σ' Hf' H' s' a' S' => q2 v s σ' Hf' H' e4 (s23.trans s') (a24.trans (a'.mono mm)) ?_ hw.symm
            exact S'.skip S.l2 nt (fr _ _ _ eb)
          | ex cl d e4 => rw [eb] at h5 hw; exact h5 (fun cv dx σ' Hf' H' s' a' S' x => q3 cv dx cl d σ' Hf' H' e4 (s23.trans s') (a24.trans (a'.mono mm)) S'.pop x hw.symm) _
      · have e : i = ds.length := by omega
        subst e
        refine .inl ⟨stop, q1 σ2 Hf2 H2 e2 s2 a2 S2.pop ?_⟩
        rw [List.drop_length] at hw
        exact hw.symm
    cases r with
    | no => exact absurd rfl hno
    | nx e => exact fun D q => key D (fun σ' Hf' H' e' s' a' S' z => by cases z; exact q σ' Hf' H' s' a' S') (fun v s σ' Hf' H' e' _ _ _ z => by cases z) (fun cv dx cl d σ' Hf' H' e' _ _ _ _ z => by cases z)
    | rt s e => exact fun D q => key D (fun σ' Hf' H' e' s' a' S' z => by cases z) (fun v s σ' Hf' H' e' s' a' S' z => by cases z; exact q v σ' Hf' H' s' a' S') (fun cv dx cl d σ' Hf' H' e' _ _ _ _ z => by cases z)
    | ex c d e => exact fun w D => key D (fun σ' Hf' H' e' s' a' S' z => by cases z) (fun v s σ' Hf' H' e' _ _ _ z => by cases z) (fun cv dx cl d σ' Hf' H' e' s' a' S' x z => by cases z; exact w cv dx σ' Hf' H' s' a' S' x)
    | bk e => exact fun D q => key D (fun σ' Hf' H' e' s' a' S' z => by cases z) (fun v s σ' Hf' H' e' s' a' S' z => by cases z) (fun cv dx cl d σ' Hf' H' e' _ _ _ _ z => by cases z)
    | ct e => exact fun D q => key D (fun σ' Hf' H' e' s' a' S' z => by cases z) (fun v s σ' Hf' H' e' s' a' S' z => by cases z) (fun cv dx cl d σ' Hf' H' e' _ _ _ _ z => by cases z)
end
end VM

/-! VMI: what is walked; comprehensions -/
namespace VM
open PySem PySem.Spec PyProof.Rows L2

def signs (z : Str) : List D := z.cps.toList.map fun c => .str ⟨#[c]⟩
def iSeq (m : Sm) : Im := fun e => match mF m e with
  | .ok ⟨.sh, .lst xs⟩ e1 => .ok xs e1
  | .ok ⟨.sh, .frl xs⟩ e1 => .ok xs e1
  | .ok ⟨.sh, .tup xs⟩ e1 => .ok xs e1
  | .ok ⟨.sh, .frt xs⟩ e1 => .ok xs e1
  | .ok ⟨.sh, .str z⟩ e1 => .ok (signs z) e1
  | .ex c d e1 => .ex c d e1
  | _ => .no
def tSeqI (K : PySem.W.Frag) (te : TE) : TI := fun σ H R => te σ H fun x H1 => (∃ a xs, x = .ref a ∧ SqL K H1 a xs ∧ R (Itl K a) H1) ∨ (∃ a xs, x = .ref a ∧ SqT K H1 a xs ∧ R (Itt K a) H1) ∨ ∃ z, x = .str z ∧ R (Its z) H1
theorem pi_seq {X : Cx} {tg l : Expr} {tl : TE} (hl : PE X l tl) : PI X tg l (tSeqI X.K tl) := by
  refine ⟨fun pins s σ H R I h => ?_⟩
  refine thn (hl.run pins s σ H _ I h) fun v s1 ⟨x, H1, I1, r1, q1⟩ => ?_
  rcases q1 with ⟨a, xs, e, hq, q⟩ | ⟨a, xs, e, hq, q⟩ | ⟨z, e, q⟩
  · subst e
    cases r1
    obtain ⟨its, rv, p, hz⟩ := I1.list hq
    refine wpAny_pyIter_list p.isList ?_
    refine ⟨s1.heap.objs.size, [s1.heap.objs.size], _, _, H1, rfl, I1.kept (t' := s1.toks) fun b o e => Heap.get?_push_of_some _ e, turn_list a _, ⟨_, Heap.get?_push_size _ rfl, rfl, rfl⟩, fun b hb => ?_, q⟩
    have e : b = s1.heap.objs.size := by simpa using hb
    subst e
    exact I1.fpOk (Nat.le_refl _) (I1.hok.fresh (Nat.le_refl _))
  · subst e
    cases r1
    obtain ⟨its, rv, p, hz⟩ := I1.tuple hq
    refine wpAny_pyIter_tuple (show s1.heap.IsTuple a its.toArray from p) ?_
    refine ⟨s1.heap.objs.size, [s1.heap.objs.size], _, _, H1, rfl, I1.kept (t' := s1.toks) fun b o e => Heap.get?_push_of_some _ e, turn_tuple a _, ⟨_, Heap.get?_push_size _ rfl, rfl, rfl⟩, fun b hb => ?_, q⟩
    have e : b = s1.heap.objs.size := by simpa using hb
    subst e
    exact I1.fpOk (Nat.le_refl _) (I1.hok.fresh (Nat.le_refl _))
  · subst e
    obtain ⟨t, rfl⟩ := r1
    cases ha : z.cps.all (· < 128)
    · exact wpAny_pyIter_wide ha (pi_one (tk := s1.toks) I1 _ (turn_str _ z t "str_iterator" (.inr rfl)) ⟨_, Heap.get?_push_size _ rfl, rfl, rfl⟩ q)
    · exact wpAny_pyIter_ascii ha (pi_one (tk := s1.toks) I1 _ (turn_str _ z t "str_ascii_iterator" (.inl rfl)) ⟨_, Heap.get?_push_size _ rfl, rfl, rfl⟩ q)

section
variable {P : Pl} {n : Nat} {IO : En} {H0 Hf H : Hp} {σ tv : L2.St} {env te : Env}
/-- the held thing, shared -/
theorem St0.held {v : V} {d : D} (S : St0 P n IO H0 Hf σ (tv ++ [some v]) env (te ++ [sh d]) H) (l : tv.length = te.length) : Rep P.G Hf v d := S.at_sh (i := tv.length) get_last (by rw [l]; exact get_last)
theorem noal_sh {d : D} : NoAl [sh d] := fun i s hs k => by
  cases i with
  | zero => simp at hs; subst hs; simp
  | succ i => simp at hs
theorem noal_none : NoAl [none] := fun i s hs k => by
  cases i with
  | zero => simp at hs
  | succ i => simp at hs
theorem walks_seq {K : PySem.W.Frag} {a : Addr} {vs : List V} {d0 : D} {ds : List D} (hr : ∀ Hf, Rep P.G Hf (.ref a) d0 → ∃ vs, SqL K Hf a vs ∧ Reps P.G Hf vs ds) (inj : ∀ H xs ys, SqL K H a xs → SqL K H a ys → xs = ys) :
    Walks1 P n IO H0 (some (V.ref a)) (sh d0) (Itl K a) ds := by
  intro tv te σ' env' Hf' H' S
  have l : tv.length = te.length := by have := S.l2; simpa using this
  obtain ⟨vs, h1, h2⟩ := hr Hf' (S.held l)
  have h1' := SqL.mono S.sr.sub h1
  refine ⟨⟨vs, h1', by rw [h2.len]; exact Nat.le_refl _⟩, fun i d hd => ?_⟩
  obtain ⟨v, hv, rv⟩ := h2.get hd
  refine ⟨⟨vs, v, h1', hv⟩, fun x H'' hy => ?_⟩
  obtain ⟨e1, e2⟩ := hy
  subst e1
  have e : v = x := Option.some.inj (hv.symm.trans (e2 vs h1'))
  subst e
  exact ⟨Hf', Same.refl _, S.push_sh rv⟩
theorem walks_tup {K : PySem.W.Frag} {a : Addr} {d0 : D} {ds : List D} (hr : ∀ Hf, Rep P.G Hf (.ref a) d0 → ∃ vs, SqT K Hf a vs ∧ Reps P.G Hf vs ds) :
    Walks1 P n IO H0 (some (V.ref a)) (sh d0) (Itt K a) ds := by
  intro tv te σ' env' Hf' H' S
  have l : tv.length = te.length := by have := S.l2; simpa using this
  obtain ⟨vs, h1, h2⟩ := hr Hf' (S.held l)
  have h1' := SqT.mono S.sr.sub h1
  refine ⟨⟨vs, h1', by rw [h2.len]; exact Nat.le_refl _⟩, fun i d hd => ?_⟩
  obtain ⟨v, hv, rv⟩ := h2.get hd
  refine ⟨⟨vs, v, h1', hv⟩, fun x H'' hy => ?_⟩
  obtain ⟨e1, e2⟩ := hy
  subst e1
  have e : v = x := Option.some.inj (hv.symm.trans (e2 vs h1'))
  subst e
  exact ⟨Hf', Same.refl _, S.push_sh rv⟩
theorem walks_str {z : Str} {xv : Option V} {xs : Option Slot} : Walks1 P n IO H0 xv xs (Its z) (signs z) := by
  intro tv te σ' env' Hf' H' S
  have hz : (signs z).length = z.cps.size := by unfold signs; simp
  refine ⟨by show z.cps.size ≤ _; omega, fun i d hd => ?_⟩
  have hi : i < z.cps.size := by rw [← hz]; exact lt_of_get hd
  refine ⟨hi, fun x H'' hy => ?_⟩
  obtain ⟨e1, c, hc, e2⟩ := hy
  subst e1; subst e2
  have : d = .str ⟨#[c]⟩ := by
    unfold signs at hd
    rw [List.getElem?_map, Array.getElem?_toList, hc] at hd
    exact (Option.some.inj hd).symm
  subst this
  exact ⟨Hf', Same.refl _, S.push_sh .str⟩
theorem walks_rng {lo : Int} {k : Nat} {xv : Option V} {xs : Option Slot} : Walks1 P n IO H0 xv xs (Itr lo k) ((List.range k).map fun (i : Nat) => .int (lo + i)) := by
  intro tv te σ' env' Hf' H' S
  refine ⟨by show k ≤ _; simp, fun i d hd => ?_⟩
  have hi : i < k := by have := lt_of_get hd; simpa using this
  refine ⟨hi, fun x H'' hy => ?_⟩
  obtain ⟨e1, e2⟩ := hy
  subst e1; subst e2
  have : d = .int (lo + i) := by
    rw [List.getElem?_map, List.getElem?_range hi] at hd
    exact (Option.some.inj hd).symm
  subst this
  exact ⟨Hf', Same.refl _, S.push_sh .int⟩
theorem walks_rngC {lo c : Int} {k : Nat} {xv : Option V} {xs : Option Slot} : Walks1 P n IO H0 xv xs (Itc lo c k) ((List.range k).map fun (i : Nat) => .int (lo + i * c)) := by
  intro tv te σ' env' Hf' H' S
  refine ⟨by show k ≤ _; simp, fun i d hd => ?_⟩
  have hi : i < k := by have := lt_of_get hd; simpa using this
  refine ⟨hi, fun x H'' hy => ?_⟩
  obtain ⟨e1, e2⟩ := hy
  subst e1; subst e2
  have : d = .int (lo + i * c) := by
    rw [List.getElem?_map, List.getElem?_range hi] at hd
    exact (Option.some.inj hd).symm
  subst this
  exact ⟨Hf', Same.refl _, S.push_sh .int⟩
theorem mF_sh {m : Sm} {e e1 : Env} {s : Slot} (h : mF m e = .ok s e1) : s.m = .sh := by
  unfold mF at h
  cases em : m e with
  | no => rw [em] at h; cases h
  | ex _ _ _ => rw [em] at h; cases h
  | ok t e2 =>
    rw [em] at h
    obtain ⟨k, d⟩ := t
    cases k with
    | sh => cases h; rfl
    | ow => cases h; rfl
    | io => cases h
    | al j =>
      dsimp only at h
      cases ej : e2[j]? with
      | none => rw [ej] at h; cases h
      | some o =>
        cases o with
        | none => rw [ej] at h; cases h
        | some u =>
          obtain ⟨k, d'⟩ := u
          cases k with
          | sh => rw [ej] at h; cases h; rfl
          | ow => rw [ej] at h; cases h; rfl
          | io => rw [ej] at h; cases h
          | al _ => rw [ej] at h; cases h
theorem ev_iseq {t : TE} {m : Sm} (f : Ev P t m) : EvI P (tSeqI P.G.K t) (iSeq m) := by
  intro n IO H0 Hf σ tv env te H S
  have h1 := ev_F f n IO H0 Hf σ tv env te H S
  unfold iSeq
  cases em : mF m env with
  | no => trivial
  | ex c d e1 => rw [em] at h1; exact fun w R => h1 w _
  | ok s e1 =>
    rw [em] at h1
    have hm := mF_sh em
    obtain ⟨k, d⟩ := s
    have hm' : k = .sh := hm
    subst hm'
    cases d with
    | lst ds =>
      refine fun R q => h1 _ fun v Hf1 H1 s1 S1 => ?_
      have r := S1.held S.l2
      cases r with
      | lst h l r =>
        rename_i p vs
        refine .inl ⟨p, vs, rfl, .inl (.inl (S1.sr.sub _ _ h)), q _ _ _ Hf1 H1 s1 S1 noal_sh ?_⟩
        intro tv te σ' env' Hf' H' S'
        have r' := S'.held (by have := S'.l2; simpa using this)
        cases r' with
        | lst h' l' r' =>
          rename_i vs'
          have hh := S'.sr.sub _ _ h'
          refine ⟨⟨vs', .inl (.inl hh), by rw [l']; exact Nat.le_refl _⟩, fun i d hd => ?_⟩
          obtain ⟨v, hv, rv⟩ := Reps.get ⟨l', r'⟩ hd
          refine ⟨⟨vs', v, .inl (.inl hh), hv⟩, fun x H'' hy => ?_⟩
          obtain ⟨e1, e2⟩ := hy
          subst e1
          have e : v = x := Option.some.inj (hv.symm.trans (e2 vs' (.inl (.inl hh))))
          subst e
          exact ⟨Hf', Same.refl _, S'.push_sh rv⟩
    | frl ds =>
      refine fun R q => h1 _ fun v Hf1 H1 s1 S1 => ?_
      have r := S1.held S.l2
      cases r with
      | frl h l r =>
        rename_i p vs
        refine .inl ⟨p, vs, rfl, SqL.mono S1.sr.sub h, q _ _ _ Hf1 H1 s1 S1 noal_sh ?_⟩
        intro tv te σ' env' Hf' H' S'
        have r' := S'.held (by have := S'.l2; simpa using this)
        cases r' with
        | frl h' l' r' =>
          rename_i vs'
          have hh := SqL.mono S'.sr.sub h'
          refine ⟨⟨vs', hh, by rw [l']; exact Nat.le_refl _⟩, fun i d hd => ?_⟩
          obtain ⟨v, hv, rv⟩ := Reps.get ⟨l', r'⟩ hd
          refine ⟨⟨vs', v, hh, hv⟩, fun x H'' hy => ?_⟩
          obtain ⟨e1, e2⟩ := hy
          subst e1
          have e : v = x := Option.some.inj (hv.symm.trans (e2 vs' hh))
          subst e
          exact ⟨Hf', Same.refl _, S'.push_sh rv⟩
    | tup ds =>
      refine fun R q => h1 _ fun v Hf1 H1 s1 S1 => ?_
      have r := S1.held S.l2
      cases r with
      | tup h l r =>
        rename_i p vs
        refine .inr (.inl ⟨p, vs, rfl, .inl (.inl (S1.sr.sub _ _ h)), q _ _ _ Hf1 H1 s1 S1 noal_sh (walks_tup fun Hf r => ?_)⟩)
        cases r with
        | tup h l r => exact ⟨_, .inl (.inl h), l, r⟩
    | frt ds =>
      refine fun R q => h1 _ fun v Hf1 H1 s1 S1 => ?_
      have r := S1.held S.l2
      cases r with
      | frt h l r =>
        rename_i p vs
        refine .inr (.inl ⟨p, vs, rfl, SqT.mono S1.sr.sub h, q _ _ _ Hf1 H1 s1 S1 noal_sh (walks_tup fun Hf r => ?_)⟩)
        cases r with
        | frt h l r => exact ⟨_, h, l, r⟩
    | str z =>
      refine fun R q => h1 _ fun v Hf1 H1 s1 S1 => ?_
      have r := S1.held S.l2
      cases r
      exact .inr (.inr ⟨z, rfl, q _ _ _ Hf1 H1 s1 S1 noal_sh walks_str⟩)
    | _ => trivial
theorem si_seq {tg e : Expr} {m : Sm} (hK : ∀ X, P.M X → X.K = P.G.K) (h : SE P e m) : SI P tg e (iSeq m) :=
  let ⟨_, p, f⟩ := h; ⟨_, fun X hX => (hK X hX) ▸ pi_seq (p X hX), ev_iseq f⟩

/-- a blank is held -/
theorem St0.blank (S : St0 P n IO H0 Hf σ tv env te H) : St0 P n IO H0 Hf σ (tv ++ [none]) env (te ++ [none]) H := by
  refine ⟨S.le, S.ls, S.na, ?_⟩
  rw [← List.append_assoc, ← List.append_assoc]
  have R := S.sr
  have g : ∀ {i : Nat} {s : Slot}, ((env ++ te) ++ [none])[i]? = some (some s) → (env ++ te)[i]? = some (some s) := fun {i s} h => by
    rcases snoc_cases h with ⟨_, h⟩ | ⟨_, h⟩
    · exact h
    · cases h
  have b : ∀ {i : Nat} {s : Slot}, (env ++ te)[i]? = some (some s) → ((σ ++ tv) ++ [none])[i]? = (σ ++ tv)[i]? := fun {i s} h => get_before (R.lift h)
  refine ⟨R.sub, R.keep, R.grow, R.nf, by rw [List.length_append, R.len, List.length_append (as := env ++ te)]; rfl, fun i d h => ?_, fun i d h => ?_, fun i d h => ?_, fun i j d h => ?_, fun i j x y w ne hx hy mx my g1 g2 => ?_⟩
  · obtain ⟨v, e, r⟩ := R.shr i d (g h); exact ⟨v, (b (g h)).trans e, r⟩
  · obtain ⟨q, o, e, r⟩ := R.own i d (g h); exact ⟨q, o, (b (g h)).trans e, r⟩
  · obtain ⟨q, o, e, r⟩ := R.inout i d (g h); exact ⟨q, o, (b (g h)).trans e, r⟩
  · obtain ⟨jn, w, e1, e2, s, e3, e4⟩ := R.ali i j d (g h)
    exact ⟨jn, w, (b (g h)).trans e1, (b e3).trans e2, s, by rw [get_before (lt_of_get e3)]; exact e3, e4⟩
  · exact R.sep i j x y w ne (g hx) (g hy) mx my (by rw [← b (g hx)]; exact g1) (by rw [← b (g hy)]; exact g2)
/-! ### ranges -/
def small62 (i : Int) : Bool := decide (-(2 ^ 62) ≤ i) && decide (i < 2 ^ 62)
def intsOf : List Slot → Option (List Int)
  | [] => some []
  | ⟨.sh, .int i⟩ :: r => match intsOf r with
    | some is => some (i :: is)
    | none => none
  | _ => none
def upto (i : Int) (n : Nat) : List D := (List.range n).map fun (k : Nat) => .int (i + k)
def downto (i : Int) (n : Nat) : List D := (List.range n).map fun (k : Nat) => .int (i + k * (-1))
def iInts (f : List Int → Option (List D)) (l : Lm) : Im := fun e => match l e with
  | .ok ss e1 => match intsOf ss with
    | some is => match f is with
      | some ds => .ok ds e1
      | none => .no
    | none => .no
  | .ex c d e1 => .ex c d e1
  | .no => .no
def rng1 : List Int → Option (List D)
  | [j] => if small62 j then some (upto 0 j.toNat) else none
  | _ => none
def rng2 : List Int → Option (List D)
  | [i, j] => if small62 i && small62 j then some (upto i (j - i).toNat) else none
  | _ => none
def rng3 : List Int → Option (List D)
  | [i, j, c] => if c = -1 ∧ (small62 i && small62 j) = true then some (downto i (i - j).toNat) else none
  | _ => none
theorem small62_iff {i : Int} (h : small62 i = true) : -(2 ^ 62) ≤ i ∧ i < 2 ^ 62 := by
  unfold small62 at h
  rw [Bool.and_eq_true, decide_eq_true_iff, decide_eq_true_iff] at h
  exact h
theorem St0.int_at {vs : List V} {ss : List Slot} {i : Nat} {k : Int} (S : St0 P n IO H0 Hf σ (tv ++ vs.map some) env (te ++ ss.map some) H) (l : tv.length = te.length) (hl : vs.length = ss.length) (h : ss[i]? = some ⟨.sh, .int k⟩) : vs[i]? = some (.int k) := by
  have hi : i < vs.length := by rw [hl]; exact lt_of_get h
  have hv := List.getElem?_eq_getElem hi
  have r := S.at_sh (i := tv.length + i) (v := vs[i]) (d := .int k) (by rw [List.getElem?_append_right (by omega), Nat.add_sub_cancel_left, List.getElem?_map, hv]; rfl) (by rw [l, List.getElem?_append_right (by omega), Nat.add_sub_cancel_left, List.getElem?_map, h]; rfl)
  rw [hv]
  generalize vs[i] = v at r
  cases r
  rfl
theorem ints_get : ∀ {ss : List Slot} {is : List Int}, intsOf ss = some is → ss = is.map fun i => ⟨.sh, .int i⟩
  | [], is, h => by cases h; rfl
  | ⟨m, d⟩ :: r, is, h => by
    cases m with
    | sh =>
      cases d with
      | int i =>
        unfold intsOf at h
        cases er : intsOf r with
        | none => rw [er] at h; cases h
        | some ks => rw [er] at h; cases h; rw [ints_get er]; rfl
      | _ => unfold intsOf at h; cases h
    | _ => unfold intsOf at h; cases h
theorem St0.intsAt {vs : List V} {ss : List Slot} {is : List Int} (S : St0 P n IO H0 Hf σ (tv ++ vs.map some) env (te ++ ss.map some) H) (l : tv.length = te.length) (hl : vs.length = ss.length) (h : intsOf ss = some is) : vs = is.map V.int := by
  have e := ints_get h
  apply List.ext_getElem?
  intro k
  by_cases hk : k < is.length
  · have g : ss[k]? = some ⟨.sh, .int is[k]⟩ := by rw [e, List.getElem?_map, List.getElem?_eq_getElem hk]; rfl
    rw [S.int_at l hl g, List.getElem?_map, List.getElem?_eq_getElem hk]; rfl
  · rw [List.getElem?_eq_none (by rw [hl, e, List.length_map]; omega), List.getElem?_eq_none (by rw [List.length_map]; omega)]
/-- what is walked holds nothing -/
theorem ev_ints {t : TA} {l : Lm} {f : List Int → Option (List D)} {bd : List V → Hp → (It → Hp → Prop) → Prop} (f1 : EvL P t l)
    (h : ∀ (is : List Int) (ds : List D), f is = some ds → ∃ J, (∀ n IO H0, Walks1 P n IO H0 none none J ds) ∧ ∀ H (R : It → Hp → Prop), R J H → bd (is.map V.int) H R) : EvI P (fun σ H R => t σ H fun vs H1 => bd vs H1 R) (iInts f l) := by
  intro n IO H0 Hf σ tv env te H S
  have h1 := f1 n IO H0 Hf σ tv env te H S
  unfold iInts
  cases el : l env with
  | no => trivial
  | ex c d e1 =>
    rw [el] at h1
    exact fun w R => h1 w _
  | ok ss e1 =>
    rw [el] at h1
    dsimp only
    cases ei : intsOf ss with
    | none => trivial
    | some is =>
      dsimp only
      cases ef : f is with
      | none => trivial
      | some ds =>
        obtain ⟨J, hw, hJ⟩ := h is ds ef
        refine fun R q => h1 _ fun vs Hf1 H1 s1 l1 S1 => ?_
        rw [S1.intsAt S.l2 l1 ei]
        exact hJ _ _ (q _ none none Hf1 H1 s1 (St0.blank (St0.pops ss.length (by simp [l1]) (by simp) S1)) noal_none (hw _ _ _))
theorem ev_rng1 {t : TA} {l : Lm} (f : EvL P t l) : EvI P (iRng1 t) (iInts rng1 l) := ev_ints f fun is ds h => by
  unfold rng1 at h
  split at h
  · rename_i j
    split at h
    · rename_i hj
      cases h
      obtain ⟨a, b⟩ := small62_iff hj
      exact ⟨_, fun n IO H0 => walks_rng, fun H R q => ⟨j, rfl, a, b, q⟩⟩
    · cases h
  · cases h
theorem ev_rng2 {t : TA} {l : Lm} (f : EvL P t l) : EvI P (iRng2 t) (iInts rng2 l) := ev_ints f fun is ds h => by
  unfold rng2 at h
  split at h
  · rename_i i j
    split at h
    · rename_i hj
      cases h
      rw [Bool.and_eq_true] at hj
      obtain ⟨a, b⟩ := small62_iff hj.1
      obtain ⟨a', b'⟩ := small62_iff hj.2
      exact ⟨_, fun n IO H0 => walks_rng, fun H R q => ⟨i, j, rfl, ⟨a, b, a', b'⟩, q⟩⟩
    · cases h
  · cases h
theorem ev_rng3 {t : TA} {l : Lm} (f : EvL P t l) : EvI P (iRng3 t) (iInts rng3 l) := ev_ints f fun is ds h => by
  unfold rng3 at h
  split at h
  · rename_i i j c
    split at h
    · rename_i hj
      cases h
      obtain ⟨rfl, hj⟩ := hj
      rw [Bool.and_eq_true] at hj
      obtain ⟨a, b⟩ := small62_iff hj.1
      obtain ⟨a', b'⟩ := small62_iff hj.2
      exact ⟨_, fun n IO H0 => walks_rngC, fun H R q => ⟨i, j, -1, _, rfl, RgC.neg a b a' b', q⟩⟩
    · cases h
  · cases h
theorem si_rng1 {tg a : Expr} {p pos : Pos} {l : Lm} (hg : ∀ X, P.M X → Gl X "range") (hm : ∀ X, P.M X → X.mg "range" = none) (h : SL P [a] l) (hs : [a].all notStar = true) : SI P tg (.Call (.Name "range" p) [a] [] pos) (iInts rng1 l) :=
  let ⟨_, q, f⟩ := h; ⟨_, fun X hX => pi_range1 (hg X hX) (hm X hX) (pa_of (q X hX) hs) (star_ok (by simpa using hs)), ev_rng1 f⟩
theorem si_rng2 {tg a b : Expr} {p pos : Pos} {l : Lm} (hg : ∀ X, P.M X → Gl X "range") (hm : ∀ X, P.M X → X.mg "range" = none) (h : SL P [a, b] l) (hs : [a, b].all notStar = true) : SI P tg (.Call (.Name "range" p) [a, b] [] pos) (iInts rng2 l) :=
  let ⟨_, q, f⟩ := h; ⟨_, fun X hX => pi_range2 (hg X hX) (hm X hX) (pa_of (q X hX) hs) (by rw [star_ok (by simp at hs; exact hs.1), star_ok (by simp at hs; exact hs.2)]; rfl) (by rw [star_ok (by simp at hs; exact hs.2)]; rfl), ev_rng2 f⟩
theorem si_rng3 {tg a b c : Expr} {p pos : Pos} {l : Lm} (hg : ∀ X, P.M X → Gl X "range") (hm : ∀ X, P.M X → X.mg "range" = none) (h : SL P [a, b, c] l) (hs : [a, b, c].all notStar = true) : SI P tg (.Call (.Name "range" p) [a, b, c] [] pos) (iInts rng3 l) :=
  let ⟨_, q, f⟩ := h; ⟨_, fun X hX => pi_range3 (hg X hX) (hm X hX) (pa_of (q X hX) hs) (star_ok (by simp at hs; exact hs.1)) (star_any (by simp at hs ⊢; exact hs.2)), ev_rng3 f⟩
end
end VM

/-! VMJ: comprehensions -/
namespace VM
open PySem PySem.Spec PyProof.Rows L2

section
variable {P : Pl} {n : Nat} {IO : En} {H0 Hf H : Hp} {σ tv : L2.St} {env te : Env}
/-- the temporaries taken in another order, or some of them -/
theorem St0.perm {tv' : L2.St} {te' : Env} (S : St0 P n IO H0 Hf σ tv env te H) (f : Nat → Nat) (hl : tv'.length = te'.length)
    (inj : ∀ (i j : Nat) (a b : Slot), te'[i]? = some (some a) → te'[j]? = some (some b) → f i = f j → i = j)
    (h : ∀ (i : Nat) (s : Slot), te'[i]? = some (some s) → te[f i]? = some (some s) ∧ tv'[i]? = tv[f i]?) : St0 P n IO H0 Hf σ tv' env te' H := by
  have le := S.le
  have ls := S.ls
  have R := S.sr
  have l2 := S.l2
  have lo : ∀ {i : Nat}, i < n → (env ++ te')[i]? = (env ++ te)[i]? ∧ (σ ++ tv')[i]? = (σ ++ tv)[i]? := fun {i} hi => by
    rw [List.getElem?_append_left (by omega), List.getElem?_append_left (by omega), List.getElem?_append_left (by omega), List.getElem?_append_left (by omega)]
    exact ⟨rfl, rfl⟩
  have g : ∀ {i : Nat} {s : Slot}, (env ++ te')[i]? = some (some s) → ∃ k, (env ++ te)[k]? = some (some s) ∧ (σ ++ tv')[i]? = (σ ++ tv)[k]? ∧ ((i < n ∧ k = i) ∨ (n ≤ i ∧ k = n + f (i - n) ∧ te'[i - n]? = some (some s))) := fun {i s} hs => by
    by_cases hi : i < n
    · exact ⟨i, (lo hi).1 ▸ hs, (lo hi).2, .inl ⟨hi, rfl⟩⟩
    · rw [List.getElem?_append_right (by omega), le] at hs
      obtain ⟨h1, h2⟩ := h _ s hs
      refine ⟨n + f (i - n), ?_, ?_, .inr ⟨by omega, rfl, hs⟩⟩
      · rw [List.getElem?_append_right (by omega), le, Nat.add_sub_cancel_left]; exact h1
      · rw [List.getElem?_append_right (by omega), ls, List.getElem?_append_right (by omega), ls, Nat.add_sub_cancel_left]; exact h2
  refine ⟨le, ls, S.na, R.sub, R.keep, R.grow, R.nf, by simp [le, ls, hl], fun i d hs => ?_, fun i d hs => ?_, fun i d hs => ?_, fun i j d hs => ?_, fun i j a b w ne ha hb ma mb g1 g2 => ?_⟩
  · obtain ⟨k, h1, h2, _⟩ := g hs
    obtain ⟨v, e, r⟩ := R.shr _ d h1
    exact ⟨v, h2.trans e, r⟩
  · obtain ⟨k, h1, h2, _⟩ := g hs
    obtain ⟨p, o, e, r⟩ := R.own _ d h1
    exact ⟨p, o, h2.trans e, r⟩
  · obtain ⟨k, h1, h2, _⟩ := g hs
    obtain ⟨p, o, e, r⟩ := R.inout _ d h1
    exact ⟨p, o, h2.trans e, r⟩
  · obtain ⟨k, h1, h2, _⟩ := g hs
    obtain ⟨jn, w, e1, e2, s, e3, e4⟩ := R.ali _ j d h1
    exact ⟨jn, w, h2.trans e1, (lo jn).2.trans e2, s, (lo jn).1.trans e3, e4⟩
  · obtain ⟨k, h1, h2, h3⟩ := g ha
    obtain ⟨k', h1', h2', h3'⟩ := g hb
    refine R.sep k k' a b w (fun z => ?_) h1 h1' ma mb (h2 ▸ g1) (h2' ▸ g2)
    rcases h3 with ⟨x, y⟩ | ⟨x, y, y'⟩ <;> rcases h3' with ⟨x', z'⟩ | ⟨x', z', z2⟩
    · omega
    · omega
    · omega
    · have := inj (i - n) (j - n) a b y' z2 (by omega)
      omega
/-- the last two temporaries change places -/
theorem St0.swap {a b : Option V} {x y : Option Slot} (S : St0 P n IO H0 Hf σ ((tv ++ [a]) ++ [b]) env ((te ++ [x]) ++ [y]) H) : St0 P n IO H0 Hf σ ((tv ++ [b]) ++ [a]) env ((te ++ [y]) ++ [x]) H := by
  have l : tv.length = te.length := by have := S.l2; simpa using this
  have at1 : ∀ {α : Type} (l : List α) (u w : α) (i : Nat), ((l ++ [u]) ++ [w])[i]? = if i < l.length then l[i]? else if i = l.length then some u else if i = l.length + 1 then some w else none := fun l u w i => by
    by_cases h1 : i < l.length
    · rw [if_pos h1, List.getElem?_append_left (by simp; omega), List.getElem?_append_left h1]
    · rw [if_neg h1]
      by_cases h2 : i = l.length
      · rw [if_pos h2, h2, List.getElem?_append_left (by simp), get_last]
      · rw [if_neg h2]
        by_cases h3 : i = l.length + 1
        · rw [if_pos h3, h3]
          have : l.length + 1 = (l ++ [u]).length := by simp
          rw [this, get_last]
        · rw [if_neg h3, List.getElem?_eq_none (by simp; omega)]
  refine S.perm (fun i => if i = te.length then te.length + 1 else if i = te.length + 1 then te.length else i) (by simp [l]) (fun i j a b _ _ e => ?_) (fun i s hs => ?_)
  · split at e <;> split at e <;> (try split at e) <;> (try split at e) <;> omega
  · rw [at1] at hs
    rw [at1, at1, at1, l]
    by_cases h1 : i = te.length
    · rw [if_neg (by omega), if_pos h1] at hs
      rw [if_pos h1, if_neg (by omega), if_neg (by omega), if_pos rfl, if_neg (by omega), if_pos h1, if_neg (by omega), if_neg (by omega), if_pos rfl]
      exact ⟨hs, rfl⟩
    · by_cases h2 : i = te.length + 1
      · rw [if_neg (by omega), if_neg h1, if_pos h2] at hs
        rw [if_neg h1, if_pos h2, if_neg (by omega), if_pos rfl, if_neg (by omega), if_neg h1, if_pos h2, if_neg (by omega), if_pos rfl]
        exact ⟨hs, rfl⟩
      · rw [if_neg h1, if_neg h2] at hs
        rw [if_neg h1, if_neg h2]
        split at hs
        · rename_i h3
          rw [if_pos h3, if_pos h3, if_pos h3]
          exact ⟨hs, rfl⟩
        · cases hs
/-- the last but one is forgotten -/
theorem St0.skip2 {a b : Option V} {x y : Option Slot} (S : St0 P n IO H0 Hf σ ((tv ++ [a]) ++ [b]) env ((te ++ [x]) ++ [y]) H) : St0 P n IO H0 Hf σ (tv ++ [b]) env (te ++ [y]) H := S.swap.pop
theorem St0.to {P' : Pl} (S : St0 P n IO H0 Hf σ tv env te H) (h : P'.G = P.G) : St0 P' n IO H0 Hf σ tv env te H := ⟨S.le, S.ls, S.na, by rw [h]; exact S.sr⟩
end

/-- the contexts of a block's inner part -/
def Pl.blk (P : Pl) (scope : Scope) : Pl := { P with M := fun X' => ∃ X s H C cl fp, P.M X ∧ X' = X.blk s H scope (compEnvC scope cl C X.env) fp, W := fun _ _ _ _ => False }

def wipeE (vs : List Nat) (e : Env) : Env := match vs with
  | [] => e
  | v :: r => (wipeE r e).set v none
/-- put back what stood there -/
def backE (vs : List Nat) (e0 e : Env) : Env := match vs with
  | [] => e
  | v :: r => (backE r e0 e).set v ((e0[v]?).getD none)
def canWipe (vs : List Nat) (e : Env) : Bool := vs.all fun v => match e[v]? with
  | some none => true
  | some (some s) => decide (s.m = .sh)
  | none => false
def sameDef (e1 e2 : Env) : Bool := (List.range e1.length).all fun i => match e1[i]? with
  | some (some _) => (match e2[i]? with
    | some (some _) => true
    | _ => false)
  | _ => true
def lcD (g : Tgt) (c : Tm) (m : Sm) (vs : List Nat) : List D → List D → Env → Ans
  | [], acc, e => .ok ⟨.ow, .lst acc⟩ e
  | d :: r, acc, e => match g.run ⟨.sh, d⟩ (wipeE vs e) with
    | some e1 => match c e1 with
      | .ok true e2 => match mF m e2 with
        | .ok s e3 => if acc.length < 1000 then lcD g c m vs r (acc ++ [s.d]) (wipeE vs e3) else .no
        | _ => .no
      | .ok false e2 => lcD g c m vs r acc (wipeE vs e2)
      | _ => .no
    | none => .no
def mLc (i : Im) (g : Tgt) (c : Tm) (m : Sm) (vs : List Nat) : Sm := fun e => match i e with
  | .ok ds e1 => if canWipe vs e1 && g.asg.all (fun j => decide (j ∈ vs)) then match lcD g c m vs ds [] (wipeE vs e1) with
      | .ok s e2 => if sameDef e1 (backE vs e1 e2) then .ok s (backE vs e1 e2) else .no
      | _ => .no
    else .no
  | .ex c d e1 => .ex c d e1
  | .no => .no

section
variable {P : Pl} {n : Nat} {IO : En} {H0 Hf H : Hp} {σ tv : L2.St} {env te : Env}
theorem wipeE_length {vs : List Nat} {e : Env} : (wipeE vs e).length = e.length := by
  induction vs with
  | nil => rfl
  | cons v r ih => unfold wipeE; rw [List.length_set, ih]
theorem wipeE_get {vs : List Nat} {e : Env} {i : Nat} {s : Slot} : (wipeE vs e)[i]? = some (some s) ↔ i ∉ vs ∧ e[i]? = some (some s) := by
  induction vs with
  | nil => unfold wipeE; simp
  | cons v r ih =>
    unfold wipeE
    by_cases hv : v = i
    · subst hv
      refine ⟨fun h => ?_, fun h => absurd (List.mem_cons_self) h.1⟩
      by_cases hl : v < (wipeE r e).length
      · rw [List.getElem?_set_self hl] at h; cases h
      · rw [List.getElem?_eq_none (by rw [List.length_set]; omega)] at h; cases h
    · rw [List.getElem?_set_ne hv, ih]
      refine ⟨fun ⟨a, b⟩ => ⟨fun z => ?_, b⟩, fun ⟨a, b⟩ => ⟨fun z => a (List.mem_cons_of_mem _ z), b⟩⟩
      rcases List.mem_cons.mp z with z | z
      · exact hv z.symm
      · exact a z
theorem backE_length {vs : List Nat} {e0 e : Env} : (backE vs e0 e).length = e.length := by
  induction vs with
  | nil => rfl
  | cons v r ih => unfold backE; rw [List.length_set, ih]
theorem backE_get {vs : List Nat} {e0 e : Env} {i : Nat} (h : e0.length = e.length) : (backE vs e0 e)[i]? = if i ∈ vs then e0[i]? else e[i]? := by
  induction vs with
  | nil => unfold backE; simp
  | cons v r ih =>
    unfold backE
    by_cases hv : v = i
    · subst hv
      rw [if_pos List.mem_cons_self]
      by_cases hl : v < e.length
      · rw [List.getElem?_set_self (by rw [backE_length]; exact hl), List.getElem?_eq_getElem (by rw [h]; exact hl)]; rfl
      · rw [List.getElem?_eq_none (by rw [List.length_set, backE_length]; omega), List.getElem?_eq_none (by omega)]
    · rw [List.getElem?_set_ne hv, ih]
      by_cases hi : i ∈ r
      · rw [if_pos hi, if_pos (List.mem_cons_of_mem _ hi)]
      · rw [if_neg hi, if_neg (fun z => by
          rcases List.mem_cons.mp z with z | z
          · exact hv z.symm
          · exact hi z)]
theorem wipe_other {vs : List Nat} {i : Nat} (h : i ∉ vs) : (wipe σ vs)[i]? = σ[i]? := wipe_out h
/-- slots forgotten -/
theorem St0.wiped (vs : List Nat) (S : St0 P n IO H0 Hf σ tv env te H) (hal : ∀ (i : Nat) (s : Slot) (j : Nat), te[i]? = some (some s) → s.m = .al j → j ∉ vs) : St0 P n IO H0 Hf (wipe σ vs) tv (wipeE vs env) te H := by
  have le := S.le
  have ls := S.ls
  have R := S.sr
  have l2 := S.l2
  have g : ∀ {i : Nat} {s : Slot}, (wipeE vs env ++ te)[i]? = some (some s) → (env ++ te)[i]? = some (some s) ∧ (wipe σ vs ++ tv)[i]? = (σ ++ tv)[i]? := fun {i s} hs => by
    by_cases hi : i < n
    · rw [List.getElem?_append_left (by rw [wipeE_length]; omega)] at hs
      obtain ⟨h1, h2⟩ := wipeE_get.mp hs
      rw [List.getElem?_append_left (by omega), List.getElem?_append_left (by rw [wipe_length]; omega), List.getElem?_append_left (by omega), wipe_other h1]
      exact ⟨h2, rfl⟩
    · rw [List.getElem?_append_right (by rw [wipeE_length]; omega), wipeE_length] at hs
      rw [List.getElem?_append_right (by omega), List.getElem?_append_right (by rw [wipe_length]; omega), List.getElem?_append_right (by omega), wipe_length]
      exact ⟨hs, rfl⟩
  refine ⟨by rw [wipeE_length]; exact le, by rw [wipe_length]; exact ls, fun i s hs => S.na i s (wipeE_get.mp hs).2, R.sub, R.keep, R.grow, R.nf, by simp [le, ls, l2, wipeE_length, wipe_length], fun i d hs => ?_, fun i d hs => ?_, fun i d hs => ?_, fun i j d hs => ?_, fun i j a b w ne ha hb ma mb g1 g2 => ?_⟩
  · obtain ⟨h1, h2⟩ := g hs
    obtain ⟨v, e, r⟩ := R.shr _ d h1
    exact ⟨v, h2.trans e, r⟩
  · obtain ⟨h1, h2⟩ := g hs
    obtain ⟨p, o, e, r⟩ := R.own _ d h1
    exact ⟨p, o, h2.trans e, r⟩
  · obtain ⟨h1, h2⟩ := g hs
    obtain ⟨p, o, e, r⟩ := R.inout _ d h1
    exact ⟨p, o, h2.trans e, r⟩
  · obtain ⟨h1, h2⟩ := g hs
    obtain ⟨jn, w, e1, e2, s, e3, e4⟩ := R.ali _ j d h1
    have jv : j ∉ vs := by
      by_cases hi : i < n
      · rw [List.getElem?_append_left (by omega)] at h1
        exact absurd rfl (S.na i _ h1 j)
      · rw [List.getElem?_append_right (by omega)] at h1
        exact hal _ _ j h1 rfl
    refine ⟨jn, w, h2.trans e1, ?_, s, ?_, e4⟩
    · rw [List.getElem?_append_left (by rw [wipe_length]; omega), wipe_other jv]
      rw [List.getElem?_append_left (by omega)] at e2; exact e2
    · rw [List.getElem?_append_left (by omega)] at e3
      rw [List.getElem?_append_left (by rw [wipeE_length]; omega)]
      exact wipeE_get.mpr ⟨jv, e3⟩
  · obtain ⟨h1, h2⟩ := g ha
    obtain ⟨h1', h2'⟩ := g hb
    exact R.sep i j a b w ne h1 h1' ma mb (h2 ▸ g1) (h2' ▸ g2)
/-- other names are not looked at -/
def hideT (te : Env) : Env := te.map fun o => match o with
  | some ⟨.al _, _⟩ => none
  | o => o
theorem hideT_get {te : Env} {i : Nat} {s : Slot} (h : (hideT te)[i]? = some (some s)) : te[i]? = some (some s) ∧ ∀ j, s.m ≠ .al j := by
  unfold hideT at h
  rw [List.getElem?_map] at h
  cases e : te[i]? with
  | none => rw [e] at h; cases h
  | some o =>
    rw [e] at h
    cases o with
    | none => cases h
    | some t =>
      obtain ⟨m, d⟩ := t
      cases m with
      | al j => cases h
      | sh => cases h; exact ⟨rfl, fun k e => by cases e⟩
      | ow => cases h; exact ⟨rfl, fun k e => by cases e⟩
      | io => cases h; exact ⟨rfl, fun k e => by cases e⟩
theorem hideT_out {te : Env} {i : Nat} {s : Slot} (h : te[i]? = some (some s)) : (hideT te)[i]? = some (some s) ∨ ∃ j, s.m = .al j := by
  unfold hideT
  rw [List.getElem?_map, h]
  obtain ⟨m, d⟩ := s
  cases m with
  | al j => exact .inr ⟨j, rfl⟩
  | sh => exact .inl rfl
  | ow => exact .inl rfl
  | io => exact .inl rfl
theorem hideT_length {te : Env} : (hideT te).length = te.length := by unfold hideT; simp
theorem hideT_noal {te : Env} : NoAl (hideT te) := fun i s h k e => (hideT_get h).2 k e
theorem sameDef_get {e1 e2 : Env} (h : sameDef e1 e2 = true) {i : Nat} {s : Slot} (hi : e1[i]? = some (some s)) : ∃ s', e2[i]? = some (some s') := by
  have := List.all_eq_true.mp h i (List.mem_range.mpr (lt_of_get hi))
  rw [hi] at this
  dsimp only at this
  cases e : e2[i]? with
  | none => rw [e] at this; cases this
  | some o =>
    cases o with
    | none => rw [e] at this; cases this
    | some s' => exact ⟨s', rfl⟩
/-- slots put back: they were shared -/
theorem St0.backed {vs : List Nat} {Hf' H' : Hp} {env' : Env} {tv2 : L2.St} {te2 : Env} (S : St0 P n IO H0 Hf σ tv env te H) (S' : St0 P n IO H0 Hf' (wipe σ vs) (tv ++ tv2) env' (hideT te ++ te2) H') (sf : Same Hf Hf') (hw : canWipe vs env = true) (he : ∀ v ∈ vs, ∀ s, env'[v]? ≠ some (some s)) (hdf : sameDef env (backE vs env env') = true) : St0 P n IO H0 Hf' σ (tv ++ tv2) (backE vs env env') (te ++ te2) H' := by
  have le := S.le
  have ls := S.ls
  have le' := S'.le
  have R := S'.sr
  have l2 := S'.l2
  have l1 := S.l2
  have hl : env.length = env'.length := by omega
  have can : ∀ v ∈ vs, ∀ s, env[v]? = some (some s) → s.m = .sh := fun v hv s hs => by
    have := List.all_eq_true.mp hw v hv
    rw [hs] at this
    simpa using this
  have bl : (backE vs env env').length = n := by rw [backE_length]; exact le'
  have sv : ∀ {i : Nat}, (i < n → i ∉ vs) → (σ ++ (tv ++ tv2))[i]? = (wipe σ vs ++ (tv ++ tv2))[i]? := fun {i} hv => by
    by_cases hi : i < n
    · rw [List.getElem?_append_left (by omega), List.getElem?_append_left (by rw [wipe_length]; omega), wipe_other (hv hi)]
    · have w1 : (σ ++ (tv ++ tv2))[i]? = (tv ++ tv2)[i - n]? := by rw [List.getElem?_append_right (by omega), ls]
      have w2 : (wipe σ vs ++ (tv ++ tv2))[i]? = (tv ++ tv2)[i - n]? := by rw [List.getElem?_append_right (by rw [wipe_length]; omega), wipe_length, ls]
      rw [w1, w2]
  have g : ∀ {i : Nat} {s : Slot}, (backE vs env env' ++ (te ++ te2))[i]? = some (some s) → ((i < n ∧ i ∈ vs ∧ s.m = .sh ∧ env[i]? = some (some s)) ∨ ((env' ++ (hideT te ++ te2))[i]? = some (some s) ∧ (σ ++ (tv ++ tv2))[i]? = (wipe σ vs ++ (tv ++ tv2))[i]? ∧ (i < n → i ∉ vs)) ∨ (n ≤ i ∧ te[i - n]? = some (some s) ∧ ∃ j, s.m = .al j)) := fun {i s} hs => by
    by_cases hi : i < n
    · rw [List.getElem?_append_left (by omega), backE_get hl] at hs
      by_cases hv : i ∈ vs
      · rw [if_pos hv] at hs
        exact .inl ⟨hi, hv, can i hv s hs, hs⟩
      · rw [if_neg hv] at hs
        refine .inr (.inl ⟨?_, sv fun _ => hv, fun _ => hv⟩)
        rw [List.getElem?_append_left (by omega)]; exact hs
    · rw [List.getElem?_append_right (by omega), bl] at hs
      by_cases h2 : i - n < te.length
      · rw [List.getElem?_append_left h2] at hs
        rcases hideT_out hs with q | q
        · refine .inr (.inl ⟨?_, sv fun z => absurd z hi, fun z => absurd z hi⟩)
          rw [List.getElem?_append_right (by omega), le', List.getElem?_append_left (by rw [hideT_length]; exact h2)]; exact q
        · exact .inr (.inr ⟨by omega, hs, q⟩)
      · rw [List.getElem?_append_right (by omega)] at hs
        refine .inr (.inl ⟨?_, sv fun z => absurd z hi, fun z => absurd z hi⟩)
        rw [List.getElem?_append_right (by omega), le', List.getElem?_append_right (by rw [hideT_length]; omega), hideT_length]; exact hs
  refine ⟨bl, ls, fun i s hs k e => ?_, R.sub, R.keep, R.grow, R.nf, by simp [bl, ls, l1]; simpa [l1, hideT_length] using l2, fun i d hs => ?_, fun i d hs => ?_, fun i d hs => ?_, fun i j d hs => ?_, fun i j a b w ne ha hb ma mb g1 g2 => ?_⟩
  · have hi : i < n := by rw [← bl]; exact lt_of_get hs
    rw [backE_get hl] at hs
    split at hs
    · exact S.na i s hs k e
    · exact S'.na i s hs k e
  · rcases g hs with ⟨h1, h2, h3, h4⟩ | ⟨h1, h2, _⟩ | ⟨_, _, j, h3⟩
    · obtain ⟨v, e, r⟩ := S.sr.shr i d (by rw [List.getElem?_append_left (by omega)]; exact h4)
      rw [List.getElem?_append_left (by omega)] at e
      exact ⟨v, by rw [List.getElem?_append_left (by omega)]; exact e, r.mono sf⟩
    · obtain ⟨v, e, r⟩ := R.shr _ d h1
      exact ⟨v, h2.trans e, r⟩
    · cases h3
  · rcases g hs with ⟨h1, h2, h3, h4⟩ | ⟨h1, h2, _⟩ | ⟨_, _, j, h3⟩
    · cases h3
    · obtain ⟨p, o, e, r⟩ := R.own _ d h1
      exact ⟨p, o, h2.trans e, r⟩
    · cases h3
  · rcases g hs with ⟨h1, h2, h3, h4⟩ | ⟨h1, h2, _⟩ | ⟨_, _, j, h3⟩
    · cases h3
    · obtain ⟨p, o, e, r⟩ := R.inout _ d h1
      exact ⟨p, o, h2.trans e, r⟩
    · cases h3
  · rcases g hs with ⟨h1, h2, h3, h4⟩ | ⟨h1, h2, _⟩ | ⟨ni, hs', j', h3⟩
    · cases h3
    · obtain ⟨jn, w, e1, e2, s, e3, e4⟩ := R.ali _ j d h1
      rw [List.getElem?_append_left (by omega)] at e3
      have jv : j ∉ vs := fun z => he j z _ e3
      refine ⟨jn, w, h2.trans e1, ?_, s, ?_, e4⟩
      · rw [List.getElem?_append_left (by rw [wipe_length]; omega), wipe_other jv] at e2
        rw [List.getElem?_append_left (by omega)]; exact e2
      · rw [List.getElem?_append_left (by omega), backE_get hl, if_neg jv]; exact e3
    · cases h3
      obtain ⟨jn, w, e1, e2, s, e3, e4⟩ := S.sr.ali i j d (by rw [List.getElem?_append_right (by omega), le]; exact hs')
      rw [List.getElem?_append_left (by omega)] at e2 e3
      have hi' := lt_of_get hs'
      obtain ⟨s', e5⟩ := sameDef_get hdf e3
      refine ⟨jn, w, ?_, by rw [List.getElem?_append_left (by omega)]; exact e2, s', ?_, fun k => ?_⟩
      · rw [List.getElem?_append_right (by omega), ls] at e1
        rw [List.getElem?_append_right (by omega), ls, List.getElem?_append_left (by omega)]; exact e1
      · rw [List.getElem?_append_left (by omega)]; exact e5
      · rw [backE_get hl] at e5
        split at e5
        · exact S.na _ _ e5 k
        · exact S'.na _ _ e5 k
  · rcases g ha with ⟨_, _, h3, _⟩ | ⟨h1, h2, _⟩ | ⟨_, _, j, h3⟩
    · rw [h3] at ma; cases ma
    · rcases g hb with ⟨_, _, h3, _⟩ | ⟨h1', h2', _⟩ | ⟨_, _, j, h3⟩
      · rw [h3] at mb; cases mb
      · exact R.sep i _ a b w ne h1 h1' ma mb (h2 ▸ g1) (h2' ▸ g2)
      · rw [h3] at mb; cases mb
    · rw [h3] at ma; cases ma
end
end VM

/-! VMK: comprehensions, read -/
namespace VM
open PySem PySem.Spec PyProof.Rows L2

section
variable {P : Pl} {n : Nat} {IO : En} {H0 Hf H : Hp} {σ tv : L2.St} {env te : Env}
theorem mF_ok {m : Sm} {e e1 : Env} {s : Slot} (h : mF m e = .ok s e1) : s = ⟨.sh, s.d⟩ := by
  have := mF_sh h
  obtain ⟨k, d⟩ := s
  dsimp only at this
  subst this
  rfl
/-- what the last but one temporary owns is another thing now -/
theorem St0.grown {L : Addr} {xv : Option V} {xs : Option Slot} {o : HO} {d d' : D} (S : St0 P n IO H0 Hf σ ((tv ++ [some (V.ref L)]) ++ [xv]) env ((te ++ [ow d]) ++ [xs]) H) (t : TopO P.G Hf o d') :
    St0 P n IO H0 Hf σ ((tv ++ [some (V.ref L)]) ++ [xv]) env ((te ++ [ow d']) ++ [xs]) (upd H L o) := by
  have le := S.le
  have ls := S.ls
  have l2 : tv.length = te.length := by have := S.l2; simpa using this
  refine ⟨le, ls, S.na, ?_⟩
  have hs : (env ++ ((te ++ [ow d]) ++ [xs]))[n + te.length]? = some (ow d) := by
    rw [List.getElem?_append_right (by omega), le, Nat.add_sub_cancel_left, List.getElem?_append_left (by simp), get_last]
  have hp : (σ ++ ((tv ++ [some (V.ref L)]) ++ [xv]))[n + te.length]? = some (some (V.ref L)) := by
    rw [List.getElem?_append_right (by omega), ls, Nat.add_sub_cancel_left, ← l2, List.getElem?_append_left (by simp), get_last]
  have h := S.sr.change hs rfl hp t
  have e : (env ++ ((te ++ [ow d]) ++ [xs])).set (n + te.length) (some ⟨.ow, d'⟩) = env ++ ((te ++ [ow d']) ++ [xs]) := by
    rw [List.set_append_right _ _ (by omega), le, Nat.add_sub_cancel_left, List.set_append_left _ _ (by simp), List.set_append_right _ _ (by omega), Nat.sub_self]
    rfl
  rw [e] at h
  exact h
theorem ev_lc {wi : TI} {im : Im} {g : TG} {f : Tgt} {tt : TT} {c : Tm} {t : TE} {m : Sm} {scope : Scope} {vs : List Nat} (hi : EvI P wi im) (hg : EvG (P.blk scope) g f) (hc : EvT (P.blk scope) tt c) (hm : Ev (P.blk scope) t m) : Ev P (tLc wi g tt t vs) (mLc im f c m vs) := by
  intro n IO H0 Hf σ tv env te H S
  have h1 := hi n IO H0 Hf σ tv env te H S
  unfold mLc
  cases ei : im env with
  | no => trivial
  | ex cl d e1 => rw [ei] at h1; exact fun w Q => h1 w _
  | ok ds e1 =>
    rw [ei] at h1
    dsimp only
    by_cases hw : (canWipe vs e1 && f.asg.all (fun j => decide (j ∈ vs))) = true
    · rw [if_pos hw]
      rw [Bool.and_eq_true] at hw
      obtain ⟨hw, ha⟩ := hw
      have ha : ∀ j, j ∈ f.asg → j ∈ vs := fun j hj => of_decide_eq_true (List.all_eq_true.mp ha j hj)
      cases er : lcD f c m vs ds [] (wipeE vs e1) with
      | no => trivial
      | ex _ _ _ => trivial
      | ok sF eF =>
        dsimp only
        by_cases hd : sameDef e1 (backE vs e1 eF) = true
        · rw [if_pos hd]
          refine fun Q q => h1 _ fun J xv xs Hf1 H1 s1 S1 nx wk D hD => ?_
          have S0 := S1.pop
          have hsF : ∃ acc, sF = ⟨.ow, .lst acc⟩ := by
            have gen : ∀ (ds acc : List VM.D) (e : Env), lcD f c m vs ds acc e = .ok sF eF → ∃ acc, sF = ⟨.ow, .lst acc⟩ := by
              intro ds
              induction ds with
              | nil => intro acc e h; cases h; exact ⟨_, rfl⟩
              | cons d r ih =>
                intro acc e h
                rw [lcD] at h
                split at h
                · split at h
                  · split at h
                    · split at h
                      · exact ih _ _ h
                      · cases h
                    · cases h
                  · exact ih _ _ h
                  · cases h
                · cases h
            exact gen _ _ _ er
          have S2 : St0 P n IO H0 Hf1 (wipe σ vs) ((tv ++ [some (V.ref D)]) ++ [xv]) (wipeE vs e1) ((hideT te ++ [ow (.lst [])]) ++ [xs]) (upd H1 D (.lst [])) := by
            have a : St0 P n IO H0 Hf1 σ (tv ++ [xv]) e1 (hideT te ++ [xs]) H1 := S1.perm (fun i => i) (by rw [S1.l2, List.length_append, List.length_append, hideT_length]) (fun i j a b _ _ e => e) (fun i s hs => ⟨?_, rfl⟩)
            · have b := (a.push_ow (d := .lst []) hD ⟨[], rfl, .nil⟩).swap
              refine b.wiped vs fun i s j hs e => ?_
              exact absurd e (noal_app (noal_app hideT_noal (fun i s hs k => by
                cases i with
                | zero => simp at hs; subst hs; simp
                | succ i => simp at hs)) nx i s hs j)
            · by_cases h2 : i < te.length
              · rw [List.getElem?_append_left (by rw [hideT_length]; exact h2)] at hs
                rw [List.getElem?_append_left h2]; exact (hideT_get hs).1
              · rw [List.getElem?_append_right (by rw [hideT_length]; omega), hideT_length] at hs
                rw [List.getElem?_append_right (by omega)]; exact hs
          refine ⟨fun i k H2 => k = ds.length - i ∧ i ≤ ds.length ∧ ∃ Hf2 e2 acc, Same Hf1 Hf2 ∧ St0 P n IO H0 Hf2 (wipe σ vs) ((tv ++ [some (V.ref D)]) ++ [xv]) e2 ((hideT te ++ [ow (.lst acc)]) ++ [xs]) H2 ∧ lcD f c m vs (ds.drop i) acc e2 = .ok sF eF ∧ (∀ v ∈ vs, ∀ s, e2[v]? ≠ some (some s)),
            ⟨ds.length, by simp, Nat.zero_le _, Hf1, wipeE vs e1, [], Same.refl _, S2, by simpa using er, fun v hv s z => (wipeE_get.mp z).1 hv⟩, ?_⟩
          rintro i k H2 ⟨rfl, hi, Hf2, e2, acc, s2, S3, hl, hv⟩
          obtain ⟨stop, go⟩ := wk _ _ _ e2 Hf2 H2 S3
          have nal : NoAl ((hideT te ++ [ow (.lst acc)]) ++ [xs]) := noal_app (noal_app hideT_noal (fun i s hs k => by
                cases i with
                | zero => simp at hs; subst hs; simp
                | succ i => simp at hs)) nx
          have le2 : ((tv ++ [some (V.ref D)]) ++ [xv]).length = ((hideT te ++ [ow (.lst acc)]) ++ [xs]).length := S3.l2
          by_cases hlt : i < ds.length
          · refine .inr ?_
            have hd := List.getElem?_eq_getElem hlt
            obtain ⟨g1, g2⟩ := go i _ hd
            refine ⟨g1, fun H3 => ∃ Hf2 e2 acc, Same Hf1 Hf2 ∧ St0 P n IO H0 Hf2 (wipe σ vs) ((tv ++ [some (V.ref D)]) ++ [xv]) e2 ((hideT te ++ [ow (.lst acc)]) ++ [xs]) H3 ∧ lcD f c m vs (ds.drop (i + 1)) acc e2 = .ok sF eF ∧ (∀ v ∈ vs, ∀ s, e2[v]? ≠ some (some s)),
              fun H3 h => ⟨ds.length - (i + 1), by omega, rfl, hlt, h⟩, fun x H3 hy => ?_⟩
            obtain ⟨Hf3, s3, S4⟩ := g2 x H3 hy
            rw [List.drop_eq_getElem_cons hlt] at hl
            unfold lcD at hl
            have h4 := hg n IO H0 Hf3 _ _ e2 _ H3 x ⟨.sh, ds[i]⟩ (S4.to rfl) nal le2 (fun k => by simp)
            have ew : wipeE vs e2 = e2 := by
              apply List.ext_getElem?
              intro j
              have gen : ∀ (us : List Nat), (∀ v ∈ us, ∀ s, e2[v]? ≠ some (some s)) → (wipeE us e2)[j]? = e2[j]? := by
                intro us
                induction us with
                | nil => intro _; rfl
                | cons u us ih =>
                  intro hu
                  unfold wipeE
                  by_cases huj : u = j
                  · subst huj
                    by_cases hz : u < e2.length
                    · rw [List.getElem?_set_self (by rw [wipeE_length]; exact hz)]
                      have := hu u List.mem_cons_self
                      rw [List.getElem?_eq_getElem hz] at this ⊢
                      cases ez : e2[u] with
                      | none => rfl
                      | some s => exact absurd (by rw [ez]) (this s)
                    · rw [List.getElem?_eq_none (by rw [List.length_set, wipeE_length]; omega), List.getElem?_eq_none (by omega)]
                  · rw [List.getElem?_set_ne huj]; exact ih fun v hv => hu v (List.mem_cons_of_mem _ hv)
              exact gen vs hv
            rw [ew] at hl
            cases ef : f.run ⟨.sh, ds[i]⟩ e2 with
            | none => rw [ef] at hl; cases hl
            | some e3 =>
              rw [ef] at h4 hl
              refine h4 _ fun σ4 a4 S5 => ?_
              have a5 : AsgOk vs (wipe σ vs) σ4 := a4.mono ha
              have wp : wipe σ4 vs = wipe σ vs := by
                apply List.ext_getElem?
                intro j
                by_cases hj : j ∈ vs
                · have z : ∀ (σ : L2.St) (us : List Nat), j ∈ us → (wipe σ us)[j]? = if j < σ.length then some none else none := by
                    intro σ us
                    induction us with
                    | nil => intro h; cases h
                    | cons u us ih =>
                      intro h
                      unfold wipe
                      by_cases huj : u = j
                      · subst huj
                        by_cases hz : u < σ.length
                        · rw [if_pos hz, List.getElem?_set_self (by rw [wipe_length]; exact hz)]
                        · rw [if_neg hz, List.getElem?_eq_none (by rw [List.length_set, wipe_length]; omega)]
                      · rw [List.getElem?_set_ne huj]
                        rcases List.mem_cons.mp h with h | h
                        · exact absurd h.symm huj
                        · exact ih h
                  rw [z _ _ hj, z _ _ hj]
                  have := a5.1
                  rw [wipe_length] at this
                  rw [this]
                · rw [wipe_other hj, a5.2 j hj, wipe_other hj]
              refine ⟨wp, ?_⟩
              have h5 := hc n IO H0 Hf3 σ4 _ e3 _ H3 S5
              dsimp only at hl
              have s23 := s2.trans s3
              cases ec : c e3 with
              | no => rw [ec] at hl; cases hl
              | ex _ _ _ => rw [ec] at hl; cases hl
              | ok b e4 =>
                rw [ec] at h5 hl
                refine h5 _ fun Hf4 H4 s4 S6 => ?_
                cases b with
                | false =>
                  refine iteF ⟨Hf4, wipeE vs e4, acc, s23.trans s4, ?_, hl, fun v hv s z => (wipeE_get.mp z).1 hv⟩
                  have S7 : St0 P n IO H0 Hf4 σ4 _ e4 _ H4 := S6.to rfl
                  have := S7.wiped vs fun i s j hs e => absurd e (nal i s hs j)
                  rwa [wp] at this
                | true =>
                  refine iteT ?_
                  dsimp only at hl
                  have h6 := ev_F hm n IO H0 Hf4 σ4 _ e4 _ H4 S6
                  cases em : mF m e4 with
                  | no => rw [em] at hl; cases hl
                  | ex _ _ _ => rw [em] at hl; cases hl
                  | ok s e5 =>
                    rw [em] at h6 hl
                    refine h6 _ fun y Hf5 H5 s5 S8 => ?_
                    have es := mF_ok em
                    have S9 : St0 P n IO H0 Hf5 σ4 (((tv ++ [some (V.ref D)]) ++ [xv]) ++ [some y]) e5 (((hideT te ++ [ow (.lst acc)]) ++ [xs]) ++ [sh s.d]) H5 := by
                      have := S8.to (P' := P) rfl
                      rw [es] at this
                      exact this
                    have ry : Rep P.G Hf5 y s.d := S9.held le2
                    have S10 := S9.pop
                    dsimp only at hl
                    by_cases hz : acc.length < 1000
                    · rw [if_pos hz] at hl
                      have lt : tv.length = (hideT te).length := by simpa using le2
                      obtain ⟨p, o, e1', e2', _, e3', to⟩ := S10.sr.own (n + (hideT te).length) (.lst acc) (by
                        rw [List.getElem?_append_right (by rw [S10.le]; omega), S10.le, Nat.add_sub_cancel_left, List.getElem?_append_left (by simp), get_last])
                      have ep : V.ref D = V.ref p := by
                        rw [List.getElem?_append_right (by rw [S10.ls]; omega), S10.ls, Nat.add_sub_cancel_left, ← lt, List.getElem?_append_left (by simp), get_last] at e1'
                        exact Option.some.inj (Option.some.inj e1')
                      cases ep
                      obtain ⟨av, rfl, ra⟩ := to
                      refine ⟨av, e3', by rw [ra.len]; exact small1000 (Nat.le_of_lt hz), Hf5, wipeE vs e5, acc ++ [s.d], (s23.trans s4).trans s5, ?_, hl, fun v hv s z => (wipeE_get.mp z).1 hv⟩
                      have S11 := S10.grown (d' := .lst (acc ++ [s.d])) (o := .lst (av ++ [y])) ⟨_, rfl, ra.append (.cons ry .nil)⟩
                      have := S11.wiped vs fun i s j hs e => absurd e (noal_app (noal_app hideT_noal (fun i s hs k => by
                        cases i with
                        | zero => simp at hs; subst hs; simp
                        | succ i => simp at hs)) nx i s hs j)
                      rwa [wp] at this
                    · rw [if_neg hz] at hl; cases hl
          · have e : i = ds.length := by omega
            subst e
            refine .inl ⟨stop, ?_⟩
            rw [List.drop_length] at hl
            unfold lcD at hl
            cases hl
            have S5 : St0 P n IO H0 Hf2 (wipe σ vs) (tv ++ [some (V.ref D)]) _ (hideT te ++ [ow (.lst acc)]) H2 := S3.pop
            refine q _ Hf2 H2 (s1.trans s2) ?_
            exact S0.backed S5 s2 hw hv hd
        · rw [if_neg hd]; trivial
    · rw [if_neg hw]; trivial
end
end VM

/-! VML: the frame's names; rules on values -/
namespace VM
open PySem PySem.Spec PyProof.Rows L2

/-- what is known of all contexts of a place -/
structure Fra (P : Pl) (N : List Str) (sc : Scope) (mg : Str → Option Value) : Prop where
  hN : ∀ X, P.M X → X.N = N
  hsc : ∀ X, P.M X → X.env.scope = sc
  K : ∀ X, P.M X → X.K = P.G.K
  hmg : ∀ X, P.M X → X.mg = mg
  calm : ∀ X, P.M X → X.calm = true
  tk : ∀ X, P.M X → Takes X P.W
  pass : ∀ X, P.M X → PassesOwn (model X.prog X.w) X.A X.env X.xe
  hu : ∀ X, P.M X → X.A.units + 65 < cLine
  nd : N.Nodup
theorem blk_scope {scope : Scope} {cl : List (Str × Addr)} {C : Addr} {env : PySem.Env} : (compEnvC scope cl C env).scope = relS scope env.scope := rfl
theorem Fra.blk {P : Pl} {N : List Str} {sc : Scope} {mg : Str → Option Value} (fr : Fra P N sc mg) (scope : Scope) : Fra (P.blk scope) N (relS scope sc) mg where
  hN := fun X' ⟨X, s, H, C, cl, fp, h, e⟩ => by subst e; exact fr.hN X h
  hsc := fun X' ⟨X, s, H, C, cl, fp, h, e⟩ => by subst e; rw [← fr.hsc X h]; rfl
  K := fun X' ⟨X, s, H, C, cl, fp, h, e⟩ => by subst e; exact fr.K X h
  hmg := fun X' ⟨X, s, H, C, cl, fp, h, e⟩ => by subst e; exact fr.hmg X h
  calm := fun X' ⟨X, s, H, C, cl, fp, h, e⟩ => by subst e; exact fr.calm X h
  tk := fun X' ⟨X, s, H, C, cl, fp, h, e⟩ => by subst e; exact takes0
  pass := fun X' ⟨X, s, H, C, cl, fp, h, e⟩ => by subst e; exact PassesOwn.never
  hu := fun X' ⟨X, s, H, C, cl, fp, h, e⟩ => by subst e; exact fr.hu X h
  nd := fr.nd
theorem FnFact.blk {P : Pl} {x : Str} {fs : FS} (h : FnFact P x fs) (scope : Scope) : FnFact (P.blk scope) x fs :=
  fun X' ⟨X, s, H, C, cl, fp, hX, e⟩ => by subst e; exact h X hX

section
variable {P : Pl} {N : List Str} {sc : Scope} {mg : Str → Option Value}
theorem Fra.v (fr : Fra P N sc mg) (i : Nat) {x : Str} {pos : Pos} (hN : N[i]? = some x) (hv : Vis sc x) (hd : (x == ("__debug__" : Str)) = false := by decide) (hc : (x == ("__classdict__" : Str)) = false := by decide) : SE P (.Name x pos) (mV i) :=
  se_v fun X hX => pe_var (by rw [fr.hN X hX]; exact hN) (by rw [fr.hsc X hX]; exact hv) hd hc
theorem Fra.gl (fr : Fra P N sc mg) {x : Str} (h : sc.names.lookup x = some .globalImplicit) : ∀ X, P.M X → Gl X x := fun X hX => by
  unfold Gl PySem.Env.kindOf
  rw [fr.hsc X hX]; exact h
theorem Fra.bm (fr : Fra P N sc mg) {x : Str} {u : Option Value} (h : mg x = u) : ∀ X, P.M X → X.mg x = u := fun X hX => by rw [fr.hmg X hX]; exact h
theorem Fra.g (fr : Fra P N sc mg) (i : Nat) {x : Str} {pos : Pos} (hN : N[i]? = some x) (hx : Loc sc x) (hf : sc.names.lookup x = some .local ∨ ∀ X, P.M X → X.fn x = true) : SG P (.Name x pos) (gN i) :=
  ⟨_, fun X hX => pg_name (by rw [fr.hN X hX]; exact fr.nd) (by rw [fr.hN X hX]; exact hN) (by rw [fr.hsc X hX]; exact hx) (hf.elim (fun h => .inr (by rw [fr.hsc X hX]; exact h)) (fun h => .inl (h X hX))), evg_n⟩

/-! ### constants -/
theorem se_int {i : Int} {k : Nat} {pos : Pos} : SE P (.Constant (.int i) k pos) (mC (.int i)) := se_c (fun _ _ => pe_int) fun _ => .int
theorem se_str {z : Str} {k : Nat} {pos : Pos} : SE P (.Constant (.str z) k pos) (mC (.str z)) := se_c (fun _ _ => pe_str) fun _ => .str
theorem se_bool {b : Bool} {k : Nat} {pos : Pos} : SE P (.Constant (.bool b) k pos) (mC (.bl b)) := se_c (fun _ _ => pe_bl) fun _ => .bl
theorem se_none {k : Nat} {pos : Pos} : SE P (.Constant .none k pos) (mC .non) := se_c (fun _ _ => pe_non) fun _ => .non
theorem Fra.gi (fr : Fra P N sc mg) {x : Str} {i : Int} {t : Tok} {pos : Pos} (h : sc.names.lookup x = some .globalImplicit) (hm : mg x = some (.int i t)) (hd : (x == ("__debug__" : Str)) = false := by decide) : SE P (.Name x pos) (mC (.int i)) :=
  se_c (fun X hX => pe_glob (fr.gl h X hX) (fr.bm hm X hX) (show RelV (.int i) (.int i t) from ⟨t, rfl⟩) hd) fun _ => .int
theorem Fra.gs (fr : Fra P N sc mg) {x : Str} {z : Str} {t : Tok} {pos : Pos} (h : sc.names.lookup x = some .globalImplicit) (hm : mg x = some (.str z t)) (hd : (x == ("__debug__" : Str)) = false := by decide) : SE P (.Name x pos) (mC (.str z)) :=
  se_c (fun X hX => pe_glob (fr.gl h X hX) (fr.bm hm X hX) (show RelV (.str z) (.str z t) from ⟨t, rfl⟩) hd) fun _ => .str
theorem Fra.ty (fr : Fra P N sc mg) {x : Str} {T : String} {pos : Pos} (h : sc.names.lookup x = some .globalImplicit) (hm : mg x = none) (hv : bootBuiltins x = some (.type T)) (hn : x ≠ "__name__" := by decide) (hd : (x == ("__debug__" : Str)) = false := by decide) : SE P (.Name x pos) (mC (.ty T)) :=
  se_c (fun X hX => pe_bltn (fr.gl h X hX) (fr.bm hm X hX) hv (show RelV (.ty T) (.type T) from rfl) hn hd) fun _ => .ty

/-! ### operators -/
def f2 (f : D → D → RR) : List D → RR
  | [d, e] => f d e
  | _ => .no
def f1 (f : D → RR) : List D → RR
  | [d] => f d
  | _ => .no
def m2 (f : D → D → RR) (a b : Sm) : Sm := mN (f2 f) (lCons a (lCons b lNil))
def m1 (f : D → RR) (a : Sm) : Sm := mN (f1 f) (lCons a lNil)
def S2 (G : Gi) (r : R2) (f : D → D → RR) : Prop := ∀ Hf H x y d e, Same Hf H → PRep G Hf H x d → PRep G Hf H y e → RRok G Hf H (r x y H) (f d e)
def S1 (G : Gi) (r : V → Hp → VK → Prop) (f : D → RR) : Prop := ∀ Hf H x d, Same Hf H → PRep G Hf H x d → RRok G Hf H (r x H) (f d)
def r2 (r : R2) : List V → Hp → VK → Prop := fun vs H Q => match vs with
  | [x, y] => r x y H Q
  | _ => False
def r1 (r : V → Hp → VK → Prop) : List V → Hp → VK → Prop := fun vs H Q => match vs with
  | [x] => r x H Q
  | _ => False
theorem sn_2 {G : Gi} {r : R2} {f : D → D → RR} (h : S2 G r f) : SN G (r2 r) (f2 f) := by
  intro Hf H vs ds s p
  cases p with
  | nil => trivial
  | cons p1 p =>
    cases p with
    | nil => trivial
    | cons p2 p =>
      cases p with
      | nil => exact h Hf H _ _ _ _ s p1 p2
      | cons p3 p => trivial
theorem sn_1 {G : Gi} {r : V → Hp → VK → Prop} {f : D → RR} (h : S1 G r f) : SN G (r1 r) (f1 f) := by
  intro Hf H vs ds s p
  cases p with
  | nil => trivial
  | cons p1 p =>
    cases p with
    | nil => exact h Hf H _ _ s p1
    | cons p3 p => trivial
theorem ev_2 {r : R2} {f : D → D → RR} {ta tb : TE} {a b : Sm} (hf : S2 P.G r f) (ha : Ev P ta a) (hb : Ev P tb b) : Ev P (tOp r ta tb) (m2 f a b) :=
  ev_n (r := r2 r) (sn_2 hf) (evl_cons ha (evl_cons hb evl_nil))
theorem ev_1 {r : V → Hp → VK → Prop} {f : D → RR} {ta : TE} {a : Sm} (hf : S1 P.G r f) (ha : Ev P ta a) : Ev P (tUn r ta) (m1 f a) :=
  ev_n (r := r1 r) (sn_1 hf) (evl_cons ha evl_nil)
theorem se_op {op : Operator} {r : R2} {f : D → D → RR} {a b : Expr} {pos : Pos} {ma mb : Sm} (ho : ∀ X, P.M X → OpR X (binaryOp op) r) (hf : S2 P.G r f) (ha : SE P a ma) (hb : SE P b mb) : SE P (.BinOp a op b pos) (m2 f ma mb) :=
  let ⟨_, p, e⟩ := ha; let ⟨_, q, g⟩ := hb; ⟨_, fun X hX => pe_op (ho X hX) (p X hX) (q X hX), ev_2 hf e g⟩
theorem se_un {op : UnaryOp} {r : V → Hp → VK → Prop} {f : D → RR} {a : Expr} {pos : Pos} {ma : Sm} (ho : ∀ X, P.M X → UnR X (unaryOp op) r) (hf : S1 P.G r f) (ha : SE P a ma) : SE P (.UnaryOp op a pos) (m1 f ma) :=
  let ⟨_, p, e⟩ := ha; ⟨_, fun X hX => pe_un (ho X hX) (p X hX), ev_1 hf e⟩
theorem se_cmpR {op : CmpOp} {r : R2} {f : D → D → RR} {a b : Expr} {pos : Pos} {ma mb : Sm} (ho : ∀ X, P.M X → OpR X (compareOp op) r) (hf : S2 P.G r f) (ha : SE P a ma) (hb : SE P b mb) (hm : behindInMarks op b = false) : SE P (.Compare a [op] [b] pos) (m2 f ma mb) :=
  let ⟨_, p, e⟩ := ha; let ⟨_, q, g⟩ := hb; ⟨_, fun X hX => pe_cmpR (ho X hX) (p X hX) (q X hX) hm, ev_2 hf e g⟩
theorem st_cmpR {op : CmpOp} {r : R2} {f : D → D → RR} {a b : Expr} {pos : Pos} {ma mb : Sm} (ho : ∀ X, P.M X → OpR X (compareOp op) r) (hf : S2 P.G r f) (ha : SE P a ma) (hb : SE P b mb) (hm : behindInMarks op b = false) : ST P (.Compare a [op] [b] pos) (mBl (m2 f ma mb)) :=
  let ⟨_, p, e⟩ := ha; let ⟨_, q, g⟩ := hb; ⟨_, fun X hX => pt_cmpR (ho X hX) (p X hX) (q X hX) hm, evT_bl (ev_2 hf e g)⟩
theorem PRep.int {G : Gi} {Hf H : Hp} {v : V} {i : Int} (h : PRep G Hf H v (.int i)) : v = .int i := by
  rcases h with h | ⟨p, o, _, _, t⟩
  · cases h; rfl
  · exact t.elim
theorem PRep.bl {G : Gi} {Hf H : Hp} {v : V} {b : Bool} (h : PRep G Hf H v (.bl b)) : v = .bl b := by
  rcases h with h | ⟨p, o, _, _, t⟩
  · cases h; rfl
  · exact t.elim
theorem PRep.str {G : Gi} {Hf H : Hp} {v : V} {z : Str} (h : PRep G Hf H v (.str z)) : v = .str z := by
  rcases h with h | ⟨p, o, _, _, t⟩
  · cases h; rfl
  · exact t.elim
theorem PRep.non {G : Gi} {Hf H : Hp} {v : V} (h : PRep G Hf H v .non) : v = .non := by
  rcases h with h | ⟨p, o, _, _, t⟩
  · cases h; rfl
  · exact t.elim
/-- two ints, under a condition -/
def fI (C : Int → Int → Bool) (g : Int → Int → D) (d e : D) : RR := match d, e with
  | .int i, .int j => if C i j then .sh (g i j) else .no
  | _, _ => .no
def fI0 (g : Int → Int → D) (d e : D) : RR := match d, e with
  | .int i, .int j => .sh (g i j)
  | _, _ => .no
theorem s_I {G : Gi} {C : Int → Int → Prop} {C' : Int → Int → Bool} {g : Int → Int → V} {g' : Int → Int → D} (hC : ∀ i j, C' i j = true → C i j) (hg : ∀ H i j, Rep G H (g i j) (g' i j)) : S2 G (rI C g) (fI C' g') := by
  intro Hf H x y d e s p q
  unfold fI
  split
  · split
    · rename_i i j hc
      exact fun Q k => ⟨i, j, p.int, q.int, hC i j hc, k _ (hg Hf i j)⟩
    · trivial
  · trivial
theorem s_I0 {G : Gi} {g : Int → Int → V} {g' : Int → Int → D} (hg : ∀ H i j, Rep G H (g i j) (g' i j)) : S2 G (rI0 g) (fI0 g') := by
  intro Hf H x y d e s p q
  unfold fI0
  split
  · rename_i i j
    exact fun Q k => ⟨i, j, p.int, q.int, k _ (hg Hf i j)⟩
  · trivial
def cMul (i j : Int) : Bool := (decide (-(2 ^ 64) < i) && decide (i < 2 ^ 64)) || (decide (-(2 ^ 64) < j) && decide (j < 2 ^ 64)) || decide (i.natAbs.log2 + j.natAbs.log2 < 1000000)
def cDiv (_ j : Int) : Bool := decide (0 < j) && decide (j.natAbs.log2 < 9000)
def cPow (i j : Int) : Bool := decide (0 ≤ j) && decide (j ≤ 1000000) && decide (i.natAbs < 2 ^ 64)
def dMul : D → D → RR := fI cMul fun i j => .int (i * j)
def dSub : D → D → RR := fI0 fun i j => .int (i - j)
def dDiv : D → D → RR := fI cDiv fun i j => .int (i / j)
def dMod : D → D → RR := fI (fun _ j => decide (0 < j)) fun i j => .int (i % j)
def dPow : D → D → RR := fI cPow fun i j => .int (i ^ j.toNat)
def dShl : D → D → RR := fI cPow fun i j => .int (i * 2 ^ j.toNat)
def dShr : D → D → RR := fI (fun _ j => decide (0 ≤ j)) fun i j => .int (i / 2 ^ j.toNat)
def dAnd : D → D → RR := fI0 fun i j => .int (Builtin.bitAnd i j)
def dOr : D → D → RR := fI0 fun i j => .int (Builtin.bitOr i j)
def dXor : D → D → RR := fI0 fun i j => .int (Builtin.bitXor i j)
theorem s_mul {G : Gi} : S2 G (fun x y H Q => rI CMul (fun i j => .int (i * j)) x y H Q ∨ rI CMulW (fun i j => .int (i * j)) x y H Q) (fI cMul fun i j => .int (i * j)) := by
  intro Hf H x y d e s p q
  unfold fI
  split
  · split
    · rename_i i j hc
      intro Q k
      unfold cMul at hc
      simp only [Bool.or_eq_true, Bool.and_eq_true, decide_eq_true_eq] at hc
      rcases hc with hc | hc
      · exact .inl ⟨i, j, p.int, q.int, hc, k _ .int⟩
      · exact .inr ⟨i, j, p.int, q.int, hc, k _ .int⟩
    · trivial
  · trivial
theorem se_mul {a b : Expr} {pos : Pos} {ma mb : Sm} (ha : SE P a ma) (hb : SE P b mb) : SE P (.BinOp a .Mult b pos) (m2 dMul ma mb) :=
  se_op (fun _ _ => op_mul.or op_mulW) s_mul ha hb
theorem se_sub {a b : Expr} {pos : Pos} {ma mb : Sm} (ha : SE P a ma) (hb : SE P b mb) : SE P (.BinOp a .Sub b pos) (m2 dSub ma mb) :=
  se_op (fun _ _ => op_sub) (s_I0 fun _ _ _ => .int) ha hb
theorem se_fdiv {a b : Expr} {pos : Pos} {ma mb : Sm} (ha : SE P a ma) (hb : SE P b mb) : SE P (.BinOp a .FloorDiv b pos) (m2 dDiv ma mb) :=
  se_op (fun _ _ => op_fdivW) (s_I (fun i j h => by
    unfold cDiv at h
    rw [Bool.and_eq_true, decide_eq_true_eq, decide_eq_true_eq] at h
    exact h) fun _ _ _ => .int) ha hb
theorem se_mod {a b : Expr} {pos : Pos} {ma mb : Sm} (ha : SE P a ma) (hb : SE P b mb) : SE P (.BinOp a .Mod b pos) (m2 dMod ma mb) :=
  se_op (fun _ _ => op_mod) (s_I (fun i j h => of_decide_eq_true h) fun _ _ _ => .int) ha hb
theorem cPow_ok {i j : Int} (h : cPow i j = true) : CPow i j := by
  unfold cPow at h
  simp only [Bool.and_eq_true, decide_eq_true_eq] at h
  exact ⟨h.1.1, h.1.2, h.2⟩
theorem se_pow {a b : Expr} {pos : Pos} {ma mb : Sm} (ha : SE P a ma) (hb : SE P b mb) : SE P (.BinOp a .Pow b pos) (m2 dPow ma mb) :=
  se_op (fun _ _ => op_pow) (s_I (fun i j h => cPow_ok h) fun _ _ _ => .int) ha hb
theorem se_shl {a b : Expr} {pos : Pos} {ma mb : Sm} (ha : SE P a ma) (hb : SE P b mb) : SE P (.BinOp a .LShift b pos) (m2 dShl ma mb) :=
  se_op (fun _ _ => op_shl) (s_I (fun i j h => cPow_ok h) fun _ _ _ => .int) ha hb
theorem se_shr {a b : Expr} {pos : Pos} {ma mb : Sm} (ha : SE P a ma) (hb : SE P b mb) : SE P (.BinOp a .RShift b pos) (m2 dShr ma mb) :=
  se_op (fun _ _ => op_shr) (s_I (fun i j h => of_decide_eq_true h) fun _ _ _ => .int) ha hb
theorem se_band {a b : Expr} {pos : Pos} {ma mb : Sm} (ha : SE P a ma) (hb : SE P b mb) : SE P (.BinOp a .BitAnd b pos) (m2 dAnd ma mb) :=
  se_op (fun _ _ => op_and) (s_I0 fun _ _ _ => .int) ha hb
theorem se_bor {a b : Expr} {pos : Pos} {ma mb : Sm} (ha : SE P a ma) (hb : SE P b mb) : SE P (.BinOp a .BitOr b pos) (m2 dOr ma mb) :=
  se_op (fun _ _ => op_or) (s_I0 fun _ _ _ => .int) ha hb
theorem se_xor {a b : Expr} {pos : Pos} {ma mb : Sm} (ha : SE P a ma) (hb : SE P b mb) : SE P (.BinOp a .BitXor b pos) (m2 dXor ma mb) :=
  se_op (fun _ _ => op_xor) (s_I0 fun _ _ _ => .int) ha hb
def fC (g : Int → Int → Bool) (h : Str → Str → Bool) (d e : D) : RR := match d, e with
  | .int i, .int j => .sh (.bl (g i j))
  | .str a, .str b => .sh (.bl (h a b))
  | _, _ => .no
def dLt : D → D → RR := fC (fun i j => decide (i < j)) fun a b => decide (a.cps.toList < b.cps.toList)
def dLe : D → D → RR := fC (fun i j => decide (i ≤ j)) fun a b => !decide (b.cps.toList < a.cps.toList)
def dGt : D → D → RR := fC (fun i j => decide (j < i)) fun a b => decide (b.cps.toList < a.cps.toList)
def dGe : D → D → RR := fC (fun i j => decide (j ≤ i)) fun a b => !decide (a.cps.toList < b.cps.toList)
def rC (g : Int → Int → Bool) (h : Str → Str → Bool) : R2 := fun x y H Q => rI0 (fun i j => .bl (g i j)) x y H Q ∨ ∃ i j, x = .str i ∧ y = .str j ∧ Q (.bl (h i j)) H
theorem s_C {G : Gi} {g : Int → Int → Bool} {h : Str → Str → Bool} : S2 G (rC g h) (fC g h) := by
  intro Hf H x y d e s p q
  unfold fC
  split
  · exact fun Q k => .inl ⟨_, _, p.int, q.int, k _ .bl⟩
  · exact fun Q k => .inr ⟨_, _, p.str, q.str, k _ .bl⟩
  · trivial
theorem op_ltA {X : Cx} : OpR X (compareOp .Lt) (rC (fun i j => decide (i < j)) fun a b => decide (a.cps.toList < b.cps.toList)) := op_lt.or op_lt_str
theorem op_leA {X : Cx} : OpR X (compareOp .LtE) (rC (fun i j => decide (i ≤ j)) fun a b => !decide (b.cps.toList < a.cps.toList)) := op_le.or op_le_str
theorem op_gtA {X : Cx} : OpR X (compareOp .Gt) (rC (fun i j => decide (j < i)) fun a b => decide (b.cps.toList < a.cps.toList)) := op_gt.or op_gt_str
theorem op_geA {X : Cx} : OpR X (compareOp .GtE) (rC (fun i j => decide (j ≤ i)) fun a b => !decide (a.cps.toList < b.cps.toList)) := op_ge.or op_ge_str
def dNeg : D → RR
  | .int i => .sh (.int (-i))
  | _ => .no
theorem s_neg {G : Gi} : S1 G (rU fun i => .int (-i)) dNeg := by
  intro Hf H x d s p
  unfold dNeg
  split
  · exact fun Q k => ⟨_, p.int, k _ .int⟩
  · trivial
theorem se_neg {a : Expr} {pos : Pos} {ma : Sm} (ha : SE P a ma) : SE P (.UnaryOp .USub a pos) (m1 dNeg ma) := se_un (fun _ _ => un_neg) s_neg ha
end
end VM

/-! VMM: comparisons, places, calls of what is built in -/
namespace VM
open PySem PySem.Spec PyProof.Rows L2

/-! ### data as the kit's data -/
mutual
def D.py : D → Option PyData
  | .non => some .none
  | .bl b => some (.bool b)
  | .int i => some (.int i)
  | .str z => some (.str z)
  | .tup xs => (D.pys xs).map .tuple
  | .frt xs => (D.pys xs).map .tuple
  | .lst xs => (D.pys xs).map .list
  | .frl xs => (D.pys xs).map .list
  | _ => none
def D.pys : List D → Option (List PyData)
  | [] => some []
  | x :: r => match D.py x, D.pys r with
    | some a, some as => some (a :: as)
    | _, _ => none
end
theorem dpAll_of {K : PySem.W.Frag} {H : Hp} : ∀ {vs : List V} {ds : List D} {ps : List PyData}, vs.length = ds.length → (∀ (i : Nat) v d, vs[i]? = some v → ds[i]? = some d → ∀ p, D.py d = some p → Dp K H v p) → D.pys ds = some ps → DpAll K H vs ps
  | [], [], ps, _, _, e => by unfold D.pys at e; cases e; exact .nil
  | [], _ :: _, _, l, _, _ => by simp at l
  | _ :: _, [], _, l, _, _ => by simp at l
  | v :: vs, d :: ds, ps, l, h, e => by
    unfold D.pys at e
    cases e1 : D.py d with
    | none => rw [e1] at e; cases e
    | some a =>
      cases e2 : D.pys ds with
      | none => rw [e1, e2] at e; cases e
      | some as =>
        rw [e1, e2] at e; cases e
        exact .cons (h 0 v d rfl rfl a e1) (dpAll_of (by simpa using l) (fun i w x h1 h2 => h (i + 1) w x (by simpa using h1) (by simpa using h2)) e2)
theorem Rep.dp {G : Gi} {Hf H : Hp} (s : Same Hf H) {v : V} {d : D} (r : Rep G Hf v d) : ∀ p, D.py d = some p → Dp G.K H v p := by
  induction r with
  | non => intro p e; unfold D.py at e; cases e; exact .non
  | bl => intro p e; unfold D.py at e; cases e; exact .bl _
  | int => intro p e; unfold D.py at e; cases e; exact .int _
  | str => intro p e; unfold D.py at e; cases e; exact .str _
  | tup h l _ ih =>
    intro p e; unfold D.py at e
    obtain ⟨ps, e1, e2⟩ := Option.map_eq_some_iff.mp e
    subst e2
    exact .tup (.inl (.inl (s _ _ h))) (dpAll_of l ih e1)
  | frt h l _ ih =>
    intro p e; unfold D.py at e
    obtain ⟨ps, e1, e2⟩ := Option.map_eq_some_iff.mp e
    subst e2
    exact .tup (SqT.mono s h) (dpAll_of l ih e1)
  | lst h l _ ih =>
    intro p e; unfold D.py at e
    obtain ⟨ps, e1, e2⟩ := Option.map_eq_some_iff.mp e
    subst e2
    exact .lst (.inl (.inl (s _ _ h))) (dpAll_of l ih e1)
  | frl h l _ ih =>
    intro p e; unfold D.py at e
    obtain ⟨ps, e1, e2⟩ := Option.map_eq_some_iff.mp e
    subst e2
    exact .lst (SqL.mono s h) (dpAll_of l ih e1)
  | dic => intro p e; unfold D.py at e; cases e
  | dit => intro p e; unfold D.py at e; cases e
  | ins => intro p e; unfold D.py at e; cases e
  | fn => intro p e; unfold D.py at e; cases e
  | ty => intro p e; unfold D.py at e; cases e
  | cls => intro p e; unfold D.py at e; cases e
theorem PRep.dp {G : Gi} {Hf H : Hp} (s : Same Hf H) {v : V} {d : D} (r : PRep G Hf H v d) {p : PyData} (e : D.py d = some p) : Dp G.K H v p := by
  rcases r with r | ⟨a, o, rfl, ha, t⟩
  · exact r.dp s p e
  · cases d with
    | lst ds =>
      obtain ⟨vs, rfl, rr⟩ := t
      unfold D.py at e
      obtain ⟨ps, e1, e2⟩ := Option.map_eq_some_iff.mp e
      subst e2
      exact .lst (.inl (.inl ha)) (dpAll_of rr.len (fun i v d h1 h2 => (rr.at' i v d h1 h2).dp s) e1)
    | dic => unfold D.py at e; cases e
    | dit => unfold D.py at e; cases e
    | ins => unfold D.py at e; cases e
    | _ => exact t.elim
def dEqv (neg : Bool) (d e : D) : RR := match D.py d, D.py e with
  | some p, some q => if SeqAt.shaped p && SeqAt.shaped q then .sh (.bl (if neg then !PyData.eqv p q else PyData.eqv p q)) else .no
  | _, _ => .no
abbrev dEq := dEqv false
abbrev dNe := dEqv true
theorem s_eq {G : Gi} : S2 G (rEqD G.K) dEq := by
  intro Hf H x y d e s p q
  show RRok G Hf H _ (dEqv _ d e)
  unfold dEqv
  split
  · rename_i a b h1 h2
    split
    · rename_i hs
      rw [Bool.and_eq_true] at hs
      exact fun Q k => ⟨a, b, p.dp s h1, q.dp s h2, hs.1, hs.2, k _ .bl⟩
    · trivial
  · trivial
theorem s_ne {G : Gi} : S2 G (rNeD G.K) dNe := by
  intro Hf H x y d e s p q
  show RRok G Hf H _ (dEqv _ d e)
  unfold dEqv
  split
  · rename_i a b h1 h2
    split
    · rename_i hs
      rw [Bool.and_eq_true] at hs
      exact fun Q k => ⟨a, b, p.dp s h1, q.dp s h2, hs.1, hs.2, k _ .bl⟩
    · trivial
  · trivial
/-- x in a list -/
def dInL (neg : Bool) (d e : D) : RR := match D.py d, D.py e with
  | some p, some (.list qs) => if SeqAt.shaped p && SeqAt.shaped (.list qs) then .sh (.bl (if neg then !(qs.any fun z => PyData.eqv z p) else qs.any fun z => PyData.eqv z p)) else .no
  | _, _ => .no
theorem s_in {G : Gi} : S2 G (rInD G.K) (dInL false) := by
  intro Hf H x y d e s p q
  unfold dInL
  split
  · rename_i a b h1 h2
    split
    · rename_i hs
      rw [Bool.and_eq_true] at hs
      exact fun Q k => ⟨a, b, p.dp s h1, q.dp s h2, hs.1, hs.2, k _ .bl⟩
    · trivial
  · trivial
theorem s_nin {G : Gi} : S2 G (rNotInD G.K) (dInL true) := by
  intro Hf H x y d e s p q
  unfold dInL
  split
  · rename_i a b h1 h2
    split
    · rename_i hs
      rw [Bool.and_eq_true] at hs
      exact fun Q k => ⟨a, b, p.dp s h1, q.dp s h2, hs.1, hs.2, k _ .bl⟩
    · trivial
  · trivial
/-! ### sequences -/
def listOf : D → Option (List D)
  | .lst xs => some xs
  | .frl xs => some xs
  | _ => none
def tupOf : D → Option (List D)
  | .tup xs => some xs
  | .frt xs => some xs
  | _ => none
theorem PRep.list {G : Gi} {Hf H : Hp} (s : Same Hf H) {v : V} {d : D} {ds : List D} (r : PRep G Hf H v d) (e : listOf d = some ds) : ∃ a xs, v = .ref a ∧ SqL G.K H a xs ∧ Reps G Hf xs ds := by
  rcases r with r | ⟨a, o, rfl, ha, t⟩
  · cases r with
    | lst h l r => cases e; exact ⟨_, _, rfl, .inl (.inl (s _ _ h)), l, r⟩
    | frl h l r => cases e; exact ⟨_, _, rfl, SqL.mono s h, l, r⟩
    | _ => cases e
  · cases d with
    | lst ds => obtain ⟨vs, rfl, rr⟩ := t; cases e; exact ⟨_, _, rfl, .inl (.inl ha), rr⟩
    | frl _ => exact t.elim
    | _ => cases e
theorem PRep.tupl {G : Gi} {Hf H : Hp} (s : Same Hf H) {v : V} {d : D} {ds : List D} (r : PRep G Hf H v d) (e : tupOf d = some ds) : ∃ a xs, v = .ref a ∧ SqT G.K H a xs ∧ Reps G Hf xs ds := by
  rcases r with r | ⟨a, o, rfl, ha, t⟩
  · cases r with
    | tup h l r => cases e; exact ⟨_, _, rfl, .inl (.inl (s _ _ h)), l, r⟩
    | frt h l r => cases e; exact ⟨_, _, rfl, SqT.mono s h, l, r⟩
    | _ => cases e
  · cases d with
    | tup _ => exact t.elim
    | frt _ => exact t.elim
    | _ => cases e
theorem Reps.atI {G : Gi} {H : Hp} {vs : List V} {ds : List D} (r : Reps G H vs ds) {i : Int} {d : D} (h : atI ds i = some d) : ∃ v, atI vs i = some v ∧ Rep G H v d := by
  unfold L2.atI at h ⊢
  rw [r.len]
  cases e : ixN ds.length i with
  | none => rw [e] at h; cases h
  | some j =>
    rw [e] at h
    obtain ⟨v, h1, h2⟩ := r.get (show ds[j]? = some d from h)
    exact ⟨v, h1, h2⟩
def dIx (d e : D) : RR := match e with
  | .int i => match listOf d with
    | some xs => match atI xs i with
      | some x => .sh x
      | none => .no
    | none => match tupOf d with
      | some xs => match atI xs i with
        | some x => .sh x
        | none => .no
      | none => match d with
        | .str z => if z.length ≤ sizeLine then match atI z.cps.toList i with
            | some c => .sh (.str ⟨#[c]⟩)
            | none => .no
          else .no
        | _ => .no
  | _ => .no
theorem s_ix {G : Gi} : S2 G (rIx G.K) dIx := by
  intro Hf H x y d e s p q
  unfold dIx
  split
  · rename_i i
    split
    · rename_i xs h
      obtain ⟨a, vs, rfl, h1, r⟩ := p.list s h
      split
      · rename_i w hw
        obtain ⟨v, h2, h3⟩ := r.atI hw
        exact fun Q k => .inl ⟨a, vs, i, v, rfl, q.int, h1, h2, k v h3⟩
      · trivial
    · split
      · rename_i xs h
        obtain ⟨a, vs, rfl, h1, r⟩ := p.tupl s h
        split
        · rename_i w hw
          obtain ⟨v, h2, h3⟩ := r.atI hw
          exact fun Q k => .inr (.inl ⟨a, vs, i, v, rfl, q.int, h1, h2, k v h3⟩)
        · trivial
      · split
        · rename_i z _ _
          split
          · rename_i hz
            split
            · rename_i c hc
              exact fun Q k => .inr (.inr ⟨z, i, c, p.str, q.int, hz, hc, k _ .str⟩)
            · trivial
          · trivial
        · trivial
  · trivial
/-- + -/
def dAdd (d e : D) : RR := match d, e with
  | .int i, .int j => .sh (.int (i + j))
  | .str a, .str b => if a.length + b.length ≤ sizeLine then .sh (.str (a ++ b)) else .no
  | .lst xs, .lst ys => if xs.length + ys.length ≤ sizeLine then .ow (.lst (xs ++ ys)) else .no
  | .tup xs, .tup ys => if xs.length + ys.length ≤ sizeLine then match xs, ys with
      | [], _ => .sh (.tup ys)
      | _, [] => .sh (.tup xs)
      | _, _ => .tp (xs ++ ys)
    else .no
  | _, _ => .no
def rAddA (K : PySem.W.Frag) : R2 := fun x y H Q => (∃ i j, x = .int i ∧ y = .int j ∧ Q (.int (i + j)) H) ∨ (∃ i j, x = .str i ∧ y = .str j ∧ i.length + j.length ≤ sizeLine ∧ Q (.str (i ++ j)) H) ∨ rCat x y H Q ∨ rCatA K x y H Q
theorem op_addA {X : Cx} : OpR X (binaryOp .Add) (rAddA X.K) := op_add.or (op_add_str.or (op_cat.or op_catA))
theorem PRep.lstS {G : Gi} {Hf H : Hp} (s : Same Hf H) {v : V} {ds : List D} (r : PRep G Hf H v (.lst ds)) : ∃ a xs, v = .ref a ∧ H a = some (.lst xs) ∧ Reps G Hf xs ds := by
  rcases r with r | ⟨a, o, rfl, ha, t⟩
  · cases r with
    | lst h l r => exact ⟨_, _, rfl, s _ _ h, l, r⟩
  · obtain ⟨vs, rfl, rr⟩ := t; exact ⟨_, _, rfl, ha, rr⟩
theorem s_add {G : Gi} : S2 G (rAddA G.K) dAdd := by
  intro Hf H x y d e s p q
  unfold dAdd
  split
  · exact fun Q k => .inl ⟨_, _, p.int, q.int, k _ .int⟩
  · split
    · rename_i hz
      exact fun Q k => .inr (.inl ⟨_, _, p.str, q.str, hz, k _ .str⟩)
    · trivial
  · rename_i xs ys
    split
    · rename_i hz
      obtain ⟨a, us, rfl, h1, r1⟩ := p.lstS s
      obtain ⟨b, ws, rfl, h2, r2⟩ := q.lstS s
      exact fun Q k => .inr (.inr (.inl ⟨a, b, us, ws, rfl, rfl, h1, h2, by rw [r1.len, r2.len]; exact hz, fun l hl => k l _ hl ⟨_, rfl, r1.append r2⟩⟩))
    · trivial
  · rename_i xs ys
    split
    · rename_i hz
      obtain ⟨a, us, rfl, h1, r1⟩ := p.tupl s (ds := xs) rfl
      obtain ⟨b, ws, rfl, h2, r2⟩ := q.tupl s (ds := ys) rfl
      have pa : Rep G Hf (.ref a) (.tup xs) := by
        rcases p with p | ⟨_, _, _, _, t⟩
        · exact p
        · exact t.elim
      have qa : Rep G Hf (.ref b) (.tup ys) := by
        rcases q with q | ⟨_, _, _, _, t⟩
        · exact q
        · exact t.elim
      have l1 := r1.len
      have l2 := r2.len
      split
      · refine fun Q k => .inr (.inr (.inr ⟨a, b, us, ws, rfl, rfl, h1, h2, by rw [l1, l2]; exact hz, fun _ => k _ qa, fun h => absurd (List.eq_nil_of_length_eq_zero (by simpa using l1)) h, fun h => absurd (List.eq_nil_of_length_eq_zero (by simpa using l1)) h⟩))
      · rename_i hx
        have hu : us ≠ [] := fun z => by
          subst z
          exact hx (List.eq_nil_of_length_eq_zero (by simpa using l1.symm))
        refine fun Q k => .inr (.inr (.inr ⟨a, b, us, ws, rfl, rfl, h1, h2, by rw [l1, l2]; exact hz, fun h => absurd h hu, fun _ _ => k _ pa, fun _ h => absurd (List.eq_nil_of_length_eq_zero (by simpa using l2)) h⟩))
      · rename_i hx hy
        have hu : us ≠ [] := fun z => by
          subst z
          exact hx (List.eq_nil_of_length_eq_zero (by simpa using l1.symm))
        have hw : ws ≠ [] := fun z => by
          subst z
          exact hy (List.eq_nil_of_length_eq_zero (by simpa using l2.symm))
        exact fun Q k => .inr (.inr (.inr ⟨a, b, us, ws, rfl, rfl, h1, h2, by rw [l1, l2]; exact hz, fun h => absurd h hu, fun _ h => absurd h hw, fun _ _ l hl => k l _ hl (r1.append r2)⟩))
    · trivial
  · trivial

/-! ### calls -/
def dLen : D → RR
  | .str z => if z.length ≤ sizeLine then .sh (.int z.length) else .no
  | .lst xs => .sh (.int xs.length)
  | .frl xs => .sh (.int xs.length)
  | .tup xs => .sh (.int xs.length)
  | .frt xs => .sh (.int xs.length)
  | _ => .no
def rLenA (K : PySem.W.Frag) : List V → Hp → VK → Prop := fun xs H Q => (∃ p ys, xs = [.ref p] ∧ (SqL K H p ys ∨ SqT K H p ys) ∧ Q (.int ys.length) H) ∨ ∃ z, xs = [.str z] ∧ z.length ≤ sizeLine ∧ Q (.int z.length) H
theorem call_lenA {X : Cx} : CallR X (.builtin "len") (rLenA X.K) := call_len_seq.or call_len_str
theorem PReps.inv1 {G : Gi} {Hf H : Hp} {vs : List V} {d : D} (p : PReps G Hf H vs [d]) : ∃ v, vs = [v] ∧ PRep G Hf H v d := by
  cases p with
  | cons h t => cases t; exact ⟨_, rfl, h⟩
theorem PReps.inv2 {G : Gi} {Hf H : Hp} {vs : List V} {d e : D} (p : PReps G Hf H vs [d, e]) : ∃ v w, vs = [v, w] ∧ PRep G Hf H v d ∧ PRep G Hf H w e := by
  cases p with
  | cons h t =>
    cases t with
    | cons h2 t2 => cases t2; exact ⟨_, _, rfl, h, h2⟩
theorem n_len {G : Gi} : SN G (rLenA G.K) (f1 dLen) := by
  intro Hf H vs ds s p
  match ds, p with
  | [d], p =>
    obtain ⟨v, rfl, h⟩ := p.inv1
    show RRok G Hf H _ (dLen d)
    cases d with
    | str z =>
      show RRok G Hf H _ (if z.length ≤ sizeLine then .sh (.int z.length) else .no)
      split
      · rename_i hz; exact fun Q k => .inr ⟨z, by rw [h.str], hz, k _ .int⟩
      · trivial
    | lst xs => obtain ⟨a, us, rfl, h1, r⟩ := h.list s (ds := xs) rfl; exact fun Q k => .inl ⟨a, us, rfl, .inl h1, k _ (by rw [r.len]; exact .int)⟩
    | frl xs => obtain ⟨a, us, rfl, h1, r⟩ := h.list s (ds := xs) rfl; exact fun Q k => .inl ⟨a, us, rfl, .inl h1, k _ (by rw [r.len]; exact .int)⟩
    | tup xs => obtain ⟨a, us, rfl, h1, r⟩ := h.tupl s (ds := xs) rfl; exact fun Q k => .inl ⟨a, us, rfl, .inr h1, k _ (by rw [r.len]; exact .int)⟩
    | frt xs => obtain ⟨a, us, rfl, h1, r⟩ := h.tupl s (ds := xs) rfl; exact fun Q k => .inl ⟨a, us, rfl, .inr h1, k _ (by rw [r.len]; exact .int)⟩
    | _ => trivial
  | [], p => trivial
  | _ :: _ :: _, p => trivial
def dInt : D → RR
  | .int i => .sh (.int i)
  | .bl b => .sh (.int (if b then 1 else 0))
  | _ => .no
theorem n_int {G : Gi} : SN G (fun xs H Q => (∃ i, xs = [.int i] ∧ Q (.int i) H) ∨ ∃ k, xs = [.bl k] ∧ Q (.int (if k then 1 else 0)) H) (f1 dInt) := by
  intro Hf H vs ds s p
  match ds, p with
  | [d], p =>
    obtain ⟨v, rfl, h⟩ := p.inv1
    show RRok G Hf H _ (dInt d)
    cases d with
    | int i => exact fun Q k => .inl ⟨i, by rw [h.int], k _ .int⟩
    | bl b => exact fun Q k => .inr ⟨b, by rw [h.bl], k _ .int⟩
    | _ => trivial
  | [], p => trivial
  | _ :: _ :: _, p => trivial
def dMax : D → D → RR := fI0 fun i j => .int (if j > i then j else i)
def dMin : D → D → RR := fI0 fun i j => .int (if j < i then j else i)
theorem n_I2 {G : Gi} {g : Int → Int → Int} : SN G (fun xs H Q => ∃ i j, xs = [.int i, .int j] ∧ Q (.int (g i j)) H) (f2 (fI0 fun i j => .int (g i j))) := by
  intro Hf H vs ds s p
  match ds, p with
  | [d, e], p =>
    obtain ⟨v, w, rfl, h, h2⟩ := p.inv2
    show RRok G Hf H _ (fI0 _ d e)
    unfold fI0
    split
    · exact fun Q k => ⟨_, _, by rw [h.int, h2.int], k _ .int⟩
    · trivial
  | [], p => trivial
  | [_], p => trivial
  | _ :: _ :: _ :: _, p => trivial
def tyOf : D → Option String
  | .non => some "NoneType"
  | .bl _ => some "bool"
  | .int _ => some "int"
  | .str _ => some "str"
  | .lst _ => some "list"
  | .tup _ => some "tuple"
  | .dic _ => some "dict"
  | _ => none
/-- isinstance(x, T), T built in -/
def dIsi (d e : D) : RR := match tyOf d, e with
  | some a, .ty b => match kitB a b with
    | some r => .sh (.bl r)
    | none => .no
  | _, _ => .no
theorem PRep.ty {G : Gi} {Hf H : Hp} {v : V} {T : String} (h : PRep G Hf H v (.ty T)) : v = .ty T := by
  rcases h with h | ⟨p, o, _, _, t⟩
  · cases h; rfl
  · exact t.elim
theorem PRep.tyx {G : Gi} {Hf H : Hp} (s : Same Hf H) {v : V} {d : D} {T : String} (h : PRep G Hf H v d) (e : tyOf d = some T) : TyX G.K H v (.type T) := by
  rcases h with h | ⟨p, o, rfl, hp, t⟩
  · cases h with
    | non => cases e; exact .base .non
    | bl => cases e; exact .base (.bl _)
    | int => cases e; exact .base (.int _)
    | str => cases e; exact .base (.str _)
    | lst h => cases e; exact .base (.lst (s _ _ h))
    | tup h => cases e; exact .base (.tup (s _ _ h))
    | dic h =>
      cases e
      rcases h with h | ⟨o, h⟩
      · exact .base (.dK (s _ _ h))
      · exact .fDict (s _ _ h)
    | _ => cases e
  · cases d with
    | lst ds => obtain ⟨vs, rfl, _⟩ := t; cases e; exact .base (.lst hp)
    | dic ds => obtain ⟨vs, rfl, _⟩ := t; cases e; exact .base (.dK hp)
    | _ => first | exact t.elim | cases e
theorem n_isi {G : Gi} : SN G (rIsi G.K) (f2 dIsi) := by
  intro Hf H vs ds s p
  match ds, p with
  | [d, e], p =>
    obtain ⟨v, w, rfl, h, h2⟩ := p.inv2
    show RRok G Hf H _ (dIsi d e)
    unfold dIsi
    split
    · rename_i a b h1
      split
      · rename_i r hr
        cases h2.ty
        exact fun Q k => ⟨v, .ty b, .type a, .type b, r, rfl, .ty b, h.tyx s h1, kit_ty hr, k _ .bl⟩
      · trivial
    · trivial
  | [], p => trivial
  | [_], p => trivial
  | _ :: _ :: _ :: _, p => trivial
/-- list(x) -/
def dList (d : D) : RR := match listOf d with
  | some xs => .ow (.lst xs)
  | none => match tupOf d with
    | some xs => .ow (.lst xs)
    | none => .no
theorem n_list {G : Gi} : SN G (fun xs H Q => ∃ p ys, xs = [.ref p] ∧ (SqL G.K H p ys ∨ SqT G.K H p ys) ∧ ∀ l, H l = none → Q (.ref l) (upd H l (.lst ys))) (f1 dList) := by
  intro Hf H vs ds s p
  match ds, p with
  | [d], p =>
    obtain ⟨v, rfl, h⟩ := p.inv1
    show RRok G Hf H _ (dList d)
    unfold dList
    split
    · rename_i xs e
      obtain ⟨a, us, rfl, h1, r⟩ := h.list s e
      exact fun Q k => ⟨a, us, rfl, .inl h1, fun l hl => k l _ hl ⟨us, rfl, r⟩⟩
    · split
      · rename_i xs e
        obtain ⟨a, us, rfl, h1, r⟩ := h.tupl s e
        exact fun Q k => ⟨a, us, rfl, .inr h1, fun l hl => k l _ hl ⟨us, rfl, r⟩⟩
      · trivial
  | [], p => trivial
  | _ :: _ :: _, p => trivial
def dTuple (d : D) : RR := match listOf d with
  | some xs => .tp xs
  | none => match d with
    | .tup xs => .sh (.tup xs)
    | .frt xs => .sh (.frt xs)
    | _ => .no
theorem n_tuple {G : Gi} : SN G (fun xs H Q => ∃ p ys, xs = [.ref p] ∧ ((SqL G.K H p ys ∧ ∀ l, H l = none → Q (.ref l) (upd H l (.tup ys))) ∨ (SqT G.K H p ys ∧ Q (.ref p) H))) (f1 dTuple) := by
  intro Hf H vs ds s p
  match ds, p with
  | [d], p =>
    obtain ⟨v, rfl, h⟩ := p.inv1
    show RRok G Hf H _ (dTuple d)
    unfold dTuple
    split
    · rename_i xs e
      obtain ⟨a, us, rfl, h1, r⟩ := h.list s e
      exact fun Q k => ⟨a, us, rfl, .inl ⟨h1, fun l hl => k l _ hl r⟩⟩
    · split
      · rename_i xs _
        obtain ⟨a, us, rfl, h1, r⟩ := h.tupl s (ds := xs) rfl
        rcases h with h | ⟨_, _, _, _, t⟩
        · exact fun Q k => ⟨a, us, rfl, .inr ⟨h1, k _ h⟩⟩
        · exact t.elim
      · rename_i xs _
        obtain ⟨a, us, rfl, h1, r⟩ := h.tupl s (ds := xs) rfl
        rcases h with h | ⟨_, _, _, _, t⟩
        · exact fun Q k => ⟨a, us, rfl, .inr ⟨h1, k _ h⟩⟩
        · exact t.elim
      · trivial
  | [], p => trivial
  | _ :: _ :: _, p => trivial

section
variable {P : Pl} {N : List Str} {sc : Scope} {mg : Str → Option Value}
theorem se_add {a b : Expr} {pos : Pos} {ma mb : Sm} (hK : ∀ X, P.M X → X.K = P.G.K) (ha : SE P a ma) (hb : SE P b mb) : SE P (.BinOp a .Add b pos) (m2 dAdd ma mb) :=
  se_op (fun X hX => (hK X hX) ▸ op_addA) s_add ha hb
theorem se_eq (fr : Fra P N sc mg) {a b : Expr} {pos : Pos} {ma mb : Sm} (ha : SE P a ma) (hb : SE P b mb) (hm : behindInMarks .Eq b = false) : SE P (.Compare a [.Eq] [b] pos) (m2 dEq ma mb) :=
  se_cmpR (fun X hX => (fr.K X hX) ▸ op_eqD (by have := fr.hu X hX; omega)) s_eq ha hb hm
theorem se_ne (fr : Fra P N sc mg) {a b : Expr} {pos : Pos} {ma mb : Sm} (ha : SE P a ma) (hb : SE P b mb) (hm : behindInMarks .NotEq b = false) : SE P (.Compare a [.NotEq] [b] pos) (m2 dNe ma mb) :=
  se_cmpR (fun X hX => (fr.K X hX) ▸ op_neD (by have := fr.hu X hX; omega)) s_ne ha hb hm
theorem se_inL (fr : Fra P N sc mg) {a b : Expr} {pos : Pos} {ma mb : Sm} (ha : SE P a ma) (hb : SE P b mb) (hm : behindInMarks .In b = false) : SE P (.Compare a [.In] [b] pos) (m2 (dInL false) ma mb) :=
  se_cmpR (fun X hX => (fr.K X hX) ▸ op_inD (fr.hu X hX)) s_in ha hb hm
theorem se_ninL (fr : Fra P N sc mg) {a b : Expr} {pos : Pos} {ma mb : Sm} (ha : SE P a ma) (hb : SE P b mb) (hm : behindInMarks .NotIn b = false) : SE P (.Compare a [.NotIn] [b] pos) (m2 (dInL true) ma mb) :=
  se_cmpR (fun X hX => (fr.K X hX) ▸ op_notInD (fr.hu X hX)) s_nin ha hb hm
theorem se_lt {a b : Expr} {pos : Pos} {ma mb : Sm} (ha : SE P a ma) (hb : SE P b mb) (hm : behindInMarks .Lt b = false) : SE P (.Compare a [.Lt] [b] pos) (m2 dLt ma mb) := se_cmpR (fun _ _ => op_ltA) s_C ha hb hm
theorem se_le {a b : Expr} {pos : Pos} {ma mb : Sm} (ha : SE P a ma) (hb : SE P b mb) (hm : behindInMarks .LtE b = false) : SE P (.Compare a [.LtE] [b] pos) (m2 dLe ma mb) := se_cmpR (fun _ _ => op_leA) s_C ha hb hm
theorem se_gt {a b : Expr} {pos : Pos} {ma mb : Sm} (ha : SE P a ma) (hb : SE P b mb) (hm : behindInMarks .Gt b = false) : SE P (.Compare a [.Gt] [b] pos) (m2 dGt ma mb) := se_cmpR (fun _ _ => op_gtA) s_C ha hb hm
theorem se_ge {a b : Expr} {pos : Pos} {ma mb : Sm} (ha : SE P a ma) (hb : SE P b mb) (hm : behindInMarks .GtE b = false) : SE P (.Compare a [.GtE] [b] pos) (m2 dGe ma mb) := se_cmpR (fun _ _ => op_geA) s_C ha hb hm
theorem se_ix (fr : Fra P N sc mg) {a b : Expr} {pos : Pos} {ma mb : Sm} (ha : SE P a ma) (hb : SE P b mb) (hs : PlainIx b) : SE P (.Subscript a b pos) (m2 dIx ma mb) :=
  let ⟨_, p, e⟩ := ha; let ⟨_, q, g⟩ := hb; ⟨_, fun X hX => (fr.K X hX) ▸ pe_ix ix_seq (p X hX) (q X hX) hs, ev_2 (by rw [show P.G.K = P.G.K from rfl]; exact s_ix) e g⟩
theorem se_callB {x : Str} {id : String} {r : List V → Hp → VK → Prop} {f : List D → RR} {e : Expr} {es : List Expr} {p pos : Pos} {l : Lm} (fr : Fra P N sc mg) (hc : ∀ X, P.M X → CallR X (.builtin id) r) (hf : SN P.G r f) (hg : sc.names.lookup x = some .globalImplicit) (hm : mg x = none)
    (hv : bootBuiltins x = some (.builtin id)) (hl : SL P (e :: es) l) (hs : (e :: es).all notStar = true) (hn : x ≠ "__name__" := by decide) (hd : (x == ("__debug__" : Str)) = false := by decide) : SE P (.Call (.Name x p) (e :: es) [] pos) (mN f l) := by
  obtain ⟨ts, q, g⟩ := hl
  have hs2 := hs
  rw [List.all_cons, Bool.and_eq_true] at hs2
  exact ⟨_, fun X hX => pe_callB (hc X hX) (fr.gl hg X hX) (fr.bm hm X hX) hv (pa_of (q X hX) hs) hn hd (star_ok hs2.1) (star_any hs2.2), ev_n hf g⟩
theorem se_callTy {x : Str} {T : String} {r : List V → Hp → VK → Prop} {f : List D → RR} {e : Expr} {es : List Expr} {p pos : Pos} {l : Lm} (fr : Fra P N sc mg) (hc : ∀ X, P.M X → CallR X (.type T) r) (hf : SN P.G r f) (hg : sc.names.lookup x = some .globalImplicit) (hm : mg x = none)
    (hv : bootBuiltins x = some (.type T)) (hl : SL P (e :: es) l) (hs : (e :: es).all notStar = true) (hn : x ≠ "__name__" := by decide) (hd : (x == ("__debug__" : Str)) = false := by decide) : SE P (.Call (.Name x p) (e :: es) [] pos) (mN f l) := by
  obtain ⟨ts, q, g⟩ := hl
  have hs2 := hs
  rw [List.all_cons, Bool.and_eq_true] at hs2
  exact ⟨_, fun X hX => pe_callTy (hc X hX) (fr.gl hg X hX) (fr.bm hm X hX) hv (pa_of (q X hX) hs) hn hd (star_ok hs2.1) (star_any hs2.2), ev_n hf g⟩
end
end VM

/-! VMN: what changes a variable's thing; comprehensions as expressions and statements -/
namespace VM
open PySem PySem.Spec PyProof.Rows L2

section
variable {P : Pl} {n : Nat} {IO : En} {H0 Hf H : Hp} {σ tv : L2.St} {env te : Env} {N : List Str} {sc : Scope} {mg : Str → Option Value}
/-- the thing that slot i owns is another thing now -/
theorem St0.slot_set {i : Nat} {s : Slot} {d' : D} {p : Addr} {o' : HO} (S : St0 P n IO H0 Hf σ tv env te H) (hs : env[i]? = some (some s)) (hm : s.m.mut = true) (hp : σ[i]? = some (some (V.ref p))) (t : TopO P.G Hf o' d') :
    St0 P n IO H0 Hf σ tv (env.set i (some ⟨s.m, d'⟩)) te (upd H p o') := by
  have le := S.le
  have ls := S.ls
  have hi : i < env.length := lt_of_get hs
  have h := S.sr.change (i := i) (s := s) (by rw [List.getElem?_append_left hi]; exact hs) hm (by rw [List.getElem?_append_left (by omega)]; exact hp) t
  refine ⟨by simpa using le, ls, fun j s' hs' k => ?_, ?_⟩
  · by_cases hj : i = j
    · subst hj
      rw [List.getElem?_set_self hi] at hs'
      cases hs'
      exact S.na i s hs k
    · rw [List.getElem?_set_ne hj] at hs'
      exact S.na j s' hs' k
  · rw [← List.set_append_left _ _ hi]
    exact h
/-- what slot i owns -/
theorem St0.slot_own {i : Nat} {s : Slot} (S : St0 P n IO H0 Hf σ tv env te H) (hs : env[i]? = some (some s)) (hm : s.m.mut = true) : ∃ p o, σ[i]? = some (some (V.ref p)) ∧ H p = some o ∧ TopO P.G Hf o s.d := by
  have le := S.le
  have ls := S.ls
  have hi : i < env.length := lt_of_get hs
  obtain ⟨m, d⟩ := s
  cases m with
  | sh => cases hm
  | al j => cases hm
  | ow =>
    obtain ⟨p, o, e1, _, _, e4, t⟩ := S.sr.own i d (by rw [List.getElem?_append_left hi]; exact hs)
    rw [List.getElem?_append_left (by omega)] at e1
    exact ⟨p, o, e1, e4, t⟩
  | io =>
    obtain ⟨p, o, e1, _, _, e4, t⟩ := S.sr.inout i d (by rw [List.getElem?_append_left hi]; exact hs)
    rw [List.getElem?_append_left (by omega)] at e1
    exact ⟨p, o, e1, e4, t⟩

/-! ### methods of a variable -/
def kindOf (T : String) (e : Env) (i : Nat) : Bool := match e[i]? with
  | some (some s) => s.m.mut && (match s.d with
    | .lst _ => T == "list"
    | .dic _ => T == "dict"
    | .dit _ => T == "dict"
    | _ => false)
  | _ => false
def mMeth (T : String) (i : Nat) (f : D → List D → Option (D × D)) (l : Lm) : Sm := fun e => if kindOf T e i then match l e with
    | .ok ss e1 => match shs ss with
      | some ds => match e1[i]? with
        | some (some s) => if s.m.mut then match f s.d ds with
            | some (d', r) => .ok ⟨.sh, r⟩ (e1.set i (some ⟨s.m, d'⟩))
            | none => .no
          else .no
        | _ => .no
      | none => .no
    | .ex c d e1 => .ex c d e1
    | .no => .no
  else .no
def MutF (G : Gi) (r : V → List V → Hp → VK → Prop) (f : D → List D → Option (D × D)) : Prop := ∀ Hf H p o d d' x vs ds, Same Hf H → H p = some o → TopO G Hf o d → Reps G Hf vs ds → f d ds = some (d', x) → ∃ o' v, TopO G Hf o' d' ∧ Rep G Hf v x ∧ ∀ Q : VK, Q v (upd H p o') → r (.ref p) vs H Q
theorem ev_meth {T : String} {r : V → List V → Hp → VK → Prop} {f : D → List D → Option (D × D)} {i : Nat} {t : TA} {l : Lm} (hf : MutF P.G r f) (hl : EvL P t l) : Ev P (tBM P.G.K T r (tVar i) t) (mMeth T i f l) := by
  intro n IO H0 Hf σ tv env te H S
  have h1 := hl n IO H0 Hf σ tv env te H S
  unfold mMeth
  by_cases hk : kindOf T env i = true
  · rw [if_pos hk]
    have start : ∃ p, σ[i]? = some (some (V.ref p)) ∧ tyV P.G.K T (V.ref p) H := by
      unfold kindOf at hk
      cases hs : env[i]? with
      | none => rw [hs] at hk; cases hk
      | some o =>
        cases o with
        | none => rw [hs] at hk; cases hk
        | some s =>
          rw [hs] at hk
          dsimp only at hk
          rw [Bool.and_eq_true] at hk
          obtain ⟨p, o, e1, e2, t⟩ := S.slot_own hs hk.1
          refine ⟨p, e1, ?_⟩
          have h2 := hk.2
          cases hd : s.d with
          | lst ds =>
            rw [hd] at h2 t
            obtain ⟨vs, rfl, _⟩ := t
            exact .inl ⟨by simpa using h2, vs, .inl (.inl e2)⟩
          | dic ds =>
            rw [hd] at h2 t
            obtain ⟨vs, rfl, _⟩ := t
            exact .inr (.inr (.inl ⟨by simpa using h2, .inl ⟨vs, e2⟩⟩))
          | dit ds =>
            rw [hd] at h2 t
            obtain ⟨vs, rfl, _⟩ := t
            exact .inr (.inr (.inl ⟨by simpa using h2, .inr ⟨vs, e2⟩⟩))
          | _ => rw [hd] at h2; cases h2
    obtain ⟨p, hp, ty⟩ := start
    cases el : l env with
    | no => trivial
    | ex c d e1 => rw [el] at h1; exact fun w Q => ⟨_, hp, ty, h1 w _⟩
    | ok ss e1 =>
      rw [el] at h1
      dsimp only
      cases es : shs ss with
      | none => trivial
      | some ds =>
        dsimp only
        cases ei : e1[i]? with
        | none => trivial
        | some o =>
          cases o with
          | none => trivial
          | some s =>
            dsimp only
            by_cases hm : s.m.mut = true
            · rw [if_pos hm]
              cases ef : f s.d ds with
              | none => trivial
              | some q =>
                obtain ⟨d', x⟩ := q
                refine fun Q k => ⟨_, hp, ty, h1 _ fun vs Hf1 H1 s1 l1 S1 => ?_⟩
                have r := S1.all_sh S.l2 l1 es
                have S2 : St0 P n IO H0 Hf1 σ tv e1 te H1 := St0.pops ss.length (by simp [l1]) (by simp) S1
                obtain ⟨p', o, e1', e2, t⟩ := S2.slot_own ei hm
                rw [hp] at e1'
                cases e1'
                obtain ⟨o', v, t', rv, g⟩ := hf Hf1 H1 p o s.d d' x vs ds S2.sr.sub e2 t r ef
                exact g Q (k v Hf1 _ s1 ((S2.slot_set ei hm hp t').push_sh rv))
            · rw [if_neg hm]; trivial
  · rw [if_neg hk]; trivial
theorem se_meth {x : Str} {name : Str} {i : Nat} {T id : String} {r : V → List V → Hp → VK → Prop} {f : D → List D → Option (D × D)} {e : Expr} {es : List Expr} {p apos cpos : Pos} {l : Lm} (fr : Fra P N sc mg) (pa : PlainAttrs T) (slot : PySem.Slot T name id) (hty : typeOf (.builtin id) = pure (.type "method_descriptor"))
    (hm : ∀ X, P.M X → MtM X id r) (hf : MutF P.G r f) (hN : N[i]? = some x) (hv : Vis sc x) (hl : SL P (e :: es) l) (hs : (e :: es).all notStar = true) (hline : (apos.endLine == cpos.line) = true) (hbase : ∀ env, attributeBase (.Name x p) name env (eval (.Name x p) env) = eval (.Name x p) env)
    (hfew : ∀ env, ((backTo cpos (starEach (e :: es) env)).all (fun x => !x.1) && (backToKw cpos (keywordEach [] env)).all (fun x => x.1.isSome)
      && decide ((e :: es).length + ([] : List Keyword).length + (if ([] : List Keyword).isEmpty then 0 else 1) < 30)) = true)
    (hd : (x == ("__debug__" : Str)) = false := by decide) (hc : (x == ("__classdict__" : Str)) = false := by decide) : SE P (.Call (.Attribute (.Name x p) name apos) (e :: es) [] cpos) (mMeth T i f l) := by
  obtain ⟨ts, q, g⟩ := hl
  have hs2 := hs
  rw [List.all_cons, Bool.and_eq_true] at hs2
  exact ⟨_, fun X hX => (fr.K X hX) ▸ pe_bm pa slot hty (hm X hX) (pe_var (by rw [fr.hN X hX]; exact hN) (by rw [fr.hsc X hX]; exact hv) hd hc) (pa_of (q X hX) hs) (hbase _) (hfew _) hline (star_ok hs2.1) (star_any hs2.2), ev_meth hf g⟩
theorem se_meth0 {x : Str} {name : Str} {i : Nat} {T id : String} {r : V → List V → Hp → VK → Prop} {f : D → List D → Option (D × D)} {p apos cpos : Pos} (fr : Fra P N sc mg) (pa : PlainAttrs T) (slot : PySem.Slot T name id) (hty : typeOf (.builtin id) = pure (.type "method_descriptor"))
    (hm : ∀ X, P.M X → MtM X id r) (hf : MutF P.G r f) (hN : N[i]? = some x) (hv : Vis sc x) (hline : (apos.endLine == cpos.line) = true) (hbase : ∀ env, attributeBase (.Name x p) name env (eval (.Name x p) env) = eval (.Name x p) env)
    (hd : (x == ("__debug__" : Str)) = false := by decide) (hc : (x == ("__classdict__" : Str)) = false := by decide) : SE P (.Call (.Attribute (.Name x p) name apos) [] [] cpos) (mMeth T i f lNil) :=
  ⟨_, fun X hX => (fr.K X hX) ▸ pe_bm0 pa slot hty (hm X hX) (pe_var (by rw [fr.hN X hX]; exact hN) (by rw [fr.hsc X hX]; exact hv) hd hc) (hbase _) hline, ev_meth (t := tNil) hf evl_nil⟩
def fAppend : D → List D → Option (D × D)
  | .lst xs, [d] => if xs.length < sizeLine then some (.lst (xs ++ [d]), .non) else none
  | _, _ => none
theorem f_append {G : Gi} : MutF G rAppend fAppend := by
  intro Hf H p o d d' x vs ds s hp t r e
  unfold fAppend at e
  split at e
  · rename_i xs y
    split at e
    · rename_i hz
      cases e
      obtain ⟨us, rfl, ru⟩ := t
      match vs, r with
      | [v], r => exact ⟨_, .non, ⟨us ++ [v], rfl, ru.append r⟩, .non, fun Q q => ⟨p, us, v, rfl, rfl, hp, by rw [ru.len]; exact hz, q⟩⟩
      | [], r => exact absurd r.len (by simp)
      | _ :: _ :: _, r => exact absurd r.len (by simp)
    · cases e
  · cases e
def fPop : D → List D → Option (D × D)
  | .lst xs, [] => match xs[xs.length - 1]? with
    | some d => some (.lst xs.dropLast, d)
    | none => none
  | _, _ => none
theorem Reps.dropLast {G : Gi} {H : Hp} {vs : List V} {ds : List D} (r : Reps G H vs ds) : Reps G H vs.dropLast ds.dropLast := by
  rw [List.dropLast_eq_take, List.dropLast_eq_take, r.len]
  exact r.take _
theorem f_pop {G : Gi} : MutF G rPop fPop := by
  intro Hf H p o d d' x vs ds s hp t r e
  unfold fPop at e
  split at e
  · rename_i xs
    split at e
    · rename_i y hy
      cases e
      obtain ⟨us, rfl, ru⟩ := t
      obtain ⟨v, hv, rv⟩ := ru.get hy
      match vs, r with
      | [], r => exact ⟨_, v, ⟨us.dropLast, rfl, ru.dropLast⟩, rv, fun Q q => ⟨p, us, v, rfl, rfl, hp, by rw [ru.len]; exact hv, q⟩⟩
      | _ :: _, r => exact absurd r.len (by simp)
    · cases e
  · cases e
def fClear : D → List D → Option (D × D)
  | .lst _, [] => some (.lst [], .non)
  | _, _ => none
theorem f_clear {G : Gi} : MutF G rClear fClear := by
  intro Hf H p o d d' x vs ds s hp t r e
  unfold fClear at e
  split at e
  · cases e
    obtain ⟨us, rfl, ru⟩ := t
    match vs, r with
    | [], r => exact ⟨_, .non, ⟨[], rfl, .nil⟩, .non, fun Q q => ⟨p, us, rfl, rfl, hp, q⟩⟩
    | _ :: _, r => exact absurd r.len (by simp)
  · cases e
def fReverse : D → List D → Option (D × D)
  | .lst xs, [] => some (.lst xs.reverse, .non)
  | _, _ => none
theorem Reps.reverse {G : Gi} {H : Hp} {vs : List V} {ds : List D} (r : Reps G H vs ds) : Reps G H vs.reverse ds.reverse := by
  refine ⟨by simp [r.len], fun i v d h1 h2 => ?_⟩
  have hi : i < vs.length := by have := lt_of_get h1; simpa using this
  rw [List.getElem?_reverse hi] at h1
  rw [List.getElem?_reverse (by rw [← r.len]; exact hi), ← r.len] at h2
  exact r.at' _ v d h1 h2
theorem f_reverse {G : Gi} : MutF G rReverse fReverse := by
  intro Hf H p o d d' x vs ds s hp t r e
  unfold fReverse at e
  split at e
  · cases e
    obtain ⟨us, rfl, ru⟩ := t
    match vs, r with
    | [], r => exact ⟨_, .non, ⟨us.reverse, rfl, ru.reverse⟩, .non, fun Q q => ⟨p, us, rfl, rfl, hp, q⟩⟩
    | _ :: _, r => exact absurd r.len (by simp)
  · cases e

/-! ### x += e, ints -/
def xAdd (i : Nat) (m : Sm) : Sx := ⟨fun e => match e[i]? with
  | some (some ⟨.sh, .int a⟩) => match m e with
    | .ok ⟨.sh, .int b⟩ e1 => if free e1 i then .nx (e1.set i (sh (.int (a + b)))) else .no
    | .ex c d e1 => .ex c d e1
    | _ => .no
  | _ => .no, [i]⟩
theorem ss_add (fr : Fra P N sc mg) {i : Nat} {x : Str} {e : Expr} {pos pos' : Pos} {m : Sm} (h : SE P e m) (hN : N[i]? = some x) (hx : Loc sc x) (hl : sc.names.lookup x = some .local ∨ ∀ X, P.M X → X.fn x = true) : SS P (.AugAssign (.Name x pos') .Add e pos) (xAdd i m) := by
  obtain ⟨t, p, f⟩ := h
  refine ⟨_, fun X hX => ps_aug (by rw [fr.hN X hX]; exact fr.nd) (by rw [fr.hN X hX]; exact hN) (by rw [fr.hsc X hX]; exact hx) (p X hX) ip_add (hl.elim (fun h => .inr (by rw [fr.hsc X hX]; exact h)) (fun h => .inl (h X hX))), fun e s e' h => ?_, fun n IO H0 Hf σ tv env te H S nt => ?_⟩
  · unfold xAdd at h
    dsimp only at h
    split at h
    · split at h
      · split at h <;> cases h
      · cases h
      · cases h
    · cases h
  have h1 := f n IO H0 Hf σ tv env te H S
  unfold xAdd
  dsimp only
  split
  · rename_i a hs
    have hi : i < n := by rw [← S.le]; exact lt_of_get hs
    obtain ⟨v, e1, r⟩ := S.slot_sh hs
    cases r
    split
    · rename_i b e1' em
      rw [em] at h1
      split
      · rename_i hfr
        refine fun D q => ⟨_, e1, h1 _ fun v Hf1 H1 s1 S1 => ?_⟩
        have rv := S1.held S.l2
        cases rv
        exact ⟨a, b, rfl, rfl, q _ Hf1 H1 s1 AsgOk.set ((S1.pop.push_sh (v := V.int (a + b)) (d := .int (a + b)) .int).store nt S.l2 (fun k => by simp) hi)⟩
      · trivial
    · rename_i c d e1' em
      rw [em] at h1
      exact fun w D => ⟨_, e1, h1 (fun cv dx Hf1 H1 s1 S1 x => w cv dx σ Hf1 H1 s1 AsgOk.refl S1 x) _⟩
    · trivial
  · trivial

/-! ### x[i] = e -/
section
variable {κ α : Type} [DecidableEq κ]
def putG (kvs : List (κ × α)) (k : κ) (v : α) : List (κ × α) := if (kvs.any fun kv => decide (kv.1 = k)) = true then kvs.map (fun kv => if kv.1 = k then (kv.1, v) else kv) else kvs ++ [(k, v)]
def valG (kvs : List (κ × α)) (k : κ) : Option α := (kvs.find? fun kv => decide (kv.1 = k)).map (·.2)
end
def putD : D → D → D → Option D
  | .lst xs, .int k, v => match ixN xs.length k with
    | some j => some (.lst (xs.set j v))
    | none => none
  | .dic kvs, .int k, v => if kvs.length < sizeLine then some (.dic (putG kvs (.inl k) v)) else none
  | .dic kvs, .str k, v => if kvs.length < sizeLine then some (.dic (putG kvs (.inr k) v)) else none
  | _, _, _ => none
def xPut (i : Nat) (mi m : Sm) : Sx := ⟨fun e => match mF m e with
  | .ok s e1 => match e1[i]? with
    | some (some _) => match mF mi e1 with
      | .ok k e2 => match e2[i]? with
        | some (some t) => if t.m.mut then match putD t.d k.d s.d with
            | some d' => .nx (e2.set i (some ⟨t.m, d'⟩))
            | none => .no
          else .no
        | _ => .no
      | .ex c d e2 => .ex c d e2
      | .no => .no
    | _ => .no
  | .ex c d e1 => .ex c d e1
  | .no => .no, []⟩
def rPutA : TSet := fun o i v H Q => rSetL o i v H Q ∨ rSetD o i v H Q
theorem pset_or {X : Cx} {t u : TSet} (h : PSet X t) (g : PSet X u) : PSet X (fun o i v H Q => t o i v H Q ∨ u o i v H Q) := by
  intro pins s σ H o i v ov iv w Q I r1 r2 r3 q
  rcases q with q | q
  · exact h pins s σ H o i v ov iv w Q I r1 r2 r3 q
  · exact g pins s σ H o i v ov iv w Q I r1 r2 r3 q
theorem keys_any {κ : Type} [DecidableEq κ] {k : κ} {α β : Type} : ∀ {kvs : List (κ × α)} {kds : List (κ × β)}, kvs.map (·.1) = kds.map (·.1) → (kvs.any fun kv => decide (kv.1 = k)) = (kds.any fun kv => decide (kv.1 = k))
  | [], [], _ => rfl
  | [], _ :: _, e => by simp at e
  | _ :: _, [], e => by simp at e
  | (k1, v1) :: kvs, (k2, d1) :: kds, e => by
    simp only [List.map_cons, List.cons.injEq] at e
    obtain ⟨rfl, e⟩ := e
    rw [List.any_cons, List.any_cons, keys_any e]
theorem reps_map {G : Gi} {H : Hp} {κ : Type} [DecidableEq κ] {k : κ} {v : V} {d : D} (rv : Rep G H v d) : ∀ {kvs : List (κ × V)} {kds : List (κ × D)}, kvs.map (·.1) = kds.map (·.1) → Reps G H (kvs.map (·.2)) (kds.map (·.2)) →
    (kvs.map (fun kv => if kv.1 = k then (kv.1, v) else kv)).map (·.1) = (kds.map (fun kv => if kv.1 = k then (kv.1, d) else kv)).map (·.1) ∧ Reps G H ((kvs.map (fun kv => if kv.1 = k then (kv.1, v) else kv)).map (·.2)) ((kds.map (fun kv => if kv.1 = k then (kv.1, d) else kv)).map (·.2))
  | [], [], _, _ => ⟨rfl, .nil⟩
  | [], _ :: _, e, _ => by simp at e
  | _ :: _, [], e, _ => by simp at e
  | (k1, v1) :: kvs, (k2, d1) :: kds, e, r => by
    simp only [List.map_cons, List.cons.injEq] at e
    obtain ⟨rfl, e⟩ := e
    obtain ⟨r1, r2⟩ := Reps.inv (v := v1) (d := d1) r
    obtain ⟨h1, h2⟩ := reps_map (k := k) rv e r2
    simp only [List.map_cons]
    by_cases hk : k1 = k
    · rw [if_pos hk, if_pos hk]
      exact ⟨by rw [h1], .cons rv h2⟩
    · rw [if_neg hk, if_neg hk]
      exact ⟨by rw [h1], .cons r1 h2⟩
theorem reps_put {G : Gi} {H : Hp} {κ : Type} [DecidableEq κ] {k : κ} {v : V} {d : D} {kvs : List (κ × V)} {kds : List (κ × D)} (rv : Rep G H v d) (e : kvs.map (·.1) = kds.map (·.1)) (r : Reps G H (kvs.map (·.2)) (kds.map (·.2))) :
    (putK kvs k v).map (·.1) = (putG kds k d).map (·.1) ∧ Reps G H ((putK kvs k v).map (·.2)) ((putG kds k d).map (·.2)) := by
  unfold putK putG
  rw [keys_any e]
  split
  · exact reps_map rv e r
  · simp only [List.map_append, List.map_cons, List.map_nil]
    exact ⟨by rw [e], r.append (.cons rv .nil)⟩
/-- the store keeps the data's word -/
theorem put_ok {G : Gi} {Hf H : Hp} {p : Addr} {o : HO} {d k v d' : D} {kv vv : V} (s : Same Hf H) (hp : H p = some o) (t : TopO G Hf o d) (rk : Rep G Hf kv k) (rv : Rep G Hf vv v) (e : putD d k v = some d') : ∃ o', TopO G Hf o' d' ∧ ∀ Q : Hp → Prop, Q (upd H p o') → rPutA (.ref p) kv vv H Q := by
  unfold putD at e
  split at e
  · rename_i xs i
    split at e
    · rename_i j hj
      cases e
      obtain ⟨us, rfl, ru⟩ := t
      cases rk
      exact ⟨_, ⟨us.set j vv, rfl, ru.set j rv⟩, fun Q q => .inl ⟨p, us, i, j, rfl, rfl, hp, by rw [ru.len]; exact hj, q⟩⟩
    · cases e
  · rename_i kds i
    split at e
    · rename_i hz
      cases e
      obtain ⟨kvs, rfl, l, r⟩ := t
      cases rk
      obtain ⟨h1, h2⟩ := reps_put (k := (.inl i : Key)) rv l r
      exact ⟨_, ⟨_, rfl, h1, h2⟩, fun Q q => .inr ⟨p, _, rfl, .inl ⟨kvs, .inl i, hp, rfl, by have := congrArg List.length l; simp at this; omega, rfl⟩, q⟩⟩
    · cases e
  · rename_i kds i
    split at e
    · rename_i hz
      cases e
      obtain ⟨kvs, rfl, l, r⟩ := t
      cases rk
      obtain ⟨h1, h2⟩ := reps_put (k := (.inr i : Key)) rv l r
      exact ⟨_, ⟨_, rfl, h1, h2⟩, fun Q q => .inr ⟨p, _, rfl, .inl ⟨kvs, .inr i, hp, rfl, by have := congrArg List.length l; simp at this; omega, rfl⟩, q⟩⟩
    · cases e
  · cases e
theorem St0.slot_any {i : Nat} {s : Slot} (S : St0 P n IO H0 Hf σ tv env te H) (hs : env[i]? = some (some s)) : ∃ v, σ[i]? = some (some v) := by
  obtain ⟨m, d⟩ := s
  cases m with
  | sh => obtain ⟨v, e, _⟩ := S.slot_sh hs; exact ⟨v, e⟩
  | ow => obtain ⟨p, o, e, _⟩ := S.slot_own hs rfl; exact ⟨_, e⟩
  | io => obtain ⟨p, o, e, _⟩ := S.slot_own hs rfl; exact ⟨_, e⟩
  | al j => exact absurd rfl (S.na i _ hs j)
theorem evs_put {i : Nat} {t ti : TE} {m mi : Sm} (f : Ev P t m) (g : Ev P ti mi) : EvS P (tAsg t (gSub (tVar i) ti rPutA)) (xPut i mi m) := by
  refine ⟨fun e s e' h => ?_, fun n IO H0 Hf σ tv env te H S nt => ?_⟩
  · unfold xPut at h
    dsimp only at h
    split at h
    · split at h
      · split at h
        · split at h
          · split at h
            · split at h <;> cases h
            · cases h
          · cases h
        · cases h
        · cases h
      · cases h
    · cases h
    · cases h
  have h1 := ev_F f n IO H0 Hf σ tv env te H S
  unfold xPut
  dsimp only
  cases em : mF m env with
  | no => trivial
  | ex c d e1 => rw [em] at h1; exact fun w D => h1 (fun cv dx Hf1 H1 s1 S1 x => w cv dx σ Hf1 H1 s1 AsgOk.refl S1 x) _
  | ok s e1 =>
    rw [em] at h1
    have es := mF_ok em
    dsimp only
    cases e0 : e1[i]? with
    | none => trivial
    | some o0 =>
      cases o0 with
      | none => trivial
      | some t0 =>
        dsimp only
        cases ek : mF mi e1 with
        | no => trivial
        | ex c d e2 =>
          refine fun w D => h1 _ fun v Hf1 H1 s1 S1 => ?_
          obtain ⟨x, hx⟩ := S1.slot_any e0
          have h2 := ev_F g n IO H0 Hf1 σ _ e1 _ H1 S1
          rw [ek] at h2
          exact ⟨x, hx, h2 (fun cv dx Hf2 H2 s2 S2 y => w cv dx σ Hf2 H2 (s1.trans s2) AsgOk.refl S2.pop y) _⟩
        | ok k e2 =>
          have esk := mF_ok ek
          dsimp only
          cases ei : e2[i]? with
          | none => trivial
          | some o =>
            cases o with
            | none => trivial
            | some t =>
              dsimp only
              by_cases hm : t.m.mut = true
              · rw [if_pos hm]
                cases ep : putD t.d k.d s.d with
                | none => trivial
                | some d' =>
                  refine fun D q => h1 _ fun v Hf1 H1 s1 S1 => ?_
                  obtain ⟨x, hx⟩ := S1.slot_any e0
                  have h2 := ev_F g n IO H0 Hf1 σ _ e1 _ H1 S1
                  rw [ek] at h2
                  refine ⟨x, hx, h2 _ fun kv Hf2 H2 s2 S2 => ?_⟩
                  rw [es, esk] at S2
                  have rk := S2.held (by have := S1.l2; simpa using this)
                  have rv := S2.pop.held S.l2
                  have S3 := S2.pop.pop
                  obtain ⟨p, o, e1', e2', t'⟩ := S3.slot_own ei hm
                  rw [hx] at e1'
                  cases e1'
                  obtain ⟨o', t'', hq⟩ := put_ok S3.sr.sub e2' t' rk rv ep
                  exact hq _ (q σ Hf2 _ (s1.trans s2) AsgOk.refl (S3.slot_set ei hm hx t''))
              · rw [if_neg hm]; trivial
theorem ss_put (fr : Fra P N sc mg) {i : Nat} {x : Str} {ei e : Expr} {p pos pos' : Pos} {m mi : Sm} (h : SE P e m) (hi : SE P ei mi) (hN : N[i]? = some x) (hv : Vis sc x) (hs : ∀ X, P.M X → swapsWithSole [.Subscript (.Name x p) ei pos'] e pos.line X.env = pure false) (hw : ∀ X, P.M X → swappedStores [.Subscript (.Name x p) ei pos'] e X.env = pure none)
    (h1 : ∀ env, (assignEach [.Subscript (.Name x p) ei pos'] env).map (·.2) = [assign (.Subscript (.Name x p) ei pos') env])
    (ha : ∀ env v, assign (.Subscript (.Name x p) ei pos') env v = (do
      let ov ← holding [v] (eval (.Name x p) env)
      let iv ← holding [v, ov] (eval ei env)
      standAt pos'
      holding [v, ov, iv] (setItem ov iv v)
      release [v, ov, iv] []))
    (hd : (x == ("__debug__" : Str)) = false := by decide) (hc : (x == ("__classdict__" : Str)) = false := by decide) : SS P (.Assign [.Subscript (.Name x p) ei pos'] e pos) (xPut i mi m) :=
  let ⟨_, pe, fe⟩ := h; let ⟨_, pi, fi⟩ := hi
  ⟨_, fun X hX => ps_asg (pe X hX) (pg_sub (pe_var (by rw [fr.hN X hX]; exact hN) (by rw [fr.hsc X hX]; exact hv) hd hc) (pi X hX) (pset_or set_list (set_dict (by have := fr.hu X hX; omega))) (ha _)) (hs X hX) (hw X hX) (h1 _), evs_put fe fi⟩

/-! ### d[k] -/
def keyOf : D → Option Key
  | .int i => some (.inl i)
  | .str z => some (.inr z)
  | _ => none
def getD (d k : D) : RR := match d, keyOf k with
  | .dic kvs, some key => match valG kvs key with
    | some v => .sh v
    | none => .no
  | _, _ => .no
def rGetD : R2 := fun x y H Q => ∃ a v, x = .ref a ∧ DGet H a y (some v) ∧ Q v H
theorem keys_val {G : Gi} {H : Hp} {κ : Type} [DecidableEq κ] {k : κ} : ∀ {kvs : List (κ × V)} {kds : List (κ × D)}, kvs.map (·.1) = kds.map (·.1) → Reps G H (kvs.map (·.2)) (kds.map (·.2)) → ∀ d, valG kds k = some d → ∃ v, valV kvs k = some v ∧ Rep G H v d
  | [], [], _, _, d, h => by cases h
  | [], _ :: _, e, _, _, _ => by simp at e
  | _ :: _, [], e, _, _, _ => by simp at e
  | (k1, v1) :: kvs, (k2, d1) :: kds, e, r, d, h => by
    simp only [List.map_cons, List.cons.injEq] at e
    obtain ⟨rfl, e⟩ := e
    obtain ⟨r1, r2⟩ := Reps.inv (v := v1) (d := d1) r
    by_cases hk : k1 = k
    · rw [valV_pos hk]
      have : valG ((k1, d1) :: kds) k = some d1 := by simp [valG, List.find?_cons, hk]
      rw [this] at h
      cases h
      exact ⟨v1, rfl, r1⟩
    · rw [valV_neg hk]
      have : valG ((k1, d1) :: kds) k = valG kds k := by simp [valG, List.find?_cons, hk]
      rw [this] at h
      exact keys_val e r2 d h
theorem PRep.dict {G : Gi} {Hf H : Hp} (s : Same Hf H) {v : V} {kds : List (Key × D)} (r : PRep G Hf H v (.dic kds)) : ∃ a kvs, v = .ref a ∧ Rd H a (.dK kvs) ∧ kvs.map (·.1) = kds.map (·.1) ∧ Reps G Hf (kvs.map (·.2)) (kds.map (·.2)) := by
  rcases r with r | ⟨a, o, rfl, ha, t⟩
  · cases r with
    | dic h l r =>
      rename_i p kvs
      refine ⟨p, kvs, rfl, Rd.mono s h, l, by simpa using congrArg List.length l, fun i v d h1 h2 => ?_⟩
      rw [List.getElem?_map] at h1 h2
      obtain ⟨a, ha, rfl⟩ := Option.map_eq_some_iff.mp h1
      obtain ⟨b, hb, rfl⟩ := Option.map_eq_some_iff.mp h2
      exact r i a b ha hb
  · obtain ⟨kvs, rfl, l, rr⟩ := t; exact ⟨a, kvs, rfl, .inl ha, l, rr⟩
theorem PRep.key {G : Gi} {Hf H : Hp} {v : V} {d : D} {k : Key} (r : PRep G Hf H v d) (e : keyOf d = some k) : v = kV k := by
  cases d with
  | int i => cases e; exact r.int
  | str z => cases e; exact r.str
  | _ => cases e
theorem s_get {G : Gi} : S2 G rGetD getD := by
  intro Hf H x y d e s p q
  unfold getD
  split
  · rename_i kds key hk
    split
    · rename_i w hw
      obtain ⟨a, kvs, rfl, h1, l, r⟩ := p.dict s
      obtain ⟨v, h2, h3⟩ := keys_val l r w hw
      exact fun Q k => ⟨a, v, rfl, .inl ⟨kvs, key, h1, q.key hk, h2.symm⟩, k v h3⟩
    · trivial
  · trivial
theorem se_get (fr : Fra P N sc mg) {a b : Expr} {pos : Pos} {ma mb : Sm} (ha : SE P a ma) (hb : SE P b mb) (hs : NoSl b) : SE P (.Subscript a b pos) (m2 getD ma mb) :=
  let ⟨_, p, e⟩ := ha; let ⟨_, q, g⟩ := hb; ⟨_, fun X hX => pe_dget (by have := fr.hu X hX; omega) (p X hX) (q X hX) hs, ev_2 (r := rGetD) s_get e g⟩
end
end VM

/-! VMO: comprehensions and dict displays as rules -/
namespace VM
open PySem PySem.Spec PyProof.Rows L2

section
variable {P : Pl} {n : Nat} {IO : En} {H0 Hf H : Hp} {σ tv : L2.St} {env te : Env} {N : List Str} {sc : Scope} {mg : Str → Option Value}
def tmYes : Tm := fun e => .ok true e
def SIfs (P : Pl) (ifs : List Expr) (m : Tm) : Prop := ∃ t, (∀ X, P.M X → PTs X ifs t) ∧ EvT P t m
theorem sifs_nil : SIfs P [] tmYes := ⟨_, fun _ _ => pts_nil, fun n IO H0 Hf σ tv env te H S Q q => q Hf H (Same.refl _) S⟩
theorem sifs_one {c : Expr} {m : Tm} (h : ST P c m) : SIfs P [c] m := let ⟨_, p, f⟩ := h; ⟨_, fun X hX => pts_one (p X hX), f⟩
theorem blk_mem {scope : Scope} {X : Cx} (h : P.M X) (s : Shared) (H : Hp) (C : Addr) (cl : List (Str × Addr)) (fp : List Addr) : (P.blk scope).M (X.blk s H scope (compEnvC scope cl C X.env) fp) := ⟨X, s, H, C, cl, fp, h, rfl⟩
theorem se_lc (fr : Fra P N sc mg) {elt tg iter : Expr} {ifs : List Expr} {scope : Scope} {pos : Pos} (own : List (Str × Nat)) {im : Im} {f : Tgt} {c : Tm} {m : Sm} (hi : SI P tg iter im) (ok : blkC N sc scope own = true)
    (hg : SG (P.blk scope) tg f) (hc : SIfs (P.blk scope) ifs c) (he : SE (P.blk scope) elt m) (hs : ∀ env x, foldedSetIterable iter env x = pure x) : SE P (.ListComp elt [⟨tg, iter, ifs, 0⟩] scope pos) (mLc im f c m (own.map (·.2))) := by
  obtain ⟨wi, p1, e1⟩ := hi
  obtain ⟨g, p2, e2⟩ := hg
  obtain ⟨tt, p3, e3⟩ := hc
  obtain ⟨t, p4, e4⟩ := he
  refine ⟨_, fun X hX => pe_lc (fr.calm X hX) (by rw [fr.hN X hX]; exact fr.nd) (p1 X hX) (by rw [fr.hN X hX, fr.hsc X hX]; exact blkOk_by ok) (fun s H C cl fp => p2 _ (blk_mem hX s H C cl fp)) (fun s H C cl fp => p3 _ (blk_mem hX s H C cl fp)) (fun s H C cl fp => p4 _ (blk_mem hX s H C cl fp)) (hs _), ev_lc e1 e2 e3 e4⟩
theorem ss_lc (fr : Fra P N sc mg) {i : Nat} {y : Str} {py : Pos} {elt tg iter : Expr} {ifs : List Expr} {scope : Scope} {pos spos : Pos} (own : List (Str × Nat)) {im : Im} {f : Tgt} {c : Tm} {m : Sm} (hi : SI P tg iter im) (ok : blkC N sc scope own = true)
    (hg : SG (P.blk scope) tg f) (hc : SIfs (P.blk scope) ifs c) (he : SE (P.blk scope) elt m) (hs : ∀ env x, foldedSetIterable iter env x = pure x) (hk : sc.kind = .function) (hy : N[i]? = some y) (hyl : sc.names.lookup y = some .local)
    (hl : (py.line == pos.line) = true) (hno : (scope.names.any fun (n, k) => n == y && (k == .local || k == .cell)) = false) (hls : (pos.line == spos.line) = true) :
    SS P (.Assign [.Name y py] (.ListComp elt [⟨tg, iter, ifs, 0⟩] scope pos) spos) (xAsg (mLc im f c m (own.map (·.2))) (gN i)) := by
  obtain ⟨wi, p1, e1⟩ := hi
  obtain ⟨g, p2, e2⟩ := hg
  obtain ⟨tt, p3, e3⟩ := hc
  obtain ⟨t, p4, e4⟩ := he
  refine ⟨_, fun X hX => ps_setLc (fr.calm X hX) (by rw [fr.hN X hX]; exact fr.nd) (by rw [fr.hN X hX]; exact hy) (by rw [fr.hsc X hX]; exact hyl) (sw_true (by rw [fr.hsc X hX]; exact hk) (by rw [fr.hsc X hX]; exact hyl) hl hno)
    (p1 X hX) (by rw [fr.hN X hX, fr.hsc X hX]; exact blkOk_by ok) (fun s H C cl fp => p2 _ (blk_mem hX s H C cl fp)) (fun s H C cl fp => p3 _ (blk_mem hX s H C cl fp)) (fun s H C cl fp => p4 _ (blk_mem hX s H C cl fp)) (hs _), evs_asg (ev_lc e1 e2 e3 e4) evg_n⟩

/-! ### dict displays -/
def flatP : List (TE × TE) → List TE
  | [] => []
  | (a, b) :: r => a :: b :: flatP r
def pairV : List V → List (V × V)
  | x :: y :: r => (x, y) :: pairV r
  | _ => []
theorem pairs_flat : ∀ (trs : List (TE × TE)) (σ : L2.St) (H : Hp) (Q : List (V × V) → Hp → Prop), tPairs trs σ H Q = tAll (flatP trs) σ H fun vs H' => Q (pairV vs) H'
  | [], σ, H, Q => rfl
  | (a, b) :: r, σ, H, Q => by
    show (a σ H fun x H1 => b σ H1 fun y H2 => tPairs r σ H2 fun ps H3 => Q ((x, y) :: ps) H3) = a σ H fun x H1 => b σ H1 fun y H2 => tAll (flatP r) σ H2 fun xs H3 => Q (pairV (x :: y :: xs)) H3
    congr 1
    funext x H1
    congr 1
    funext y H2
    exact pairs_flat r σ H2 _
def SD (P : Pl) (pos : Pos) (keys : List (Option Expr)) (values : List Expr) (l : Lm) : Prop := ∃ trs, (∀ X, P.M X → PPs X pos keys values trs) ∧ EvL P (tAll (flatP trs)) l
theorem sd_nil {pos : Pos} : SD P pos [] [] lNil := ⟨[], fun _ _ => pps_nil, evl_nil⟩
theorem sd_cons {pos : Pos} {k v : Expr} {ks : List (Option Expr)} {vs : List Expr} {mk mv : Sm} {l : Lm} (hk : SE P k mk) (hv : SE P v mv) (h : SD P pos ks vs l) : SD P pos (some k :: ks) (v :: vs) (lCons (mF mk) (lCons (mF mv) l)) := by
  obtain ⟨tk, p1, e1⟩ := hk
  obtain ⟨tv, p2, e2⟩ := hv
  obtain ⟨trs, p3, e3⟩ := h
  exact ⟨(tk, tv) :: trs, fun X hX => pps_cons (p1 X hX) (p2 X hX) (p3 X hX), evl_cons (ev_F e1) (evl_cons (ev_F e2) e3)⟩
def pairD : List D → Option (List (Key × D))
  | [] => some []
  | k :: v :: r => match keyOf k, pairD r with
    | some key, some kds => some ((key, v) :: kds)
    | _, _ => none
  | _ => none
def mergeG (kvs more : List (Key × D)) : List (Key × D) := more.foldl (fun acc kv => putG acc kv.1 kv.2) kvs
def mDisp (l : Lm) : Sm := fun e => match l e with
  | .ok ss e1 => match shs ss with
    | some ds => match pairD ds with
      | some kds => if kds.length ≤ 15 then .ok ⟨.ow, .dic (mergeG [] kds)⟩ e1 else .no
      | none => .no
    | none => .no
  | .ex c d e1 => .ex c d e1
  | .no => .no
theorem pair_reps {G : Gi} {H : Hp} : ∀ {ds : List D} {vs : List V} {kds : List (Key × D)}, Reps G H vs ds → pairD ds = some kds → ∃ kvs : List (Key × V), pairV vs = kvs.map (fun kv => (kV kv.1, kv.2)) ∧ kvs.map (·.1) = kds.map (·.1) ∧ Reps G H (kvs.map (·.2)) (kds.map (·.2)) ∧ kvs.length = kds.length
  | [], vs, kds, r, e => by
    cases e
    match vs, r with
    | [], r => exact ⟨[], rfl, rfl, .nil, rfl⟩
    | _ :: _, r => exact absurd r.len (by simp)
  | [_], vs, kds, r, e => by cases e
  | k :: v :: ds, vs, kds, r, e => by
    match vs, r with
    | [], r => exact absurd r.len (by simp)
    | [_], r => exact absurd r.len (by simp)
    | x :: y :: vs, r =>
      unfold pairD at e
      split at e
      · rename_i key kds' hk hr
        cases e
        obtain ⟨r1, r2⟩ := r.inv
        obtain ⟨r3, r4⟩ := r2.inv
        obtain ⟨kvs, e1, e2, e3, e4⟩ := pair_reps r4 hr
        have ex : x = kV key := PRep.key (.inl r1 : PRep G H H x k) hk
        exact ⟨(key, y) :: kvs, by rw [ex]; show (kV key, y) :: pairV vs = _; rw [e1]; rfl, by simp [e2], .cons r3 e3, by simp [e4]⟩
      · cases e
theorem merge_reps {G : Gi} {H : Hp} : ∀ {more : List (Key × V)} {moreD : List (Key × D)} {kvs : List (Key × V)} {kds : List (Key × D)}, more.map (·.1) = moreD.map (·.1) → Reps G H (more.map (·.2)) (moreD.map (·.2)) → kvs.map (·.1) = kds.map (·.1) → Reps G H (kvs.map (·.2)) (kds.map (·.2)) →
    (mergeK kvs more).map (·.1) = (mergeG kds moreD).map (·.1) ∧ Reps G H ((mergeK kvs more).map (·.2)) ((mergeG kds moreD).map (·.2))
  | [], [], _, _, _, _, e, r => ⟨e, r⟩
  | [], _ :: _, _, _, e, _, _, _ => by simp at e
  | _ :: _, [], _, _, e, _, _, _ => by simp at e
  | (k1, v1) :: more, (k2, d1) :: moreD, kvs, kds, e, r, e', r' => by
    simp only [List.map_cons, List.cons.injEq] at e
    obtain ⟨rfl, e⟩ := e
    obtain ⟨r1, r2⟩ := Reps.inv (v := v1) (d := d1) r
    obtain ⟨h1, h2⟩ := reps_put (k := k1) r1 e' r'
    exact merge_reps (kvs := putK kvs k1 v1) (kds := putG kds k1 d1) e r2 h1 h2
theorem ev_disp {trs : List (TE × TE)} {l : Lm} (f : EvL P (tAll (flatP trs)) l) : Ev P (tDisp trs) (mDisp l) := by
  intro n IO H0 Hf σ tv env te H S
  have push : ∀ p, H p = none → St0 P n IO H0 Hf σ (tv ++ [some (V.ref p)]) env (te ++ [ow (.dic [])]) (upd H p (.dK [])) := fun p hp => S.push_ow hp ⟨[], rfl, rfl, .nil⟩
  unfold mDisp
  cases el : l env with
  | no => trivial
  | ex c d e1 =>
    refine fun w Q p hp => ?_
    have h1 := f n IO H0 Hf σ _ env _ _ (push p hp)
    rw [el] at h1
    rw [pairs_flat]
    exact h1 (fun cv dx Hf' H' s' S' x => w cv dx Hf' H' s' S'.pop x) _
  | ok ss e1 =>
    dsimp only
    cases es : shs ss with
    | none => trivial
    | some ds =>
      dsimp only
      cases ep : pairD ds with
      | none => trivial
      | some kds =>
        dsimp only
        by_cases hz : kds.length ≤ 15
        · rw [if_pos hz]
          refine fun Q q p hp => ?_
          have S0 := push p hp
          have h1 := f n IO H0 Hf σ _ env _ _ S0
          rw [el] at h1
          rw [pairs_flat]
          refine h1 _ fun vs Hf1 H1 s1 l1 S1 => ?_
          have r := S1.all_sh S0.l2 l1 es
          have S2 : St0 P n IO H0 Hf1 σ (tv ++ [some (V.ref p)]) e1 (te ++ [ow (.dic [])]) H1 := St0.pops ss.length (by simp [l1]) (by simp) S1
          obtain ⟨kvs, e2, e3, e4, e5⟩ := pair_reps r ep
          obtain ⟨h2, h3⟩ := merge_reps (kvs := []) (kds := []) e3 e4 rfl .nil
          have l2 := S.l2
          obtain ⟨p', o, g1, _, _, g2, t⟩ := S2.sr.own (n + te.length) (.dic []) (by
            rw [List.getElem?_append_right (by rw [S2.le]; omega), S2.le, Nat.add_sub_cancel_left]; exact get_last)
          have epp : V.ref p = V.ref p' := by
            rw [List.getElem?_append_right (by rw [S2.ls]; omega), S2.ls, Nat.add_sub_cancel_left, ← l2] at g1
            rw [get_last] at g1
            exact Option.some.inj (Option.some.inj g1)
          cases epp
          obtain ⟨kvs0, rfl, k1, _⟩ := t
          have k2 : kvs0 = [] := by
            cases kvs0 with
            | nil => rfl
            | cons _ _ => simp at k1
          subst k2
          refine ⟨g2, kvs, e2, by omega, q _ Hf1 _ s1 ?_⟩
          have S3 := (S2.blank).grown (d' := .dic (mergeG [] kds)) (o := .dK (mergeK [] kvs)) ⟨_, rfl, h2, h3⟩
          exact S3.pop
        · rw [if_neg hz]; trivial
theorem se_disp {pos : Pos} {keys : List (Option Expr)} {values : List Expr} {l : Lm} (h : SD P pos keys values l) (hall : keys.all (·.isSome) = true) (hl : keys.length = values.length) (h0 : keys ≠ []) (h15 : keys.length ≤ 15) : SE P (.Dict keys values pos) (mDisp l) :=
  let ⟨_, p, f⟩ := h; ⟨_, fun X hX => pe_disp (p X hX) hall hl h0 h15, ev_disp f⟩
/-- {} -/
def mNewK : Sm := fun e => .ok ⟨.ow, .dic []⟩ e
def mNewT : Sm := fun e => .ok ⟨.ow, .dit []⟩ e
theorem se_newK {pos : Pos} : SE P (.Dict [] [] pos) mNewK := ⟨_, fun _ _ => pe_dnewK, fun n IO H0 Hf σ tv env te H S Q q p hp => q _ Hf _ (Same.refl _) (S.push_ow hp ⟨[], rfl, rfl, .nil⟩)⟩
theorem se_newT {pos : Pos} : SE P (.Dict [] [] pos) mNewT := ⟨_, fun _ _ => pe_dnewT, fun n IO H0 Hf σ tv env te H S Q q p hp => q _ Hf _ (Same.refl _) (S.push_ow hp ⟨[], rfl, rfl, .nil⟩)⟩
end
end VM

/-! VMP: a def keeps its word -/
namespace VM
open PySem PySem.Spec PyProof.Rows L2

def env0 (io : List Bool) (ds : List D) (n : Nat) : Env := (List.range n).map fun i => match io[i]?, ds[i]? with
  | some true, some d => some ⟨.io, d⟩
  | some false, some d => some ⟨.sh, d⟩
  | _, _ => none
def outsAt (e : Env) : List Bool → List D → Nat → Option (List D)
  | [], [], _ => some []
  | true :: bs, _ :: ds, i => match e[i]? with
    | some (some ⟨.io, d⟩) => match outsAt e bs ds (i + 1) with
      | some r => some (d :: r)
      | none => none
    | _ => none
  | false :: bs, d :: ds, i => match outsAt e bs ds (i + 1) with
    | some r => some (d :: r)
    | none => none
  | _, _, _ => none
def bodyF (io : List Bool) (m : Sx) (n : Nat) (ds : List D) : FA := match m.run (env0 io ds n) with
  | .nx e => match outsAt e io ds 0 with
    | some o => .ok false .non o
    | none => .no
  | .rt ⟨.sh, d⟩ e => match outsAt e io ds 0 with
    | some o => .ok false d o
    | none => .no
  | .rt ⟨.ow, d⟩ e => match outsAt e io ds 0 with
    | some o => .ok true d o
    | none => .no
  | .ex c d e => match outsAt e io ds 0 with
    | some o => .ex c d o
    | none => .no
  | _ => .no
theorem outsAt_get {e : Env} : ∀ {io : List Bool} {ds o : List D} {j : Nat}, outsAt e io ds j = some o → o.length = io.length ∧ ∀ (i : Nat) d, io[i]? = some true → o[i]? = some d → e[j + i]? = some (some ⟨.io, d⟩)
  | [], [], o, j, h => by cases h; exact ⟨rfl, fun i d h => by simp at h⟩
  | [], _ :: _, o, j, h => by cases h
  | true :: _, [], o, j, h => by cases h
  | false :: _, [], o, j, h => by cases h
  | true :: bs, d0 :: ds, o, j, h => by
    unfold outsAt at h
    split at h
    · rename_i d he
      split at h
      · rename_i r hr
        cases h
        obtain ⟨h1, h2⟩ := outsAt_get hr
        refine ⟨by simp [h1], fun i d' hi ho => ?_⟩
        cases i with
        | zero => simp at ho; subst ho; exact he
        | succ i =>
          have := h2 i d' (by simpa using hi) (by simpa using ho)
          rwa [Nat.add_assoc, Nat.add_comm 1 i] at this
      · cases h
    · cases h
  | false :: bs, d0 :: ds, o, j, h => by
    unfold outsAt at h
    split at h
    · rename_i r hr
      cases h
      obtain ⟨h1, h2⟩ := outsAt_get hr
      refine ⟨by simp [h1], fun i d' hi ho => ?_⟩
      cases i with
      | zero => simp at hi
      | succ i =>
        have := h2 i d' (by simpa using hi) (by simpa using ho)
        rwa [Nat.add_assoc, Nat.add_comm 1 i] at this
    · cases h
/-- x is a def that keeps its word, at level k -/
def FnK (prog : Program) (w : World) (K : PySem.W.Frag) (mg : Str → Option Value) (base : Heap) (exc : Str → Option (Addr × Str)) (G : Gi) (k : Nat) (x : Str) (fs : FS) : Prop :=
  ∃ f fd ps, FnOk prog w K mg base (L2.CX prog w) k f fd ps (spOf exc G fs) ∧ mg x = some (.ref f) ∧ PySem.W.keepIn K (.ref f) = true ∧ Binds K fd ps []
theorem FnK.mono {prog : Program} {w : World} {K : PySem.W.Frag} {mg : Str → Option Value} {base : Heap} {exc : Str → Option (Addr × Str)} {G : Gi} {j k : Nat} {x : Str} {fs : FS} (h : FnK prog w K mg base exc G j x fs) (hj : j ≤ k) : FnK prog w K mg base exc G k x fs :=
  let ⟨f, fd, ps, a, b, c, d⟩ := h; ⟨f, fd, ps, a.mono hj, b, c, d⟩
theorem env0_get {io : List Bool} {ds : List D} {n i : Nat} {s : Slot} (h : (env0 io ds n)[i]? = some (some s)) : i < n ∧ ds[i]? = some s.d ∧ ((io[i]? = some true ∧ s.m = .io) ∨ (io[i]? = some false ∧ s.m = .sh)) := by
  have hi : i < n := by have := lt_of_get h; simpa [env0] using this
  unfold env0 at h
  rw [List.getElem?_map, List.getElem?_range hi] at h
  refine ⟨hi, ?_⟩
  simp only [Option.map_some, Option.some.injEq] at h
  split at h
  · rename_i d h1 h2; cases h; exact ⟨h2, .inl ⟨h1, rfl⟩⟩
  · rename_i d h1 h2; cases h; exact ⟨h2, .inr ⟨h1, rfl⟩⟩
  · cases h
theorem start_st {P : Pl} {N : List Str} {io : List Bool} {Hf H : Hp} {vs : List V} {ds : List D} (s : Same Hf H) (a : ArgsR P.G io Hf H vs ds) (hn : io.length ≤ N.length) : St0 P N.length ⟨IOs io vs, Hf⟩ H Hf (L2.start N vs) [] (env0 io ds N.length) [] H := by
  have ls : (L2.start N vs).length = N.length := by unfold L2.start; rw [List.length_append, List.length_map, List.length_replicate, a.lv]; omega
  have le : (env0 io ds N.length).length = N.length := by unfold env0; simp
  have sv : ∀ {i : Nat}, i < io.length → (L2.start N vs)[i]? = (vs[i]?).map some := fun {i} hi => by
    unfold L2.start
    rw [List.getElem?_append_left (by rw [List.length_map, a.lv]; exact hi), List.getElem?_map]
  have iol : ∀ {i : Nat} {b : Bool}, io[i]? = some b → i < io.length := fun h => lt_of_get h
  have val : ∀ {i : Nat}, i < io.length → ∃ v, vs[i]? = some v := fun {i} hi => ⟨_, List.getElem?_eq_getElem (by rw [a.lv]; exact hi)⟩
  refine ⟨le, ls, fun i s hs k e => ?_, ?_⟩
  · obtain ⟨_, _, ⟨_, h⟩ | ⟨_, h⟩⟩ := env0_get hs <;> (rw [h] at e; cases e)
  rw [List.append_nil, List.append_nil]
  refine ⟨s, fun b o e _ => e, fun b e => e, fun b o e => .inr e, by rw [ls, le], fun i d hs => ?_, fun i d hs => ?_, fun i d hs => ?_, fun i j d hs => ?_, fun i j x y v ne hx hy mx my h1 h2 => ?_⟩
  · obtain ⟨hi, hd, ⟨_, h⟩ | ⟨hio, _⟩⟩ := env0_get hs
    · cases h
    · obtain ⟨v, hv⟩ := val (iol hio)
      exact ⟨v, by rw [sv (iol hio), hv]; rfl, a.shr i v d hio hv hd⟩
  · obtain ⟨hi, hd, ⟨_, h⟩ | ⟨_, h⟩⟩ := env0_get hs <;> cases h
  · obtain ⟨hi, hd, ⟨hio, _⟩ | ⟨_, h⟩⟩ := env0_get hs
    · obtain ⟨v, hv⟩ := val (iol hio)
      obtain ⟨p, o, rfl, h1, h2, t⟩ := a.inout i v d hio hv hd
      exact ⟨p, o, by rw [sv (iol hio), hv]; rfl, h1, ⟨i, hio, hv⟩, h2, t⟩
    · cases h
  · obtain ⟨hi, hd, ⟨_, h⟩ | ⟨_, h⟩⟩ := env0_get hs <;> cases h
  · obtain ⟨_, _, ⟨i1, _⟩ | ⟨_, h⟩⟩ := env0_get hx
    · obtain ⟨_, _, ⟨i2, _⟩ | ⟨_, h⟩⟩ := env0_get hy
      · obtain ⟨u, hu⟩ := val (iol i1)
        obtain ⟨w, hw⟩ := val (iol i2)
        rw [sv (iol i1), hu] at h1
        rw [sv (iol i2), hw] at h2
        cases h1; cases h2
        exact a.sep i j _ ne i1 i2 hu hw
      · rw [h] at my; cases my
    · rw [h] at mx; cases mx
/-- behind the body -/
theorem end_st {P : Pl} {N : List Str} {io : List Bool} {Hf H Hf' H' : Hp} {vs : List V} {ds outs : List D} {σ' tv : L2.St} {e te : Env} {asg : List Nat} (lv : vs.length = io.length) (sf : Same Hf Hf') (a : AsgOk asg (L2.start N vs) σ') (S : St0 P N.length ⟨IOs io vs, Hf⟩ H Hf' σ' tv e te H')
    (ha : ∀ i, io[i]? = some true → i ∉ asg) (ho : outsAt e io ds 0 = some outs) : Post P.G io vs Hf H Hf' H' ∧ Outs P.G io vs Hf' H' outs := by
  obtain ⟨h1, h2⟩ := outsAt_get ho
  refine ⟨⟨sf, S.sr.sub, S.sr.keep, S.sr.grow, S.sr.nf⟩, by rw [h1, lv], fun i p d hio hv hd => ?_⟩
  have he := h2 i d hio hd
  rw [Nat.zero_add] at he
  obtain ⟨p', o, e1, e2, t⟩ := S.slot_own he (by rfl)
  have hi : i < vs.length := lt_of_get hv
  have : (L2.start N vs)[i]? = some (some (V.ref p)) := by
    unfold L2.start
    rw [List.getElem?_append_left (by rw [List.length_map]; exact hi), List.getElem?_map, hv]; rfl
  rw [a.2 i (ha i hio), this] at e1
  cases e1
  exact ⟨o, e2, t⟩
theorem fn_ok {prog : Program} {w : World} {K : PySem.W.Frag} {mg : Str → Option Value} {base : Heap} {exc : Str → Option (Addr × Str)} {G : Gi} {x qual : Str} {st : Stmt} {f : Addr} {fd : FuncData} {N ps : List Str} {k : Nat} (hG : G.K = K) (fs : FS) (m : Sx)
    (F : Fun K x qual st f fd) (S : FnScope N ps (defScope st)) (hps : fs.io.length = ps.length)
    (hbody : ∀ P : Pl, P.G = G → P.exc = exc → Fra P N (defScope st) mg → (∀ y X, P.M X → X.fn y = true) → (∀ y fs', FnK prog w K mg base exc G k y fs' → FnFact P y fs') → SSs P (defBody st) m)
    (hF : ∀ ds, ds.length = fs.io.length → fs.F ds = .no ∨ fs.F ds = bodyF fs.io m N.length ds) (ha : ∀ i, fs.io[i]? = some true → i ∉ m.asg) : FnOk prog w K mg base (L2.CX prog w) (k + 1) f fd ps (spOf exc G fs) := by
  have hnl : ps.length ≤ N.length := by
    have := congrArg List.length S.pre
    rw [List.length_take] at this
    omega
  refine F.okX S (fun vs H Q E h => ?_) fun cdv A outer s H vs Q E hr h => ?_
  · obtain ⟨Hf, ds, _, a, _⟩ := h
    rw [a.lv, hps]
  · obtain ⟨Hf, ds, sf, a, h⟩ := h
    rcases hF ds a.ld with e | e
    · rw [e] at h; exact h.elim
    rw [e] at h
    have fra : Fra ⟨fun X => X = cxOf (L2.CX prog w) prog w K mg base N qual (defScope st) f cdv A outer s H E, G, fun cv dx _ H => E cv dx H, exc⟩ N (defScope st) mg := by
      refine ⟨fun X e => by subst e; rfl, fun X e => by subst e; rfl, fun X e => by subst e; exact hG.symm, fun X e => by subst e; rfl, fun X e => by subst e; rfl, fun X e => by subst e; exact takes_of rfl rfl rfl rfl, fun X e => by subst e; exact passes_of rfl, fun X e => by subst e; have := hr.un; show _ + 65 < _; unfold cxOf; dsimp only; omega, S.nd⟩
    obtain ⟨t, ht, _, hm⟩ := hbody _ rfl rfl fra (fun y X e => by subst e; rfl) fun y fs' ⟨f', fd', ps', h1, h2, h3, h4⟩ X e => by subst e; exact ⟨f', fd', ps', k, h1, hr, h2, h3, h4⟩
    refine ⟨t, ht _ rfl, ?_⟩
    have h2 := hm N.length ⟨IOs fs.io vs, Hf⟩ H Hf (L2.start N vs) [] (env0 fs.io ds N.length) [] H (start_st sf a (by rw [hps]; exact hnl)) (fun i s h => by simp at h)
    unfold bodyF at h
    cases er : m.run (env0 fs.io ds N.length) with
    | nx e1 =>
      rw [er] at h h2
      dsimp only at h
      cases eo : outsAt e1 fs.io ds 0 with
      | none => rw [eo] at h; exact h.elim
      | some outs =>
        rw [eo] at h
        refine h2 _ fun σ' Hf' H' s' a' S' => ?_
        obtain ⟨p, o⟩ := end_st a.lv s' a' S' ha eo
        exact h .non Hf' H' p .non o
    | rt s1 e1 =>
      obtain ⟨md, d⟩ := s1
      rw [er] at h h2
      cases md with
      | sh =>
        dsimp only at h
        cases eo : outsAt e1 fs.io ds 0 with
        | none => rw [eo] at h; exact h.elim
        | some outs =>
          rw [eo] at h
          refine h2 _ fun v σ' Hf' H' s' a' S' => ?_
          obtain ⟨p, o⟩ := end_st a.lv s' a' S' ha eo
          exact h v Hf' H' p (S'.held rfl) o
      | ow =>
        dsimp only at h
        cases eo : outsAt e1 fs.io ds 0 with
        | none => rw [eo] at h; exact h.elim
        | some outs =>
          rw [eo] at h
          refine h2 _ fun v σ' Hf' H' s' a' S' => ?_
          obtain ⟨p, o⟩ := end_st a.lv s' a' S' ha eo
          refine h v Hf' H' p ?_ o
          obtain ⟨q, o2, g1, g2, g3, g4, t2⟩ := S'.sr.own N.length d (by rw [List.getElem?_append_right (by rw [S'.le]; omega), S'.le, Nat.sub_self]; rfl)
          rw [List.getElem?_append_right (by rw [S'.ls]; omega), S'.ls, Nat.sub_self] at g1
          have : v = .ref q := Option.some.inj (Option.some.inj g1)
          subst this
          exact ⟨q, o2, rfl, g2, g3, g4, t2⟩
      | io => exact h.elim
      | al _ => exact h.elim
    | ex c d e1 =>
      rw [er] at h h2
      dsimp only at h
      cases eo : outsAt e1 fs.io ds 0 with
      | none => rw [eo] at h; exact h.elim
      | some outs =>
        rw [eo] at h
        refine h2 (fun cv dx σ' Hf' H' s' a' S' xr => ?_) _
        obtain ⟨p, o⟩ := end_st a.lv s' a' S' ha eo
        exact h cv dx Hf' H' p xr o
    | bk e1 => rw [er] at h; exact h.elim
    | ct e1 => rw [er] at h; exact h.elim
    | no => rw [er] at h; exact h.elim
end VM

/-! VMQ: words for the printed proofs -/
namespace VM
open PySem PySem.Spec PyProof.Rows L2

section
variable {P : Pl} {N : List Str} {sc : Scope} {mg : Str → Option Value}
theorem ev_T {t : TE} {m : Sm} (f : Ev P t m) : Ev P t (mT m) := by
  intro n IO H0 Hf σ tv env te H S
  have h1 := f n IO H0 Hf σ tv env te H S
  have h2 := ev_F f n IO H0 Hf σ tv env te H S
  unfold mT
  unfold mF at h2
  cases em : m env with
  | no => trivial
  | ex c d e1 => rw [em] at h1; exact h1
  | ok s e1 =>
    obtain ⟨k, d⟩ := s
    rw [em] at h1 h2
    cases k with
    | ow => exact h2
    | sh => exact h1
    | io => exact h1
    | al j => exact h1
theorem se_T {e : Expr} {m : Sm} (h : SE P e m) : SE P e (mT m) := let ⟨_, p, f⟩ := h; ⟨_, p, ev_T f⟩
theorem se_and (fr : Fra P N sc mg) {a b : Expr} {rest : List Expr} {pos : Pos} {ma mb : Sm} (ha : SE P a ma) (hb : SE P (.BoolOp .And (b :: rest) pos) mb) : SE P (.BoolOp .And (a :: b :: rest) pos) (mAnd ma mb) :=
  let ⟨_, p, f⟩ := ha; let ⟨_, q, g⟩ := hb; ⟨_, fun X hX => (fr.K X hX) ▸ pe_andT (p X hX) (q X hX), ev_and rfl f g⟩
theorem se_or (fr : Fra P N sc mg) {a b : Expr} {rest : List Expr} {pos : Pos} {ma mb : Sm} (ha : SE P a ma) (hb : SE P (.BoolOp .Or (b :: rest) pos) mb) : SE P (.BoolOp .Or (a :: b :: rest) pos) (mOr ma mb) :=
  let ⟨_, p, f⟩ := ha; let ⟨_, q, g⟩ := hb; ⟨_, fun X hX => (fr.K X hX) ▸ pe_orT (p X hX) (q X hX), ev_or rfl f g⟩
theorem se_one {op : PySem.BoolOp} {a : Expr} {pos : Pos} {m : Sm} (h : SE P a m) : SE P (.BoolOp op [a] pos) m := let ⟨_, p, f⟩ := h; ⟨_, fun X hX => pe_one (p X hX), f⟩
theorem se_not (fr : Fra P N sc mg) {a : Expr} {pos : Pos} {ma : Sm} (ha : SE P a ma) : SE P (.UnaryOp .Not a pos) (mNot ma) :=
  let ⟨_, p, f⟩ := ha; ⟨_, fun X hX => (fr.K X hX) ▸ pe_notT (p X hX), ev_not rfl f⟩
theorem st_eq (fr : Fra P N sc mg) {a b : Expr} {pos : Pos} {ma mb : Sm} (ha : SE P a ma) (hb : SE P b mb) (hm : behindInMarks .Eq b = false) : ST P (.Compare a [.Eq] [b] pos) (mBl (m2 dEq ma mb)) :=
  st_cmpR (fun X hX => (fr.K X hX) ▸ op_eqD (by have := fr.hu X hX; omega)) s_eq ha hb hm
theorem st_ne (fr : Fra P N sc mg) {a b : Expr} {pos : Pos} {ma mb : Sm} (ha : SE P a ma) (hb : SE P b mb) (hm : behindInMarks .NotEq b = false) : ST P (.Compare a [.NotEq] [b] pos) (mBl (m2 dNe ma mb)) :=
  st_cmpR (fun X hX => (fr.K X hX) ▸ op_neD (by have := fr.hu X hX; omega)) s_ne ha hb hm
theorem st_inL (fr : Fra P N sc mg) {a b : Expr} {pos : Pos} {ma mb : Sm} (ha : SE P a ma) (hb : SE P b mb) (hm : behindInMarks .In b = false) : ST P (.Compare a [.In] [b] pos) (mBl (m2 (dInL false) ma mb)) :=
  st_cmpR (fun X hX => (fr.K X hX) ▸ op_inD (fr.hu X hX)) s_in ha hb hm
theorem st_ninL (fr : Fra P N sc mg) {a b : Expr} {pos : Pos} {ma mb : Sm} (ha : SE P a ma) (hb : SE P b mb) (hm : behindInMarks .NotIn b = false) : ST P (.Compare a [.NotIn] [b] pos) (mBl (m2 (dInL true) ma mb)) :=
  st_cmpR (fun X hX => (fr.K X hX) ▸ op_notInD (fr.hu X hX)) s_nin ha hb hm
theorem st_lt {a b : Expr} {pos : Pos} {ma mb : Sm} (ha : SE P a ma) (hb : SE P b mb) (hm : behindInMarks .Lt b = false) : ST P (.Compare a [.Lt] [b] pos) (mBl (m2 dLt ma mb)) := st_cmpR (fun _ _ => op_ltA) s_C ha hb hm
theorem st_le {a b : Expr} {pos : Pos} {ma mb : Sm} (ha : SE P a ma) (hb : SE P b mb) (hm : behindInMarks .LtE b = false) : ST P (.Compare a [.LtE] [b] pos) (mBl (m2 dLe ma mb)) := st_cmpR (fun _ _ => op_leA) s_C ha hb hm
theorem st_gt {a b : Expr} {pos : Pos} {ma mb : Sm} (ha : SE P a ma) (hb : SE P b mb) (hm : behindInMarks .Gt b = false) : ST P (.Compare a [.Gt] [b] pos) (mBl (m2 dGt ma mb)) := st_cmpR (fun _ _ => op_gtA) s_C ha hb hm
theorem st_ge {a b : Expr} {pos : Pos} {ma mb : Sm} (ha : SE P a ma) (hb : SE P b mb) (hm : behindInMarks .GtE b = false) : ST P (.Compare a [.GtE] [b] pos) (mBl (m2 dGe ma mb)) := st_cmpR (fun _ _ => op_geA) s_C ha hb hm
/-- a call of what is written in the text -/
theorem Fra.call (fr : Fra P N sc mg) {x : Str} {fs : FS} {p pos : Pos} {e : Expr} {es : List Expr} {l : Lm} (hF : FnFact P x fs) (hg : sc.names.lookup x = some .globalImplicit) (hl : SL P (e :: es) l) (hs : (e :: es).all notStar = true) (hdb : (x == ("__debug__" : Str)) = false := by decide) :
    SE P (.Call (.Name x p) (e :: es) [] pos) (mCall fs l) := se_call hF (fr.gl hg) fr.tk hl hs hdb
theorem Fra.len (fr : Fra P N sc mg) {e : Expr} {p pos : Pos} {m : Sm} (hg : sc.names.lookup ("len" : Str) = some .globalImplicit) (hm : mg ("len" : Str) = none) (h : SE P e m) (hs : [e].all notStar = true) : SE P (.Call (.Name "len" p) [e] [] pos) (m1 dLen m) :=
  se_callB fr (fun X hX => (fr.K X hX) ▸ call_lenA) n_len hg hm boot_len (sl_cons h sl_nil) hs
theorem Fra.isi (fr : Fra P N sc mg) {a b : Expr} {p pos : Pos} {m k : Sm} (hg : sc.names.lookup ("isinstance" : Str) = some .globalImplicit) (hm : mg ("isinstance" : Str) = none) (h : SE P a m) (g : SE P b k) (hs : [a, b].all notStar = true) : SE P (.Call (.Name "isinstance" p) [a, b] [] pos) (m2 dIsi m k) :=
  se_callB fr (fun X hX => (fr.K X hX) ▸ call_isi) n_isi hg hm boot_isinstance (sl_cons h (sl_cons g sl_nil)) hs
theorem Fra.max2 (fr : Fra P N sc mg) {a b : Expr} {p pos : Pos} {m k : Sm} (hg : sc.names.lookup ("max" : Str) = some .globalImplicit) (hm : mg ("max" : Str) = none) (h : SE P a m) (g : SE P b k) (hs : [a, b].all notStar = true) : SE P (.Call (.Name "max" p) [a, b] [] pos) (m2 dMax m k) :=
  se_callB fr (fun X hX => call_max2 (fr.calm X hX)) (n_I2 (g := fun i j => if j > i then j else i)) hg hm boot_max (sl_cons h (sl_cons g sl_nil)) hs
theorem Fra.min2 (fr : Fra P N sc mg) {a b : Expr} {p pos : Pos} {m k : Sm} (hg : sc.names.lookup ("min" : Str) = some .globalImplicit) (hm : mg ("min" : Str) = none) (h : SE P a m) (g : SE P b k) (hs : [a, b].all notStar = true) : SE P (.Call (.Name "min" p) [a, b] [] pos) (m2 dMin m k) :=
  se_callB fr (fun X hX => call_min2 (fr.calm X hX)) (n_I2 (g := fun i j => if j < i then j else i)) hg hm boot_min (sl_cons h (sl_cons g sl_nil)) hs
theorem Fra.int1 (fr : Fra P N sc mg) {e : Expr} {p pos : Pos} {m : Sm} (hg : sc.names.lookup ("int" : Str) = some .globalImplicit) (hm : mg ("int" : Str) = none) (h : SE P e m) (hs : [e].all notStar = true) : SE P (.Call (.Name "int" p) [e] [] pos) (m1 dInt m) :=
  se_callTy fr (fun X hX => call_int1) n_int hg hm PyProof.Rows.boot_int (sl_cons h sl_nil) hs
theorem Fra.list1 (fr : Fra P N sc mg) {e : Expr} {p pos : Pos} {m : Sm} (hg : sc.names.lookup ("list" : Str) = some .globalImplicit) (hm : mg ("list" : Str) = none) (h : SE P e m) (hs : [e].all notStar = true) : SE P (.Call (.Name "list" p) [e] [] pos) (m1 dList m) :=
  se_callTy fr (fun X hX => (fr.K X hX) ▸ call_list_of) n_list hg hm PyProof.Rows.boot_list (sl_cons h sl_nil) hs
theorem Fra.tuple1 (fr : Fra P N sc mg) {e : Expr} {p pos : Pos} {m : Sm} (hg : sc.names.lookup ("tuple" : Str) = some .globalImplicit) (hm : mg ("tuple" : Str) = none) (h : SE P e m) (hs : [e].all notStar = true) : SE P (.Call (.Name "tuple" p) [e] [] pos) (m1 dTuple m) :=
  se_callTy fr (fun X hX => (fr.K X hX) ▸ call_tuple_of) n_tuple hg hm PyProof.Rows.boot_tuple (sl_cons h sl_nil) hs
theorem Fra.append (fr : Fra P N sc mg) {x : Str} {i : Nat} {e : Expr} {p apos cpos : Pos} {m : Sm} (hN : N[i]? = some x) (hv : Vis sc x) (h : SE P e m) (hs : [e].all notStar = true) (hline : (apos.endLine == cpos.line) = true) (hbase : ∀ env, attributeBase (.Name x p) "append" env (eval (.Name x p) env) = eval (.Name x p) env)
    (hfew : ∀ env, ((backTo cpos (starEach [e] env)).all (fun x => !x.1) && (backToKw cpos (keywordEach [] env)).all (fun x => x.1.isSome)
      && decide ([e].length + ([] : List Keyword).length + (if ([] : List Keyword).isEmpty then 0 else 1) < 30)) = true)
    (hd : (x == ("__debug__" : Str)) = false := by decide) (hc : (x == ("__classdict__" : Str)) = false := by decide) : SE P (.Call (.Attribute (.Name x p) "append" apos) [e] [] cpos) (mMeth "list" i fAppend (lCons (mF m) lNil)) :=
  se_meth fr PySem.F.plainAttrs_list PySem.F.slot_list_append PySem.F.type_list_append (fun _ _ => mt_append) f_append hN hv (sl_cons (se_F h) sl_nil) hs hline hbase hfew hd hc
theorem Fra.rng1 (fr : Fra P N sc mg) {tg a : Expr} {p pos : Pos} {l : Lm} (hg : sc.names.lookup ("range" : Str) = some .globalImplicit) (hm : mg ("range" : Str) = none) (h : SL P [a] l) (hs : [a].all notStar = true) : SI P tg (.Call (.Name "range" p) [a] [] pos) (iInts rng1 l) :=
  si_rng1 (fr.gl hg) (fr.bm hm) h hs
theorem Fra.rng2 (fr : Fra P N sc mg) {tg a b : Expr} {p pos : Pos} {l : Lm} (hg : sc.names.lookup ("range" : Str) = some .globalImplicit) (hm : mg ("range" : Str) = none) (h : SL P [a, b] l) (hs : [a, b].all notStar = true) : SI P tg (.Call (.Name "range" p) [a, b] [] pos) (iInts rng2 l) :=
  si_rng2 (fr.gl hg) (fr.bm hm) h hs
theorem Fra.rng3 (fr : Fra P N sc mg) {tg a b c : Expr} {p pos : Pos} {l : Lm} (hg : sc.names.lookup ("range" : Str) = some .globalImplicit) (hm : mg ("range" : Str) = none) (h : SL P [a, b, c] l) (hs : [a, b, c].all notStar = true) : SI P tg (.Call (.Name "range" p) [a, b, c] [] pos) (iInts rng3 l) :=
  si_rng3 (fr.gl hg) (fr.bm hm) h hs
end
end VM

/-! VMR: list(reversed(range(n))) -/
namespace PySem
open PyProof.Rows
theorem vm_extend_rit {prog : Program} {w : World} {A : Around} {s : Shared} {R : Result → Shared → Prop} {I : Addr} {fp wr : List Addr} {G : Array GenState → Array GenState → Prop} {n : Nat} {P : Nat → Value → Prop} {St : Nat → Shared → Prop}
    (W : WalksS prog w A.in1 I fp wr G n P St) (hT : ∀ i s, St i s → s.TypeIs (.ref I) "range_iterator") (S : Addr) (res : Value) (c₀ : Nat) (hst : St 0 s) (hSf : S ∉ fp) (hI : I ∈ fp)
    (hhint : ∀ (s₁ : Shared) (Q' : Value → Shared → Prop) (E' : Value → Shared → Prop), St 0 s₁ → (∀ k u tk, s₁.toks ≤ tk → Builtin.List.listTooLong (Int.toNat k) = false → Q' (.int k u) { s₁ with toks := tk }) → wpAny (model prog w) A.in1 (call (.builtin "range_iterator.__length_hint__") [.ref I]) Q' E' s₁)
    (hS : s.heap.get? S = some { cls := .type "list", data := .seq #[] c₀ })
    (hR : ∀ s' acc' c', Moved (S :: wr) G s s' → s'.heap.get? S = some { cls := .type "list", dict := none, data := .seq acc' c', slots := #[] } → ItemsOf P acc' n → R (.ok (.ret res)) s') (hn : n ≤ sizeLine) :
    wpAny (model prog w) A.in1 (Builtin.List.listExtendWith (.ref S) (.ref I) res)
      (fun fin s' => match fin with | .done f => R (.ok f) s' | .again c' => c'.quiet = true ∧ codeAny (model prog w) A c' R s') (fun e s' => R (.error e) s') s := by
  have hSI : S ≠ I := fun e => hSf (e ▸ hI)
  have h1 : Builtin.List.listSameRef (.ref S) (.ref I) = false := by simp [Builtin.List.listSameRef, hSI]
  unfold Builtin.List.listExtendWith
  refine wpAny_bind (wpAny_typeOf (hT 0 _ hst) ?_)
  rw [if_neg (by rw [h1]; decide)]
  refine wpAny_bind (W.self 0 _ _ _ hst ?_)
  refine wpAny_bind (wpAny_holding ?_)
  unfold Builtin.List.listLengthHint
  refine wpAny_bind (wpAny_specialOf (hT 0 _ hst) F.nolen_ra ?_)
  show wpAny _ A.in1 (specialOf (Value.ref I) (Str.ofString "__length_hint__") >>= _) _ _ _
  refine wpAny_bind (wpAny_specialOf (hT 0 _ hst) F.hint_ra ?_)
  (generalize hid : ("range_iterator.__length_hint__" : String) = id0; (fail_if_success (clear hid id0)); wp_delta; rw [show splitId id0 = some ("range_iterator", "__length_hint__") from by subst hid; decide +kernel]; subst hid)
  refine wpAny_bind (wpAny_isInstance (b := true) (hT 0 _ hst) (by rw [isSubtype_type]; kernel_rfl) ?_)
  show wpAny _ A.in1 (call (.builtin "range_iterator.__length_hint__") [.ref I] >>= _) _ _ _
  refine wpAny_bind (hhint _ _ _ hst fun k u tk htk hk => ?_)
  refine wpAny_bind (m := asInt? (.int k u)) (wpAny_pure ?_)
  dsimp only
  rw [if_neg (by rw [hk]; decide)]
  refine wpAny_pure ?_
  rw [if_neg (by decide)]
  have hst₂ := W.frame 0 _ _ tk hst htk fun b _ o e => e
  refine wpAny_pure ⟨plainId_quiet F.plain_extend_loop _, codeAny_extend_loopS W hn _ hSf _ n 0 _ _ _ rfl (Nat.zero_le _) hst₂ hS (ItemsOf.nil P) fun s' acc' c' hm hS' hacc => ?_⟩
  exact hR s' acc' c' (Moved.trans W.gtrans ((Moved.refl W.grefl).then_heap htk fun b o hb e => e) hm) hS' hacc
theorem vm_hint {prog : Program} {w : World} {A : Around} {I : Addr} {x left step : Int} {s₁ : Shared} {Q' E' : Value → Shared → Prop} (h : IsRangeIter s₁.heap I x left step) (hQ : Q' (.int left s₁.toks) { s₁ with toks := s₁.toks + 1 }) :
    wpAny (model prog w) A (call (.builtin "range_iterator.__length_hint__") [.ref I]) Q' E' s₁ := by
  have hT : s₁.TypeIs (.ref I) "range_iterator" := ⟨_, h, rfl⟩
  refine wpAny_call_entry F.slot_range_iterator_length_hint hT F.entry_range_iterator_length_hint ?_ (F.args_range_iterator_length_hint_1 _)
  show wpAny _ _ (field (.ref I) 1 >>= _) _ _ _
  refine wpAny_bind (wpAny_field h rfl (x := rawInt left) rfl ?_)
  show wpAny _ _ (mkInt left >>= fun v => ret v) _ _ _
  exact wpAny_bind (wpAny_mkInt (wpAny_pure ⟨_, rfl, hQ⟩))
/-- list(it), it a range's iterator -/
theorem vm_list_rit {prog : Program} {w : World} {A : Around} {E : Value → Shared → Prop} {s : Shared} {I : Addr} {a c : Int} {n : Nat} {Q : Value → Shared → Prop} (hh : A.handled = none) (hit : IsRangeIter s.heap I a n c) (hn : n ≤ 1000)
    (hQ : ∀ (h' : Heap) (tk : Nat) (acc : Array Value) (c' : Nat), (∀ b o, b ≠ I → s.heap.get? b = some o → h'.get? b = some o) → h'.get? s.heap.objs.size = some { cls := .type "list", dict := none, data := .seq acc c', slots := #[] } → ItemsOf (fun i v => ∃ t, v = .int (a + (i : Nat) * c) t) acc n → Q (.ref s.heap.objs.size) { s with heap := h', toks := tk }) :
    wpAny (model prog w) A (call (.type "list") [.ref I]) Q E s := by
  have W := (Walks.range (prog := prog) (w := w) (A := A.in1.in1) hh I a c n).toS
  have hlt : I < s.heap.objs.size := Heap.lt_size hit
  have hst : IsRangeIter s.heap I (a + ((0 : Nat) : Int) * c) ((n : Int) - ((0 : Nat) : Int)) c := by
    rw [show a + ((0 : Nat) : Int) * c = a by simp, show (n : Int) - ((0 : Nat) : Int) = n by simp]; exact hit
  have hSf : s.heap.objs.size ∉ [I] := fun hm => by
    rw [List.mem_singleton] at hm
    exact absurd hm (Nat.ne_of_gt hlt)
  have hz : n ≤ sizeLine := Nat.le_of_lt (L2.small1000 hn)
  refine callType_codes (Q₁ := fun obj s₁ => obj = .ref s.heap.objs.size ∧ s₁ = { s with heap := s.heap.push { cls := .type "list", data := .seq #[] } }) F.called_list (F.typeCall_list_1 _) F.entry_list_init
    (code_list_new _ ⟨rfl, rfl⟩) fun obj s₁ h₁ => ?_
  obtain ⟨rfl, rfl⟩ := h₁
  have hS : (s.heap.push { cls := .type "list", data := .seq #[] }).get? s.heap.objs.size = some { cls := .type "list", data := .seq #[] } := Heap.get?_push_size _ rfl
  refine ⟨⟨_, hS, rfl⟩, F.args_list_init_2 _ _, ?_⟩
  show wpAny _ A.in1.in1 (do let old ← Builtin.List.listItems (.ref s.heap.objs.size); Builtin.List.listUpdate (.ref s.heap.objs.size) (fun _ => #[]); letGo old.toList.reverse; Builtin.List.listExtendWith (.ref s.heap.objs.size) (.ref I) .none) _ _ _
  refine wpAny_bind ?_
  unfold Builtin.List.listItems
  refine wpAny_bind (wpAny_seqItems hS rfl (wpAny_pure ?_))
  show wpAny _ A.in1.in1 (updateSeq s.heap.objs.size (fun _ => #[]) >>= fun _ => letGo (#[] : Array Value).toList.reverse >>= fun _ => Builtin.List.listExtendWith (.ref s.heap.objs.size) (.ref I) .none) _ _ _
  refine wpAny_bind (wpAny_updateSeq hS rfl ?_)
  have hS₂ := Heap.get?_update_self (Obj.mapSeq (fun _ => (#[] : Array Value))) hS rfl
  have oth : ∀ b o, b ≠ s.heap.objs.size → (s.heap.push { cls := .type "list", data := .seq #[] }).get? b = some o → ((s.heap.push { cls := .type "list", data := .seq #[] }).update s.heap.objs.size (Obj.mapSeq (fun _ => (#[] : Array Value)))).get? b = some o :=
    fun b o hb e => (Heap.get?_update_other _ _ (Ne.symm hb)).trans e
  refine wpAny_bind (wpAny_letGo ?_)
  have keep : ∀ b o, s.heap.get? b = some o → ((s.heap.push { cls := .type "list", data := .seq #[] }).update s.heap.objs.size (Obj.mapSeq (fun _ => (#[] : Array Value)))).get? b = some o := fun b o e => oth b o (Nat.ne_of_lt (Heap.lt_size e)) (Heap.get?_push_of_some _ e)
  refine vm_extend_rit (A := A.in1) W (fun i s st => ⟨_, st, rfl⟩) s.heap.objs.size .none _ (keep I _ hst) hSf (by simp) (fun s₁ Q' E' st k => ?_) hS₂ (fun s' acc' c' hm hS' hacc => ?_) hz
  · refine vm_hint st (k _ _ _ (Nat.le_succ _) ?_)
    unfold Builtin.List.listTooLong
    rw [show ((n : Int) - ((0 : Nat) : Int)).toNat = n by omega]
    exact decide_eq_false (Nat.not_lt.mpr hz)
  · refine ⟨rfl, ?_⟩
    have es : s' = { s with heap := s'.heap, toks := s'.toks } := by
      obtain ⟨h1, h2, h3, h4, h5⟩ := hm
      obtain ⟨hp, g, d, tk, os⟩ := s'
      simp only at h2 h3 h4
      rw [h2, h3, h4]
    rw [es]
    exact hQ s'.heap s'.toks acc' c' (fun b o hb e => hm.heap b o (by
      simp only [List.mem_cons, List.mem_singleton, List.not_mem_nil, or_false]
      intro z
      rcases z with z | z
      · exact absurd z (Nat.ne_of_lt (Heap.lt_size e))
      · exact hb z) (keep b o e)) hS' hacc
end PySem
namespace VM
open PySem PySem.Spec PyProof.Rows L2
def asgOk (io : List Bool) (asg : List Nat) : Bool := (List.range io.length).all fun i => !(io[i]? == some true && asg.contains i)
theorem asgOk_ok {io : List Bool} {asg : List Nat} (h : asgOk io asg = true) : ∀ i, io[i]? = some true → i ∉ asg := fun i hi ha => by
  have := List.all_eq_true.mp h i (List.mem_range.mpr (lt_of_get hi))
  rw [hi] at this
  simp at this
  exact this ha
section
variable {P : Pl} {N : List Str} {sc : Scope} {mg : Str → Option Value}
def dRevRange : D → RR
  | .int n => if small62 n && decide (n ≤ 1000) then .ow (.lst (downto ((n.toNat : Int) - 1) n.toNat)) else .no
  | _ => .no
theorem Fra.revRange (fr : Fra P N sc mg) {e : Expr} {p pos p2 pos2 p3 pos3 : Pos} {m : Sm} (hg : sc.names.lookup ("list" : Str) = some .globalImplicit) (hm : mg ("list" : Str) = none) (hg2 : sc.names.lookup ("reversed" : Str) = some .globalImplicit) (hm2 : mg ("reversed" : Str) = none)
    (hg3 : sc.names.lookup ("range" : Str) = some .globalImplicit) (hm3 : mg ("range" : Str) = none) (h : SE P e m) (hs : [e].all notStar = true) :
    SE P (.Call (.Name "list" p) [.Call (.Name "reversed" p2) [.Call (.Name "range" p3) [e] [] pos3] [] pos2] [] pos) (m1 dRevRange m) := by
  obtain ⟨t, q, f⟩ := h
  have n1 : notStar e = true := by simpa using hs
  refine ⟨fun σ H Q => tRg1 t σ H fun a b H1 => a = 0 ∧ small62 b = true ∧ b ≤ 1000 ∧ ∀ l, H1 l = none → Q (.ref l) (upd H1 l (.lst ((List.range b.toNat).map fun (i : Nat) => V.int ((b.toNat : Int) - 1 + i * (-1))))), fun X hX => ?_, ?_⟩
  · refine ⟨fun pins s σ H Q I h => ?_⟩
    refine Call_ (ld_blt I (fr.gl hg X hX) (fr.bm hm X hX) PyProof.Rows.boot_list (PyProof.Rows.callWith_type1 (args_cons (Call_ (ld_blt I (fr.gl hg2 X hX) (fr.bm hm2 X hX) PyProof.Rows.boot_reversed (PyProof.Rows.callWith_type1 (args_cons (thn (prg_1 (fr.gl hg3 X hX) (fr.bm hm3 X hX) (q X hX) (star_ok n1) pins s σ H _ I h) fun u s1 hx => args_nil ?_) (star_ok rfl)) (star_ok rfl) rfl))) (star_ok rfl)) (star_ok rfl) rfl))
    obtain ⟨r, a, b, t1, u1, v1, H1, rfl, hr, I1, rfl, hz, hn, k⟩ := hx
    obtain ⟨z1, z2⟩ := small62_iff hz
    refine call_reversed_range hr (smallRev_one (by decide) (by decide) z1 z2) (args_nil ?_)
    have hsz : Builtin.Range.rangeSize 0 b 1 = (((b - 0).toNat : Nat) : Int) := rangeSize_nat 0 b
    have hb0 : (b - 0).toNat = b.toNat := by rw [Int.sub_zero]
    rw [hb0] at hsz
    have hit : IsRangeIter (s1.heap.push (rngRevObj 0 b 1)) s1.heap.objs.size ((b.toNat : Int) - 1) (b.toNat : Nat) (-1) := by
      have e1 : ((b.toNat : Int) - 1) = 0 + (Builtin.Range.rangeSize 0 b 1 - 1) * 1 := by rw [hsz]; omega
      rw [e1, ← hsz]
      exact Heap.get?_push_size _ rfl
    refine vm_list_rit (s := { s1 with heap := s1.heap.push (rngRevObj 0 b 1) }) (I1.ok.hd (fr.calm X hX)) hit (by omega) fun h' tk acc c' hk hS hi => ?_
    have vs : Vals ((List.range b.toNat).map fun (i : Nat) => V.int ((b.toNat : Int) - 1 + i * (-1))) acc.toList := by
      have hl : acc.toList.length = b.toNat := by rw [Array.length_toList, hi.1]
      have := vals_of_get acc.toList (fun i => V.int ((b.toNat : Int) - 1 + (i : Nat) * (-1))) fun j u hu => by
        obtain ⟨t, rfl⟩ := hi.2 j u (by rw [← Array.getElem?_toList]; exact hu)
        exact ⟨t, rfl⟩
      rwa [hl] at this
    refine ⟨.ref _, upd H1 (s1.heap.push (rngRevObj 0 b 1)).objs.size (.lst ((List.range b.toNat).map fun (i : Nat) => V.int ((b.toNat : Int) - 1 + i * (-1)))), I1.laid (t' := tk) (fun c o e => hk c o (Nat.ne_of_lt (Heap.lt_size e)) (Heap.get?_push_of_some _ e)) (by rw [Heap.size_push]; exact Nat.le_succ _) (show ObjOk X.prog X.w _ _ _ (.lst _) from ⟨?_, acc.toList, c', vs, ?_⟩), rfl, k _ (I1.hok.fresh (by rw [Heap.size_push]; exact Nat.le_succ _))⟩
    · rw [List.length_map, List.length_range]
      exact Nat.le_of_lt (small1000 (by omega))
    · rw [Array.toArray_toList]; exact hS
  · intro n IO H0 Hf σ tv env te H S
    have h1 := f n IO H0 Hf σ tv env te H S
    show match m1 dRevRange m env with | .ok s env' => _ | .ex c d env' => _ | .no => _
    unfold m1 mN lCons lNil
    cases em : m env with
    | no => trivial
    | ex c d e1 => rw [em] at h1; exact fun w Q => h1 w _
    | ok s e1 =>
      rw [em] at h1
      dsimp only
      unfold derefs derefs
      cases ed : deref e1 s with
      | none => trivial
      | some d =>
        dsimp only
        unfold f1
        dsimp only
        cases d with
        | int k =>
          unfold dRevRange
          dsimp only
          by_cases hk : (small62 k && decide (k ≤ 1000)) = true
          · rw [if_pos hk]
            rw [Bool.and_eq_true, decide_eq_true_eq] at hk
            refine fun Q q => h1 _ fun v Hf1 H1 s1 S1 => ?_
            have pv := S1.last S.l2 ed
            refine ⟨k, pv.int, rfl, hk.1, hk.2, fun l hl => q _ Hf1 _ s1 (S1.pop.push_ow hl ⟨_, rfl, ?_⟩)⟩
            unfold downto
            exact Reps.ofMap (fun i => .int) _
          · rw [if_neg hk]; trivial
        | _ => trivial
end
end VM

/-! VMS: words for the plain laws -/
namespace VM
open PySem PySem.Spec PyProof.Rows L2

theorem xSeq_nx {a b : Sx} {e e1 : Env} (h : a.run e = .nx e1) : (xSeq a b).run e = b.run e1 := by
  show (match a.run e with | .nx e1 => b.run e1 | r => r) = _
  rw [h]
theorem xSeq_rt {a b : Sx} {e e1 : Env} {s : Slot} (h : a.run e = .rt s e1) : (xSeq a b).run e = .rt s e1 := by
  show (match a.run e with | .nx e1 => b.run e1 | r => r) = _
  rw [h]
theorem xAsg_sh {m : Sm} {g : Tgt} {e e1 e2 : Env} {d : D} (h : m e = .ok ⟨.sh, d⟩ e1) (hg : g.run ⟨.sh, d⟩ e1 = some e2) : (xAsg m g).run e = .nx e2 := by
  show (match mE m e with | .ok s e1 => (match g.run s e1 with | some e2 => SA.nx e2 | none => .no) | .ex c d e1 => .ex c d e1 | .no => .no) = _
  have : mE m e = .ok ⟨.sh, d⟩ e1 := by unfold mE mF; rw [h]
  rw [this]
  dsimp only
  rw [hg]
theorem xAsg_ow {m : Sm} {g : Tgt} {e e1 e2 : Env} {d : D} (h : m e = .ok ⟨.ow, d⟩ e1) (hg : g.run ⟨.ow, d⟩ e1 = some e2) : (xAsg m g).run e = .nx e2 := by
  show (match mE m e with | .ok s e1 => (match g.run s e1 with | some e2 => SA.nx e2 | none => .no) | .ex c d e1 => .ex c d e1 | .no => .no) = _
  have : mE m e = .ok ⟨.ow, d⟩ e1 := by unfold mE; rw [h]
  rw [this]
  dsimp only
  rw [hg]
theorem xIf_t {c : Tm} {a b : Sx} {e e1 : Env} (h : c e = .ok true e1) : (xIf c a b).run e = a.run e1 := by
  show (match c e with | .ok true e1 => a.run e1 | .ok false e1 => b.run e1 | .ex c d e1 => .ex c d e1 | .no => .no) = _
  rw [h]
theorem xIf_f {c : Tm} {a b : Sx} {e e1 : Env} (h : c e = .ok false e1) : (xIf c a b).run e = b.run e1 := by
  show (match c e with | .ok true e1 => a.run e1 | .ok false e1 => b.run e1 | .ex c d e1 => .ex c d e1 | .no => .no) = _
  rw [h]
theorem xRet_sh {m : Sm} {e e1 : Env} {d : D} (h : m e = .ok ⟨.sh, d⟩ e1) : (xRet m).run e = .rt ⟨.sh, d⟩ e1 := by
  unfold xRet
  dsimp only
  rw [h]
theorem xRet_ow {m : Sm} {e e1 : Env} {d : D} (h : m e = .ok ⟨.ow, d⟩ e1) : (xRet m).run e = .rt ⟨.ow, d⟩ e1 := by
  unfold xRet
  dsimp only
  rw [h]
theorem xExpr_ok {m : Sm} {e e1 : Env} {s : Slot} (h : m e = .ok s e1) : (xExpr m).run e = .nx e1 := by
  unfold xExpr
  dsimp only
  rw [h]
theorem xFor_ok {i : Im} {g : Tgt} {b : Sx} {e e1 : Env} {ds : List D} (h : i e = .ok ds e1) : (xFor i g b).run e = forD g b ds e1 := by
  unfold xFor
  dsimp only
  rw [h]
theorem mT_sh {m : Sm} {e e1 : Env} {d : D} (h : m e = .ok ⟨.sh, d⟩ e1) : mT m e = .ok ⟨.sh, d⟩ e1 := by unfold mT; rw [h]
theorem mT_ow {m : Sm} {e e1 : Env} {d : D} (h : m e = .ok ⟨.ow, d⟩ e1) : mT m e = .ok ⟨.sh, d⟩ e1 := by unfold mT; rw [h]
theorem mT_al {m : Sm} {e e1 : Env} {j : Nat} {d : D} (h : m e = .ok ⟨.al j, d⟩ e1) : mT m e = .ok ⟨.al j, d⟩ e1 := by unfold mT; rw [h]
/-- a loop over what is walked, its state by the turns done -/
theorem forD_inv {g : Tgt} {b : Sx} (I : Nat → Env → Prop) : ∀ {ds : List D} {e : Env} (k : Nat), I k e → (∀ i d e, ds[i]? = some d → I (k + i) e → ∃ e1 e2, g.run ⟨.sh, d⟩ e = some e1 ∧ (b.run e1 = .nx e2 ∨ b.run e1 = .ct e2) ∧ I (k + i + 1) e2) → ∃ e', forD g b ds e = .nx e' ∧ I (k + ds.length) e'
  | [], e, k, h, _ => ⟨e, rfl, h⟩
  | d :: r, e, k, h, st => by
    obtain ⟨e1, e2, h1, h2, h3⟩ := st 0 d e rfl h
    obtain ⟨e', g1, g2⟩ := forD_inv I (ds := r) (e := e2) (k + 1) h3 fun i d' e0 hi hI => by
      have := st (i + 1) d' e0 hi (by rwa [Nat.add_assoc, Nat.add_comm 1 i] at hI)
      rwa [show k + (i + 1) + 1 = k + 1 + i + 1 by omega] at this
    refine ⟨e', ?_, by rwa [List.length_cons, show k + (r.length + 1) = k + 1 + r.length by omega]⟩
    unfold forD
    rw [h1]
    rcases h2 with h2 | h2
    · dsimp only; rw [h2]; exact g1
    · dsimp only; rw [h2]; exact g1
/-- a while, by a measure -/
theorem while_inv {c : Tm} {b : Sx} (I : Env → Prop) (post : Env → Prop) (μ : Env → Nat) (st : ∀ e, I e → (∃ e1, c e = .ok false e1 ∧ post e1) ∨ ∃ e1 e2, c e = .ok true e1 ∧ (b.run e1 = .nx e2 ∨ b.run e1 = .ct e2) ∧ I e2 ∧ μ e2 < μ e) {e : Env} (h : I e) : ∃ e', (xWhile c b).run e = .nx e' ∧ post e' := by
  have key : ∀ (n : Nat) (e : Env), μ e ≤ n → I e → ∃ e', whileN c b (n + 1) e = .nx e' ∧ post e' := by
    intro n
    induction n with
    | zero =>
      intro e hn hI
      rcases st e hI with ⟨e1, h1, h2⟩ | ⟨e1, e2, _, _, _, h4⟩
      · exact ⟨e1, by rw [whileN, h1], h2⟩
      · omega
    | succ n ih =>
      intro e hn hI
      rcases st e hI with ⟨e1, h1, h2⟩ | ⟨e1, e2, h1, h2, h3, h4⟩
      · exact ⟨e1, by rw [whileN, h1], h2⟩
      · obtain ⟨e', g1, g2⟩ := ih e2 (by omega) h3
        refine ⟨e', ?_, g2⟩
        rw [whileN, h1]
        dsimp only
        rcases h2 with h2 | h2 <;> (rw [h2]; exact g1)
  obtain ⟨e', h1, h2⟩ := key (μ e) e (Nat.le_refl _) h
  exact ⟨e', by rw [xWhile_eq (k := μ e + 1) (by rw [h1]; intro z; cases z), h1], h2⟩

/-! ### calls -/
def own (b : Bool) : M := if b then .ow else .sh
theorem call1_sh {fs : FS} {d r : D} {ob : Bool} {o : List D} {e : Env} (hio : fs.io = [false]) (h : fs.F [d] = .ok ob r o) (ho : o.length = 1) : callS fs [⟨.sh, d⟩] e = .ok ⟨own ob, r⟩ e := by
  match o, ho with
  | [x], _ =>
    unfold callS callW
    simp [hio, argsOk, argOk, derefs, deref, h, writeBack, own]
theorem call1_al {fs : FS} {d r x : D} {j : Nat} {ob : Bool} {o : List D} {e : Env} (hio : fs.io = [false]) (hj : e[j]? = some (ow d)) (h : fs.F [d] = .ok ob r o) (ho : o.length = 1) (hc : clean ob r = true) : callS fs [⟨.al j, x⟩] e = .ok ⟨own ob, r⟩ e := by
  match o, ho with
  | [y], _ =>
    unfold callS callW
    simp [hio, argsOk, argOk, derefs, deref, hj, h, writeBack, own, M.mut, hc, outsClean]
theorem call2_sh {fs : FS} {d1 d2 r : D} {ob : Bool} {o : List D} {e : Env} (hio : fs.io = [false, false]) (h : fs.F [d1, d2] = .ok ob r o) (ho : o.length = 2) : callS fs [⟨.sh, d1⟩, ⟨.sh, d2⟩] e = .ok ⟨own ob, r⟩ e := by
  match o, ho with
  | [x, y], _ =>
    unfold callS callW
    simp [hio, argsOk, argOk, derefs, deref, h, writeBack, own]
theorem call2_io {fs : FS} {d d' k x r y : D} {m : M} {j : Nat} {ob : Bool} {e : Env} (hio : fs.io = [true, false]) (hj : e[j]? = some (some ⟨m, d⟩)) (hm : m.mut = true) (h : fs.F [d, k] = .ok ob r [d', y]) : callS fs [⟨.al j, x⟩, ⟨.sh, k⟩] e = .ok ⟨own ob, r⟩ (e.set j (some ⟨m, d'⟩)) := by
  unfold callS callW
  simp [hio, argsOk, argOk, derefs, deref, hj, h, writeBack, own, hm]
theorem call1_iow {fs : FS} {d d' r : D} {ob : Bool} {e : Env} (hio : fs.io = [true]) (h : fs.F [d] = .ok ob r [d']) : callS fs [⟨.ow, d⟩] e = .ok ⟨own ob, r⟩ e := by
  unfold callS callW
  simp [hio, argsOk, argOk, derefs, deref, h, writeBack, own]
theorem mCall_1 {fs : FS} {a : Sm} {s : Slot} {e e1 : Env} (h : a e = .ok s e1) : mCall fs (lCons a lNil) e = callS fs [s] e1 := by
  unfold mCall lCons lNil
  rw [h]
theorem mCall_2 {fs : FS} {a b : Sm} {s t : Slot} {e e1 e2 : Env} (h : a e = .ok s e1) (g : b e1 = .ok t e2) : mCall fs (lCons a (lCons b lNil)) e = callS fs [s, t] e2 := by
  unfold mCall lCons lNil
  rw [h]
  dsimp only
  rw [g]

/-! ### ints -/
theorem pys_ints : ∀ is : List Int, D.pys (is.map D.int) = some (is.map PyData.int)
  | [] => rfl
  | i :: is => by
    show (match D.py (.int i), D.pys (is.map D.int) with | some a, some as => some (a :: as) | _, _ => none) = _
    rw [pys_ints is]
    rfl
theorem lay_ints : ∀ is : List Int, PyData.canLayAll0 (is.map PyData.int) = true
  | [] => rfl
  | i :: is => by
    show (PyData.canLay0 (.int i) && PyData.canLayAll0 (is.map PyData.int)) = true
    rw [lay_ints is]; rfl
theorem depth_ints : ∀ is : List Int, PyData.depthAll (is.map PyData.int) ≤ 1
  | [] => by decide
  | i :: is => by
    have h := depth_ints is
    show max (PyData.depth (.int i)) (PyData.depthAll (is.map PyData.int)) ≤ 1
    have : PyData.depth (.int i) = 0 ∨ PyData.depth (.int i) = 1 := by first | exact .inl rfl | exact .inr rfl
    omega
theorem shaped_int {i : Int} : SeqAt.shaped (.int i) = true := rfl
theorem shaped_ints (is : List Int) : SeqAt.shaped (.list (is.map PyData.int)) = true := by
  unfold SeqAt.shaped
  rw [Bool.and_eq_true]
  refine ⟨lay_ints is, decide_eq_true ?_⟩
  have h := depth_ints is
  have : PyData.depth (.list (is.map PyData.int)) = PyData.depthAll (is.map PyData.int) + 1 ∨ PyData.depth (.list (is.map PyData.int)) = PyData.depthAll (is.map PyData.int) := by first | exact .inl rfl | exact .inr rfl | exact .inl (Nat.add_comm _ _)
  omega
theorem eqvAll_ints : ∀ is js : List Int, PyData.eqvAll (is.map PyData.int) (js.map PyData.int) = decide (is = js)
  | [], [] => rfl
  | [], _ :: _ => rfl
  | _ :: _, [] => rfl
  | i :: is, j :: js => by
    show (PyData.eqv (.int i) (.int j) && PyData.eqvAll (is.map PyData.int) (js.map PyData.int)) = _
    rw [eqvAll_ints is js]
    show ((i == j) && decide (is = js)) = _
    by_cases h : i = j
    · subst h; simp
    · simp [h]
theorem any_ints (i : Int) : ∀ is : List Int, ((is.map PyData.int).any fun z => PyData.eqv z (.int i)) = decide (i ∈ is)
  | [] => rfl
  | j :: is => by
    rw [List.map_cons, List.any_cons, any_ints i is]
    show ((j == i) || decide (i ∈ is)) = _
    by_cases h : j = i
    · subst h; simp
    · have : i ≠ j := Ne.symm h
      simp [h, this]
theorem dIn_ints (i : Int) (is : List Int) : dInL false (.int i) (.lst (is.map D.int)) = .sh (.bl (decide (i ∈ is))) := by
  unfold dInL
  have h1 : D.py (.int i) = some (.int i) := rfl
  have h2 : D.py (.lst (is.map D.int)) = some (.list (is.map PyData.int)) := by
    show (D.pys (is.map D.int)).map PyData.list = _
    rw [pys_ints]; rfl
  rw [h1, h2]
  dsimp only
  rw [shaped_int, shaped_ints, any_ints]
  rfl
theorem dEq_int (i j : Int) : dEq (.int i) (.int j) = .sh (.bl (decide (i = j))) := by
  show RR.sh (.bl (if false = true then !(i == j) else i == j)) = _
  by_cases h : i = j
  · subst h; simp
  · simp [h]
theorem dEqv_ints (b : Bool) (is js : List Int) : dEqv b (.lst (is.map D.int)) (.lst (js.map D.int)) = .sh (.bl (if b then !decide (is = js) else decide (is = js))) := by
  unfold dEqv
  have h2 : ∀ is : List Int, D.py (.lst (is.map D.int)) = some (.list (is.map PyData.int)) := fun is => by
    show (D.pys (is.map D.int)).map PyData.list = _
    rw [pys_ints]; rfl
  rw [h2, h2]
  dsimp only
  rw [shaped_ints, shaped_ints]
  have : PyData.eqv (.list (is.map PyData.int)) (.list (js.map PyData.int)) = decide (is = js) := eqvAll_ints is js
  rw [this]
  rfl
theorem dNe_ints2 (is js : List Int) : dNe (.lst [.lst (is.map D.int), .lst (js.map D.int)]) (.lst [.lst (is.map D.int), .lst (js.map D.int)]) = .sh (.bl false) := by
  have h2 : ∀ is : List Int, D.py (.lst (is.map D.int)) = some (.list (is.map PyData.int)) := fun is => by
    show (D.pys (is.map D.int)).map PyData.list = _
    rw [pys_ints]; rfl
  have h3 : D.py (.lst [.lst (is.map D.int), .lst (js.map D.int)]) = some (.list [.list (is.map PyData.int), .list (js.map PyData.int)]) := by
    show (match D.py (.lst (is.map D.int)), D.pys [.lst (js.map D.int)] with | some a, some as => some (a :: as) | _, _ => none).map PyData.list = _
    rw [h2]
    show (match some (PyData.list (is.map PyData.int)), (match D.py (.lst (js.map D.int)), D.pys [] with | some a, some as => some (a :: as) | _, _ => none) with | some a, some as => some (a :: as) | _, _ => none).map PyData.list = _
    rw [h2]
    rfl
  have sh : SeqAt.shaped (.list [.list (is.map PyData.int), .list (js.map PyData.int)]) = true := by
    unfold SeqAt.shaped
    rw [Bool.and_eq_true]
    constructor
    · show (PyData.canLayAll0 (is.map PyData.int) && (PyData.canLayAll0 (js.map PyData.int) && true)) = true
      rw [lay_ints, lay_ints]; rfl
    · refine decide_eq_true ?_
      have a := depth_ints is
      have b := depth_ints js
      simp only [PyData.depth, PyData.depthAll]
      omega
  show dEqv true _ _ = _
  unfold dEqv
  rw [h3]
  dsimp only
  rw [sh]
  have : PyData.eqv (.list [.list (is.map PyData.int), .list (js.map PyData.int)]) (.list [.list (is.map PyData.int), .list (js.map PyData.int)]) = true := by
    show (PyData.eqvAll (is.map PyData.int) (is.map PyData.int) && (PyData.eqvAll (js.map PyData.int) (js.map PyData.int) && true)) = true
    rw [eqvAll_ints, eqvAll_ints]
    simp
  rw [this]
  rfl
theorem nat_or_and : ∀ (n a b : Nat), a ≤ n → (a ||| b) + (a &&& b) = a + b
  | 0, a, b, h => by
    have : a = 0 := by omega
    subst this; simp
  | n + 1, a, b, h => by
    by_cases h0 : a = 0
    · subst h0; simp
    have ih := nat_or_and n (a / 2) (b / 2) (by omega)
    have e1 : (a ||| b) / 2 = a / 2 ||| b / 2 := Nat.or_div_two
    have e2 : (a &&& b) / 2 = a / 2 &&& b / 2 := Nat.and_div_two
    have m1 : (a ||| b) % 2 = a % 2 ||| b % 2 := by have := Nat.or_mod_two_pow (a := a) (b := b) (n := 1); simpa using this
    have m2 : (a &&& b) % 2 = a % 2 &&& b % 2 := by have := Nat.and_mod_two_pow (a := a) (b := b) (n := 1); simpa using this
    have c : (a % 2 ||| b % 2) + (a % 2 &&& b % 2) = a % 2 + b % 2 := by
      have ha : a % 2 = 0 ∨ a % 2 = 1 := by omega
      have hb : b % 2 = 0 ∨ b % 2 = 1 := by omega
      rcases ha with ha | ha <;> rcases hb with hb | hb <;> rw [ha, hb] <;> rfl
    omega
theorem nat_xor_and : ∀ (n a b : Nat), a ≤ n → (a ^^^ b) + 2 * (a &&& b) = a + b
  | 0, a, b, h => by
    have : a = 0 := by omega
    subst this; simp
  | n + 1, a, b, h => by
    by_cases h0 : a = 0
    · subst h0; simp
    have ih := nat_xor_and n (a / 2) (b / 2) (by omega)
    have e1 : (a ^^^ b) / 2 = a / 2 ^^^ b / 2 := Nat.xor_div_two
    have e2 : (a &&& b) / 2 = a / 2 &&& b / 2 := Nat.and_div_two
    have m1 : (a ^^^ b) % 2 = a % 2 ^^^ b % 2 := by have := Nat.xor_mod_two_pow (a := a) (b := b) (n := 1); simpa using this
    have m2 : (a &&& b) % 2 = a % 2 &&& b % 2 := by have := Nat.and_mod_two_pow (a := a) (b := b) (n := 1); simpa using this
    have c : (a % 2 ^^^ b % 2) + 2 * (a % 2 &&& b % 2) = a % 2 + b % 2 := by
      have ha : a % 2 = 0 ∨ a % 2 = 1 := by omega
      have hb : b % 2 = 0 ∨ b % 2 = 1 := by omega
      rcases ha with ha | ha <;> rcases hb with hb | hb <;> rw [ha, hb] <;> rfl
    omega
theorem bAnd_nat (a b : Nat) : Builtin.bitAnd (a : Int) (b : Int) = ((a &&& b : Nat) : Int) := PySem.W.os_band a b
theorem bOr_nat (a b : Nat) : Builtin.bitOr (a : Int) (b : Int) = ((a ||| b : Nat) : Int) := by
  have h := bitOr_and (a : Int) (b : Int)
  have h2 := nat_or_and a a b (Nat.le_refl _)
  rw [bAnd_nat] at h
  omega
theorem bXor_nat (a b : Nat) : Builtin.bitXor (a : Int) (b : Int) = ((a ^^^ b : Nat) : Int) := by
  have h := bitXor_and (a : Int) (b : Int)
  have h2 := nat_xor_and a a b (Nat.le_refl _)
  rw [bAnd_nat] at h
  omega
/-! ### evaluation -/
theorem m2_ok {f : D → D → RR} {a b : Sm} {e e1 e2 : Env} {s1 s2 : Slot} {d1 d2 r : D} (ha : a e = .ok s1 e1) (hb : b e1 = .ok s2 e2) (h1 : deref e2 s1 = some d1) (h2 : deref e2 s2 = some d2) (hf : f d1 d2 = .sh r) : m2 f a b e = .ok ⟨.sh, r⟩ e2 := by
  unfold m2 mN lCons lNil
  rw [ha]
  dsimp only
  rw [hb]
  dsimp only
  unfold derefs derefs derefs
  rw [h1, h2]
  show (f d1 d2).ans e2 = _
  rw [hf]
  rfl
theorem m1_ok {f : D → RR} {a : Sm} {e e1 : Env} {s1 : Slot} {d1 r : D} (ha : a e = .ok s1 e1) (h1 : deref e1 s1 = some d1) (hf : f d1 = .sh r) : m1 f a e = .ok ⟨.sh, r⟩ e1 := by
  unfold m1 mN lCons lNil
  rw [ha]
  dsimp only
  unfold derefs derefs
  rw [h1]
  show (f d1).ans e1 = _
  rw [hf]
  rfl
theorem m1_ow {f : D → RR} {a : Sm} {e e1 : Env} {s1 : Slot} {d1 r : D} (ha : a e = .ok s1 e1) (h1 : deref e1 s1 = some d1) (hf : f d1 = .ow r) : m1 f a e = .ok ⟨.ow, r⟩ e1 := by
  unfold m1 mN lCons lNil
  rw [ha]
  dsimp only
  unfold derefs derefs
  rw [h1]
  show (f d1).ans e1 = _
  rw [hf]
  rfl
theorem mBl_ok {m : Sm} {e e1 : Env} {b : Bool} (h : m e = .ok ⟨.sh, .bl b⟩ e1) : mBl m e = .ok b e1 := by
  unfold mBl
  rw [h]
  rfl
theorem mTru_bl {m : Sm} {e e1 : Env} {b : Bool} (h : m e = .ok ⟨.sh, .bl b⟩ e1) : mTru m e = .ok b e1 := by
  unfold mTru
  rw [h]
  rfl
theorem tmNot_ok {m : Tm} {e e1 : Env} {b : Bool} (h : m e = .ok b e1) : tmNot m e = .ok (!b) e1 := by
  unfold tmNot
  rw [h]
theorem tmOr_f {a b : Tm} {e e1 : Env} (h : a e = .ok false e1) : tmOr a b e = b e1 := by
  unfold tmOr
  rw [h]
theorem tmOr_t {a b : Tm} {e e1 : Env} (h : a e = .ok true e1) : tmOr a b e = .ok true e1 := by
  unfold tmOr
  rw [h]
theorem mF_sh' {m : Sm} {e e1 : Env} {d : D} (h : m e = .ok ⟨.sh, d⟩ e1) : mF m e = .ok ⟨.sh, d⟩ e1 := by unfold mF; rw [h]
theorem mF_ow' {m : Sm} {e e1 : Env} {d : D} (h : m e = .ok ⟨.ow, d⟩ e1) : mF m e = .ok ⟨.sh, d⟩ e1 := by unfold mF; rw [h]
theorem lCons_ok {a : Sm} {r : Lm} {e e1 e2 : Env} {s : Slot} {ss : List Slot} (h : a e = .ok s e1) (g : r e1 = .ok ss e2) : lCons a r e = .ok (s :: ss) e2 := by
  unfold lCons
  rw [h]
  dsimp only
  rw [g]
theorem mLst_ok {l : Lm} {e e1 : Env} {ss : List Slot} {ds : List D} (h : l e = .ok ss e1) (hs : shs ss = some ds) (hl : ds.length ≤ 1000) : mLst l e = .ok ⟨.ow, .lst ds⟩ e1 := by
  unfold mLst
  rw [h]
  dsimp only
  rw [hs]
  dsimp only
  rw [if_pos hl]
theorem bodyF_sh {io : List Bool} {m : Sx} {n : Nat} {ds o : List D} {d : D} {e : Env} (h : m.run (env0 io ds n) = .rt ⟨.sh, d⟩ e) (ho : outsAt e io ds 0 = some o) : bodyF io m n ds = .ok false d o := by
  unfold bodyF
  rw [h]
  dsimp only
  rw [ho]
theorem bodyF_ow {io : List Bool} {m : Sx} {n : Nat} {ds o : List D} {d : D} {e : Env} (h : m.run (env0 io ds n) = .rt ⟨.ow, d⟩ e) (ho : outsAt e io ds 0 = some o) : bodyF io m n ds = .ok true d o := by
  unfold bodyF
  rw [h]
  dsimp only
  rw [ho]
theorem bodyF_nx {io : List Bool} {m : Sx} {n : Nat} {ds o : List D} {e : Env} (h : m.run (env0 io ds n) = .nx e) (ho : outsAt e io ds 0 = some o) : bodyF io m n ds = .ok false .non o := by
  unfold bodyF
  rw [h]
  dsimp only
  rw [ho]
abbrev nD (n : Nat) : D := .int (n : Int)
def lN (ns : List Nat) : D := .lst ((ns.map fun (n : Nat) => (n : Int)).map D.int)
theorem lN_len (ns : List Nat) : ((ns.map fun (n : Nat) => (n : Int)).map D.int).length = ns.length := by simp
theorem mem_nI {n : Nat} {ns : List Nat} : (n : Int) ∈ ns.map (fun (n : Nat) => (n : Int)) ↔ n ∈ ns := by
  constructor
  · intro h
    obtain ⟨m, hm, e⟩ := List.mem_map.mp h
    have : m = n := by omega
    exact this ▸ hm
  · exact fun h => List.mem_map.mpr ⟨n, h, rfl⟩
theorem nI_inj {ns ms : List Nat} : (ns.map fun (n : Nat) => (n : Int)) = (ms.map fun (n : Nat) => (n : Int)) ↔ ns = ms := by
  constructor
  · intro h
    induction ns generalizing ms with
    | nil => cases ms with
      | nil => rfl
      | cons _ _ => cases h
    | cons a ns ih =>
      cases ms with
      | nil => cases h
      | cons b ms =>
        simp only [List.map_cons, List.cons.injEq] at h
        rw [ih h.2, show a = b by omega]
  · exact fun h => by rw [h]
/-! ### ints -/
theorem m2_add {a b : Sm} {e e1 e2 : Env} {i j : Int} (ha : a e = .ok ⟨.sh, .int i⟩ e1) (hb : b e1 = .ok ⟨.sh, .int j⟩ e2) : m2 dAdd a b e = .ok ⟨.sh, .int (i + j)⟩ e2 := m2_ok ha hb rfl rfl rfl
theorem m2_sub {a b : Sm} {e e1 e2 : Env} {i j : Int} (ha : a e = .ok ⟨.sh, .int i⟩ e1) (hb : b e1 = .ok ⟨.sh, .int j⟩ e2) : m2 dSub a b e = .ok ⟨.sh, .int (i - j)⟩ e2 := m2_ok ha hb rfl rfl rfl
theorem m2_mul {a b : Sm} {e e1 e2 : Env} {i j : Int} (ha : a e = .ok ⟨.sh, .int i⟩ e1) (hb : b e1 = .ok ⟨.sh, .int j⟩ e2) (hc : cMul i j = true) : m2 dMul a b e = .ok ⟨.sh, .int (i * j)⟩ e2 := m2_ok ha hb rfl rfl (if_pos hc)
theorem m2_div {a b : Sm} {e e1 e2 : Env} {i j : Int} (ha : a e = .ok ⟨.sh, .int i⟩ e1) (hb : b e1 = .ok ⟨.sh, .int j⟩ e2) (hc : cDiv i j = true) : m2 dDiv a b e = .ok ⟨.sh, .int (i / j)⟩ e2 := m2_ok ha hb rfl rfl (if_pos hc)
theorem m2_mod {a b : Sm} {e e1 e2 : Env} {i j : Int} (ha : a e = .ok ⟨.sh, .int i⟩ e1) (hb : b e1 = .ok ⟨.sh, .int j⟩ e2) (hc : 0 < j) : m2 dMod a b e = .ok ⟨.sh, .int (i % j)⟩ e2 := m2_ok ha hb rfl rfl (if_pos (decide_eq_true hc))
theorem m2_pow {a b : Sm} {e e1 e2 : Env} {i j : Int} (ha : a e = .ok ⟨.sh, .int i⟩ e1) (hb : b e1 = .ok ⟨.sh, .int j⟩ e2) (hc : cPow i j = true) : m2 dPow a b e = .ok ⟨.sh, .int (i ^ j.toNat)⟩ e2 := m2_ok ha hb rfl rfl (if_pos hc)
theorem m2_shl {a b : Sm} {e e1 e2 : Env} {i j : Int} (ha : a e = .ok ⟨.sh, .int i⟩ e1) (hb : b e1 = .ok ⟨.sh, .int j⟩ e2) (hc : cPow i j = true) : m2 dShl a b e = .ok ⟨.sh, .int (i * 2 ^ j.toNat)⟩ e2 := m2_ok ha hb rfl rfl (if_pos hc)
theorem m2_shr {a b : Sm} {e e1 e2 : Env} {i j : Int} (ha : a e = .ok ⟨.sh, .int i⟩ e1) (hb : b e1 = .ok ⟨.sh, .int j⟩ e2) (hc : 0 ≤ j) : m2 dShr a b e = .ok ⟨.sh, .int (i / 2 ^ j.toNat)⟩ e2 := m2_ok ha hb rfl rfl (if_pos (decide_eq_true hc))
theorem m2_band {a b : Sm} {e e1 e2 : Env} {i j : Int} (ha : a e = .ok ⟨.sh, .int i⟩ e1) (hb : b e1 = .ok ⟨.sh, .int j⟩ e2) : m2 dAnd a b e = .ok ⟨.sh, .int (Builtin.bitAnd i j)⟩ e2 := m2_ok ha hb rfl rfl rfl
theorem m2_bor {a b : Sm} {e e1 e2 : Env} {i j : Int} (ha : a e = .ok ⟨.sh, .int i⟩ e1) (hb : b e1 = .ok ⟨.sh, .int j⟩ e2) : m2 dOr a b e = .ok ⟨.sh, .int (Builtin.bitOr i j)⟩ e2 := m2_ok ha hb rfl rfl rfl
theorem m2_xor {a b : Sm} {e e1 e2 : Env} {i j : Int} (ha : a e = .ok ⟨.sh, .int i⟩ e1) (hb : b e1 = .ok ⟨.sh, .int j⟩ e2) : m2 dXor a b e = .ok ⟨.sh, .int (Builtin.bitXor i j)⟩ e2 := m2_ok ha hb rfl rfl rfl
theorem m2_lt {a b : Sm} {e e1 e2 : Env} {i j : Int} (ha : a e = .ok ⟨.sh, .int i⟩ e1) (hb : b e1 = .ok ⟨.sh, .int j⟩ e2) : m2 dLt a b e = .ok ⟨.sh, .bl (decide (i < j))⟩ e2 := m2_ok ha hb rfl rfl rfl
theorem mb_lt {a b : Sm} {e e1 e2 : Env} {i j : Int} (ha : a e = .ok ⟨.sh, .int i⟩ e1) (hb : b e1 = .ok ⟨.sh, .int j⟩ e2) : mBl (m2 dLt a b) e = .ok (decide (i < j)) e2 := mBl_ok (m2_lt ha hb)
theorem m2_le {a b : Sm} {e e1 e2 : Env} {i j : Int} (ha : a e = .ok ⟨.sh, .int i⟩ e1) (hb : b e1 = .ok ⟨.sh, .int j⟩ e2) : m2 dLe a b e = .ok ⟨.sh, .bl (decide (i ≤ j))⟩ e2 := m2_ok ha hb rfl rfl rfl
theorem mb_le {a b : Sm} {e e1 e2 : Env} {i j : Int} (ha : a e = .ok ⟨.sh, .int i⟩ e1) (hb : b e1 = .ok ⟨.sh, .int j⟩ e2) : mBl (m2 dLe a b) e = .ok (decide (i ≤ j)) e2 := mBl_ok (m2_le ha hb)
theorem m2_gt {a b : Sm} {e e1 e2 : Env} {i j : Int} (ha : a e = .ok ⟨.sh, .int i⟩ e1) (hb : b e1 = .ok ⟨.sh, .int j⟩ e2) : m2 dGt a b e = .ok ⟨.sh, .bl (decide (j < i))⟩ e2 := m2_ok ha hb rfl rfl rfl
theorem mb_gt {a b : Sm} {e e1 e2 : Env} {i j : Int} (ha : a e = .ok ⟨.sh, .int i⟩ e1) (hb : b e1 = .ok ⟨.sh, .int j⟩ e2) : mBl (m2 dGt a b) e = .ok (decide (j < i)) e2 := mBl_ok (m2_gt ha hb)
theorem m2_ge {a b : Sm} {e e1 e2 : Env} {i j : Int} (ha : a e = .ok ⟨.sh, .int i⟩ e1) (hb : b e1 = .ok ⟨.sh, .int j⟩ e2) : m2 dGe a b e = .ok ⟨.sh, .bl (decide (j ≤ i))⟩ e2 := m2_ok ha hb rfl rfl rfl
theorem mb_ge {a b : Sm} {e e1 e2 : Env} {i j : Int} (ha : a e = .ok ⟨.sh, .int i⟩ e1) (hb : b e1 = .ok ⟨.sh, .int j⟩ e2) : mBl (m2 dGe a b) e = .ok (decide (j ≤ i)) e2 := mBl_ok (m2_ge ha hb)
theorem m2_eq {a b : Sm} {e e1 e2 : Env} {i j : Int} (ha : a e = .ok ⟨.sh, .int i⟩ e1) (hb : b e1 = .ok ⟨.sh, .int j⟩ e2) : m2 dEq a b e = .ok ⟨.sh, .bl (decide (i = j))⟩ e2 := m2_ok ha hb rfl rfl (dEq_int i j)
theorem mb_eq {a b : Sm} {e e1 e2 : Env} {i j : Int} (ha : a e = .ok ⟨.sh, .int i⟩ e1) (hb : b e1 = .ok ⟨.sh, .int j⟩ e2) : mBl (m2 dEq a b) e = .ok (decide (i = j)) e2 := mBl_ok (m2_eq ha hb)
theorem cDiv_ok {i j : Int} (h : 0 < j) (h2 : j < 2 ^ 200) : cDiv i j = true := by
  unfold cDiv
  rw [Bool.and_eq_true, decide_eq_true_eq, decide_eq_true_eq]
  refine ⟨h, ?_⟩
  have h0 : j.natAbs ≠ 0 := by omega
  have : j.natAbs < 2 ^ 200 := by
    have : ((2 : Int) ^ 200) = ((2 ^ 200 : Nat) : Int) := by norm_cast
    omega
  have := (Nat.log2_lt h0).mpr this
  omega
theorem cMul_l {i j : Int} (h : -(2 ^ 64) < i) (h2 : i < 2 ^ 64) : cMul i j = true := by
  unfold cMul
  simp only [Bool.or_eq_true, Bool.and_eq_true, decide_eq_true_eq]
  exact .inl (.inl ⟨h, h2⟩)
theorem cMul_r {i j : Int} (h : -(2 ^ 64) < j) (h2 : j < 2 ^ 64) : cMul i j = true := by
  unfold cMul
  simp only [Bool.or_eq_true, Bool.and_eq_true, decide_eq_true_eq]
  exact .inl (.inr ⟨h, h2⟩)
theorem cPow_of {i j : Int} (h1 : 0 ≤ j) (h2 : j ≤ 1000000) (h3 : i.natAbs < 2 ^ 64) : cPow i j = true := by
  unfold cPow
  simp only [Bool.and_eq_true, decide_eq_true_eq]
  exact ⟨⟨h1, h2⟩, h3⟩
theorem small62_nat {n : Nat} (h : n ≤ 1000000) : small62 (n : Int) = true := by
  unfold small62
  rw [Bool.and_eq_true, decide_eq_true_eq, decide_eq_true_eq]
  omega
theorem rng1_nat {n : Nat} (h : n ≤ 1000000) : rng1 [(n : Int)] = some (upto 0 n) := by
  unfold rng1
  simp only [small62_nat h, if_true, Int.toNat_natCast]
theorem iInts_g {f : List Int → Option (List D)} {l : Lm} {e e1 : VM.Env} {ss : List Slot} {is : List Int} {ds : List D} (h : l e = .ok ss e1) (hi : intsOf ss = some is) (hf : f is = some ds) : iInts f l e = .ok ds e1 := by
  unfold iInts
  rw [h]
  dsimp only
  rw [hi]
  dsimp only
  rw [hf]
theorem iInts_1 {m : Sm} {e e1 : VM.Env} {n : Nat} (h : m e = .ok ⟨.sh, nD n⟩ e1) (hn : n ≤ 1000000) : iInts rng1 (lCons m lNil) e = .ok (upto 0 n) e1 :=
  iInts_g (is := [(n : Int)]) (lCons_ok (ss := []) h rfl) rfl (rng1_nat hn)
theorem upto_get {n i : Nat} {d : D} (h : (upto 0 n)[i]? = some d) : i < n ∧ d = nD i := by
  unfold upto at h
  have hi : i < n := by have := lt_of_get h; simpa using this
  rw [List.getElem?_map, List.getElem?_range hi] at h
  refine ⟨hi, ?_⟩
  have := (Option.some.inj h).symm
  simpa using this
theorem upto_len (n : Nat) : (upto 0 n).length = n := by unfold upto; simp
theorem m2_addN {a b : Sm} {e e1 e2 : Env} {i j : Nat} (ha : a e = .ok ⟨.sh, nD i⟩ e1) (hb : b e1 = .ok ⟨.sh, nD j⟩ e2) : m2 dAdd a b e = .ok ⟨.sh, nD (i + j)⟩ e2 := by
  rw [m2_add ha hb]
  have : (i : Int) + j = ((i + j : Nat) : Int) := by omega
  rw [this]
theorem m1_len {a : Sm} {e e1 : Env} {ns : List Nat} (ha : a e = .ok ⟨.sh, lN ns⟩ e1) : m1 dLen a e = .ok ⟨.sh, nD ns.length⟩ e1 := by
  refine m1_ok ha rfl ?_
  show RR.sh (.int _) = _
  rw [lN_len]
theorem append_ok {e : Env} {i : Nat} {m : M} {xs : List D} {a : Sm} {d : D} (he : e[i]? = some (some ⟨m, .lst xs⟩)) (hm : m.mut = true) (ha : a e = .ok ⟨.sh, d⟩ e) (hl : xs.length < 1000) : mMeth "list" i fAppend (lCons (mF a) lNil) e = .ok ⟨.sh, .non⟩ (e.set i (some ⟨m, .lst (xs ++ [d])⟩)) := by
  have hk : kindOf "list" e i = true := by
    unfold kindOf
    rw [he]
    dsimp only
    rw [hm]
    rfl
  have hc : lCons (mF a) lNil e = .ok [⟨.sh, d⟩] e := lCons_ok (mF_sh' ha) rfl
  unfold mMeth
  rw [if_pos hk, hc]
  have hs : shs [(⟨.sh, d⟩ : Slot)] = some [d] := rfl
  dsimp only
  rw [hs]
  dsimp only
  rw [he]
  dsimp only
  rw [if_pos hm]
  have hf : fAppend (.lst xs) [d] = some (.lst (xs ++ [d]), .non) := if_pos (small1000 (Nat.le_of_lt hl))
  rw [hf]
theorem iSeq_lst {m : Sm} {e e1 : Env} {xs : List D} (h : mF m e = .ok ⟨.sh, .lst xs⟩ e1) : iSeq m e = .ok xs e1 := by
  unfold iSeq
  rw [h]
theorem mLc_ok {i : Im} {g : Tgt} {c : Tm} {m : Sm} {vs : List Nat} {e e1 e2 : Env} {ds : List D} {s : Slot} (hi : i e = .ok ds e1) (hw : (canWipe vs e1 && g.asg.all (fun j => decide (j ∈ vs))) = true) (hl : lcD g c m vs ds [] (wipeE vs e1) = .ok s e2) (hd : sameDef e1 (backE vs e1 e2) = true) : mLc i g c m vs e = .ok s (backE vs e1 e2) := by
  unfold mLc
  rw [hi]
  dsimp only
  rw [if_pos hw, hl]
  dsimp only
  rw [if_pos hd]
theorem lN_append (ns ms : List Nat) : ∃ xs, lN ns = .lst xs ∧ xs.length = ns.length ∧ ∀ k, D.lst (xs ++ [nD k]) = lN (ns ++ [k]) := ⟨_, rfl, by simp, fun k => by unfold lN; simp⟩
theorem rng3_down {a : Nat} (h : a ≤ 1000000) : rng3 [(a : Int), -1, -1] = some (downto a (a + 1)) := by
  unfold rng3
  have h1 : small62 (a : Int) = true := small62_nat h
  have h2 : small62 (-1) = true := by decide +kernel
  simp only [h1, h2, Bool.and_self, and_self, if_true]
  rw [show ((a : Int) - -1).toNat = a + 1 by omega]
theorem downto_get {a : Int} {n i : Nat} {d : D} (h : (downto a n)[i]? = some d) : i < n ∧ d = .int (a - i) := by
  unfold downto at h
  have hi : i < n := by have := lt_of_get h; simpa using this
  rw [List.getElem?_map, List.getElem?_range hi] at h
  refine ⟨hi, ?_⟩
  have := (Option.some.inj h).symm
  rw [this]
  show D.int (a + (i : Int) * (-1)) = D.int (a - i)
  rw [show a + (i : Int) * (-1) = a - i by omega]
theorem downto_len (a : Int) (n : Nat) : (downto a n).length = n := by unfold downto; simp
theorem m1_int_bl {a : Sm} {e e1 : Env} {b : Bool} (ha : a e = .ok ⟨.sh, .bl b⟩ e1) : m1 dInt a e = .ok ⟨.sh, nD (if b then 1 else 0)⟩ e1 := by
  refine m1_ok ha rfl ?_
  cases b <;> rfl
theorem m2_inN {a b : Sm} {e e1 e2 : Env} {k : Nat} {ns : List Nat} (ha : a e = .ok ⟨.sh, nD k⟩ e1) (hb : b e1 = .ok ⟨.sh, lN ns⟩ e2) : m2 (dInL false) a b e = .ok ⟨.sh, .bl (decide (k ∈ ns))⟩ e2 := by
  refine m2_ok ha hb rfl rfl ?_
  unfold lN
  rw [dIn_ints]
  congr 2
  exact decide_eq_decide.mpr mem_nI
theorem m2_mulN {a b : Sm} {e e1 e2 : Env} {i j : Nat} (ha : a e = .ok ⟨.sh, nD i⟩ e1) (hb : b e1 = .ok ⟨.sh, nD j⟩ e2) (hc : i < 2 ^ 64) : m2 dMul a b e = .ok ⟨.sh, nD (i * j)⟩ e2 := by
  rw [m2_mul ha hb (cMul_l (by omega) (by omega))]
  have : (i : Int) * j = ((i * j : Nat) : Int) := by push_cast; rfl
  rw [this]
theorem m2_divN {a b : Sm} {e e1 e2 : Env} {i j : Nat} (ha : a e = .ok ⟨.sh, nD i⟩ e1) (hb : b e1 = .ok ⟨.sh, nD j⟩ e2) (h0 : 0 < j) (hc : j < 2 ^ 200) : m2 dDiv a b e = .ok ⟨.sh, nD (i / j)⟩ e2 := by
  rw [m2_div ha hb (cDiv_ok (by omega) (by
    have : ((2 : Int) ^ 200) = ((2 ^ 200 : Nat) : Int) := by norm_cast
    omega))]
  have : (i : Int) / j = ((i / j : Nat) : Int) := by push_cast; rfl
  rw [this]
theorem m2_modN {a b : Sm} {e e1 e2 : Env} {i j : Nat} (ha : a e = .ok ⟨.sh, nD i⟩ e1) (hb : b e1 = .ok ⟨.sh, nD j⟩ e2) (h0 : 0 < j) : m2 dMod a b e = .ok ⟨.sh, nD (i % j)⟩ e2 := by
  rw [m2_mod ha hb (by omega)]
  have : (i : Int) % j = ((i % j : Nat) : Int) := by push_cast; rfl
  rw [this]
theorem m2_xorN {a b : Sm} {e e1 e2 : Env} {i j : Nat} (ha : a e = .ok ⟨.sh, nD i⟩ e1) (hb : b e1 = .ok ⟨.sh, nD j⟩ e2) : m2 dXor a b e = .ok ⟨.sh, nD (i ^^^ j)⟩ e2 := by
  rw [m2_xor ha hb, bXor_nat]
theorem m2_andN {a b : Sm} {e e1 e2 : Env} {i j : Nat} (ha : a e = .ok ⟨.sh, nD i⟩ e1) (hb : b e1 = .ok ⟨.sh, nD j⟩ e2) : m2 dAnd a b e = .ok ⟨.sh, nD (i &&& j)⟩ e2 := by
  rw [m2_band ha hb, bAnd_nat]
theorem m2_shrN {a b : Sm} {e e1 e2 : Env} {i j : Nat} (ha : a e = .ok ⟨.sh, nD i⟩ e1) (hb : b e1 = .ok ⟨.sh, nD j⟩ e2) : m2 dShr a b e = .ok ⟨.sh, nD (i / 2 ^ j)⟩ e2 := by
  rw [m2_shr ha hb (by omega)]
  have : (i : Int) / 2 ^ ((j : Int)).toNat = ((i / 2 ^ j : Nat) : Int) := by rw [Int.toNat_natCast]; push_cast; rfl
  rw [this]
theorem mb_eqN {a b : Sm} {e e1 e2 : Env} {i j : Nat} (ha : a e = .ok ⟨.sh, nD i⟩ e1) (hb : b e1 = .ok ⟨.sh, nD j⟩ e2) : mBl (m2 dEq a b) e = .ok (decide (i = j)) e2 := by
  rw [mb_eq ha hb]
  congr 1
  exact decide_eq_decide.mpr (by omega)
theorem mAnd_t {a b : Sm} {e e1 : Env} (h : a e = .ok ⟨.sh, .bl true⟩ e1) : mAnd a b e = b e1 := by
  unfold mAnd
  rw [h]
  rfl
theorem mAnd_f {a b : Sm} {e e1 : Env} (h : a e = .ok ⟨.sh, .bl false⟩ e1) : mAnd a b e = .ok ⟨.sh, .bl false⟩ e1 := by
  unfold mAnd
  rw [h]
  rfl
theorem mOr_t {a b : Sm} {e e1 : Env} (h : a e = .ok ⟨.sh, .bl true⟩ e1) : mOr a b e = .ok ⟨.sh, .bl true⟩ e1 := by
  unfold mOr
  rw [h]
  rfl
theorem mOr_f {a b : Sm} {e e1 : Env} (h : a e = .ok ⟨.sh, .bl false⟩ e1) : mOr a b e = b e1 := by
  unfold mOr
  rw [h]
  rfl
theorem mNot_bl {a : Sm} {e e1 : Env} {b : Bool} (h : a e = .ok ⟨.sh, .bl b⟩ e1) : mNot a e = .ok ⟨.sh, .bl (!b)⟩ e1 := by
  unfold mNot
  rw [h]
  rfl
theorem m2_eqN {a b : Sm} {e e1 e2 : Env} {i j : Nat} (ha : a e = .ok ⟨.sh, nD i⟩ e1) (hb : b e1 = .ok ⟨.sh, nD j⟩ e2) : m2 dEq a b e = .ok ⟨.sh, .bl (decide (i = j))⟩ e2 := by
  rw [m2_eq ha hb, decide_eq_decide.mpr (show (i : Int) = j ↔ i = j by omega)]
theorem isi_int {a : Sm} {e e1 : Env} {i : Int} (ha : a e = .ok ⟨.sh, .int i⟩ e1) : m2 dIsi a (mC (.ty "int")) e = .ok ⟨.sh, .bl true⟩ e1 := by
  refine m2_ok ha rfl rfl rfl ?_
  have k1 : kitB "int" "int" = some true := by decide +kernel
  show (match kitB "int" "int" with | some r => RR.sh (.bl r) | none => .no) = _
  rw [k1]
theorem isi_int_bool {a : Sm} {e e1 : Env} {i : Int} (ha : a e = .ok ⟨.sh, .int i⟩ e1) : m2 dIsi a (mC (.ty "bool")) e = .ok ⟨.sh, .bl false⟩ e1 := by
  refine m2_ok ha rfl rfl rfl ?_
  have k1 : kitB "int" "bool" = some false := by decide +kernel
  show (match kitB "int" "bool" with | some r => RR.sh (.bl r) | none => .no) = _
  rw [k1]
theorem isi_list {a : Sm} {e e1 : Env} {s : Slot} {xs : List D} (ha : a e = .ok s e1) (hd : deref e1 s = some (.lst xs)) : m2 dIsi a (mC (.ty "list")) e = .ok ⟨.sh, .bl true⟩ e1 := by
  refine m2_ok ha rfl hd rfl ?_
  have k1 : kitB "list" "list" = some true := by decide +kernel
  show (match kitB "list" "list" with | some r => RR.sh (.bl r) | none => .no) = _
  rw [k1]
/-! ### the law's source -/
def srcD (n s t : Int) : D := .dic [(.inr "number", .int n), (.inr "seed", .int s), (.inr "turn", .int t)]
theorem key_ns : ("number" : Str) ≠ ("seed" : Str) := by decide +kernel
theorem key_nt : ("number" : Str) ≠ ("turn" : Str) := by decide +kernel
theorem key_st : ("seed" : Str) ≠ ("turn" : Str) := by decide +kernel
theorem get_n {n s t : Int} : getD (srcD n s t) (.str "number") = .sh (.int n) := by
  simp [getD, srcD, keyOf, valG, List.find?_cons]
theorem get_s {n s t : Int} : getD (srcD n s t) (.str "seed") = .sh (.int s) := by
  simp [getD, srcD, keyOf, valG, List.find?_cons, key_ns]
theorem get_t {n s t : Int} : getD (srcD n s t) (.str "turn") = .sh (.int t) := by
  simp [getD, srcD, keyOf, valG, List.find?_cons, key_nt, key_st]
theorem put_n {n s t x : Int} : putD (srcD n s t) (.str "number") (.int x) = some (srcD x s t) := by
  have h : 3 < sizeLine := by decide
  simp [putD, srcD, putG, key_ns, Ne.symm key_ns, key_nt, Ne.symm key_nt, h]
theorem put_t {n s t x : Int} : putD (srcD n s t) (.str "turn") (.int x) = some (srcD n s x) := by
  have h : 3 < sizeLine := by decide
  simp [putD, srcD, putG, key_nt, key_st, h]
theorem get_ok {a b : Sm} {e e1 e2 : Env} {s1 s2 : Slot} {d1 d2 r : D} (ha : a e = .ok s1 e1) (hb : b e1 = .ok s2 e2) (h1 : deref e2 s1 = some d1) (h2 : deref e2 s2 = some d2) (hf : getD d1 d2 = .sh r) : m2 getD a b e = .ok ⟨.sh, r⟩ e2 := m2_ok ha hb h1 h2 hf
theorem xPut_ok {i : Nat} {mi m : Sm} {e e1 e2 : Env} {k v d d' : D} {md : M} {t : Slot} (h : m e = .ok ⟨.sh, v⟩ e1) (h0 : e1[i]? = some (some t)) (hk : mi e1 = .ok ⟨.sh, k⟩ e2) (hi : e2[i]? = some (some ⟨md, d⟩)) (hm : md.mut = true) (hp : putD d k v = some d') : (xPut i mi m).run e = .nx (e2.set i (some ⟨md, d'⟩)) := by
  unfold xPut
  dsimp only
  rw [mF_sh' h]
  dsimp only
  rw [h0]
  dsimp only
  rw [mF_sh' hk]
  dsimp only
  rw [hi]
  dsimp only
  rw [if_pos hm, hp]
theorem dIx_nat {xs : List D} {r : Nat} {d : D} (h : xs[r]? = some d) : dIx (.lst xs) (nD r) = .sh d := by
  have ha : L2.atI xs (r : Int) = some d := by
    unfold L2.atI L2.ixN
    rw [if_pos (by omega), if_pos (by have := lt_of_get h; omega)]
    simpa using h
  show (match L2.atI xs (r : Int) with | some x => RR.sh x | none => .no) = _
  rw [ha]
theorem dIx_frl {xs : List D} {r : Nat} {d : D} (h : xs[r]? = some d) : dIx (.frl xs) (nD r) = .sh d := by
  have ha : L2.atI xs (r : Int) = some d := by
    unfold L2.atI L2.ixN
    rw [if_pos (by omega), if_pos (by have := lt_of_get h; omega)]
    simpa using h
  show (match L2.atI xs (r : Int) with | some x => RR.sh x | none => .no) = _
  rw [ha]
theorem dList_lst (xs : List D) : dList (.lst xs) = .ow (.lst xs) := rfl
theorem ex_trans {α : Type} {A B : SA} {p : α → SA} (h : A = B) (g : ∃ e', B = p e') : ∃ e', A = p e' := by
  rw [h]; exact g
theorem mDisp_ok {l : Lm} {e e1 : Env} {ss : List Slot} {ds : List D} {kds : List (Key × D)} (h : l e = .ok ss e1) (hs : shs ss = some ds) (hp : pairD ds = some kds) (hz : kds.length ≤ 15) : mDisp l e = .ok ⟨.ow, .dic (mergeG [] kds)⟩ e1 := by
  unfold mDisp
  rw [h]
  dsimp only
  rw [hs]
  dsimp only
  rw [hp]
  dsimp only
  rw [if_pos hz]
theorem lN_map (ns : List Nat) : lN ns = .lst (ns.map nD) := by unfold lN; rw [List.map_map]; rfl
theorem upto_map (n : Nat) : upto 0 n = (List.range n).map nD := by
  unfold upto
  apply List.map_congr_left
  intro k _
  show D.int (0 + (k : Int)) = D.int (k : Int)
  rw [Int.zero_add]
end VM

/-! VMT: chains of comparisons, texts -/
namespace VM
open PySem PySem.Spec PyProof.Rows L2

def mChain (f f' : D → D → RR) (a b c : Sm) : Sm := fun e => match a e with
  | .ok s1 e1 => match b e1 with
    | .ok s2 e2 => match deref e2 s1, deref e2 s2 with
      | some d1, some d2 => match f d1 d2 with
        | .sh (.bl false) => .ok ⟨.sh, .bl false⟩ e2
        | .sh (.bl true) => match c e2 with
          | .ok s3 e3 => match deref e3 s2, deref e3 s3 with
            | some d2, some d3 => (f' d2 d3).ans e3
            | _, _ => .no
          | .ex c d e3 => .ex c d e3
          | .no => .no
        | _ => .no
      | _, _ => .no
    | .ex c d e2 => .ex c d e2
    | .no => .no
  | .ex c d e1 => .ex c d e1
  | .no => .no
section
variable {P : Pl} {N : List Str} {sc : Scope} {mg : Str → Option Value}
theorem ev_chain {r r' : R2} {f f' : D → D → RR} {ta tb tc : TE} {a b c : Sm} (hf : S2 P.G r f) (hf' : S2 P.G r' f') (fa : Ev P ta a) (fb : Ev P tb b) (fc : Ev P tc c) : Ev P (tChain r r' ta tb tc) (mChain f f' a b c) := by
  intro n IO H0 Hf σ tv env te H S
  have h1 := fa n IO H0 Hf σ tv env te H S
  unfold mChain
  cases ea : a env with
  | no => trivial
  | ex c d e1 => rw [ea] at h1; exact fun w Q => h1 w _
  | ok s1 e1 =>
    rw [ea] at h1
    dsimp only
    cases eb : b e1 with
    | no => trivial
    | ex c d e2 =>
      refine fun w Q => h1 _ fun v Hf1 H1 u1 S1 => ?_
      have h2 := fb n IO H0 Hf1 σ _ e1 _ H1 S1
      rw [eb] at h2
      exact h2 (fun cv dx Hf2 H2 u2 S2 x => w cv dx Hf2 H2 (u1.trans u2) S2.pop x) _
    | ok s2 e2 =>
      dsimp only
      cases ed1 : deref e2 s1 with
      | none => trivial
      | some d1 =>
        cases ed2 : deref e2 s2 with
        | none => trivial
        | some d2 =>
          dsimp only
          have two : ∀ (Q : VK) (k : Bool), f d1 d2 = .sh (.bl k) → (∀ x y Hf2 H2, Same Hf Hf2 → St0 P n IO H0 Hf2 σ ((tv ++ [some x]) ++ [some y]) e2 ((te ++ [some s1]) ++ [some s2]) H2 → (if k = true then tc σ H2 fun w' H4 => r' y w' H4 Q else Q (.bl false) H2)) → tChain r r' ta tb tc σ H Q := fun Q k hk q => by
            refine h1 _ fun x Hf1 H1 u1 S1 => ?_
            have h2 := fb n IO H0 Hf1 σ _ e1 _ H1 S1
            rw [eb] at h2
            refine h2 _ fun y Hf2 H2 u2 T2 => ?_
            have px : PRep P.G Hf2 H2 x d1 := T2.prep (i := tv.length) (by rw [List.getElem?_append_left (by simp)]; exact get_last) (by rw [S.l2, List.getElem?_append_left (by simp)]; exact get_last) ed1
            have py : PRep P.G Hf2 H2 y d2 := T2.last (by have := S.l2; simp [this]) ed2
            have h3 := hf Hf2 H2 x y d1 d2 T2.sr.sub px py
            rw [hk] at h3
            refine h3 _ fun z rz => ?_
            cases rz
            exact ⟨k, rfl, q x y Hf2 H2 (u1.trans u2) T2⟩
          cases hk : f d1 d2 with
          | ow d => trivial
          | tp d => trivial
          | no => trivial
          | sh d =>
            cases d with
            | bl k =>
              cases k with
              | false => exact fun Q q => two Q false hk fun x y Hf2 H2 u T2 => iteF (q _ Hf2 H2 u (T2.pop.pop.push_sh .bl))
              | true =>
                dsimp only
                cases ec : c e2 with
                | no => trivial
                | ex c d e3 =>
                  refine fun w Q => two Q true hk fun x y Hf2 H2 u T2 => iteT ?_
                  have h4 := fc n IO H0 Hf2 σ _ e2 _ H2 T2
                  rw [ec] at h4
                  exact h4 (fun cv dx Hf3 H3 u3 T3 x => w cv dx Hf3 H3 (u.trans u3) T3.pop.pop x) _
                | ok s3 e3 =>
                  dsimp only
                  cases ed2' : deref e3 s2 with
                  | none => trivial
                  | some d2' =>
                    cases ed3 : deref e3 s3 with
                    | none => trivial
                    | some d3 =>
                      dsimp only
                      cases er : (f' d2' d3).ans e3 with
                      | no => trivial
                      | ex c d e4 => exact absurd er RR.ans_ex
                      | ok s e4 =>
                        refine fun Q q => two Q true hk fun x y Hf2 H2 u T2 => iteT ?_
                        have h4 := fc n IO H0 Hf2 σ _ e2 _ H2 T2
                        rw [ec] at h4
                        refine h4 _ fun w Hf3 H3 u3 T3 => ?_
                        have l2 := S.l2
                        have py : PRep P.G Hf3 H3 y d2' := T3.prep (i := tv.length + 1) (by rw [List.getElem?_append_left (by simp), show tv.length + 1 = (tv ++ [some x]).length by simp]; exact get_last) (by rw [l2, List.getElem?_append_left (by simp), show te.length + 1 = (te ++ [some s1]).length by simp]; exact get_last) ed2'
                        have pw : PRep P.G Hf3 H3 w d3 := T3.last (by simp [l2]) ed3
                        have h5 := (T3.pop.pop.pop).rr (hf' Hf3 H3 y w d2' d3 T3.sr.sub py pw)
                        rw [er] at h5
                        exact h5 Q fun v Hf4 H4 u4 T4 => q v Hf4 H4 ((u.trans u3).trans u4) T4
            | _ => trivial
theorem se_chain {op op' : CmpOp} {r r' : R2} {f f' : D → D → RR} {a b c : Expr} {pos : Pos} {ma mb mc : Sm} (ho : ∀ X, P.M X → OpR X (compareOp op) r) (ho' : ∀ X, P.M X → OpR X (compareOp op') r') (hf : S2 P.G r f) (hf' : S2 P.G r' f') (ha : SE P a ma) (hb : SE P b mb) (hc : SE P c mc) (hm : lastMarks [op, op'] [b, c] = false) :
    SE P (.Compare a [op, op'] [b, c] pos) (mChain f f' ma mb mc) :=
  let ⟨_, p, e⟩ := ha; let ⟨_, q, g⟩ := hb; let ⟨_, u, v⟩ := hc; ⟨_, fun X hX => pe_chain (ho X hX) (ho' X hX) (p X hX) (q X hX) (u X hX) hm, ev_chain hf hf' e g v⟩
theorem st_chain {op op' : CmpOp} {r r' : R2} {f f' : D → D → RR} {a b c : Expr} {pos : Pos} {ma mb mc : Sm} (ho : ∀ X, P.M X → OpR X (compareOp op) r) (ho' : ∀ X, P.M X → OpR X (compareOp op') r') (hf : S2 P.G r f) (hf' : S2 P.G r' f') (ha : SE P a ma) (hb : SE P b mb) (hc : SE P c mc) (hm : lastMarks [op, op'] [b, c] = false) :
    ST P (.Compare a [op, op'] [b, c] pos) (mBl (mChain f f' ma mb mc)) :=
  let ⟨_, p, e⟩ := ha; let ⟨_, q, g⟩ := hb; let ⟨_, u, v⟩ := hc; ⟨_, fun X hX => pt_chain (ho X hX) (ho' X hX) (p X hX) (q X hX) (u X hX) hm, evT_bl (ev_chain hf hf' e g v)⟩

/-! ### a sign in a text -/
def dInS (neg : Bool) : D → D → RR
  | .str x, .str z => if x.cps.size = 1 then .sh (.bl (if neg then !decide (x.cps[0]! ∈ z.cps.toList) else decide (x.cps[0]! ∈ z.cps.toList))) else .no
  | _, _ => .no
theorem one_sign {x : Str} (h : x.cps.size = 1) : x = ⟨#[x.cps[0]!]⟩ := by
  obtain ⟨a⟩ := x
  simp only at h ⊢
  obtain ⟨l⟩ := a
  match l, h with
  | [c], _ => rfl
theorem s_inS {G : Gi} : S2 G (fun x y H Q => ∃ (c : Nat) (z : Str), x = .str ⟨#[c]⟩ ∧ y = .str z ∧ Q (.bl (decide (c ∈ z.cps.toList))) H) (dInS false) := by
  intro Hf H x y d e s p q
  unfold dInS
  split
  · split
    · rename_i x' z hx
      exact fun Q k => ⟨x'.cps[0]!, z, by rw [p.str]; exact congrArg V.str (one_sign hx), q.str, k _ .bl⟩
    · trivial
  · trivial
theorem s_ninS {G : Gi} : S2 G (fun x y H Q => ∃ (c : Nat) (z : Str), x = .str ⟨#[c]⟩ ∧ y = .str z ∧ Q (.bl (!decide (c ∈ z.cps.toList))) H) (dInS true) := by
  intro Hf H x y d e s p q
  unfold dInS
  split
  · split
    · rename_i x' z hx
      exact fun Q k => ⟨x'.cps[0]!, z, by rw [p.str]; exact congrArg V.str (one_sign hx), q.str, k _ .bl⟩
    · trivial
  · trivial
theorem se_inS {a b : Expr} {pos : Pos} {ma mb : Sm} (ha : SE P a ma) (hb : SE P b mb) (hm : behindInMarks .In b = false) : SE P (.Compare a [.In] [b] pos) (m2 (dInS false) ma mb) := se_cmpR (fun _ _ => op_in_sign) s_inS ha hb hm
theorem st_inS {a b : Expr} {pos : Pos} {ma mb : Sm} (ha : SE P a ma) (hb : SE P b mb) (hm : behindInMarks .In b = false) : ST P (.Compare a [.In] [b] pos) (mBl (m2 (dInS false) ma mb)) := st_cmpR (fun _ _ => op_in_sign) s_inS ha hb hm
theorem se_ninS {a b : Expr} {pos : Pos} {ma mb : Sm} (ha : SE P a ma) (hb : SE P b mb) (hm : behindInMarks .NotIn b = false) : SE P (.Compare a [.NotIn] [b] pos) (m2 (dInS true) ma mb) := se_cmpR (fun _ _ => op_notIn_sign) s_ninS ha hb hm
theorem st_ninS {a b : Expr} {pos : Pos} {ma mb : Sm} (ha : SE P a ma) (hb : SE P b mb) (hm : behindInMarks .NotIn b = false) : ST P (.Compare a [.NotIn] [b] pos) (mBl (m2 (dInS true) ma mb)) := st_cmpR (fun _ _ => op_notIn_sign) s_ninS ha hb hm

/-! ### all, any -/
def bls : List D → Option (List Bool)
  | [] => some []
  | .bl b :: r => match bls r with
    | some bs => some (b :: bs)
    | none => none
  | _ => none
def dAll (d : D) : RR := match listOf d with
  | some xs => match bls xs with
    | some bs => .sh (.bl (bs.all id))
    | none => .no
  | none => .no
def dAny (d : D) : RR := match listOf d with
  | some xs => match bls xs with
    | some bs => .sh (.bl (bs.any id))
    | none => .no
  | none => .no
theorem bls_reps {G : Gi} {H : Hp} : ∀ {xs : List D} {bs : List Bool} {vs : List V}, bls xs = some bs → Reps G H vs xs → vs = bs.map V.bl
  | [], bs, vs, e, r => by
    cases e
    exact List.eq_nil_of_length_eq_zero r.len
  | d :: xs, bs, vs, e, r => by
    cases d with
    | bl b =>
      unfold bls at e
      cases er : bls xs with
      | none => rw [er] at e; cases e
      | some bs' =>
        rw [er] at e; cases e
        match vs, r with
        | [], r => exact absurd r.len (by simp)
        | v :: vs, r =>
          obtain ⟨r1, r2⟩ := r.inv
          cases r1
          rw [bls_reps er r2]
          rfl
    | _ => unfold bls at e; cases e
theorem n_all {G : Gi} : SN G (rAll G.K) (f1 dAll) := by
  intro Hf H vs ds s p
  match ds, p with
  | [d], p =>
    obtain ⟨v, rfl, h⟩ := p.inv1
    show RRok G Hf H _ (dAll d)
    unfold dAll
    split
    · rename_i xs e
      obtain ⟨a, us, rfl, h1, r⟩ := h.list s e
      split
      · rename_i bs hb
        rw [bls_reps hb r] at h1
        exact fun Q k => ⟨a, bs, rfl, h1, k _ .bl⟩
      · trivial
    · trivial
  | [], p => trivial
  | _ :: _ :: _, p => trivial
theorem n_any {G : Gi} : SN G (rAny G.K) (f1 dAny) := by
  intro Hf H vs ds s p
  match ds, p with
  | [d], p =>
    obtain ⟨v, rfl, h⟩ := p.inv1
    show RRok G Hf H _ (dAny d)
    unfold dAny
    split
    · rename_i xs e
      obtain ⟨a, us, rfl, h1, r⟩ := h.list s e
      split
      · rename_i bs hb
        rw [bls_reps hb r] at h1
        exact fun Q k => ⟨a, bs, rfl, h1, k _ .bl⟩
      · trivial
    · trivial
  | [], p => trivial
  | _ :: _ :: _, p => trivial
theorem boot_any_ : bootBuiltins "any" = some (.builtin "any") := by decide +kernel
theorem boot_all_ : bootBuiltins "all" = some (.builtin "all") := by decide +kernel
theorem Fra.all1 (fr : Fra P N sc mg) {e : Expr} {p pos : Pos} {m : Sm} (hg : sc.names.lookup ("all" : Str) = some .globalImplicit) (hm : mg ("all" : Str) = none) (h : SE P e m) (hs : [e].all notStar = true) : SE P (.Call (.Name "all" p) [e] [] pos) (m1 dAll m) :=
  se_callB fr (fun X hX => (fr.K X hX) ▸ cr_all (fr.calm X hX)) n_all hg hm boot_all_ (sl_cons h sl_nil) hs
theorem Fra.any1 (fr : Fra P N sc mg) {e : Expr} {p pos : Pos} {m : Sm} (hg : sc.names.lookup ("any" : Str) = some .globalImplicit) (hm : mg ("any" : Str) = none) (h : SE P e m) (hs : [e].all notStar = true) : SE P (.Call (.Name "any" p) [e] [] pos) (m1 dAny m) :=
  se_callB fr (fun X hX => (fr.K X hX) ▸ cr_any (fr.calm X hX)) n_any hg hm boot_any_ (sl_cons h sl_nil) hs
end
end VM

/-! VMU: methods of texts -/
namespace VM
open PySem PySem.Spec PyProof.Rows L2

def mTM (f : Str → List D → RR) (o : Sm) (l : Lm) : Sm := fun e => match o e with
  | .ok ⟨.sh, .str z⟩ e1 => match l e1 with
    | .ok ss e2 => match derefs e2 ss with
      | some ds => (f z ds).ans e2
      | none => .no
    | .ex c d e2 => .ex c d e2
    | .no => .no
  | .ex c d e1 => .ex c d e1
  | _ => .no
def SNT (G : Gi) (r : V → List V → Hp → VK → Prop) (f : Str → List D → RR) : Prop := ∀ Hf H z vs ds, Same Hf H → PReps G Hf H vs ds → RRok G Hf H (r (.str z) vs H) (f z ds)
section
variable {P : Pl} {N : List Str} {sc : Scope} {mg : Str → Option Value}
theorem ev_tm {K : PySem.W.Frag} {r : V → List V → Hp → VK → Prop} {f : Str → List D → RR} {to : TE} {t : TA} {o : Sm} {l : Lm} (hf : SNT P.G r f) (fo : Ev P to o) (fl : EvL P t l) : Ev P (tBM K "str" r to t) (mTM f o l) := by
  intro n IO H0 Hf σ tv env te H S
  have h1 := fo n IO H0 Hf σ tv env te H S
  unfold mTM
  cases eo : o env with
  | no => trivial
  | ex c d e1 => rw [eo] at h1; exact fun w Q => h1 w _
  | ok s e1 =>
    rw [eo] at h1
    obtain ⟨m, d⟩ := s
    cases m with
    | sh =>
      cases d with
      | str z =>
        dsimp only
        cases el : l e1 with
        | no => trivial
        | ex c d e2 =>
          refine fun w Q => h1 _ fun v Hf1 H1 s1 S1 => ?_
          have rv := S1.held S.l2
          cases rv
          have h2 := fl n IO H0 Hf1 σ _ e1 _ H1 S1
          rw [el] at h2
          exact ⟨rfl, h2 (fun cv dx Hf2 H2 s2 S2 x => w cv dx Hf2 H2 (s1.trans s2) S2.pop x) _⟩
        | ok ss e2 =>
          dsimp only
          cases ed : derefs e2 ss with
          | none => trivial
          | some ds =>
            dsimp only
            cases er : (f z ds).ans e2 with
            | no => trivial
            | ex c d e3 => exact absurd er RR.ans_ex
            | ok s e3 =>
              refine fun Q q => h1 _ fun v Hf1 H1 s1 S1 => ?_
              have rv := S1.held S.l2
              cases rv
              have h2 := fl n IO H0 Hf1 σ _ e1 _ H1 S1
              rw [el] at h2
              refine ⟨rfl, h2 _ fun vs Hf2 H2 s2 l2 S2 => ?_⟩
              have pr : PReps P.G Hf2 H2 vs ds := S2.preps (k := (tv ++ [some (V.str z)]).length) (fun i v hv => ?_) (fun i v hv => ?_) l2 ed
              · have S3 : St0 P n IO H0 Hf2 σ (tv ++ [some (V.str z)]) e2 (te ++ [sh (.str z)]) H2 := St0.pops ss.length (by simp [l2]) (by simp) S2
                have h3 := S3.pop.rr (hf Hf2 H2 z vs ds S2.sr.sub pr)
                rw [er] at h3
                exact h3 Q fun v Hf3 H3 s3 S4 => q v Hf3 H3 ((s1.trans s2).trans s3) S4
              · rw [List.getElem?_append_right (by omega), Nat.add_sub_cancel_left, List.getElem?_map, hv]; rfl
              · have e : (tv ++ [some (V.str z)]).length = (te ++ [sh (.str z)]).length := S1.l2
                rw [e, List.getElem?_append_right (Nat.le_add_right _ _), Nat.add_sub_cancel_left, List.getElem?_map, hv]; rfl
      | _ => trivial
    | _ => trivial
theorem se_tm {name : Str} {id : String} {r : V → List V → Hp → VK → Prop} {f : Str → List D → RR} {o e : Expr} {es : List Expr} {apos cpos : Pos} {mo : Sm} {l : Lm} (fr : Fra P N sc mg) (slot : PySem.Slot "str" name id) (hty : typeOf (.builtin id) = pure (.type "method_descriptor"))
    (hm : ∀ X, P.M X → MtR X id r) (hf : SNT P.G r f) (ho : SE P o mo) (hl : SL P (e :: es) l) (hs : (e :: es).all notStar = true) (hline : (apos.endLine == cpos.line) = true) (hbase : ∀ env, attributeBase o name env (eval o env) = eval o env)
    (hfew : ∀ env, ((backTo cpos (starEach (e :: es) env)).all (fun x => !x.1) && (backToKw cpos (keywordEach [] env)).all (fun x => x.1.isSome)
      && decide ((e :: es).length + ([] : List Keyword).length + (if ([] : List Keyword).isEmpty then 0 else 1) < 30)) = true) : SE P (.Call (.Attribute o name apos) (e :: es) [] cpos) (mTM f mo l) := by
  obtain ⟨ts, q, g⟩ := hl
  obtain ⟨t, p, fo⟩ := ho
  have hs2 := hs
  rw [List.all_cons, Bool.and_eq_true] at hs2
  exact ⟨_, fun X hX => (fr.K X hX) ▸ pe_bm PySem.F.plainAttrs_str slot hty (hm X hX) (p X hX) (pa_of (q X hX) hs) (hbase _) (hfew _) hline (star_ok hs2.1) (star_any hs2.2), ev_tm (K := P.G.K) hf fo g⟩
def strsD : List D → Option (List Str)
  | [] => some []
  | .str z :: r => match strsD r with
    | some zs => some (z :: zs)
    | none => none
  | _ => none
theorem strs_reps {G : Gi} {H : Hp} : ∀ {xs : List D} {zs : List Str} {vs : List V}, strsD xs = some zs → Reps G H vs xs → vs = zs.map V.str
  | [], zs, vs, e, r => by
    cases e
    exact List.eq_nil_of_length_eq_zero r.len
  | d :: xs, zs, vs, e, r => by
    cases d with
    | str z =>
      unfold strsD at e
      cases er : strsD xs with
      | none => rw [er] at e; cases e
      | some zs' =>
        rw [er] at e; cases e
        match vs, r with
        | [], r => exact absurd r.len (by simp)
        | v :: vs, r =>
          obtain ⟨r1, r2⟩ := r.inv
          cases r1
          rw [strs_reps er r2]
          rfl
    | _ => unfold strsD at e; cases e
def seqOf (d : D) : Option (List D) := match listOf d with
  | some xs => some xs
  | none => tupOf d
def fJoin (z : Str) : List D → RR
  | [d] => match seqOf d with
    | some xs => match strsD xs with
      | some ys => if (ys.map (·.length)).sum + ys.length * z.length ≤ 16777216 then .sh (.str (Txt.join z ys)) else .no
      | none => .no
    | none => .no
  | _ => .no
theorem PRep.seqs {G : Gi} {Hf H : Hp} (s : Same Hf H) {v : V} {d : D} {ds : List D} (r : PRep G Hf H v d) (e : seqOf d = some ds) : ∃ a xs, v = .ref a ∧ (SqL G.K H a xs ∨ SqT G.K H a xs) ∧ Reps G Hf xs ds := by
  unfold seqOf at e
  split at e
  · rename_i xs hx
    cases e
    obtain ⟨a, us, h1, h2, h3⟩ := r.list s hx
    exact ⟨a, us, h1, .inl h2, h3⟩
  · obtain ⟨a, us, h1, h2, h3⟩ := r.tupl s e
    exact ⟨a, us, h1, .inr h2, h3⟩
theorem t_join {K : PySem.W.Frag} {G : Gi} (hK : G.K = K) : SNT G (fun x xs H Q => ∃ a p, ∃ ys : List Str, x = .str a ∧ xs = [.ref p] ∧ (SqL K H p (ys.map V.str) ∨ SqT K H p (ys.map V.str)) ∧ (ys.map (·.length)).sum + ys.length * a.length ≤ 16777216 ∧ Q (.str (Txt.join a ys)) H) fJoin := by
  subst hK
  intro Hf H z vs ds s p
  match ds, p with
  | [d], p =>
    obtain ⟨v, rfl, h⟩ := p.inv1
    unfold fJoin
    dsimp only
    cases e1 : seqOf d with
    | none => trivial
    | some xs =>
      obtain ⟨a, us, rfl, h1, r⟩ := h.seqs s e1
      dsimp only
      cases e2 : strsD xs with
      | none => trivial
      | some ys =>
        rw [strs_reps e2 r] at h1
        dsimp only
        split
        · rename_i hz
          exact fun Q k => ⟨z, a, ys, rfl, rfl, h1, hz, k _ .str⟩
        · trivial
  | [], p => trivial
  | _ :: _ :: _, p => trivial
theorem Fra.join (fr : Fra P N sc mg) {o e : Expr} {apos cpos : Pos} {mo m : Sm} (ho : SE P o mo) (h : SE P e m) (hs : [e].all notStar = true) (hline : (apos.endLine == cpos.line) = true) (hbase : ∀ env, attributeBase o "join" env (eval o env) = eval o env)
    (hfew : ∀ env, ((backTo cpos (starEach [e] env)).all (fun x => !x.1) && (backToKw cpos (keywordEach [] env)).all (fun x => x.1.isSome)
      && decide ([e].length + ([] : List Keyword).length + (if ([] : List Keyword).isEmpty then 0 else 1) < 30)) = true) : SE P (.Call (.Attribute o "join" apos) [e] [] cpos) (mTM fJoin mo (lCons m lNil)) :=
  se_tm fr PySem.F.slot_str_join PySem.F.type_str_join (fun X hX => (fr.K X hX) ▸ mt_join) (t_join rfl) ho (sl_cons h sl_nil) hs hline hbase hfew
end
/-! ### words for the plain part -/
theorem mChain_ok {f f' : D → D → RR} {a b c : Sm} {e : Env} {d1 d2 d3 : D} {b1 b2 : Bool} (ha : a e = .ok ⟨.sh, d1⟩ e) (hb : b e = .ok ⟨.sh, d2⟩ e) (hc : c e = .ok ⟨.sh, d3⟩ e) (hf : f d1 d2 = .sh (.bl b1)) (hf' : f' d2 d3 = .sh (.bl b2)) : mChain f f' a b c e = .ok ⟨.sh, .bl (b1 && b2)⟩ e := by
  unfold mChain
  rw [ha]
  dsimp only
  rw [hb]
  have k1 : deref e (⟨.sh, d1⟩ : Slot) = some d1 := rfl
  have k2 : deref e (⟨.sh, d2⟩ : Slot) = some d2 := rfl
  have k3 : deref e (⟨.sh, d3⟩ : Slot) = some d3 := rfl
  dsimp only
  rw [k1, k2]
  dsimp only
  rw [hf]
  cases b1 with
  | false => rfl
  | true =>
    dsimp only
    rw [hc]
    dsimp only
    rw [k2, k3]
    dsimp only
    rw [hf']
    rfl
theorem iSeq_str {m : Sm} {e e1 : Env} {z : Str} (h : m e = .ok ⟨.sh, .str z⟩ e1) : iSeq m e = .ok (signs z) e1 := by
  unfold iSeq
  rw [mF_sh' h]
theorem isi_ok {a : Sm} {e e1 : Env} {s : Slot} {d : D} {T U : String} {b : Bool} (ha : a e = .ok s e1) (hd : deref e1 s = some d) (ht : tyOf d = some T) (hk : kitB T U = some b) : m2 dIsi a (mC (.ty U)) e = .ok ⟨.sh, .bl b⟩ e1 := by
  refine m2_ok ha rfl hd rfl ?_
  unfold dIsi
  rw [ht]
  dsimp only
  rw [hk]
theorem m1_lenS {a : Sm} {e e1 : Env} {z : Str} (ha : a e = .ok ⟨.sh, .str z⟩ e1) (hz : z.length ≤ 1000) : m1 dLen a e = .ok ⟨.sh, nD z.length⟩ e1 := m1_ok ha rfl (if_pos (small_line hz))
theorem m1_lenL {a : Sm} {e e1 : Env} {s : Slot} {xs : List D} (ha : a e = .ok s e1) (hd : deref e1 s = some (.lst xs)) : m1 dLen a e = .ok ⟨.sh, nD xs.length⟩ e1 := m1_ok ha hd rfl
theorem dEq_bl (a b : Bool) : dEq (.bl a) (.bl b) = .sh (.bl (a == b)) := rfl
theorem cMul_big {i j : Int} (h1 : i.natAbs < 2 ^ 400) (h2 : j.natAbs < 2 ^ 400) : cMul i j = true := by
  unfold cMul
  simp only [Bool.or_eq_true, Bool.and_eq_true, decide_eq_true_eq]
  refine .inr ?_
  have l : ∀ n : Nat, n < 2 ^ 400 → n.log2 ≤ 400 := fun n hn => by
    by_cases h0 : n = 0
    · subst h0; decide
    · exact Nat.le_of_lt ((Nat.log2_lt h0).mpr hn)
  have := l _ h1
  have := l _ h2
  omega
theorem mTM_ok {f : Str → List D → RR} {o : Sm} {l : Lm} {e e1 e2 : Env} {z : Str} {ss : List Slot} {ds : List D} {r : D} (ho : o e = .ok ⟨.sh, .str z⟩ e1) (hl : l e1 = .ok ss e2) (hd : derefs e2 ss = some ds) (hf : f z ds = .sh r) : mTM f o l e = .ok ⟨.sh, r⟩ e2 := by
  unfold mTM
  rw [ho]
  dsimp only
  rw [hl]
  dsimp only
  rw [hd]
  dsimp only
  rw [hf]
  rfl
end VM

namespace VL
open PySem PySem.Spec PyProof.Rows L2 VM
abbrev topS (i : Nat) : Stmt := PySem.Challenge.pw_ringheaps_k01_words_told.main.body.getD i (.Pass ⟨0, 0, 0, 0⟩)
/-- what stands under the names that are not the text's own defs -/
structure MgF (mg : Str → Option Value) : Prop where
  z_all : mg "all" = none
  z_bool : mg "bool" = none
  z_int : mg "int" = none
  z_isinstance : mg "isinstance" = none
  z_len : mg "len" = none
  z_max : mg "max" = none
  z_min : mg "min" = none
  z_range : mg "range" = none
  z_str : mg "str" = none
  c_LETTERS : ∃ t, mg "LETTERS" = some (.str "abcdefghijklmnopqrstuvwxyz" t)
  c_MOST_LETTERS : ∃ t, mg "MOST_LETTERS" = some (.int 8 t)

abbrev st_is_whole : Stmt := topS 3
def N_is_whole : List Str := ["thing"]
theorem sc_is_whole : FnScope N_is_whole ["thing"] (defScope st_is_whole) := ⟨rfl, rfl, rfl, by decide +kernel, rfl, by decide +kernel, by decide +kernel⟩
def x_is_whole : Sx := xSeq (xRet (mAnd (m2 dIsi (mV 0) (mC (.ty "int"))) (mNot (m2 dIsi (mV 0) (mC (.ty "bool")))))) (xSkip)
theorem b_is_whole {P : Pl} {mg : Str → Option Value} (fr : Fra P N_is_whole (defScope st_is_whole) mg) (mf : MgF mg) (fn : ∀ y X, P.M X → X.fn y = true) : SSs P (defBody st_is_whole) (x_is_whole) :=
  (sss_cons (ss_ret (se_and fr (fr.isi rfl mf.z_isinstance (fr.v 0 rfl (.inl rfl)) (fr.ty rfl mf.z_int PyProof.Rows.boot_int) rfl) (se_one (se_not fr (fr.isi rfl mf.z_isinstance (fr.v 0 rfl (.inl rfl)) (fr.ty rfl mf.z_bool PyProof.Rows.boot_bool) rfl)))))
  sss_nil)

abbrev st_is_name : Stmt := topS 4
def N_is_name : List Str := ["thing", "sign"]
theorem sc_is_name : FnScope N_is_name ["thing"] (defScope st_is_name) := ⟨rfl, rfl, rfl, by decide +kernel, rfl, by decide +kernel, by decide +kernel⟩
def x_is_name : Sx := xSeq (xIf (tmOr (tmNot (mTru (m2 dIsi (mV 0) (mC (.ty "str"))))) (tmNot (mBl (mChain dLe dLe (mC (.int 1)) (m1 dLen (mV 0)) (mC (.int 8)))))) (xSeq (xRet (mC (.bl false))) (xSkip)) (xSkip)) (xSeq (xRet (m1 dAll (mLc (iSeq (mV 0)) (gN 1) (tmYes) (m2 (dInS false) (mV 1) (mC (.str "abcdefghijklmnopqrstuvwxyz"))) [1]))) (xSkip))
theorem b_is_name {P : Pl} {mg : Str → Option Value} (fr : Fra P N_is_name (defScope st_is_name) mg) (mf : MgF mg) (fn : ∀ y X, P.M X → X.fn y = true) : SSs P (defBody st_is_name) (x_is_name) :=
  (sss_cons (ss_if (st_w (sw_or (st_not (st_tru fr.K (fr.isi rfl mf.z_isinstance (fr.v 0 rfl (.inl rfl)) (fr.ty rfl mf.z_str PyProof.Rows.boot_str) rfl) (fun _ _ => rfl))) (sw_or1 (st_not (st_chain (fun _ _ => op_leA) (fun _ _ => op_leA) s_C s_C se_int (fr.len rfl mf.z_len (fr.v 0 rfl (.inl rfl)) rfl) (let ⟨_, h⟩ := mf.c_MOST_LETTERS; fr.gi rfl h) rfl))))) (sss_cons (ss_ret se_bool)
  sss_nil) sss_nil)
  (sss_cons (ss_ret (fr.all1 rfl mf.z_all (se_lc fr [("sign", 1)] (si_seq fr.K (fr.v 0 rfl (.inl rfl))) rfl ((Fra.blk fr _).g 1 rfl (.inl rfl) (.inl rfl)) sifs_nil (se_inS ((Fra.blk fr _).v 1 rfl (.inl rfl)) (let ⟨_, h⟩ := mf.c_LETTERS; (Fra.blk fr _).gs rfl h) rfl) (fun _ _ => rfl)) rfl))
  sss_nil))

abbrev st__law_cell_at : Stmt := topS 6
def N__law_cell_at : List Str := ["_law_script", "_law_k"]
theorem sc__law_cell_at : FnScope N__law_cell_at ["_law_script", "_law_k"] (defScope st__law_cell_at) := ⟨rfl, rfl, rfl, by decide +kernel, rfl, by decide +kernel, by decide +kernel⟩
def x__law_cell_at : Sx := xSeq (xIf (mBl (m2 dLt (mV 1) (m1 dLen (mV 0)))) (xSeq (xRet (m2 dIx (mV 0) (mV 1))) (xSkip)) (xSkip)) (xSeq (xRet (m2 dAdd (m2 dMul (mC (.int 7919)) (mV 1)) (mC (.int 13)))) (xSkip))
theorem b__law_cell_at {P : Pl} {mg : Str → Option Value} (fr : Fra P N__law_cell_at (defScope st__law_cell_at) mg) (mf : MgF mg) (fn : ∀ y X, P.M X → X.fn y = true) : SSs P (defBody st__law_cell_at) (x__law_cell_at) :=
  (sss_cons (ss_if (st_lt (fr.v 1 rfl (.inl rfl)) (fr.len rfl mf.z_len (fr.v 0 rfl (.inl rfl)) rfl) rfl) (sss_cons (ss_ret (se_ix fr (fr.v 0 rfl (.inl rfl)) (fr.v 1 rfl (.inl rfl)) (fun _ _ => rfl)))
  sss_nil) sss_nil)
  (sss_cons (ss_ret (se_add fr.K (se_mul se_int (fr.v 1 rfl (.inl rfl))) se_int))
  sss_nil))

abbrev st__law_source : Stmt := topS 7
def N__law_source : List Str := ["_law_cell"]
theorem sc__law_source : FnScope N__law_source ["_law_cell"] (defScope st__law_source) := ⟨rfl, rfl, rfl, by decide +kernel, rfl, by decide +kernel, by decide +kernel⟩
def x__law_source : Sx := xSeq (xRet (mDisp (lCons (mF (mC (.str "number"))) (lCons (mF (m2 dMul (m2 dMax (mC (.int 0)) (mV 0)) (m1 dInt (m2 dGe (mV 0) (m2 dPow (mC (.int 10)) (mC (.int 18))))))) (lCons (mF (mC (.str "seed"))) (lCons (mF (m2 dMod (mV 0) (mC (.int 2147483629)))) (lCons (mF (mC (.str "turn"))) (lCons (mF (mC (.int 0))) (lNil))))))))) (xSkip)
theorem b__law_source {P : Pl} {mg : Str → Option Value} (fr : Fra P N__law_source (defScope st__law_source) mg) (mf : MgF mg) (fn : ∀ y X, P.M X → X.fn y = true) : SSs P (defBody st__law_source) (x__law_source) :=
  (sss_cons (ss_ret (se_disp (sd_cons se_str (se_mul (fr.max2 rfl mf.z_max se_int (fr.v 0 rfl (.inl rfl)) rfl) (fr.int1 rfl mf.z_int (se_ge (fr.v 0 rfl (.inl rfl)) (se_pow se_int se_int) rfl) rfl)) (sd_cons se_str (se_mod (fr.v 0 rfl (.inl rfl)) se_int) (sd_cons se_str se_int sd_nil))) rfl rfl (by simp) (by decide)))
  sss_nil)

abbrev st__law_take : Stmt := topS 8
def N__law_take : List Str := ["_law_source_here", "_law_many", "_law_digit", "_law_number"]
theorem sc__law_take : FnScope N__law_take ["_law_source_here", "_law_many"] (defScope st__law_take) := ⟨rfl, rfl, rfl, by decide +kernel, rfl, by decide +kernel, by decide +kernel⟩
def x__law_take : Sx := xSeq (xIf (mBl (m2 dGt (m2 getD (mV 0) (mC (.str "number"))) (mC (.int 0)))) (xSeq (xAsg (m2 dMod (m2 getD (mV 0) (mC (.str "number"))) (mV 1)) (gN 2)) (xSeq (xPut 0 (mC (.str "number")) (m2 dDiv (m2 getD (mV 0) (mC (.str "number"))) (mV 1))) (xSeq (xRet (mV 2)) (xSkip)))) (xSkip)) (xSeq (xPut 0 (mC (.str "turn")) (m2 dAdd (m2 getD (mV 0) (mC (.str "turn"))) (mC (.int 1)))) (xSeq (xAsg (m2 dMod (m2 dMul (m2 dAdd (m2 getD (mV 0) (mC (.str "seed"))) (m2 dMul (mC (.int 7919)) (m2 getD (mV 0) (mC (.str "turn"))))) (mC (.int 48271))) (mC (.int 2147483647))) (gN 3)) (xSeq (xAsg (m2 dMod (m2 dMul (mV 3) (mV 3)) (mC (.int 2147483629))) (gN 3)) (xSeq (xRet (m2 dMod (m2 dDiv (m2 dMod (m2 dMul (m2 dAdd (mV 3) (m2 getD (mV 0) (mC (.str "turn")))) (m2 dAdd (mV 3) (mC (.int 3)))) (mC (.int 2147483587))) (mC (.int 7))) (mV 1))) (xSkip)))))
theorem b__law_take {P : Pl} {mg : Str → Option Value} (fr : Fra P N__law_take (defScope st__law_take) mg) (mf : MgF mg) (fn : ∀ y X, P.M X → X.fn y = true) : SSs P (defBody st__law_take) (x__law_take) :=
  (sss_cons (ss_if (st_gt (se_get fr (fr.v 0 rfl (.inl rfl)) se_str (fun _ _ => rfl)) se_int rfl) (sss_cons (ss_asg (se_mod (se_get fr (fr.v 0 rfl (.inl rfl)) se_str (fun _ _ => rfl)) (fr.v 1 rfl (.inl rfl))) (fr.g 2 rfl (.inl rfl) (.inl rfl)) (fun _ _ => rfl) (fun _ _ => rfl) (fun _ => rfl))
  (sss_cons (ss_put fr (i := 0) (se_fdiv (se_get fr (fr.v 0 rfl (.inl rfl)) se_str (fun _ _ => rfl)) (fr.v 1 rfl (.inl rfl))) se_str rfl (.inl rfl) (fun _ _ => rfl) (fun _ _ => rfl) (fun _ => rfl) (fun _ _ => rfl))
  (sss_cons (ss_ret (fr.v 2 rfl (.inl rfl)))
  sss_nil))) sss_nil)
  (sss_cons (ss_put fr (i := 0) (se_add fr.K (se_get fr (fr.v 0 rfl (.inl rfl)) se_str (fun _ _ => rfl)) se_int) se_str rfl (.inl rfl) (fun _ _ => rfl) (fun _ _ => rfl) (fun _ => rfl) (fun _ _ => rfl))
  (sss_cons (ss_asg (se_mod (se_mul (se_add fr.K (se_get fr (fr.v 0 rfl (.inl rfl)) se_str (fun _ _ => rfl)) (se_mul se_int (se_get fr (fr.v 0 rfl (.inl rfl)) se_str (fun _ _ => rfl)))) se_int) se_int) (fr.g 3 rfl (.inl rfl) (.inl rfl)) (fun _ _ => rfl) (fun _ _ => rfl) (fun _ => rfl))
  (sss_cons (ss_asg (se_mod (se_mul (fr.v 3 rfl (.inl rfl)) (fr.v 3 rfl (.inl rfl))) se_int) (fr.g 3 rfl (.inl rfl) (.inl rfl)) (fun _ _ => rfl) (fun _ _ => rfl) (fun _ => rfl))
  (sss_cons (ss_ret (se_mod (se_fdiv (se_mod (se_mul (se_add fr.K (fr.v 3 rfl (.inl rfl)) (se_get fr (fr.v 0 rfl (.inl rfl)) se_str (fun _ _ => rfl))) (se_add fr.K (fr.v 3 rfl (.inl rfl)) se_int)) se_int) se_int) (fr.v 1 rfl (.inl rfl))))
  sss_nil)))))

abbrev st__law_text : Stmt := topS 9
def N__law_text : List Str := ["_law_source_here", "_law_signs", "_law_many", "_law_k"]
theorem sc__law_text : FnScope N__law_text ["_law_source_here"] (defScope st__law_text) := ⟨rfl, rfl, rfl, by decide +kernel, rfl, by decide +kernel, by decide +kernel⟩
def x__law_text (fs__law_take : FS) : Sx := xSeq (xAsg (mC (.str "abcdefghijklmnopqrstuvwxyzAZ019 _-/!(~")) (gN 1)) (xSeq (xAsg (m2 dIx (mLst (lCons (mF (mC (.int 26))) (lCons (mF (mC (.int 38))) (lNil)))) (mCall fs__law_take (lCons (mV 0) (lCons (mT (mC (.int 2))) (lNil))))) (gN 2)) (xSeq (xRet (mTM fJoin (mC (.str "")) (lCons (mLc (iInts rng1 (lCons (mCall fs__law_take (lCons (mV 0) (lCons (mT (mC (.int 11))) (lNil)))) (lNil))) (gN 3) (tmYes) (m2 dIx (mV 1) (mCall fs__law_take (lCons (mV 0) (lCons (mT (mV 2)) (lNil))))) [3]) lNil))) (xSkip)))
theorem b__law_text {P : Pl} {mg : Str → Option Value} {fs__law_take : FS} (fr : Fra P N__law_text (defScope st__law_text) mg) (mf : MgF mg) (fn : ∀ y X, P.M X → X.fn y = true) (h__law_take : FnFact P "_law_take" fs__law_take) : SSs P (defBody st__law_text) (x__law_text fs__law_take) :=
  (sss_cons (ss_asg se_str (fr.g 1 rfl (.inr rfl) (.inr (fn _))) (fun _ _ => rfl) (fun _ _ => rfl) (fun _ => rfl))
  (sss_cons (ss_asg (se_ix fr (se_lst (sl_cons (se_F se_int) (sl_cons (se_F se_int) sl_nil)) rfl) (fr.call h__law_take rfl (sl_cons (fr.v 0 rfl (.inr (.inl rfl))) (sl_cons (se_T se_int) sl_nil)) rfl) (fun _ _ => rfl)) (fr.g 2 rfl (.inr rfl) (.inr (fn _))) (fun _ _ => rfl) (fun _ _ => rfl) (fun _ => rfl))
  (sss_cons (ss_ret (fr.join se_str (se_lc fr [("_law_k", 3)] (fr.rng1 rfl mf.z_range (sl_cons (fr.call h__law_take rfl (sl_cons (fr.v 0 rfl (.inr (.inl rfl))) (sl_cons (se_T se_int) sl_nil)) rfl) sl_nil) rfl) rfl ((Fra.blk fr _).g 3 rfl (.inl rfl) (.inl rfl)) sifs_nil (se_ix (Fra.blk fr _) ((Fra.blk fr _).v 1 rfl (.inr (.inl rfl))) ((Fra.blk fr _).call (h__law_take.blk _) rfl (sl_cons ((Fra.blk fr _).v 0 rfl (.inr (.inl rfl))) (sl_cons (se_T ((Fra.blk fr _).v 2 rfl (.inr (.inl rfl)))) sl_nil)) rfl) (fun _ _ => rfl)) (fun _ _ => rfl)) rfl rfl (fun _ => rfl) (fun _ => rfl)))
  sss_nil)))

abbrev st__law_is_name : Stmt := topS 10
def N__law_is_name : List Str := ["_law_text_here", "_law_sign"]
theorem sc__law_is_name : FnScope N__law_is_name ["_law_text_here"] (defScope st__law_is_name) := ⟨rfl, rfl, rfl, by decide +kernel, rfl, by decide +kernel, by decide +kernel⟩
def x__law_is_name : Sx := xSeq (xIf (tmNot (mBl (mChain dLt dLt (mC (.int 0)) (m1 dLen (mV 0)) (mC (.int 9))))) (xSeq (xRet (mC (.bl false))) (xSkip)) (xSkip)) (xSeq (xRet (m2 dEq (m1 dLen (mLc (iSeq (mV 0)) (gN 1) (mBl (mChain dLe dLe (mC (.str "a")) (mV 1) (mC (.str "z")))) (mV 1) [1])) (m1 dLen (mV 0)))) (xSkip))
theorem b__law_is_name {P : Pl} {mg : Str → Option Value} (fr : Fra P N__law_is_name (defScope st__law_is_name) mg) (mf : MgF mg) (fn : ∀ y X, P.M X → X.fn y = true) : SSs P (defBody st__law_is_name) (x__law_is_name) :=
  (sss_cons (ss_if (st_not (st_chain (fun _ _ => op_ltA) (fun _ _ => op_ltA) s_C s_C se_int (fr.len rfl mf.z_len (fr.v 0 rfl (.inl rfl)) rfl) se_int rfl)) (sss_cons (ss_ret se_bool)
  sss_nil) sss_nil)
  (sss_cons (ss_ret (se_eq fr (fr.len rfl mf.z_len (se_lc fr [("_law_sign", 1)] (si_seq fr.K (fr.v 0 rfl (.inl rfl))) rfl ((Fra.blk fr _).g 1 rfl (.inl rfl) (.inl rfl)) (sifs_one (st_chain (fun _ _ => op_leA) (fun _ _ => op_leA) s_C s_C se_str ((Fra.blk fr _).v 1 rfl (.inl rfl)) se_str rfl)) ((Fra.blk fr _).v 1 rfl (.inl rfl)) (fun _ _ => rfl)) rfl) (fr.len rfl mf.z_len (fr.v 0 rfl (.inl rfl)) rfl) rfl))
  sss_nil))

abbrev st__law_told : Stmt := topS 11
def N__law_told : List Str := ["_law_found", "_law_due"]
theorem sc__law_told : FnScope N__law_told ["_law_found", "_law_due"] (defScope st__law_told) := ⟨rfl, rfl, rfl, by decide +kernel, rfl, by decide +kernel, by decide +kernel⟩
def x__law_told : Sx := xSeq (xRet (mAnd (m2 dIsi (mV 0) (mC (.ty "bool"))) (m2 dEq (mV 0) (mV 1)))) (xSkip)
theorem b__law_told {P : Pl} {mg : Str → Option Value} (fr : Fra P N__law_told (defScope st__law_told) mg) (mf : MgF mg) (fn : ∀ y X, P.M X → X.fn y = true) : SSs P (defBody st__law_told) (x__law_told) :=
  (sss_cons (ss_ret (se_and fr (fr.isi rfl mf.z_isinstance (fr.v 0 rfl (.inl rfl)) (fr.ty rfl mf.z_bool PyProof.Rows.boot_bool) rfl) (se_one (se_eq fr (fr.v 0 rfl (.inl rfl)) (fr.v 1 rfl (.inl rfl)) rfl))))
  sss_nil)

abbrev st_law : Stmt := topS 12
def N_law : List Str := ["_law_script", "_law_thing", "_law_k", "_law_cell", "_law_text_here", "_law_number", "_law_other"]
theorem sc_law : FnScope N_law ["_law_script"] (defScope st_law) := ⟨rfl, rfl, rfl, by decide +kernel, rfl, by decide +kernel, by decide +kernel⟩
def x_law (fs__law_told fs_is_whole fs__law_is_name fs_is_name fs__law_text fs__law_source fs__law_cell_at : FS) : Sx := xSeq (xFor (iSeq (mLst (lCons (mF (mC .non)) (lCons (mF (mC (.bl true))) (lCons (mF (mC (.bl false))) (lCons (mF (mLst (lNil))) (lCons (mF (mLst (lCons (mF (mC (.str "a"))) (lNil)))) (lCons (mF (mTup (lCons (mF (mC (.str "a"))) (lNil)))) (lCons (mF (mNewK)) (lCons (mF (mDisp (lCons (mF (mC (.str "a"))) (lCons (mF (mC (.int 1))) (lNil))))) (lCons (mF (mLst (lCons (mF (mC (.int 1))) (lNil)))) (lNil)))))))))))) (gN 1) (xSeq (xIf (tmOr (tmNot (mTru (mCall fs__law_told (lCons (mT (mCall fs_is_whole (lCons (mT (mV 1)) (lNil)))) (lCons (mT (mC (.bl false))) (lNil)))))) (tmNot (mTru (mCall fs__law_told (lCons (mT (mCall fs_is_name (lCons (mT (mV 1)) (lNil)))) (lCons (mT (mC (.bl false))) (lNil))))))) (xSeq (xRet (mC (.bl false))) (xSkip)) (xSkip)) (xSkip))) (xSeq (xFor (iInts rng1 (lCons (m2 dMax (mC (.int 4)) (m2 dMin (m1 dLen (mV 0)) (mC (.int 40)))) (lNil))) (gN 2) (xSeq (xAsg (mCall fs__law_cell_at (lCons (mT (mV 0)) (lCons (mT (mV 2)) (lNil)))) (gN 3)) (xSeq (xAsg (mCall fs__law_text (lCons (mCall fs__law_source (lCons (mT (mV 3)) (lNil))) (lNil))) (gN 4)) (xSeq (xAsg (m2 dSub (m2 dMul (m2 dMod (mV 3) (m2 dPow (mC (.int 10)) (mC (.int 60)))) (m2 dPow (mC (.int 10)) (mC (.int 40)))) (m2 dMod (mV 3) (mC (.int 7)))) (gN 5)) (xSeq (xIf (tmOr (tmNot (mTru (mCall fs__law_told (lCons (mT (mCall fs_is_whole (lCons (mT (mV 5)) (lNil)))) (lCons (mT (mC (.bl true))) (lNil)))))) (tmNot (mTru (mCall fs__law_told (lCons (mT (mCall fs_is_name (lCons (mT (mV 5)) (lNil)))) (lCons (mT (mC (.bl false))) (lNil))))))) (xSeq (xRet (mC (.bl false))) (xSkip)) (xSkip)) (xSeq (xFor (iSeq (mLst (lCons (mF (mV 4)) (lCons (mF (m2 dAdd (mV 4) (mC (.str "\n")))) (lCons (mF (m2 dAdd (mC (.str "\n")) (mV 4))) (lCons (mF (m2 dAdd (mV 4) (mC (.str " ")))) (lNil))))))) (gN 6) (xSeq (xIf (tmOr (tmNot (mTru (mCall fs__law_told (lCons (mT (mCall fs_is_whole (lCons (mT (mV 6)) (lNil)))) (lCons (mT (mC (.bl false))) (lNil)))))) (tmNot (mTru (mCall fs__law_told (lCons (mT (mCall fs_is_name (lCons (mT (mV 6)) (lNil)))) (lCons (mT (mCall fs__law_is_name (lCons (mT (mV 6)) (lNil)))) (lNil))))))) (xSeq (xRet (mC (.bl false))) (xSkip)) (xSkip)) (xSkip))) (xSkip))))))) (xSeq (xRet (mC (.bl true))) (xSkip)))
theorem b_law {P : Pl} {mg : Str → Option Value} {fs__law_told fs_is_whole fs__law_is_name fs_is_name fs__law_text fs__law_source fs__law_cell_at : FS} (fr : Fra P N_law (defScope st_law) mg) (mf : MgF mg) (fn : ∀ y X, P.M X → X.fn y = true) (h__law_told : FnFact P "_law_told" fs__law_told) (h_is_whole : FnFact P "is_whole" fs_is_whole) (h__law_is_name : FnFact P "_law_is_name" fs__law_is_name) (h_is_name : FnFact P "is_name" fs_is_name) (h__law_text : FnFact P "_law_text" fs__law_text) (h__law_source : FnFact P "_law_source" fs__law_source) (h__law_cell_at : FnFact P "_law_cell_at" fs__law_cell_at) : SSs P (defBody st_law) (x_law fs__law_told fs_is_whole fs__law_is_name fs_is_name fs__law_text fs__law_source fs__law_cell_at) :=
  (sss_cons (ss_for fr.pass fr.calm (si_seq fr.K (se_lst (sl_cons (se_F se_none) (sl_cons (se_F se_bool) (sl_cons (se_F se_bool) (sl_cons (se_F (se_lst sl_nil rfl)) (sl_cons (se_F (se_lst (sl_cons (se_F se_str) sl_nil) rfl)) (sl_cons (se_F (se_tup (sl_cons (se_F se_str) sl_nil) rfl)) (sl_cons (se_F se_newK) (sl_cons (se_F (se_disp (sd_cons se_str se_int sd_nil) rfl rfl (by simp) (by decide))) (sl_cons (se_F (se_lst (sl_cons (se_F se_int) sl_nil) rfl)) sl_nil))))))))) rfl)) (fr.g 1 rfl (.inl rfl) (.inl rfl)) (sss_cons (ss_if (st_w (sw_or (st_not (st_tru fr.K (fr.call h__law_told rfl (sl_cons (se_T (fr.call h_is_whole rfl (sl_cons (se_T (fr.v 1 rfl (.inl rfl))) sl_nil) rfl)) (sl_cons (se_T se_bool) sl_nil)) rfl) (fun _ _ => rfl))) (sw_or1 (st_not (st_tru fr.K (fr.call h__law_told rfl (sl_cons (se_T (fr.call h_is_name rfl (sl_cons (se_T (fr.v 1 rfl (.inl rfl))) sl_nil) rfl)) (sl_cons (se_T se_bool) sl_nil)) rfl) (fun _ _ => rfl)))))) (sss_cons (ss_ret se_bool)
  sss_nil) sss_nil)
  sss_nil) (fun _ _ => rfl))
  (sss_cons (ss_for fr.pass fr.calm (fr.rng1 rfl mf.z_range (sl_cons (fr.max2 rfl mf.z_max se_int (fr.min2 rfl mf.z_min (fr.len rfl mf.z_len (fr.v 0 rfl (.inl rfl)) rfl) se_int rfl) rfl) sl_nil) rfl) (fr.g 2 rfl (.inl rfl) (.inl rfl)) (sss_cons (ss_asg (fr.call h__law_cell_at rfl (sl_cons (se_T (fr.v 0 rfl (.inl rfl))) (sl_cons (se_T (fr.v 2 rfl (.inl rfl))) sl_nil)) rfl) (fr.g 3 rfl (.inl rfl) (.inl rfl)) (fun _ _ => rfl) (fun _ _ => rfl) (fun _ => rfl))
  (sss_cons (ss_asg (fr.call h__law_text rfl (sl_cons (fr.call h__law_source rfl (sl_cons (se_T (fr.v 3 rfl (.inl rfl))) sl_nil) rfl) sl_nil) rfl) (fr.g 4 rfl (.inl rfl) (.inl rfl)) (fun _ _ => rfl) (fun _ _ => rfl) (fun _ => rfl))
  (sss_cons (ss_asg (se_sub (se_mul (se_mod (fr.v 3 rfl (.inl rfl)) (se_pow se_int se_int)) (se_pow se_int se_int)) (se_mod (fr.v 3 rfl (.inl rfl)) se_int)) (fr.g 5 rfl (.inl rfl) (.inl rfl)) (fun _ _ => rfl) (fun _ _ => rfl) (fun _ => rfl))
  (sss_cons (ss_if (st_w (sw_or (st_not (st_tru fr.K (fr.call h__law_told rfl (sl_cons (se_T (fr.call h_is_whole rfl (sl_cons (se_T (fr.v 5 rfl (.inl rfl))) sl_nil) rfl)) (sl_cons (se_T se_bool) sl_nil)) rfl) (fun _ _ => rfl))) (sw_or1 (st_not (st_tru fr.K (fr.call h__law_told rfl (sl_cons (se_T (fr.call h_is_name rfl (sl_cons (se_T (fr.v 5 rfl (.inl rfl))) sl_nil) rfl)) (sl_cons (se_T se_bool) sl_nil)) rfl) (fun _ _ => rfl)))))) (sss_cons (ss_ret se_bool)
  sss_nil) sss_nil)
  (sss_cons (ss_for fr.pass fr.calm (si_seq fr.K (se_lst (sl_cons (se_F (fr.v 4 rfl (.inl rfl))) (sl_cons (se_F (se_add fr.K (fr.v 4 rfl (.inl rfl)) se_str)) (sl_cons (se_F (se_add fr.K se_str (fr.v 4 rfl (.inl rfl)))) (sl_cons (se_F (se_add fr.K (fr.v 4 rfl (.inl rfl)) se_str)) sl_nil)))) rfl)) (fr.g 6 rfl (.inl rfl) (.inl rfl)) (sss_cons (ss_if (st_w (sw_or (st_not (st_tru fr.K (fr.call h__law_told rfl (sl_cons (se_T (fr.call h_is_whole rfl (sl_cons (se_T (fr.v 6 rfl (.inl rfl))) sl_nil) rfl)) (sl_cons (se_T se_bool) sl_nil)) rfl) (fun _ _ => rfl))) (sw_or1 (st_not (st_tru fr.K (fr.call h__law_told rfl (sl_cons (se_T (fr.call h_is_name rfl (sl_cons (se_T (fr.v 6 rfl (.inl rfl))) sl_nil) rfl)) (sl_cons (se_T (fr.call h__law_is_name rfl (sl_cons (se_T (fr.v 6 rfl (.inl rfl))) sl_nil) rfl)) sl_nil)) rfl) (fun _ _ => rfl)))))) (sss_cons (ss_ret se_bool)
  sss_nil) sss_nil)
  sss_nil) (fun _ _ => rfl))
  sss_nil))))) (fun _ _ => rfl))
  (sss_cons (ss_ret se_bool)
  sss_nil)))

noncomputable def fs__law_told : FS := ⟨[false, false], bodyF [false, false] (x__law_told) 2⟩
theorem eq__law_told (ds : List D) : fs__law_told.F ds = bodyF [false, false] (x__law_told) 2 ds := by rw [fs__law_told]
noncomputable def fs_is_whole : FS := ⟨[false], bodyF [false] (x_is_whole) 1⟩
theorem eq_is_whole (ds : List D) : fs_is_whole.F ds = bodyF [false] (x_is_whole) 1 ds := by rw [fs_is_whole]
noncomputable def fs__law_is_name : FS := ⟨[false], bodyF [false] (x__law_is_name) 2⟩
theorem eq__law_is_name (ds : List D) : fs__law_is_name.F ds = bodyF [false] (x__law_is_name) 2 ds := by rw [fs__law_is_name]
noncomputable def fs_is_name : FS := ⟨[false], bodyF [false] (x_is_name) 2⟩
theorem eq_is_name (ds : List D) : fs_is_name.F ds = bodyF [false] (x_is_name) 2 ds := by rw [fs_is_name]
noncomputable def fs__law_take : FS := ⟨[true, false], bodyF [true, false] (x__law_take) 4⟩
theorem eq__law_take (ds : List D) : fs__law_take.F ds = bodyF [true, false] (x__law_take) 4 ds := by rw [fs__law_take]
noncomputable def fs__law_text : FS := ⟨[true], bodyF [true] (x__law_text fs__law_take) 4⟩
theorem eq__law_text (ds : List D) : fs__law_text.F ds = bodyF [true] (x__law_text fs__law_take) 4 ds := by rw [fs__law_text]
noncomputable def fs__law_source : FS := ⟨[false], bodyF [false] (x__law_source) 1⟩
theorem eq__law_source (ds : List D) : fs__law_source.F ds = bodyF [false] (x__law_source) 1 ds := by rw [fs__law_source]
noncomputable def fs__law_cell_at : FS := ⟨[false, false], bodyF [false, false] (x__law_cell_at) 2⟩
theorem eq__law_cell_at (ds : List D) : fs__law_cell_at.F ds = bodyF [false, false] (x__law_cell_at) 2 ds := by rw [fs__law_cell_at]
noncomputable def fs_law : FS := ⟨[false], bodyF [false] (x_law fs__law_told fs_is_whole fs__law_is_name fs_is_name fs__law_text fs__law_source fs__law_cell_at) 7⟩
theorem eq_law (ds : List D) : fs_law.F ds = bodyF [false] (x_law fs__law_told fs_is_whole fs__law_is_name fs_is_name fs__law_text fs__law_source fs__law_cell_at) 7 ds := by rw [fs_law]
end VL

namespace VL
open PySem PySem.Spec PyProof.Rows L2 VM
/-! ### what all laws share: the cell, its source, its numbers -/
theorem take_eq (m : VM.M) (n s t k : Int) (hn : 0 ≤ n) (hk : 0 < k) (hk2 : k < 2 ^ 200) : ∃ (r : Nat) (n' t' : Int), 0 ≤ n' ∧ (r : Int) < k ∧ fs__law_take.F [srcD n s t, .int k] = .ok false (nD r) [srcD n' s t', .int k] := by
  by_cases h : 0 < n
  · refine ⟨(n % k).toNat, n / k, t, Int.ediv_nonneg hn (Int.le_of_lt hk), ?_, ?_⟩
    · have := Int.emod_lt_of_pos n hk
      have := Int.emod_nonneg n (Int.ne_of_gt hk)
      omega
    · rw [eq__law_take]
      have hr : ((n % k).toNat : Int) = n % k := Int.toNat_of_nonneg (Int.emod_nonneg n (Int.ne_of_gt hk))
      show _ = FA.ok false (.int ((n % k).toNat : Int)) _
      rw [hr]
      refine bodyF_sh (e := [some ⟨.io, srcD (n / k) s t⟩, sh (.int k), sh (.int (n % k)), none]) ?_ rfl
      unfold x__law_take
      have g := get_ok (a := mV 0) (b := mC (.str "number")) (e := [some ⟨.io, srcD n s t⟩, sh (.int k), none, none]) rfl rfl rfl rfl (get_n (n := n) (s := s) (t := t))
      have c := mb_gt (j := 0) g rfl
      rw [decide_eq_true h] at c
      refine xSeq_rt ((xIf_t c).trans ?_)
      refine Eq.trans (xSeq_nx (e1 := [some ⟨.io, srcD n s t⟩, sh (.int k), sh (.int (n % k)), none]) (xAsg_sh (m2_mod (j := k) g rfl hk) rfl)) ?_
      have g2 := get_ok (a := mV 0) (b := mC (.str "number")) (e := [some ⟨.io, srcD n s t⟩, sh (.int k), sh (.int (n % k)), none]) rfl rfl rfl rfl (get_n (n := n) (s := s) (t := t))
      have d := m2_div (b := mV 1) (j := k) g2 rfl (cDiv_ok hk hk2)
      refine Eq.trans (xSeq_nx (e1 := [some ⟨.io, srcD (n / k) s t⟩, sh (.int k), sh (.int (n % k)), none]) ((xPut_ok (mi := mC (.str "number")) d rfl rfl rfl rfl put_n).trans rfl)) rfl
  · let x := (s + 7919 * (t + 1)) * 48271 % 2147483647
    let y := x * x % 2147483629
    let z := (y + (t + 1)) * (y + 3) % 2147483587 / 7 % k
    have x0 : 0 ≤ x := Int.emod_nonneg _ (by decide)
    have x1 : x < 2147483647 := Int.emod_lt_of_pos _ (by decide)
    have y0 : 0 ≤ y := Int.emod_nonneg _ (by decide)
    have y1 : y < 2147483629 := Int.emod_lt_of_pos _ (by decide)
    have z0 : 0 ≤ z := Int.emod_nonneg _ (Int.ne_of_gt hk)
    have z1 : z < k := Int.emod_lt_of_pos _ hk
    refine ⟨z.toNat, n, t + 1, hn, by omega, ?_⟩
    rw [eq__law_take]
    have hr : (z.toNat : Int) = z := Int.toNat_of_nonneg z0
    show _ = FA.ok false (.int (z.toNat : Int)) _
    rw [hr]
    refine bodyF_sh (e := [some ⟨.io, srcD n s (t + 1)⟩, sh (.int k), none, sh (.int y)]) ?_ rfl
    unfold x__law_take
    have g := get_ok (a := mV 0) (b := mC (.str "number")) (e := [some ⟨.io, srcD n s t⟩, sh (.int k), none, none]) rfl rfl rfl rfl (get_n (n := n) (s := s) (t := t))
    have c := mb_gt (j := 0) g rfl
    rw [decide_eq_false h] at c
    refine Eq.trans (xSeq_nx (e1 := [some ⟨.io, srcD n s t⟩, sh (.int k), none, none]) ((xIf_f c).trans rfl)) ?_
    have g1 := get_ok (a := mV 0) (b := mC (.str "turn")) (e := [some ⟨.io, srcD n s t⟩, sh (.int k), none, none]) rfl rfl rfl rfl (get_t (n := n) (s := s) (t := t))
    refine Eq.trans (xSeq_nx (e1 := [some ⟨.io, srcD n s (t + 1)⟩, sh (.int k), none, none]) ((xPut_ok (mi := mC (.str "turn")) (m2_add (b := mC (.int 1)) (j := 1) g1 rfl) rfl rfl rfl rfl put_t).trans rfl)) ?_
    have g2 := get_ok (a := mV 0) (b := mC (.str "seed")) (e := [some ⟨.io, srcD n s (t + 1)⟩, sh (.int k), none, none]) rfl rfl rfl rfl (get_s (n := n) (s := s) (t := t + 1))
    have g3 := get_ok (a := mV 0) (b := mC (.str "turn")) (e := [some ⟨.io, srcD n s (t + 1)⟩, sh (.int k), none, none]) rfl rfl rfl rfl (get_t (n := n) (s := s) (t := t + 1))
    have p1 := m2_mod (b := mC (.int 2147483647)) (j := 2147483647) (m2_mul (b := mC (.int 48271)) (j := 48271) (m2_add g2 (m2_mul (a := mC (.int 7919)) (i := 7919) rfl g3 (cMul_l (by decide) (by decide)))) rfl (cMul_r (by decide) (by decide))) rfl (by decide)
    refine Eq.trans (xSeq_nx (e1 := [some ⟨.io, srcD n s (t + 1)⟩, sh (.int k), none, sh (.int x)]) (xAsg_sh p1 rfl)) ?_
    have p2 := m2_mod (b := mC (.int 2147483629)) (j := 2147483629) (m2_mul (a := mV 3) (b := mV 3) (i := x) (j := x) (e := [some ⟨.io, srcD n s (t + 1)⟩, sh (.int k), none, sh (.int x)]) rfl rfl (cMul_l (by omega) (by omega))) rfl (by decide)
    refine Eq.trans (xSeq_nx (e1 := [some ⟨.io, srcD n s (t + 1)⟩, sh (.int k), none, sh (.int y)]) (xAsg_sh p2 rfl)) ?_
    have g4 := get_ok (a := mV 0) (b := mC (.str "turn")) (e := [some ⟨.io, srcD n s (t + 1)⟩, sh (.int k), none, sh (.int y)]) rfl rfl rfl rfl (get_t (n := n) (s := s) (t := t + 1))
    have p3 := m2_add (a := mV 3) (b := mC (.int 3)) (i := y) (j := 3) (e := [some ⟨.io, srcD n s (t + 1)⟩, sh (.int k), none, sh (.int y)]) rfl rfl
    have p4 := m2_mod (b := mV 1) (j := k) (m2_div (b := mC (.int 7)) (j := 7) (m2_mod (b := mC (.int 2147483587)) (j := 2147483587) (m2_mul (m2_add (a := mV 3) (i := y) (e := [some ⟨.io, srcD n s (t + 1)⟩, sh (.int k), none, sh (.int y)]) rfl g4) p3 (cMul_r (by omega) (by omega))) rfl (by decide)) rfl (cDiv_ok (by decide) (by decide))) rfl hk
    exact xSeq_rt (xRet_sh p4)
abbrev iod (d : D) : Option VM.Slot := some ⟨.io, d⟩
theorem take_call {n s t k : Int} {rest : List (Option VM.Slot)} {bm : Sm} (hn : 0 ≤ n) (hk : 0 < k) (hk2 : k < 2 ^ 200) (hb : bm (iod (srcD n s t) :: rest) = .ok ⟨.sh, .int k⟩ (iod (srcD n s t) :: rest)) :
    ∃ (r : Nat) (n' t' : Int), 0 ≤ n' ∧ (r : Int) < k ∧ mCall fs__law_take (lCons (mV 0) (lCons (mT bm) lNil)) (iod (srcD n s t) :: rest) = .ok ⟨.sh, nD r⟩ (iod (srcD n' s t') :: rest) := by
  obtain ⟨r, n', t', h1, h2, h3⟩ := take_eq .io n s t k hn hk hk2
  refine ⟨r, n', t', h1, h2, ?_⟩
  refine (mCall_2 (s := ⟨.al 0, .non⟩) rfl (mT_sh hb)).trans ?_
  exact call2_io (m := .io) rfl rfl rfl h3
theorem m1_lenF {a : Sm} {e e1 : VM.Env} {xs : List VM.D} (ha : a e = .ok ⟨.sh, .frl xs⟩ e1) : m1 dLen a e = .ok ⟨.sh, nD xs.length⟩ e1 := m1_ok ha rfl rfl
theorem cell_at_eq (xs : List Int) (k : Nat) : ∃ x, fs__law_cell_at.F [.frl (xs.map D.int), nD k] = .ok false (.int x) [.frl (xs.map D.int), nD k] := by
  have hc := mb_lt (a := mV 1) (b := m1 dLen (mV 0)) (i := k) (e := [sh (.frl (xs.map D.int)), sh (nD k)]) rfl (m1_lenF (xs := xs.map D.int) rfl)
  rw [List.length_map] at hc
  by_cases h : k < xs.length
  · refine ⟨xs[k], ?_⟩
    rw [decide_eq_true (by omega)] at hc
    rw [eq__law_cell_at]
    refine bodyF_sh (e := [sh (.frl (xs.map D.int)), sh (nD k)]) ?_ rfl
    unfold x__law_cell_at
    have hi : (xs.map D.int)[k]? = some (D.int xs[k]) := by rw [List.getElem?_map, List.getElem?_eq_getElem h]; rfl
    exact xSeq_rt ((xIf_t hc).trans (xSeq_rt (xRet_sh (m2_ok (d1 := .frl (xs.map D.int)) (d2 := nD k) rfl rfl rfl rfl (dIx_frl hi)))))
  · refine ⟨7919 * (k : Int) + 13, ?_⟩
    rw [decide_eq_false (by omega)] at hc
    rw [eq__law_cell_at]
    refine bodyF_sh (e := [sh (.frl (xs.map D.int)), sh (nD k)]) ?_ rfl
    unfold x__law_cell_at
    refine (xSeq_nx ((xIf_f hc).trans rfl)).trans (xSeq_rt (xRet_sh ?_))
    exact m2_add (j := 13) (m2_mul (a := mC (.int 7919)) (b := mV 1) (i := 7919) (j := k) (e := [sh (.frl (xs.map D.int)), sh (nD k)]) rfl rfl (cMul_l (by decide) (by decide))) rfl
theorem merge_src (n s t : Int) : mergeG [] [(.inr "number", .int n), (.inr "seed", .int s), (.inr "turn", .int t)] = [(.inr "number", .int n), (.inr "seed", .int s), (.inr "turn", .int t)] := by
  simp [mergeG, putG, key_ns, key_nt, key_st]
theorem source_eq (x : Int) : ∃ n s : Int, 0 ≤ n ∧ fs__law_source.F [.int x] = .ok true (srcD n s 0) [.int x] := by
  have hP := m2_pow (a := mC (.int 10)) (b := mC (.int 18)) (i := 10) (j := 18) (e := [sh (.int x)]) rfl rfl (cPow_of (by decide) (by decide) (by decide))
  have hG := m1_int_bl (m2_ge (a := mV 0) (i := x) (e := [sh (.int x)]) rfl hP)
  have hM : m2 dMax (mC (.int 0)) (mV 0) [sh (.int x)] = .ok ⟨.sh, .int (if x > 0 then x else 0)⟩ [sh (.int x)] := m2_ok (d1 := .int 0) (d2 := .int x) rfl rfl rfl rfl rfl
  have c1 : ((if decide ((10 : Int) ^ (18 : Int).toNat ≤ x) = true then 1 else 0 : Nat) : Int) < 2 ^ 64 ∧ -(2 ^ 64) < ((if decide ((10 : Int) ^ (18 : Int).toNat ≤ x) = true then 1 else 0 : Nat) : Int) := by split <;> decide
  have hN := m2_mul hM hG (cMul_r c1.2 c1.1)
  have hS := m2_mod (a := mV 0) (b := mC (.int 2147483629)) (i := x) (j := 2147483629) (e := [sh (.int x)]) rfl rfl (by decide)
  have n0 : 0 ≤ (if x > 0 then x else 0) * ((if decide ((10 : Int) ^ (18 : Int).toNat ≤ x) = true then 1 else 0 : Nat) : Int) := Int.mul_nonneg (by split <;> omega) (by omega)
  generalize hn : (if x > 0 then x else 0) * ((if decide ((10 : Int) ^ (18 : Int).toNat ≤ x) = true then 1 else 0 : Nat) : Int) = n at n0 hN
  refine ⟨n, x % 2147483629, n0, ?_⟩
  rw [eq__law_source]
  refine bodyF_ow (e := [sh (.int x)]) ?_ rfl
  unfold x__law_source
  refine xSeq_rt (xRet_ow ?_)
  have hL : (lCons (mF (mC (.str "number"))) (lCons (mF (m2 dMul (m2 dMax (mC (.int 0)) (mV 0)) (m1 dInt (m2 dGe (mV 0) (m2 dPow (mC (.int 10)) (mC (.int 18))))))) (lCons (mF (mC (.str "seed"))) (lCons (mF (m2 dMod (mV 0) (mC (.int 2147483629)))) (lCons (mF (mC (.str "turn"))) (lCons (mF (mC (.int 0))) (lNil))))))) [sh (.int x)] = .ok [⟨.sh, .str "number"⟩, ⟨.sh, .int n⟩, ⟨.sh, .str "seed"⟩, ⟨.sh, .int (x % 2147483629)⟩, ⟨.sh, .str "turn"⟩, ⟨.sh, .int 0⟩] [sh (.int x)] :=
    lCons_ok (mF_sh' (m := mC (.str "number")) rfl) (lCons_ok (mF_sh' hN) (lCons_ok (mF_sh' (m := mC (.str "seed")) rfl) (lCons_ok (mF_sh' hS) (lCons_ok (mF_sh' (m := mC (.str "turn")) rfl) (lCons_ok (mF_sh' (m := mC (.int 0)) rfl) (r := lNil) (ss := []) rfl)))))
  have hp : pairD [.str "number", .int n, .str "seed", .int (x % 2147483629), .str "turn", .int 0] = some [(.inr "number", .int n), (.inr "seed", .int (x % 2147483629)), (.inr "turn", .int 0)] := rfl
  have hs : shs [(⟨.sh, .str "number"⟩ : VM.Slot), ⟨.sh, .int n⟩, ⟨.sh, .str "seed"⟩, ⟨.sh, .int (x % 2147483629)⟩, ⟨.sh, .str "turn"⟩, ⟨.sh, .int 0⟩] = some [.str "number", .int n, .str "seed", .int (x % 2147483629), .str "turn", .int 0] := rfl
  have hD := mDisp_ok hL hs hp (by simp)
  rw [merge_src] at hD
  exact hD
def FreeY (y : Option VM.Slot) : Prop := y = none ∨ ∃ i : Nat, y = sh (nD i)
end VL

namespace VL
open PySem PySem.Spec PyProof.Rows L2 VM

theorem told_eq (b : Bool) : fs__law_told.F [.bl b, .bl b] = .ok false (.bl true) [.bl b, .bl b] := by
  rw [eq__law_told]
  refine bodyF_sh (e := [sh (.bl b), sh (.bl b)]) ?_ rfl
  unfold x__law_told
  have h1 := isi_ok (a := mV 0) (e := [sh (.bl b), sh (.bl b)]) (d := .bl b) (T := "bool") (U := "bool") (b := true) rfl rfl rfl (by decide +kernel)
  have h2 : m2 dEq (mV 0) (mV 1) [sh (.bl b), sh (.bl b)] = .ok ⟨.sh, .bl (b == b)⟩ [sh (.bl b), sh (.bl b)] := m2_ok (d1 := .bl b) (d2 := .bl b) rfl rfl rfl rfl (dEq_bl b b)
  rw [beq_self_eq_true] at h2
  exact xSeq_rt (xRet_sh ((mAnd_t h1).trans h2))
theorem whole_eq {d : D} {T : String} {b1 b2 : Bool} (ht : tyOf d = some T) (h1 : kitB T "int" = some b1) (h2 : kitB T "bool" = some b2) : fs_is_whole.F [d] = .ok false (.bl (b1 && !b2)) [d] := by
  rw [eq_is_whole]
  refine bodyF_sh (e := [sh d]) ?_ rfl
  unfold x_is_whole
  have g1 := isi_ok (a := mV 0) (e := [sh d]) (s := ⟨.sh, d⟩) (d := d) (U := "int") rfl rfl ht h1
  have g2 := mNot_bl (isi_ok (a := mV 0) (e := [sh d]) (s := ⟨.sh, d⟩) (d := d) (U := "bool") rfl rfl ht h2)
  cases b1 with
  | true => exact xSeq_rt (xRet_sh ((mAnd_t g1).trans g2))
  | false => exact xSeq_rt (xRet_sh (mAnd_f g1))
theorem noname_eq {d : D} {T : String} (ht : tyOf d = some T) (h1 : kitB T "str" = some false) : fs_is_name.F [d] = .ok false (.bl false) [d] := by
  rw [eq_is_name]
  refine bodyF_sh (e := [sh d, none]) ?_ rfl
  unfold x_is_name
  have g1 := tmNot_ok (mTru_bl (isi_ok (a := mV 0) (e := [sh d, none]) (s := ⟨.sh, d⟩) (d := d) (U := "str") rfl rfl ht h1))
  exact xSeq_rt ((xIf_t (tmOr_t g1)).trans rfl)
abbrev letters : Str := "abcdefghijklmnopqrstuvwxyz"
theorem letters_list : letters.cps.toList = (List.range 26).map fun k => 97 + k := by decide +kernel
def low (c : Nat) : Bool := decide (97 ≤ c) && decide (c ≤ 122)
theorem low_iff (c : Nat) : decide (c ∈ letters.cps.toList) = low c := by
  rw [letters_list]
  unfold low
  rw [← Bool.decide_and]
  apply decide_eq_decide.mpr
  rw [List.mem_map]
  constructor
  · rintro ⟨k, hk, rfl⟩
    rw [List.mem_range] at hk
    omega
  · intro h
    exact ⟨c - 97, List.mem_range.mpr (by omega), by omega⟩
theorem in_letters (c : Nat) : dInS false (.str ⟨#[c]⟩) (.str letters) = .sh (.bl (low c)) := by
  rw [← low_iff]
  rfl
def sgn (c : Nat) : D := .str ⟨#[c]⟩
theorem lc_name (z : Str) : ∀ (cs : List Nat) (acc : List D), acc.length + cs.length ≤ 1000 → lcD (gN 1) tmYes (m2 (dInS false) (mV 1) (mC (.str letters))) [1] (cs.map sgn) acc [sh (.str z), none] = .ok ⟨.ow, .lst (acc ++ cs.map fun c => .bl (low c))⟩ [sh (.str z), none]
  | [], acc, _ => by simp [lcD]
  | c :: cs, acc, h => by
    rw [List.map_cons, lcD]
    have hg : (gN 1).run ⟨.sh, sgn c⟩ (wipeE [1] [sh (.str z), none]) = some [sh (.str z), sh (sgn c)] := rfl
    rw [hg]
    dsimp only
    have hy : tmYes [sh (.str z), sh (sgn c)] = .ok true [sh (.str z), sh (sgn c)] := rfl
    rw [hy]
    dsimp only
    have hm : mF (m2 (dInS false) (mV 1) (mC (.str letters))) [sh (.str z), sh (sgn c)] = .ok ⟨.sh, .bl (low c)⟩ [sh (.str z), sh (sgn c)] := mF_sh' (m2_ok (d1 := sgn c) (d2 := .str letters) rfl rfl rfl rfl (in_letters c))
    rw [hm]
    dsimp only
    rw [if_pos (by simp at h ⊢; omega)]
    have hw : wipeE [1] [sh (.str z), sh (sgn c)] = [sh (.str z), none] := rfl
    rw [hw, lc_name z cs _ (by simp at h ⊢; omega), List.append_assoc]
    rfl
theorem bls_map (bs : List Nat) : bls (bs.map fun c => D.bl (low c)) = some (bs.map low) := by
  induction bs with
  | nil => rfl
  | cons c bs ih => rw [List.map_cons, bls, ih]; rfl
def nameB (z : Str) : Bool := (decide (1 ≤ z.length) && decide (z.length ≤ 8)) && z.cps.toList.all low
theorem name_eq (z : Str) (hz : z.length ≤ 1000) : fs_is_name.F [.str z] = .ok false (.bl (nameB z)) [.str z] := by
  rw [eq_is_name]
  refine bodyF_sh (e := [sh (.str z), none]) ?_ rfl
  unfold x_is_name
  have g1 := tmNot_ok (mTru_bl (isi_ok (a := mV 0) (e := [sh (.str z), none]) (s := ⟨.sh, .str z⟩) (d := .str z) (U := "str") rfl rfl rfl (by decide +kernel : kitB "str" "str" = some true)))
  have g2 := tmNot_ok (mBl_ok (mChain_ok (f := dLe) (f' := dLe) (a := mC (.int 1)) (c := mC (.int 8)) (b1 := decide ((1 : Int) ≤ (z.length : Int))) (b2 := decide ((z.length : Int) ≤ 8)) rfl (m1_lenS (a := mV 0) (e := [sh (.str z), none]) rfl hz) rfl rfl rfl))
  have g3 := (tmOr_f g1).trans g2
  have e1 : (decide ((1 : Int) ≤ (z.length : Int)) && decide ((z.length : Int) ≤ 8)) = (decide (1 ≤ z.length) && decide (z.length ≤ 8)) := by
    congr 1 <;> exact decide_eq_decide.mpr (by omega)
  rw [e1] at g3
  unfold nameB
  by_cases hb : (decide (1 ≤ z.length) && decide (z.length ≤ 8)) = true
  · rw [hb] at g3 ⊢
    rw [Bool.true_and]
    refine Eq.trans (xSeq_nx ((xIf_f g3).trans rfl)) (xSeq_rt (xRet_sh ?_))
    have hs : z.cps.toList.length = z.length := by simp [Str.length]
    have hl := lc_name z z.cps.toList [] (by simp only [List.length_nil]; rw [hs]; omega)
    have hi : iSeq (mV 0) [sh (.str z), none] = .ok (z.cps.toList.map sgn) [sh (.str z), none] := iSeq_str rfl
    have hm := mLc_ok hi rfl hl rfl
    refine m1_ok hm rfl ?_
    show (match bls (z.cps.toList.map fun c => D.bl (low c)) with | some bs => RR.sh (.bl (bs.all id)) | none => .no) = _
    rw [bls_map]
    show RR.sh (.bl ((z.cps.toList.map low).all id)) = _
    rw [List.all_map]
    rfl
  · rw [Bool.eq_false_iff.mpr hb] at g3 ⊢
    exact xSeq_rt ((xIf_t g3).trans rfl)
end VL

namespace VL
open PySem PySem.Spec PyProof.Rows L2 VM

theorem le_a (c : Nat) : dLe (.str "a") (sgn c) = .sh (.bl (decide (97 ≤ c))) := by
  have ha : ("a" : Str).cps.toList = [97] := by decide +kernel
  show RR.sh (.bl (!decide ((⟨#[c]⟩ : Str).cps.toList < ("a" : Str).cps.toList))) = _
  rw [ha]
  have : ((⟨#[c]⟩ : Str).cps.toList < [97]) ↔ c < 97 := by
    show [c] < [97] ↔ _
    rw [List.cons_lt_cons_iff]
    simp
  rw [decide_eq_decide.mpr this, ← decide_not, decide_eq_decide.mpr (show ¬ c < 97 ↔ 97 ≤ c by omega)]
theorem le_z (c : Nat) : dLe (sgn c) (.str "z") = .sh (.bl (decide (c ≤ 122))) := by
  have ha : ("z" : Str).cps.toList = [122] := by decide +kernel
  show RR.sh (.bl (!decide (("z" : Str).cps.toList < (⟨#[c]⟩ : Str).cps.toList))) = _
  rw [ha]
  have : ([122] < (⟨#[c]⟩ : Str).cps.toList) ↔ 122 < c := by
    show [122] < [c] ↔ _
    rw [List.cons_lt_cons_iff]
    simp
  rw [decide_eq_decide.mpr this, ← decide_not, decide_eq_decide.mpr (show ¬ 122 < c ↔ c ≤ 122 by omega)]
theorem lc_low (z : Str) : ∀ (cs : List Nat) (acc : List D), acc.length + cs.length ≤ 1000 → lcD (gN 1) (mBl (mChain dLe dLe (mC (.str "a")) (mV 1) (mC (.str "z")))) (mV 1) [1] (cs.map sgn) acc [sh (.str z), none] = .ok ⟨.ow, .lst (acc ++ (cs.filter low).map sgn)⟩ [sh (.str z), none]
  | [], acc, _ => by simp [lcD]
  | c :: cs, acc, h => by
    rw [List.map_cons, lcD]
    have hg : (gN 1).run ⟨.sh, sgn c⟩ (wipeE [1] [sh (.str z), none]) = some [sh (.str z), sh (sgn c)] := rfl
    rw [hg]
    dsimp only
    have hy : mBl (mChain dLe dLe (mC (.str "a")) (mV 1) (mC (.str "z"))) [sh (.str z), sh (sgn c)] = .ok (low c) [sh (.str z), sh (sgn c)] := mBl_ok (mChain_ok (a := mC (.str "a")) (d1 := .str "a") (d2 := sgn c) (d3 := .str "z") rfl rfl rfl (le_a c) (le_z c))
    rw [hy]
    have hw : wipeE [1] [sh (.str z), sh (sgn c)] = [sh (.str z), none] := rfl
    cases hb : low c with
    | false =>
      dsimp only
      rw [hw, lc_low z cs acc (by simp at h; omega), List.filter_cons, hb]
      rfl
    | true =>
      dsimp only
      have hm : mF (mV 1) [sh (.str z), sh (sgn c)] = .ok ⟨.sh, sgn c⟩ [sh (.str z), sh (sgn c)] := rfl
      rw [hm]
      dsimp only
      rw [if_pos (by simp at h ⊢; omega), hw, lc_low z cs _ (by simp at h ⊢; omega), List.append_assoc, List.filter_cons, hb]
      rfl
theorem law_name_eq (z : Str) (hz : z.length ≤ 1000) : fs__law_is_name.F [.str z] = .ok false (.bl (nameB z)) [.str z] := by
  rw [eq__law_is_name]
  refine bodyF_sh (e := [sh (.str z), none]) ?_ rfl
  unfold x__law_is_name
  have hlen := m1_lenS (a := mV 0) (e := [sh (.str z), none]) rfl hz
  have g2 := tmNot_ok (mBl_ok (mChain_ok (f := dLt) (f' := dLt) (a := mC (.int 0)) (c := mC (.int 9)) (b1 := decide ((0 : Int) < (z.length : Int))) (b2 := decide ((z.length : Int) < 9)) rfl hlen rfl rfl rfl))
  have e1 : (decide ((0 : Int) < (z.length : Int)) && decide ((z.length : Int) < 9)) = (decide (1 ≤ z.length) && decide (z.length ≤ 8)) := by
    congr 1 <;> exact decide_eq_decide.mpr (by omega)
  rw [e1] at g2
  unfold nameB
  by_cases hb : (decide (1 ≤ z.length) && decide (z.length ≤ 8)) = true
  · rw [hb] at g2 ⊢
    rw [Bool.true_and]
    refine Eq.trans (xSeq_nx ((xIf_f g2).trans rfl)) (xSeq_rt (xRet_sh ?_))
    have hs : z.cps.toList.length = z.length := by simp [Str.length]
    have hl := lc_low z z.cps.toList [] (by simp only [List.length_nil]; rw [hs]; omega)
    have hi : iSeq (mV 0) [sh (.str z), none] = .ok (z.cps.toList.map sgn) [sh (.str z), none] := iSeq_str rfl
    have hm := mLc_ok hi rfl hl rfl
    have hq := m2_eqN (m1_lenL hm rfl) hlen
    refine hq.trans ?_
    have : decide ((([] : List D) ++ (z.cps.toList.filter low).map sgn).length = z.length) = z.cps.toList.all low := by
      rw [List.nil_append, List.length_map, ← hs]
      by_cases ha : z.cps.toList.all low = true
      · rw [ha]
        refine decide_eq_true (List.length_filter_eq_length_iff.mpr fun x hx => List.all_eq_true.mp ha x hx)
      · rw [Bool.eq_false_iff.mpr ha]
        refine decide_eq_false fun h => ha (List.all_eq_true.mpr (List.length_filter_eq_length_iff.mp h))
    rw [this]
  · rw [Bool.eq_false_iff.mpr hb] at g2 ⊢
    exact xSeq_rt ((xIf_t g2).trans rfl)
/-! ### the text of a cell -/
abbrev signs38 : Str := "abcdefghijklmnopqrstuvwxyzAZ019 _-/!(~"
theorem signs_len : signs38.cps.toList.length = 38 := by decide +kernel
theorem sign_at (r : Nat) (h : r < 38) : ∃ c, dIx (.str signs38) (nD r) = .sh (sgn c) := by
  have hl : r < signs38.cps.toList.length := by rw [signs_len]; exact h
  refine ⟨signs38.cps.toList[r], ?_⟩
  have ha : L2.atI signs38.cps.toList (r : Int) = some signs38.cps.toList[r] := by
    unfold L2.atI L2.ixN
    rw [if_pos (by omega), if_pos (by omega)]
    simp
  have hz : signs38.length ≤ sizeLine := by decide +kernel
  show (if signs38.length ≤ sizeLine then (match L2.atI signs38.cps.toList (r : Int) with | some c => RR.sh (.str ⟨#[c]⟩) | none => .no) else .no) = _
  rw [if_pos hz, ha]
  rfl
theorem lc_text {s k : Int} (hk : 0 < k) (hk2 : k ≤ 38) : ∀ (ks : List Nat) (acc : List Nat) (n t : Int), 0 ≤ n → acc.length + ks.length ≤ 1000 →
    ∃ (cs : List Nat) (n' t' : Int), cs.length = ks.length ∧ 0 ≤ n' ∧ lcD (gN 3) tmYes (m2 dIx (mV 1) (mCall fs__law_take (lCons (mV 0) (lCons (mT (mV 2)) (lNil))))) [3] (ks.map nD) (acc.map sgn) [iod (srcD n s t), sh (.str signs38), sh (.int k), none] = .ok ⟨.ow, .lst ((acc ++ cs).map sgn)⟩ [iod (srcD n' s t'), sh (.str signs38), sh (.int k), none]
  | [], acc, n, t, hn, _ => ⟨[], n, t, rfl, hn, by simp [lcD]⟩
  | j :: ks, acc, n, t, hn, hl => by
    obtain ⟨r, n1, t1, h1, h2, h3⟩ := take_call (s := s) (t := t) (rest := [sh (.str signs38), sh (.int k), sh (nD j)]) (bm := mV 2) hn hk (Int.lt_of_le_of_lt hk2 (by decide)) rfl
    obtain ⟨c, hc⟩ := sign_at r (by omega)
    obtain ⟨cs, n2, t2, g1, g3, g4⟩ := lc_text hk hk2 ks (acc ++ [c]) n1 t1 h1 (by simp at hl ⊢; omega)
    refine ⟨c :: cs, n2, t2, by simp [g1], g3, ?_⟩
    rw [List.map_cons, lcD]
    have hg : (gN 3).run ⟨.sh, nD j⟩ (wipeE [3] [iod (srcD n s t), sh (.str signs38), sh (.int k), none]) = some [iod (srcD n s t), sh (.str signs38), sh (.int k), sh (nD j)] := rfl
    rw [hg]
    dsimp only
    have hy : tmYes [iod (srcD n s t), sh (.str signs38), sh (.int k), sh (nD j)] = .ok true [iod (srcD n s t), sh (.str signs38), sh (.int k), sh (nD j)] := rfl
    rw [hy]
    dsimp only
    have hm := mF_sh' (m2_ok (f := dIx) (a := mV 1) (d1 := .str signs38) (d2 := nD r) (e := [iod (srcD n s t), sh (.str signs38), sh (.int k), sh (nD j)]) rfl h3 rfl rfl hc)
    rw [hm]
    dsimp only
    rw [if_pos (by simp at hl ⊢; omega)]
    have hw : wipeE [3] [iod (srcD n1 s t1), sh (.str signs38), sh (.int k), sh (nD j)] = [iod (srcD n1 s t1), sh (.str signs38), sh (.int k), none] := rfl
    rw [List.map_append, List.map_cons, List.map_nil] at g4
    rw [hw, g4, List.append_assoc]
    rfl
theorem strs_sgn : ∀ cs : List Nat, strsD (cs.map sgn) = some (cs.map fun c => (⟨#[c]⟩ : Str))
  | [] => rfl
  | c :: cs => by
    show (match strsD (cs.map sgn) with | some zs => some ((⟨#[c]⟩ : Str) :: zs) | none => none) = _
    rw [strs_sgn cs]
    rfl
theorem sum_one : ∀ cs : List Nat, ((cs.map fun c => (⟨#[c]⟩ : Str)).map (·.length)).sum = cs.length
  | [] => rfl
  | c :: cs => by
    rw [List.map_cons, List.map_cons, List.sum_cons, sum_one cs, List.length_cons]
    show 1 + cs.length = _
    omega
theorem text_eq (n s t : Int) (hn : 0 ≤ n) : ∃ (z : Str) (o : D), z.length ≤ 11 ∧ fs__law_text.F [srcD n s t] = .ok false (.str z) [o] := by
  obtain ⟨r, n1, t1, h1, h2, h3⟩ := take_call (s := s) (t := t) (rest := [sh (.str signs38), none, none]) (bm := mC (.int 2)) (k := 2) hn (by decide) (by decide) rfl
  have hk : ∃ k : Int, 0 < k ∧ k ≤ 38 ∧ [D.int 26, .int 38][r]? = some (.int k) := by
    have hr : r = 0 ∨ r = 1 := by omega
    rcases hr with rfl | rfl
    · exact ⟨26, by decide, by decide, rfl⟩
    · exact ⟨38, by decide, by decide, rfl⟩
  obtain ⟨k, k0, k1, k2⟩ := hk
  have hL : mLst (lCons (mF (mC (.int 26))) (lCons (mF (mC (.int 38))) (lNil))) [iod (srcD n s t), sh (.str signs38), none, none] = .ok ⟨.ow, .lst [.int 26, .int 38]⟩ [iod (srcD n s t), sh (.str signs38), none, none] := rfl
  obtain ⟨q, n2, t2, p1, p2, p3⟩ := take_call (s := s) (t := t1) (rest := [sh (.str signs38), sh (.int k), none]) (bm := mC (.int 11)) (k := 11) h1 (by decide) (by decide) rfl
  obtain ⟨cs, n3, t3, l1, q3, c3⟩ := lc_text (s := s) k0 k1 (List.range q) [] n2 t2 p1 (by simp; omega)
  rw [← upto_map, List.nil_append] at c3
  have hm := mLc_ok (iInts_1 p3 (by omega)) rfl c3 rfl
  have hl : cs.length ≤ 11 := by rw [l1, List.length_range]; omega
  refine ⟨Txt.join "" (cs.map fun c => (⟨#[c]⟩ : Str)), srcD n3 s t3, ?_, ?_⟩
  · show (Builtin.Str.glued _ _).length ≤ 11
    rw [PySem.size_glued, sum_one]
    have : ("" : Str).length = 0 := by decide +kernel
    rw [this]
    omega
  · rw [eq__law_text]
    refine bodyF_sh (e := [iod (srcD n3 s t3), sh (.str signs38), sh (.int k), none]) ?_ rfl
    unfold x__law_text
    refine Eq.trans (xSeq_nx (e1 := [iod (srcD n s t), sh (.str signs38), none, none]) rfl) ?_
    refine Eq.trans (xSeq_nx (xAsg_sh (m2_ok hL h3 rfl rfl (dIx_nat k2)) rfl)) ?_
    refine xSeq_rt (xRet_sh ?_)
    have hc := lCons_ok (r := lNil) (ss := []) hm rfl
    have hf : fJoin "" [.lst (cs.map sgn)] = .sh (.str (Txt.join "" (cs.map fun c => (⟨#[c]⟩ : Str)))) := by
      show (match strsD (cs.map sgn) with | some ys => (if ((ys : List Str).map (fun (y : Str) => y.length)).sum + ys.length * ("" : Str).length ≤ 16777216 then RR.sh (.str (Txt.join "" ys)) else .no) | none => .no) = _
      rw [strs_sgn]
      have : ("" : Str).length = 0 := by decide +kernel
      exact if_pos (by rw [sum_one, this]; omega)
    exact mTM_ok rfl hc rfl hf
end VL

namespace VL
open PySem PySem.Spec PyProof.Rows L2 VM

abbrev FreeA (y : Option VM.Slot) : Prop := y = none ∨ ∃ d, y = sh d
/-- what is asked of a thing that is no whole number and no name -/
def Odd (d : D) : Prop := (∃ o, fs_is_whole.F [d] = .ok false (.bl false) [o]) ∧ ∃ o, fs_is_name.F [d] = .ok false (.bl false) [o]
theorem odd_of {d : D} {T : String} {b1 b2 : Bool} (ht : tyOf d = some T) (h1 : kitB T "int" = some b1) (h2 : kitB T "bool" = some b2) (hb : (b1 && !b2) = false) (h3 : kitB T "str" = some false) : Odd d := by
  have h := whole_eq ht h1 h2
  rw [hb] at h
  exact ⟨⟨_, h⟩, _, noname_eq ht h3⟩
theorem turn1 {x0 x2 x3 x4 x5 x6 y : Option VM.Slot} {d : D} (hy : FreeA y) (h : Odd d) : (gN 1).run ⟨.sh, d⟩ [x0, y, x2, x3, x4, x5, x6] = some [x0, sh d, x2, x3, x4, x5, x6] ∧ (xSeq (xIf (tmOr (tmNot (mTru (mCall fs__law_told (lCons (mT (mCall fs_is_whole (lCons (mT (mV 1)) (lNil)))) (lCons (mT (mC (.bl false))) (lNil)))))) (tmNot (mTru (mCall fs__law_told (lCons (mT (mCall fs_is_name (lCons (mT (mV 1)) (lNil)))) (lCons (mT (mC (.bl false))) (lNil))))))) (xSeq (xRet (mC (.bl false))) (xSkip)) (xSkip)) (xSkip)).run [x0, sh d, x2, x3, x4, x5, x6] = .nx [x0, sh d, x2, x3, x4, x5, x6] := by
  obtain ⟨⟨o1, h1⟩, o2, h2⟩ := h
  refine ⟨by rcases hy with rfl | ⟨e, rfl⟩ <;> rfl, ?_⟩
  have a1 := (mCall_1 (mT_sh (m := mV 1) (d := d) (e := [x0, sh d, x2, x3, x4, x5, x6]) rfl)).trans (call1_sh rfl h1 rfl)
  have a2 := (mCall_2 (mT_sh a1) (mT_sh (m := mC (.bl false)) (d := .bl false) rfl)).trans (call2_sh rfl (told_eq false) rfl)
  have b1 := (mCall_1 (mT_sh (m := mV 1) (d := d) (e := [x0, sh d, x2, x3, x4, x5, x6]) rfl)).trans (call1_sh rfl h2 rfl)
  have b2 := (mCall_2 (mT_sh b1) (mT_sh (m := mC (.bl false)) (d := .bl false) rfl)).trans (call2_sh rfl (told_eq false) rfl)
  have c := (tmOr_f (tmNot_ok (mTru_bl a2))).trans (tmNot_ok (mTru_bl b2))
  exact Eq.trans (xSeq_nx ((xIf_f c).trans rfl)) rfl
theorem turn3 {x0 x1 x2 x3 x4 x5 y : Option VM.Slot} {z : Str} (hy : FreeA y) (hz : z.length ≤ 1000) : (gN 6).run ⟨.sh, .str z⟩ [x0, x1, x2, x3, x4, x5, y] = some [x0, x1, x2, x3, x4, x5, sh (.str z)] ∧ (xSeq (xIf (tmOr (tmNot (mTru (mCall fs__law_told (lCons (mT (mCall fs_is_whole (lCons (mT (mV 6)) (lNil)))) (lCons (mT (mC (.bl false))) (lNil)))))) (tmNot (mTru (mCall fs__law_told (lCons (mT (mCall fs_is_name (lCons (mT (mV 6)) (lNil)))) (lCons (mT (mCall fs__law_is_name (lCons (mT (mV 6)) (lNil)))) (lNil))))))) (xSeq (xRet (mC (.bl false))) (xSkip)) (xSkip)) (xSkip)).run [x0, x1, x2, x3, x4, x5, sh (.str z)] = .nx [x0, x1, x2, x3, x4, x5, sh (.str z)] := by
  refine ⟨by rcases hy with rfl | ⟨e, rfl⟩ <;> rfl, ?_⟩
  have h1 := whole_eq (d := .str z) (T := "str") (b1 := false) (b2 := false) rfl (by decide +kernel) (by decide +kernel)
  have a1 := (mCall_1 (mT_sh (m := mV 6) (d := .str z) (e := [x0, x1, x2, x3, x4, x5, sh (.str z)]) rfl)).trans (call1_sh rfl h1 rfl)
  have a2 := (mCall_2 (mT_sh a1) (mT_sh (m := mC (.bl false)) (d := .bl false) rfl)).trans (call2_sh rfl (told_eq false) rfl)
  have b1 := (mCall_1 (mT_sh (m := mV 6) (d := .str z) (e := [x0, x1, x2, x3, x4, x5, sh (.str z)]) rfl)).trans (call1_sh rfl (name_eq z hz) rfl)
  have b0 := (mCall_1 (mT_sh (m := mV 6) (d := .str z) (e := [x0, x1, x2, x3, x4, x5, sh (.str z)]) rfl)).trans (call1_sh rfl (law_name_eq z hz) rfl)
  have b2 := (mCall_2 (mT_sh b1) (mT_sh b0)).trans (call2_sh rfl (told_eq (nameB z)) rfl)
  have c := (tmOr_f (tmNot_ok (mTru_bl a2))).trans (tmNot_ok (mTru_bl b2))
  exact Eq.trans (xSeq_nx ((xIf_f c).trans rfl)) rfl
theorem app_len (a b : Str) : (a ++ b).length = a.length + b.length := by
  show (a.cps ++ b.cps).size = _
  rw [Array.size_append]
  rfl
theorem m2_addS {a b : Sm} {e e1 e2 : VM.Env} {x y : Str} (ha : a e = .ok ⟨.sh, .str x⟩ e1) (hb : b e1 = .ok ⟨.sh, .str y⟩ e2) (hz : x.length + y.length ≤ 1000) : m2 dAdd a b e = .ok ⟨.sh, .str (x ++ y)⟩ e2 := m2_ok ha hb rfl rfl (if_pos (small_line hz))
theorem law_true (ns : List Int) (hl : ns.length ≤ 63) (hb : ∀ z ∈ ns, Builtin.Int.intBits z ≤ 1048576) : ∃ o, fs_law.F [.frl (ns.map D.int)] = .ok false (.bl true) o := by
  -- the things
  have hL : mLst (lCons (mF (mC .non)) (lCons (mF (mC (.bl true))) (lCons (mF (mC (.bl false))) (lCons (mF (mLst (lNil))) (lCons (mF (mLst (lCons (mF (mC (.str "a"))) (lNil)))) (lCons (mF (mTup (lCons (mF (mC (.str "a"))) (lNil)))) (lCons (mF (mNewK)) (lCons (mF (mDisp (lCons (mF (mC (.str "a"))) (lCons (mF (mC (.int 1))) (lNil))))) (lCons (mF (mLst (lCons (mF (mC (.int 1))) (lNil)))) (lNil)))))))))) [sh (.frl (ns.map D.int)), none, none, none, none, none, none] = .ok ⟨.ow, .lst [.non, .bl true, .bl false, .lst [], .lst [.str "a"], .tup [.str "a"], .dic [], .dic [(.inr "a", .int 1)], .lst [.int 1]]⟩ [sh (.frl (ns.map D.int)), none, none, none, none, none, none] := rfl
  have hI := iSeq_lst (mF_ow' hL)
  have odds : ∀ d ∈ [D.non, .bl true, .bl false, .lst [], .lst [.str "a"], .tup [.str "a"], .dic [], .dic [(.inr "a", .int 1)], .lst [.int 1]], Odd d := by
    intro d hd
    simp only [List.mem_cons, List.not_mem_nil, or_false] at hd
    rcases hd with rfl | rfl | rfl | rfl | rfl | rfl | rfl | rfl | rfl
    · exact odd_of (T := "NoneType") (b1 := false) (b2 := false) rfl (by decide +kernel) (by decide +kernel) rfl (by decide +kernel)
    · exact odd_of (T := "bool") (b1 := true) (b2 := true) rfl (by decide +kernel) (by decide +kernel) rfl (by decide +kernel)
    · exact odd_of (T := "bool") (b1 := true) (b2 := true) rfl (by decide +kernel) (by decide +kernel) rfl (by decide +kernel)
    · exact odd_of (T := "list") (b1 := false) (b2 := false) rfl (by decide +kernel) (by decide +kernel) rfl (by decide +kernel)
    · exact odd_of (T := "list") (b1 := false) (b2 := false) rfl (by decide +kernel) (by decide +kernel) rfl (by decide +kernel)
    · exact odd_of (T := "tuple") (b1 := false) (b2 := false) rfl (by decide +kernel) (by decide +kernel) rfl (by decide +kernel)
    · exact odd_of (T := "dict") (b1 := false) (b2 := false) rfl (by decide +kernel) (by decide +kernel) rfl (by decide +kernel)
    · exact odd_of (T := "dict") (b1 := false) (b2 := false) rfl (by decide +kernel) (by decide +kernel) rfl (by decide +kernel)
    · exact odd_of (T := "list") (b1 := false) (b2 := false) rfl (by decide +kernel) (by decide +kernel) rfl (by decide +kernel)
  obtain ⟨e1, r1, y1, he1, hy1⟩ := forD_inv (g := gN 1) (b := xSeq (xIf (tmOr (tmNot (mTru (mCall fs__law_told (lCons (mT (mCall fs_is_whole (lCons (mT (mV 1)) (lNil)))) (lCons (mT (mC (.bl false))) (lNil)))))) (tmNot (mTru (mCall fs__law_told (lCons (mT (mCall fs_is_name (lCons (mT (mV 1)) (lNil)))) (lCons (mT (mC (.bl false))) (lNil))))))) (xSeq (xRet (mC (.bl false))) (xSkip)) (xSkip)) (xSkip))
    (fun i e => ∃ y, e = [sh (.frl (ns.map D.int)), y, none, none, none, none, none] ∧ FreeA y) (ds := [D.non, .bl true, .bl false, .lst [], .lst [.str "a"], .tup [.str "a"], .dic [], .dic [(.inr "a", .int 1)], .lst [.int 1]]) (e := [sh (.frl (ns.map D.int)), none, none, none, none, none, none]) 0 ⟨none, rfl, .inl rfl⟩ fun i d e hd ⟨y, he, hf⟩ => by
      subst he
      obtain ⟨g1, g2⟩ := turn1 (x0 := sh (.frl (ns.map D.int))) (x2 := none) (x3 := none) (x4 := none) (x5 := none) (x6 := none) hf (odds d (List.mem_of_getElem? hd))
      exact ⟨_, _, g1, .inl g2, _, rfl, .inr ⟨_, rfl⟩⟩
  subst he1
  -- the cells
  have hlen := m1_lenF (a := mV 0) (xs := ns.map D.int) (e := [sh (.frl (ns.map D.int)), y1, none, none, none, none, none]) rfl
  rw [List.length_map] at hlen
  have hmin : m2 dMin (m1 dLen (mV 0)) (mC (.int 40)) [sh (.frl (ns.map D.int)), y1, none, none, none, none, none] = .ok ⟨.sh, .int (if (40 : Int) < (ns.length : Int) then 40 else (ns.length : Int))⟩ [sh (.frl (ns.map D.int)), y1, none, none, none, none, none] := m2_ok hlen (d2 := .int 40) rfl rfl rfl rfl
  have hmax : ∃ K : Nat, K ≤ 1000 ∧ m2 dMax (mC (.int 4)) (m2 dMin (m1 dLen (mV 0)) (mC (.int 40))) [sh (.frl (ns.map D.int)), y1, none, none, none, none, none] = .ok ⟨.sh, nD K⟩ [sh (.frl (ns.map D.int)), y1, none, none, none, none, none] := by
    generalize hM : (if (40 : Int) < (ns.length : Int) then 40 else (ns.length : Int)) = M at hmin
    have m0 : 0 ≤ M ∧ M ≤ 63 := by subst hM; split <;> omega
    have h := m2_ok (f := dMax) (a := mC (.int 4)) (d1 := .int 4) (s1 := ⟨.sh, .int 4⟩) rfl hmin rfl rfl rfl
    refine ⟨(if M > 4 then M else 4).toNat, ?_, h.trans ?_⟩
    · split <;> omega
    · show VM.Ans.ok ⟨.sh, .int (if M > 4 then M else 4)⟩ _ = VM.Ans.ok ⟨.sh, .int (((if M > 4 then M else 4).toNat : Nat) : Int)⟩ _
      rw [Int.toNat_of_nonneg (by split <;> omega)]
  obtain ⟨K, hK, hm⟩ := hmax
  obtain ⟨e2, r2, he2⟩ := forD_inv (g := gN 2) (b := xSeq (xAsg (mCall fs__law_cell_at (lCons (mT (mV 0)) (lCons (mT (mV 2)) (lNil)))) (gN 3)) (xSeq (xAsg (mCall fs__law_text (lCons (mCall fs__law_source (lCons (mT (mV 3)) (lNil))) (lNil))) (gN 4)) (xSeq (xAsg (m2 dSub (m2 dMul (m2 dMod (mV 3) (m2 dPow (mC (.int 10)) (mC (.int 60)))) (m2 dPow (mC (.int 10)) (mC (.int 40)))) (m2 dMod (mV 3) (mC (.int 7)))) (gN 5)) (xSeq (xIf (tmOr (tmNot (mTru (mCall fs__law_told (lCons (mT (mCall fs_is_whole (lCons (mT (mV 5)) (lNil)))) (lCons (mT (mC (.bl true))) (lNil)))))) (tmNot (mTru (mCall fs__law_told (lCons (mT (mCall fs_is_name (lCons (mT (mV 5)) (lNil)))) (lCons (mT (mC (.bl false))) (lNil))))))) (xSeq (xRet (mC (.bl false))) (xSkip)) (xSkip)) (xSeq (xFor (iSeq (mLst (lCons (mF (mV 4)) (lCons (mF (m2 dAdd (mV 4) (mC (.str "\n")))) (lCons (mF (m2 dAdd (mC (.str "\n")) (mV 4))) (lCons (mF (m2 dAdd (mV 4) (mC (.str " ")))) (lNil))))))) (gN 6) (xSeq (xIf (tmOr (tmNot (mTru (mCall fs__law_told (lCons (mT (mCall fs_is_whole (lCons (mT (mV 6)) (lNil)))) (lCons (mT (mC (.bl false))) (lNil)))))) (tmNot (mTru (mCall fs__law_told (lCons (mT (mCall fs_is_name (lCons (mT (mV 6)) (lNil)))) (lCons (mT (mCall fs__law_is_name (lCons (mT (mV 6)) (lNil)))) (lNil))))))) (xSeq (xRet (mC (.bl false))) (xSkip)) (xSkip)) (xSkip))) (xSkip))))))
    (fun i e => ∃ y2 y3 y4 y5 y6, e = [sh (.frl (ns.map D.int)), y1, y2, y3, y4, y5, y6] ∧ FreeA y2 ∧ FreeA y3 ∧ FreeA y4 ∧ FreeA y5 ∧ FreeA y6) (ds := upto 0 K) (e := [sh (.frl (ns.map D.int)), y1, none, none, none, none, none]) 0 ⟨none, none, none, none, none, rfl, .inl rfl, .inl rfl, .inl rfl, .inl rfl, .inl rfl⟩ fun i d e hd ⟨y2, y3, y4, y5, y6, he, f2, f3, f4, f5, f6⟩ => by
      obtain ⟨hi, rfl⟩ := upto_get hd
      subst he
      obtain ⟨x, hx⟩ := cell_at_eq ns i
      obtain ⟨n, s, hn, hs⟩ := source_eq x
      obtain ⟨z, o, hz, ho⟩ := text_eq n s 0 hn
      have a1 := (mCall_2 (mT_sh (m := mV 0) (d := .frl (ns.map D.int)) (e := [sh (.frl (ns.map D.int)), y1, sh (nD i), y3, y4, y5, y6]) rfl) (mT_sh (m := mV 2) (d := nD i) rfl)).trans (call2_sh rfl hx rfl)
      have s1 := xAsg_sh (g := gN 3) (e2 := [sh (.frl (ns.map D.int)), y1, sh (nD i), sh (.int x), y4, y5, y6]) a1 (by rcases f3 with rfl | ⟨d, rfl⟩ <;> rfl)
      have a2 := (mCall_1 (mT_sh (m := mV 3) (d := .int x) (e := [sh (.frl (ns.map D.int)), y1, sh (nD i), sh (.int x), y4, y5, y6]) rfl)).trans (call1_sh rfl hs rfl)
      have a3 := (mCall_1 a2).trans (call1_iow rfl ho)
      have s2 := xAsg_sh (g := gN 4) (e2 := [sh (.frl (ns.map D.int)), y1, sh (nD i), sh (.int x), sh (.str z), y5, y6]) a3 (by rcases f4 with rfl | ⟨d, rfl⟩ <;> rfl)
      have p60 := m2_pow (a := mC (.int 10)) (b := mC (.int 60)) (i := 10) (j := 60) (e := [sh (.frl (ns.map D.int)), y1, sh (nD i), sh (.int x), sh (.str z), y5, y6]) rfl rfl (cPow_of (by decide) (by decide) (by decide))
      have p40 := m2_pow (a := mC (.int 10)) (b := mC (.int 40)) (i := 10) (j := 40) (e := [sh (.frl (ns.map D.int)), y1, sh (nD i), sh (.int x), sh (.str z), y5, y6]) rfl rfl (cPow_of (by decide) (by decide) (by decide))
      have h60 : (0 : Int) < 10 ^ (60 : Int).toNat := by decide +kernel
      have m60 := m2_mod (a := mV 3) (i := x) (e := [sh (.frl (ns.map D.int)), y1, sh (nD i), sh (.int x), sh (.str z), y5, y6]) rfl p60 h60
      have l60 : (x % 10 ^ (60 : Int).toNat).natAbs < 2 ^ 400 := by
        have h1 := Int.emod_nonneg x (Int.ne_of_gt h60)
        have h2 := Int.emod_lt_of_pos x h60
        have h3 : (10 : Int) ^ (60 : Int).toNat ≤ ((2 ^ 400 : Nat) : Int) := by decide +kernel
        omega
      have q := m2_sub (m2_mul m60 p40 (cMul_big l60 (by decide +kernel))) (m2_mod (a := mV 3) (b := mC (.int 7)) (i := x) (j := 7) (e := [sh (.frl (ns.map D.int)), y1, sh (nD i), sh (.int x), sh (.str z), y5, y6]) rfl rfl (by decide))
      generalize hv : x % 10 ^ (60 : Int).toNat * 10 ^ (40 : Int).toNat - x % 7 = v at q
      have s3 := xAsg_sh (g := gN 5) (e2 := [sh (.frl (ns.map D.int)), y1, sh (nD i), sh (.int x), sh (.str z), sh (.int v), y6]) q (by rcases f5 with rfl | ⟨d, rfl⟩ <;> rfl)
      have w1 := whole_eq (d := .int v) (T := "int") (b1 := true) (b2 := false) rfl (by decide +kernel) (by decide +kernel)
      have w2 := noname_eq (d := .int v) (T := "int") rfl (by decide +kernel)
      have b1 := (mCall_1 (mT_sh (m := mV 5) (d := .int v) (e := [sh (.frl (ns.map D.int)), y1, sh (nD i), sh (.int x), sh (.str z), sh (.int v), y6]) rfl)).trans (call1_sh rfl w1 rfl)
      have b2 := (mCall_2 (mT_sh b1) (mT_sh (m := mC (.bl true)) (d := .bl true) rfl)).trans (call2_sh rfl (told_eq true) rfl)
      have b3 := (mCall_1 (mT_sh (m := mV 5) (d := .int v) (e := [sh (.frl (ns.map D.int)), y1, sh (nD i), sh (.int x), sh (.str z), sh (.int v), y6]) rfl)).trans (call1_sh rfl w2 rfl)
      have b4 := (mCall_2 (mT_sh b3) (mT_sh (m := mC (.bl false)) (d := .bl false) rfl)).trans (call2_sh rfl (told_eq false) rfl)
      have c := (tmOr_f (tmNot_ok (mTru_bl b2))).trans (tmNot_ok (mTru_bl b4))
      have n1 : ("\n" : Str).length = 1 := by decide +kernel
      have n2 : (" " : Str).length = 1 := by decide +kernel
      have t1 := m2_addS (a := mV 4) (b := mC (.str "\n")) (x := z) (y := "\n") (e := [sh (.frl (ns.map D.int)), y1, sh (nD i), sh (.int x), sh (.str z), sh (.int v), y6]) rfl rfl (by omega)
      have t2 := m2_addS (a := mC (.str "\n")) (b := mV 4) (x := "\n") (y := z) (e := [sh (.frl (ns.map D.int)), y1, sh (nD i), sh (.int x), sh (.str z), sh (.int v), y6]) rfl rfl (by omega)
      have t3 := m2_addS (a := mV 4) (b := mC (.str " ")) (x := z) (y := " ") (e := [sh (.frl (ns.map D.int)), y1, sh (nD i), sh (.int x), sh (.str z), sh (.int v), y6]) rfl rfl (by omega)
      have hM := mLst_ok (lCons_ok (mF_sh' (m := mV 4) (d := .str z) (e := [sh (.frl (ns.map D.int)), y1, sh (nD i), sh (.int x), sh (.str z), sh (.int v), y6]) rfl) (lCons_ok (mF_sh' t1) (lCons_ok (mF_sh' t2) (lCons_ok (mF_sh' t3) (r := lNil) (ss := []) rfl)))) rfl (by simp)
      obtain ⟨e3, r3, y7, he3, hy7⟩ := forD_inv (g := gN 6) (b := xSeq (xIf (tmOr (tmNot (mTru (mCall fs__law_told (lCons (mT (mCall fs_is_whole (lCons (mT (mV 6)) (lNil)))) (lCons (mT (mC (.bl false))) (lNil)))))) (tmNot (mTru (mCall fs__law_told (lCons (mT (mCall fs_is_name (lCons (mT (mV 6)) (lNil)))) (lCons (mT (mCall fs__law_is_name (lCons (mT (mV 6)) (lNil)))) (lNil))))))) (xSeq (xRet (mC (.bl false))) (xSkip)) (xSkip)) (xSkip))
        (fun i' e => ∃ y, e = [sh (.frl (ns.map D.int)), y1, sh (nD i), sh (.int x), sh (.str z), sh (.int v), y] ∧ FreeA y) (ds := [.str z, .str (z ++ "\n"), .str ("\n" ++ z), .str (z ++ " ")]) (e := [sh (.frl (ns.map D.int)), y1, sh (nD i), sh (.int x), sh (.str z), sh (.int v), y6]) 0 ⟨y6, rfl, f6⟩ fun i' d e hd ⟨y, he, hf⟩ => by
          subst he
          have hz4 : ∃ u : Str, d = .str u ∧ u.length ≤ 1000 := by
            have := List.mem_of_getElem? hd
            simp only [List.mem_cons, List.not_mem_nil, or_false] at this
            rcases this with rfl | rfl | rfl | rfl
            · exact ⟨_, rfl, by omega⟩
            · exact ⟨_, rfl, by rw [app_len]; omega⟩
            · exact ⟨_, rfl, by rw [app_len]; omega⟩
            · exact ⟨_, rfl, by rw [app_len]; omega⟩
          obtain ⟨u, rfl, hu⟩ := hz4
          obtain ⟨g1, g2⟩ := turn3 (x0 := sh (.frl (ns.map D.int))) (x1 := y1) (x2 := sh (nD i)) (x3 := sh (.int x)) (x4 := sh (.str z)) (x5 := sh (.int v)) hf hu
          exact ⟨_, _, g1, .inl g2, _, rfl, .inr ⟨_, rfl⟩⟩
      subst he3
      refine ⟨[sh (.frl (ns.map D.int)), y1, sh (nD i), y3, y4, y5, y6], _, by rcases f2 with rfl | ⟨d, rfl⟩ <;> rfl, .inl ((xSeq_nx s1).trans ((xSeq_nx s2).trans ((xSeq_nx s3).trans ((xSeq_nx ((xIf_f c).trans rfl)).trans ((xSeq_nx ((xFor_ok (iSeq_lst (mF_ow' hM))).trans r3)).trans rfl))))), _, _, _, _, _, rfl, .inr ⟨_, rfl⟩, .inr ⟨_, rfl⟩, .inr ⟨_, rfl⟩, .inr ⟨_, rfl⟩, hy7⟩
  obtain ⟨y2, y3, y4, y5, y6, rfl, _⟩ := he2
  refine ⟨[.frl (ns.map D.int)], ?_⟩
  rw [eq_law]
  refine bodyF_sh (e := [sh (.frl (ns.map D.int)), y1, y2, y3, y4, y5, y6]) ?_ rfl
  unfold x_law
  exact (xSeq_nx ((xFor_ok hI).trans r1)).trans ((xSeq_nx ((xFor_ok (iInts_1 hm (by omega))).trans r2)).trans (xSeq_rt (xRet_sh rfl)))
end VL

namespace VL
open PySem PySem.Spec PyProof.Rows L2 VM
def exc0 : Str → Option (Addr × Str) := fun _ => none
def gi0 (K : PySem.W.Frag) : Gi := ⟨K, fun _ => none, fun _ => none⟩
theorem all_mk {prog : Program} {w : World} {K : PySem.W.Frag} {h : Heap} {mg : Str → Option Value} {fa f_0 f_1 f_2 f_3 f_4 f_5 f_6 f_7 f_8 : Addr} (X : K.In h) (G : h.Ns mainGlobals mg) (hfa : mg "law" = some (.ref fa))
    {od_0 an_0 od_1 an_1 od_2 an_2 od_3 an_3 od_4 an_4 od_5 an_5 od_6 an_6 od_7 an_7 od_8 an_8 : Option Addr} {sl_0 sl_1 sl_2 sl_3 sl_4 sl_5 sl_6 sl_7 sl_8 : Array (Option Value)} {oc_0 kV_0 dc_0 pm_0 cd_0 ct_0 oc_1 kV_1 dc_1 pm_1 cd_1 ct_1 oc_2 kV_2 dc_2 pm_2 cd_2 ct_2 oc_3 kV_3 dc_3 pm_3 cd_3 ct_3 oc_4 kV_4 dc_4 pm_4 cd_4 ct_4 oc_5 kV_5 dc_5 pm_5 cd_5 ct_5 oc_6 kV_6 dc_6 pm_6 cd_6 ct_6 oc_7 kV_7 dc_7 pm_7 cd_7 ct_7 oc_8 kV_8 dc_8 pm_8 cd_8 ct_8 : Value} {tk_LETTERS tk_MOST_LETTERS : Tok}
    (a_0 : PySem.W.nsIn K mainGlobals "_law_told" = some (some (.ref f_0))) (l_0 : K.lookup f_0 = some ⟨oc_0, od_0, .func (PySem.W.fnOf "_law_told" "_law_told" (defArgs st__law_told) (defBody st__law_told) (defScope st__law_told) .none kV_0 dc_0 pm_0 an_0 cd_0 ct_0), sl_0⟩) (c_0 : PySem.W.codeIn K cd_0 "_law_told" = true) (k_0 : PySem.W.keepIn K (.ref f_0) = true)
    (a_1 : PySem.W.nsIn K mainGlobals "is_whole" = some (some (.ref f_1))) (l_1 : K.lookup f_1 = some ⟨oc_1, od_1, .func (PySem.W.fnOf "is_whole" "is_whole" (defArgs st_is_whole) (defBody st_is_whole) (defScope st_is_whole) .none kV_1 dc_1 pm_1 an_1 cd_1 ct_1), sl_1⟩) (c_1 : PySem.W.codeIn K cd_1 "is_whole" = true) (k_1 : PySem.W.keepIn K (.ref f_1) = true)
    (a_2 : PySem.W.nsIn K mainGlobals "_law_is_name" = some (some (.ref f_2))) (l_2 : K.lookup f_2 = some ⟨oc_2, od_2, .func (PySem.W.fnOf "_law_is_name" "_law_is_name" (defArgs st__law_is_name) (defBody st__law_is_name) (defScope st__law_is_name) .none kV_2 dc_2 pm_2 an_2 cd_2 ct_2), sl_2⟩) (c_2 : PySem.W.codeIn K cd_2 "_law_is_name" = true) (k_2 : PySem.W.keepIn K (.ref f_2) = true)
    (a_3 : PySem.W.nsIn K mainGlobals "is_name" = some (some (.ref f_3))) (l_3 : K.lookup f_3 = some ⟨oc_3, od_3, .func (PySem.W.fnOf "is_name" "is_name" (defArgs st_is_name) (defBody st_is_name) (defScope st_is_name) .none kV_3 dc_3 pm_3 an_3 cd_3 ct_3), sl_3⟩) (c_3 : PySem.W.codeIn K cd_3 "is_name" = true) (k_3 : PySem.W.keepIn K (.ref f_3) = true)
    (a_4 : PySem.W.nsIn K mainGlobals "_law_take" = some (some (.ref f_4))) (l_4 : K.lookup f_4 = some ⟨oc_4, od_4, .func (PySem.W.fnOf "_law_take" "_law_take" (defArgs st__law_take) (defBody st__law_take) (defScope st__law_take) .none kV_4 dc_4 pm_4 an_4 cd_4 ct_4), sl_4⟩) (c_4 : PySem.W.codeIn K cd_4 "_law_take" = true) (k_4 : PySem.W.keepIn K (.ref f_4) = true)
    (a_5 : PySem.W.nsIn K mainGlobals "_law_text" = some (some (.ref f_5))) (l_5 : K.lookup f_5 = some ⟨oc_5, od_5, .func (PySem.W.fnOf "_law_text" "_law_text" (defArgs st__law_text) (defBody st__law_text) (defScope st__law_text) .none kV_5 dc_5 pm_5 an_5 cd_5 ct_5), sl_5⟩) (c_5 : PySem.W.codeIn K cd_5 "_law_text" = true) (k_5 : PySem.W.keepIn K (.ref f_5) = true)
    (a_6 : PySem.W.nsIn K mainGlobals "_law_source" = some (some (.ref f_6))) (l_6 : K.lookup f_6 = some ⟨oc_6, od_6, .func (PySem.W.fnOf "_law_source" "_law_source" (defArgs st__law_source) (defBody st__law_source) (defScope st__law_source) .none kV_6 dc_6 pm_6 an_6 cd_6 ct_6), sl_6⟩) (c_6 : PySem.W.codeIn K cd_6 "_law_source" = true) (k_6 : PySem.W.keepIn K (.ref f_6) = true)
    (a_7 : PySem.W.nsIn K mainGlobals "_law_cell_at" = some (some (.ref f_7))) (l_7 : K.lookup f_7 = some ⟨oc_7, od_7, .func (PySem.W.fnOf "_law_cell_at" "_law_cell_at" (defArgs st__law_cell_at) (defBody st__law_cell_at) (defScope st__law_cell_at) .none kV_7 dc_7 pm_7 an_7 cd_7 ct_7), sl_7⟩) (c_7 : PySem.W.codeIn K cd_7 "_law_cell_at" = true) (k_7 : PySem.W.keepIn K (.ref f_7) = true)
    (a_8 : PySem.W.nsIn K mainGlobals "law" = some (some (.ref f_8))) (l_8 : K.lookup f_8 = some ⟨oc_8, od_8, .func (PySem.W.fnOf "law" "law" (defArgs st_law) (defBody st_law) (defScope st_law) .none kV_8 dc_8 pm_8 an_8 cd_8 ct_8), sl_8⟩) (c_8 : PySem.W.codeIn K cd_8 "law" = true) (k_8 : PySem.W.keepIn K (.ref f_8) = true)
    (z_all : PySem.W.nsIn K mainGlobals "all" = some none)
    (z_bool : PySem.W.nsIn K mainGlobals "bool" = some none)
    (z_int : PySem.W.nsIn K mainGlobals "int" = some none)
    (z_isinstance : PySem.W.nsIn K mainGlobals "isinstance" = some none)
    (z_len : PySem.W.nsIn K mainGlobals "len" = some none)
    (z_max : PySem.W.nsIn K mainGlobals "max" = some none)
    (z_min : PySem.W.nsIn K mainGlobals "min" = some none)
    (z_range : PySem.W.nsIn K mainGlobals "range" = some none)
    (z_str : PySem.W.nsIn K mainGlobals "str" = some none)
    (q_LETTERS : PySem.W.nsIn K mainGlobals "LETTERS" = some (some (.str "abcdefghijklmnopqrstuvwxyz" tk_LETTERS)))
    (q_MOST_LETTERS : PySem.W.nsIn K mainGlobals "MOST_LETTERS" = some (some (.int 8 tk_MOST_LETTERS)))
    : ∃ fd : FuncData, (∀ (s : Shared) (v : Value), BindsTo s fd ⟨[v], []⟩ [("_law_script", v)]) ∧ ∀ base : Heap, K.In base → base.Ns mainGlobals mg → FnOk prog w K mg base (L2.CX prog w) 3 fa fd ["_law_script"] (spOf exc0 (gi0 K) fs_law) := by
  have e := hfa.symm.trans (PySem.W.mg_of X G a_8)
  cases e
  have mf : MgF mg := ⟨PySem.W.mg_none_of X G z_all, PySem.W.mg_none_of X G z_bool, PySem.W.mg_none_of X G z_int, PySem.W.mg_none_of X G z_isinstance, PySem.W.mg_none_of X G z_len, PySem.W.mg_none_of X G z_max, PySem.W.mg_none_of X G z_min, PySem.W.mg_none_of X G z_range, PySem.W.mg_none_of X G z_str, ⟨_, PySem.W.mg_of X G q_LETTERS⟩, ⟨_, PySem.W.mg_of X G q_MOST_LETTERS⟩⟩
  have F_0 := fun_mk (st := st__law_told) l_0 c_0 k_0
  have B_0 := F_0.binds (ps := ["_law_found", "_law_due"]) fun _ _ _ _ _ _ us hl => match us, hl with | [_, _], _ => rfl
  have F_1 := fun_mk (st := st_is_whole) l_1 c_1 k_1
  have B_1 := F_1.binds (ps := ["thing"]) fun _ _ _ _ _ _ us hl => match us, hl with | [_], _ => rfl
  have F_2 := fun_mk (st := st__law_is_name) l_2 c_2 k_2
  have B_2 := F_2.binds (ps := ["_law_text_here"]) fun _ _ _ _ _ _ us hl => match us, hl with | [_], _ => rfl
  have F_3 := fun_mk (st := st_is_name) l_3 c_3 k_3
  have B_3 := F_3.binds (ps := ["thing"]) fun _ _ _ _ _ _ us hl => match us, hl with | [_], _ => rfl
  have F_4 := fun_mk (st := st__law_take) l_4 c_4 k_4
  have B_4 := F_4.binds (ps := ["_law_source_here", "_law_many"]) fun _ _ _ _ _ _ us hl => match us, hl with | [_, _], _ => rfl
  have F_5 := fun_mk (st := st__law_text) l_5 c_5 k_5
  have B_5 := F_5.binds (ps := ["_law_source_here"]) fun _ _ _ _ _ _ us hl => match us, hl with | [_], _ => rfl
  have F_6 := fun_mk (st := st__law_source) l_6 c_6 k_6
  have B_6 := F_6.binds (ps := ["_law_cell"]) fun _ _ _ _ _ _ us hl => match us, hl with | [_], _ => rfl
  have F_7 := fun_mk (st := st__law_cell_at) l_7 c_7 k_7
  have B_7 := F_7.binds (ps := ["_law_script", "_law_k"]) fun _ _ _ _ _ _ us hl => match us, hl with | [_, _], _ => rfl
  have F_8 := fun_mk (st := st_law) l_8 c_8 k_8
  have B_8 := F_8.binds (ps := ["_law_script"]) fun _ _ _ _ _ _ us hl => match us, hl with | [_], _ => rfl
  refine ⟨PySem.W.fnOf "law" "law" (defArgs st_law) (defBody st_law) (defScope st_law) .none kV_8 dc_8 pm_8 an_8 cd_8 ct_8, fun s v => .of_eq rfl, fun base _ _ => ?_⟩
  have T_0 : FnK prog w K mg base exc0 (gi0 K) 1 "_law_told" fs__law_told := ⟨f_0, _, _, fn_ok (prog := prog) (w := w) (base := base) (exc := exc0) (G := gi0 K) (k := 0) rfl fs__law_told (x__law_told) F_0 sc__law_told rfl (fun P hG he fr fn up => b__law_told fr mf fn) (fun ds _ => .inr rfl) (asgOk_ok rfl), PySem.W.mg_of X G a_0, k_0, B_0⟩
  have T_1 : FnK prog w K mg base exc0 (gi0 K) 1 "is_whole" fs_is_whole := ⟨f_1, _, _, fn_ok (prog := prog) (w := w) (base := base) (exc := exc0) (G := gi0 K) (k := 0) rfl fs_is_whole (x_is_whole) F_1 sc_is_whole rfl (fun P hG he fr fn up => b_is_whole fr mf fn) (fun ds _ => .inr rfl) (asgOk_ok rfl), PySem.W.mg_of X G a_1, k_1, B_1⟩
  have T_2 : FnK prog w K mg base exc0 (gi0 K) 1 "_law_is_name" fs__law_is_name := ⟨f_2, _, _, fn_ok (prog := prog) (w := w) (base := base) (exc := exc0) (G := gi0 K) (k := 0) rfl fs__law_is_name (x__law_is_name) F_2 sc__law_is_name rfl (fun P hG he fr fn up => b__law_is_name fr mf fn) (fun ds _ => .inr rfl) (asgOk_ok rfl), PySem.W.mg_of X G a_2, k_2, B_2⟩
  have T_3 : FnK prog w K mg base exc0 (gi0 K) 1 "is_name" fs_is_name := ⟨f_3, _, _, fn_ok (prog := prog) (w := w) (base := base) (exc := exc0) (G := gi0 K) (k := 0) rfl fs_is_name (x_is_name) F_3 sc_is_name rfl (fun P hG he fr fn up => b_is_name fr mf fn) (fun ds _ => .inr rfl) (asgOk_ok rfl), PySem.W.mg_of X G a_3, k_3, B_3⟩
  have T_4 : FnK prog w K mg base exc0 (gi0 K) 1 "_law_take" fs__law_take := ⟨f_4, _, _, fn_ok (prog := prog) (w := w) (base := base) (exc := exc0) (G := gi0 K) (k := 0) rfl fs__law_take (x__law_take) F_4 sc__law_take rfl (fun P hG he fr fn up => b__law_take fr mf fn) (fun ds _ => .inr rfl) (asgOk_ok rfl), PySem.W.mg_of X G a_4, k_4, B_4⟩
  have T_5 : FnK prog w K mg base exc0 (gi0 K) 2 "_law_text" fs__law_text := ⟨f_5, _, _, fn_ok (prog := prog) (w := w) (base := base) (exc := exc0) (G := gi0 K) (k := 1) rfl fs__law_text (x__law_text fs__law_take) F_5 sc__law_text rfl (fun P hG he fr fn up => b__law_text fr mf fn (up "_law_take" fs__law_take (T_4.mono (by decide)))) (fun ds _ => .inr rfl) (asgOk_ok rfl), PySem.W.mg_of X G a_5, k_5, B_5⟩
  have T_6 : FnK prog w K mg base exc0 (gi0 K) 1 "_law_source" fs__law_source := ⟨f_6, _, _, fn_ok (prog := prog) (w := w) (base := base) (exc := exc0) (G := gi0 K) (k := 0) rfl fs__law_source (x__law_source) F_6 sc__law_source rfl (fun P hG he fr fn up => b__law_source fr mf fn) (fun ds _ => .inr rfl) (asgOk_ok rfl), PySem.W.mg_of X G a_6, k_6, B_6⟩
  have T_7 : FnK prog w K mg base exc0 (gi0 K) 1 "_law_cell_at" fs__law_cell_at := ⟨f_7, _, _, fn_ok (prog := prog) (w := w) (base := base) (exc := exc0) (G := gi0 K) (k := 0) rfl fs__law_cell_at (x__law_cell_at) F_7 sc__law_cell_at rfl (fun P hG he fr fn up => b__law_cell_at fr mf fn) (fun ds _ => .inr rfl) (asgOk_ok rfl), PySem.W.mg_of X G a_7, k_7, B_7⟩
  exact fn_ok (prog := prog) (w := w) (base := base) (exc := exc0) (G := gi0 K) (k := 2) rfl fs_law (x_law fs__law_told fs_is_whole fs__law_is_name fs_is_name fs__law_text fs__law_source fs__law_cell_at) F_8 sc_law rfl (fun P hG he fr fn up => b_law fr mf fn (up "_law_told" fs__law_told (T_0.mono (by decide))) (up "is_whole" fs_is_whole (T_1.mono (by decide))) (up "_law_is_name" fs__law_is_name (T_2.mono (by decide))) (up "is_name" fs_is_name (T_3.mono (by decide))) (up "_law_text" fs__law_text (T_5.mono (by decide))) (up "_law_source" fs__law_source (T_6.mono (by decide))) (up "_law_cell_at" fs__law_cell_at (T_7.mono (by decide)))) (fun ds _ => .inr rfl) (asgOk_ok rfl)
theorem sp_law {K : PySem.W.Frag} {H : Hp} {a : Addr} {ns : List Int} (h : SqL K H a (ns.map V.int)) (t : ∃ o, fs_law.F [.frl (ns.map D.int)] = .ok false (.bl true) o) : spOf exc0 (gi0 K) fs_law [.ref a] H (fun v _ => v = .bl true) fun _ _ _ => False := by
  obtain ⟨o, t⟩ := t
  refine ⟨H, [.frl (ns.map D.int)], Same.refl _, ⟨rfl, rfl, fun i v d h1 h2 h3 => ?_, fun i v d h1 => ?_, fun i j v ne h1 => ?_⟩, ?_⟩
  · cases i with
    | zero =>
      simp at h2 h3
      subst h2; subst h3
      exact .frl h (by simp) fun i v d h1 h2 => by
        rw [List.getElem?_map] at h1 h2
        obtain ⟨x, hx, rfl⟩ := Option.map_eq_some_iff.mp h1
        rw [hx] at h2
        cases h2
        exact .int
    | succ i => simp at h2
  · match i, h1 with
    | 0, h1 => cases h1
    | i + 1, h1 => cases h1
  · match i, h1 with
    | 0, h1 => cases h1
    | i + 1, h1 => cases h1
  · rw [t]
    intro v Hf' H' _ r _
    cases r
    rfl
end VL
open PySem PySem.W PyProof.Rows
set_option maxHeartbeats 0 in
theorem PySem.Challenge.cw_ringheaps_k01_words_told_holds : PySem.Challenge.rw_ringheaps_k01_words_told.Holds := by
  w_on; o_law; k_head; (case hw => w_witness2)
  k_fill
  refine L2.walk_ofB (l := PySem.Challenge.rw_ringheaps_k01_words_told) (n := 63) (k := 3) (x := "_law_script") (CX := fun w => L2.CX PySem.Challenge.rw_ringheaps_k01_words_told.prog w) (sp := fun w => VM.spOf VL.exc0 (VL.gi0 _) VL.fs_law) rfl (by decide) rfl ⟨rfl, by decide, by decide⟩ (fun w h Y => PySem.W.kIn_of Y) ?F (fun _ _ a ns hl hb _ hS => VL.sp_law hS (VL.law_true ns hl hb)) (fun _ _ _ _ _ h => by
    obtain ⟨_, _, _, _, _, _, _, _, _, _, _, _, z⟩ := h
    exact z.elim)
  case F =>
    intro w mg fa h KX G hmg
    refine' VL.all_mk KX G hmg ?a_0 ?l_0 ?c_0 ?k_0 ?a_1 ?l_1 ?c_1 ?k_1 ?a_2 ?l_2 ?c_2 ?k_2 ?a_3 ?l_3 ?c_3 ?k_3 ?a_4 ?l_4 ?c_4 ?k_4 ?a_5 ?l_5 ?c_5 ?k_5 ?a_6 ?l_6 ?c_6 ?k_6 ?a_7 ?l_7 ?c_7 ?k_7 ?a_8 ?l_8 ?c_8 ?k_8 ?z_all ?z_bool ?z_int ?z_isinstance ?z_len ?z_max ?z_min ?z_range ?z_str ?q_LETTERS ?q_MOST_LETTERS
    (case a_0 => k_is); (case l_0 => k_is); (case c_0 => k_is); (case k_0 => k_is); (case a_1 => k_is); (case l_1 => k_is); (case c_1 => k_is); (case k_1 => k_is); (case a_2 => k_is); (case l_2 => k_is); (case c_2 => k_is); (case k_2 => k_is); (case a_3 => k_is); (case l_3 => k_is); (case c_3 => k_is); (case k_3 => k_is); (case a_4 => k_is); (case l_4 => k_is); (case c_4 => k_is); (case k_4 => k_is); (case a_5 => k_is); (case l_5 => k_is); (case c_5 => k_is); (case k_5 => k_is); (case a_6 => k_is); (case l_6 => k_is); (case c_6 => k_is); (case k_6 => k_is); (case a_7 => k_is); (case l_7 => k_is); (case c_7 => k_is); (case k_7 => k_is); (case a_8 => k_is); (case l_8 => k_is); (case c_8 => k_is); (case k_8 => k_is); (case z_all => k_is); (case z_bool => k_is); (case z_int => k_is); (case z_isinstance => k_is); (case z_len => k_is); (case z_max => k_is); (case z_min => k_is); (case z_range => k_is); (case z_str => k_is); (case q_LETTERS => k_is); (case q_MOST_LETTERS => k_is)
