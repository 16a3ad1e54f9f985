import PyProof.Rows.All
import Wide.All
import OpenK.AllK
import Wide.FinOn
import HandS.ForMost
import HandS.ForExc
import HandS.CallSlots
import HandS.ExcInit
import HandS.Nested
import HandS.IsInst
import HandS.Deep
import HandS.Wide
import HandS.TupAny
import HandS.Small
import HandS.Finally
import HandS.Flow
import HandS.RevRange
import KE.BitLaws
import KE.OsArith
import HandS.Zip
import HandS.RevTup
import HandS.More
import HandS.SortOrd
import HandS.Conv
import HandS.TupLen
import HandS.WordsDict
import HandS.ExcField
import KE.KExcIs
import HandS.ExcIs
import HandS.EndBits
import PyProof.ReprRoads
import HandS.SetFor
import HandS.Strs
import HandS.DictComp
import HandS.ListItems
import HandS.DictTup
import KE.KSortTupAny
import HandS.TryMany
import HandS.CallLocal
import KE.KEqNest
import HandS.DictEq
import KE.KxIndex
import HandS.EndTab
import KE.KDictWalk
import KE.KPairComp
import HandS.TryOnly
import HandS.ReplaceLit
import KE.KDictKeyed
import KE.KDictCopyH
import HandS.HotCalls
import HandS.Lambda
import HandS.Text
import PySem.Challenge.RW_ringheaps_k32_worths_told_and_read
import KE.RegKIsAll
import KE.KNestM
set_option Elab.async false
set_option linter.all false
set_option maxRecDepth 100000
set_option maxHeartbeats 4000000
local macro_rules | `(tactic| omega) => `(tactic| lia)
/-! VMA: data as trees, the slots of a frame, how they stand for the heap -/
namespace VM
open PySem PySem.Spec PyProof.Rows L2

noncomputable def cdec (p : Prop) : Bool := @decide p (Classical.propDecidable p)
theorem cdec_t {p : Prop} (h : p) : cdec p = true := @decide_eq_true p (Classical.propDecidable p) h
theorem cdec_f {p : Prop} (h : ¬ p) : cdec p = false := @decide_eq_false p (Classical.propDecidable p) h
theorem of_cdec {p : Prop} (h : cdec p = true) : p := @of_decide_eq_true p (Classical.propDecidable p) h
theorem cdec_eq (p : Prop) [Decidable p] : cdec p = decide p := by
  by_cases h : p
  · rw [cdec_t h, decide_eq_true h]
  · rw [cdec_f h, decide_eq_false h]
theorem cdec_congr {p q : Prop} (h : p ↔ q) : cdec p = cdec q := by rw [propext h]
noncomputable def hid (b : Bool) : Bool := cdec (b = true)
theorem hid_eq (b : Bool) : hid b = b := by
  unfold hid
  rw [cdec_eq]
  cases b <;> rfl
inductive D where
  | non | bl (b : Bool) | int (i : Int) | str (s : Str)
  | tup (xs : List D) | lst (xs : List D) | frl (xs : List D) | frt (xs : List D)
  | dic (kvs : List (Key × D)) | dit (kvs : List (List Key × D))
  | ins (c : Str) (fs : List (Str × D))
  | fn (x : Str) | ty (n : String) | cls (c : Str)
  | exc (c f : Str) (d : D)

instance : Inhabited D := ⟨.non⟩

structure Gi where
  K : PySem.W.Frag
  cls : Str → Option Addr
  fns : Str → Option Addr
  T : List NdefX.NTab
  nd : Str → Option ((List (Str × Addr) → Addr → NdefX.NF) × List Str)

noncomputable def CellO (c : Addr) (v : V) : HO := .ext fun h => ∃ u, RelV v u ∧ h.IsCell c (some u)
structure ClOk (cl : List (Str × Addr)) (fr : List Str) (cs : List Addr) : Prop where
  len : cs.length = fr.length
  to : ∀ (y : Str) (c : Addr), cl.lookup y = some c → ∃ i : Nat, fr[i]? = some y ∧ cs[i]? = some c
  of : ∀ (i : Nat) (y : Str), fr[i]? = some y → ∃ c, cs[i]? = some c ∧ cl.lookup y = some c
  inj : ∀ (i j : Nat) (c : Addr), cs[i]? = some c → cs[j]? = some c → i = j

noncomputable def Mut : Option HO → Prop
  | some (.lst _) => True
  | some (.dK _) => True
  | some (.dT _) => True
  | some (.ins _ _ _) => True
  | _ => False
noncomputable def Fxd (o : HO) : Prop := (∃ vs, o = .tup vs) ∨ ∃ φ, o = .ext φ
theorem Fxd.nm {o : HO} (h : Fxd o) : ¬ Mut (some o) := by
  rcases h with ⟨_, e⟩ | ⟨_, e⟩ <;> (subst e; exact fun z => z)
theorem Fxd.nt {o : HO} (h : Fxd o) : ∀ ps, o ≠ .tbl ps := by
  rcases h with ⟨_, e⟩ | ⟨_, e⟩ <;> (subst e; exact fun _ z => nomatch z)
theorem tabs_by {T : List NdefX.NTab} {H H' : Hp} (t : NdefX.TabsN T H) (k : ∀ b o, H b = some o → (∃ ps, o = .tbl ps) ∨ (∃ φ, o = .ext φ) → H' b = some o) : NdefX.TabsN T H' := fun p hp => by
  obtain ⟨ps, h1, h2, h3⟩ := t p hp
  refine ⟨ps, k _ _ h1 (.inl ⟨_, rfl⟩), h2, fun pos cv hc => ?_⟩
  obtain ⟨c, e1, e2⟩ := h3 pos cv hc
  exact ⟨c, e1, k _ _ e2 (.inr ⟨_, rfl⟩)⟩
theorem tabs_ch {T : List NdefX.NTab} {H : Hp} {p : Addr} {o o' : HO} (t : NdefX.TabsN T H) (h : H p = some o) (m : Mut (some o)) : NdefX.TabsN T (upd H p o') := tabs_by t fun b x e k => by
  rw [upd_ne (fun z => by subst z; rw [h] at e; cases e; rcases k with ⟨_, e⟩ | ⟨_, e⟩ <;> (subst e; exact m))]
  exact e

noncomputable def ExO2 (a C dd : Addr) (φ : Heap → Prop) : Prop := ∀ h, φ h → ∃ (oe : Obj) (vs : Array Value), h.get? a = some oe ∧ Zc (.ref C) (some dd) oe ∧ oe.data = .fields vs
noncomputable def XdO (dd : Addr) (f : Str) (v : V) (u : HO) : Prop := u = .xd [(f, v)] ∨ u = exd dd [(f, v)]
noncomputable def fdb (F : NdefX.NF) (doc pm ctv : Value) : FuncData := if F.name = ("<lambda>" : Str) then (match F.body with
    | [.Return (some e) _] => PySem.W.kla_fn F.name F.qual F.params e F.scope F.cl pm (.ref F.c) ctv
    | _ => F.fd doc pm ctv) else F.fd doc pm ctv
noncomputable def FnOb (f : Addr) (F : NdefX.NF) : HO := .ext fun h => ∃ od sl doc pm ctv, h.get? f = some { cls := .type "function", dict := od, data := .func (fdb F doc pm ctv), slots := sl }
inductive Rep (G : Gi) (H : Hp) : V → D → Prop
  | non : Rep G H .non .non
  | bl {b : Bool} : Rep G H (.bl b) (.bl b)
  | int {i : Int} : Rep G H (.int i) (.int i)
  | str {s : Str} : Rep G H (.str s) (.str s)
  | tup {p : Addr} {vs : List V} {ds : List D} (h : H p = some (.tup vs)) (l : vs.length = ds.length)
      (r : ∀ (i : Nat) (v : V) (d : D), vs[i]? = some v → ds[i]? = some d → Rep G H v d) : Rep G H (.ref p) (.tup ds)
  | frt {p : Addr} {vs : List V} {ds : List D} (h : SqT G.K H p vs) (l : vs.length = ds.length)
      (r : ∀ (i : Nat) (v : V) (d : D), vs[i]? = some v → ds[i]? = some d → Rep G H v d) : Rep G H (.ref p) (.frt ds)
  | lst {p : Addr} {vs : List V} {ds : List D} (h : H p = some (.lst vs)) (l : vs.length = ds.length)
      (r : ∀ (i : Nat) (v : V) (d : D), vs[i]? = some v → ds[i]? = some d → Rep G H v d) : Rep G H (.ref p) (.lst ds)
  | frl {p : Addr} {vs : List V} {ds : List D} (h : SqL G.K H p vs) (l : vs.length = ds.length)
      (r : ∀ (i : Nat) (v : V) (d : D), vs[i]? = some v → ds[i]? = some d → Rep G H v d) : Rep G H (.ref p) (.frl ds)
  | dic {p : Addr} {kvs : List (Key × V)} {kds : List (Key × D)} (h : Rd H p (.dK kvs)) (l : kvs.map (·.1) = kds.map (·.1))
      (r : ∀ (i : Nat) (a : Key × V) (b : Key × D), kvs[i]? = some a → kds[i]? = some b → Rep G H a.2 b.2) : Rep G H (.ref p) (.dic kds)
  | dit {p : Addr} {kvs : List (List Key × V)} {kds : List (List Key × D)} (h : Rd H p (.dT kvs)) (l : kvs.map (·.1) = kds.map (·.1))
      (r : ∀ (i : Nat) (a : List Key × V) (b : List Key × D), kvs[i]? = some a → kds[i]? = some b → Rep G H a.2 b.2) : Rep G H (.ref p) (.dit kds)
  | ins {a C dx : Addr} {c : Str} {fs : List (Str × V)} {fds : List (Str × D)} (h : H a = some (.ins C dx fs)) (hc : G.cls c = some C) (l : fs.map (·.1) = fds.map (·.1))
      (r : ∀ (i : Nat) (x : Str × V) (y : Str × D), fs[i]? = some x → fds[i]? = some y → Rep G H x.2 y.2) : Rep G H (.ref a) (.ins c fds)
  | fn {x : Str} {f : Addr} (h : G.fns x = some f) : Rep G H (.ref f) (.fn x)
  | ty {n : String} : Rep G H (.ty n) (.ty n)
  | cls {c : Str} {C : Addr} (h : G.cls c = some C) : Rep G H (.ref C) (.cls c)
  | exc {a C dd : Addr} {c f : Str} {v : V} {d : D} {φ : Heap → Prop} {u : HO} (h : H a = some (.ext φ)) (hφ : ExO2 a C dd φ) (hd : H dd = some u) (hu : XdO dd f v u) (hc : G.cls c = some C) (r : Rep G H v d) : Rep G H (.ref a) (.exc c f d)
  | clo {a c' : Addr} {x : Str} {mk : List (Str × Addr) → Addr → NdefX.NF} {fr : List Str} {cl : List (Str × Addr)} {cs : List Addr} {vs : List V} {ds : List D} (h0 : G.cls "" = none) (hn : G.nd x = some (mk, fr)) (h : H a = some (FnOb a (mk cl c')))
      (hc : H c' = some (LamX.CodeO c' (mk cl c').qual)) (hcl : ClOk cl fr cs) (lv : vs.length = fr.length) (l : vs.length = ds.length) (hv : ∀ (i : Nat) (c : Addr) (v : V), cs[i]? = some c → vs[i]? = some v → H c = some (CellO c v))
      (r : ∀ (i : Nat) (v : V) (d : D), vs[i]? = some v → ds[i]? = some d → Rep G H v d) : Rep G H (.ref a) (.exc "" x (.frl ds))

theorem Rd.mono {H H' : Hp} (s : Same H H') {p : Addr} {o : HO} (h : Rd H p o) : Rd H' p o := by
  rcases h with h | ⟨q, h⟩
  · exact .inl (s _ _ h)
  · exact .inr ⟨q, s _ _ h⟩
theorem SqL.mono {K : PySem.W.Frag} {H H' : Hp} (s : Same H H') {p : Addr} {vs : List V} (h : SqL K H p vs) : SqL K H' p vs := by
  rcases h with h | h
  · exact .inl (Rd.mono s h)
  · exact .inr h
theorem SqT.mono {K : PySem.W.Frag} {H H' : Hp} (s : Same H H') {p : Addr} {vs : List V} (h : SqT K H p vs) : SqT K H' p vs := by
  rcases h with h | h
  · exact .inl (Rd.mono s h)
  · exact .inr h

theorem Rep.mono {G : Gi} {H H' : Hp} (s : Same H H') {v : V} {d : D} (h : Rep G H v d) : Rep G H' v d := by
  induction h with
  | non => exact .non
  | bl => exact .bl
  | int => exact .int
  | str => exact .str
  | tup h l _ ih => exact .tup (s _ _ h) l ih
  | frt h l _ ih => exact .frt (SqT.mono s h) l ih
  | lst h l _ ih => exact .lst (s _ _ h) l ih
  | frl h l _ ih => exact .frl (SqL.mono s h) l ih
  | dic h l _ ih => exact .dic (Rd.mono s h) l ih
  | dit h l _ ih => exact .dit (Rd.mono s h) l ih
  | ins h hc l _ ih => exact .ins (s _ _ h) hc l ih
  | fn h => exact .fn h
  | ty => exact .ty
  | cls h => exact .cls h
  | exc h hp hd hu hc _ ih => exact .exc (s _ _ h) hp (s _ _ hd) hu hc ih
  | clo h0 hn h hc hcl lv l hv _ ih => exact .clo h0 hn (s _ _ h) (s _ _ hc) hcl lv l (fun i c v h1 h2 => s _ _ (hv i c v h1 h2)) ih

structure Reps (G : Gi) (H : Hp) (vs : List V) (ds : List D) : Prop where
  len : vs.length = ds.length
  at' : ∀ (i : Nat) (v : V) (d : D), vs[i]? = some v → ds[i]? = some d → Rep G H v d
theorem Reps.nil {G : Gi} {H : Hp} : Reps G H [] [] := ⟨rfl, fun i v d h => by simp at h⟩
theorem Reps.cons {G : Gi} {H : Hp} {v : V} {d : D} {vs : List V} {ds : List D} (h : Rep G H v d) (r : Reps G H vs ds) : Reps G H (v :: vs) (d :: ds) := by
  refine ⟨by simp [r.len], fun i w e h1 h2 => ?_⟩
  cases i with
  | zero => simp at h1 h2; subst h1; subst h2; exact h
  | succ i => simp at h1 h2; exact r.at' i w e h1 h2
theorem Reps.inv {G : Gi} {H : Hp} {v : V} {d : D} {vs : List V} {ds : List D} (r : Reps G H (v :: vs) (d :: ds)) : Rep G H v d ∧ Reps G H vs ds :=
  ⟨r.at' 0 v d rfl rfl, by have := r.len; simpa using this, fun i w e h1 h2 => r.at' (i + 1) w e (by simpa using h1) (by simpa using h2)⟩
theorem Reps.mono {G : Gi} {H H' : Hp} (s : Same H H') {vs : List V} {ds : List D} (r : Reps G H vs ds) : Reps G H' vs ds := ⟨r.len, fun i v d h1 h2 => (r.at' i v d h1 h2).mono s⟩
theorem Reps.append {G : Gi} {H : Hp} : ∀ {vs ws : List V} {ds es : List D}, Reps G H vs ds → Reps G H ws es → Reps G H (vs ++ ws) (ds ++ es)
  | [], ws, [], es, _, q => q
  | [], ws, d :: ds, es, r, _ => by have := r.len; simp at this
  | v :: vs, ws, [], es, r, _ => by have := r.len; simp at this
  | v :: vs, ws, d :: ds, es, r, q => .cons r.inv.1 (Reps.append r.inv.2 q)
theorem Reps.get {G : Gi} {H : Hp} {vs : List V} {ds : List D} (r : Reps G H vs ds) {i : Nat} {d : D} (h : ds[i]? = some d) : ∃ v, vs[i]? = some v ∧ Rep G H v d := by
  have hl : i < vs.length := by rw [r.len]; exact (List.getElem?_eq_some_iff.mp h).1
  exact ⟨vs[i], List.getElem?_eq_getElem hl, r.at' i _ _ (List.getElem?_eq_getElem hl) h⟩
theorem Reps.set {G : Gi} {H : Hp} {vs : List V} {ds : List D} (r : Reps G H vs ds) (i : Nat) {v : V} {d : D} (h : Rep G H v d) : Reps G H (vs.set i v) (ds.set i d) := by
  refine ⟨by simp [r.len], fun j w e h1 h2 => ?_⟩
  by_cases hj : i = j
  · subst hj
    have l1 : i < vs.length := by have := (List.getElem?_eq_some_iff.mp h1).1; simpa using this
    have l2 : i < ds.length := by have := (List.getElem?_eq_some_iff.mp h2).1; simpa using this
    rw [List.getElem?_set_self l1] at h1
    rw [List.getElem?_set_self l2] at h2
    cases h1; cases h2; exact h
  · rw [List.getElem?_set_ne hj] at h1 h2
    exact r.at' j w e h1 h2
theorem Reps.take {G : Gi} {H : Hp} {vs : List V} {ds : List D} (r : Reps G H vs ds) (n : Nat) : Reps G H (vs.take n) (ds.take n) := by
  refine ⟨by simp [r.len], fun j w e h1 h2 => ?_⟩
  rw [List.getElem?_take] at h1 h2
  split at h1
  · rename_i hj
    rw [if_pos hj] at h2
    exact r.at' j w e h1 h2
  · cases h1
theorem Reps.drop {G : Gi} {H : Hp} {vs : List V} {ds : List D} (r : Reps G H vs ds) (n : Nat) : Reps G H (vs.drop n) (ds.drop n) := by
  refine ⟨by simp [r.len], fun j w e h1 h2 => ?_⟩
  rw [List.getElem?_drop] at h1 h2
  exact r.at' _ w e h1 h2
noncomputable def TopO (G : Gi) (Hf : Hp) (o : HO) : D → Prop
  | .lst ds => ∃ vs, o = .lst vs ∧ Reps G Hf vs ds
  | .dic kds => ∃ kvs : List (Key × V), o = .dK kvs ∧ kvs.map (·.1) = kds.map (·.1) ∧ Reps G Hf (kvs.map (·.2)) (kds.map (·.2))
  | .dit kds => ∃ kvs : List (List Key × V), o = .dT kvs ∧ kvs.map (·.1) = kds.map (·.1) ∧ Reps G Hf (kvs.map (·.2)) (kds.map (·.2))
  | .ins c fds => ∃ (C dx : Addr) (fs : List (Str × V)), o = .ins C dx fs ∧ G.cls c = some C ∧ fs.map (·.1) = fds.map (·.1) ∧ Reps G Hf (fs.map (·.2)) (fds.map (·.2))
  | _ => False
theorem TopO.mono {G : Gi} {Hf Hf' : Hp} (s : Same Hf Hf') {o : HO} {d : D} (h : TopO G Hf o d) : TopO G Hf' o d := by
  cases d with
  | lst ds => obtain ⟨vs, e, r⟩ := h; exact ⟨vs, e, r.mono s⟩
  | dic kds => obtain ⟨vs, e, l, r⟩ := h; exact ⟨vs, e, l, r.mono s⟩
  | dit kds => obtain ⟨vs, e, l, r⟩ := h; exact ⟨vs, e, l, r.mono s⟩
  | ins c fds => obtain ⟨C, dx, fs, e, hc, l, r⟩ := h; exact ⟨C, dx, fs, e, hc, l, r.mono s⟩
  | non => exact h.elim
  | bl b => exact h.elim
  | int b => exact h.elim
  | str b => exact h.elim
  | tup b => exact h.elim
  | frl b => exact h.elim
  | frt b => exact h.elim
  | fn b => exact h.elim
  | ty b => exact h.elim
  | cls b => exact h.elim
  | exc b c e => exact h.elim
theorem TopO.mut {G : Gi} {Hf : Hp} {o : HO} {d : D} (h : TopO G Hf o d) : Mut (some o) := by
  cases d with
  | lst ds => obtain ⟨vs, e, r⟩ := h; subst e; trivial
  | dic kds => obtain ⟨vs, e, l, r⟩ := h; subst e; trivial
  | dit kds => obtain ⟨vs, e, l, r⟩ := h; subst e; trivial
  | ins c fds => obtain ⟨C, dx, fs, e, hc, l, r⟩ := h; subst e; trivial
  | non => exact h.elim
  | bl b => exact h.elim
  | int b => exact h.elim
  | str b => exact h.elim
  | tup b => exact h.elim
  | frl b => exact h.elim
  | frt b => exact h.elim
  | fn b => exact h.elim
  | ty b => exact h.elim
  | cls b => exact h.elim
  | exc b c e => exact h.elim
theorem TopO.rep {G : Gi} {Hf : Hp} {o : HO} {d : D} {p : Addr} (h : TopO G Hf o d) (hp : Hf p = some o) : Rep G Hf (.ref p) d := by
  cases d with
  | lst ds => obtain ⟨vs, e, r⟩ := h; subst e; exact .lst hp r.len r.at'
  | dic kds =>
    obtain ⟨kvs, e, l, r⟩ := h; subst e
    refine .dic (.inl hp) l fun i a b h1 h2 => r.at' i a.2 b.2 ?_ ?_
    · rw [List.getElem?_map, h1]; rfl
    · rw [List.getElem?_map, h2]; rfl
  | dit kds =>
    obtain ⟨kvs, e, l, r⟩ := h; subst e
    refine .dit (.inl hp) l fun i a b h1 h2 => r.at' i a.2 b.2 ?_ ?_
    · rw [List.getElem?_map, h1]; rfl
    · rw [List.getElem?_map, h2]; rfl
  | ins c fds =>
    obtain ⟨C, dx, fs, e, hc, l, r⟩ := h; subst e
    refine .ins hp hc l fun i a b h1 h2 => r.at' i a.2 b.2 ?_ ?_
    · rw [List.getElem?_map, h1]; rfl
    · rw [List.getElem?_map, h2]; rfl
  | non => exact h.elim
  | bl b => exact h.elim
  | int b => exact h.elim
  | str b => exact h.elim
  | tup b => exact h.elim
  | frl b => exact h.elim
  | frt b => exact h.elim
  | fn b => exact h.elim
  | ty b => exact h.elim
  | cls b => exact h.elim
  | exc b c e => exact h.elim

inductive M where
  | sh | ow | io | al (j : Nat) | fr
  deriving DecidableEq
structure Slot where
  m : M
  d : D
noncomputable abbrev Env := List (Option Slot)
noncomputable abbrev sh (d : D) : Option Slot := some ⟨.sh, d⟩
noncomputable abbrev ow (d : D) : Option Slot := some ⟨.ow, d⟩
noncomputable abbrev io (d : D) : Option Slot := some ⟨.io, d⟩
noncomputable abbrev fr (d : D) : Option Slot := some ⟨.fr, d⟩
/- never changed: no list and no dict below, but in instances and errors -/
mutual
noncomputable def D.imm : D → Bool
  | .lst _ => false
  | .frl _ => false
  | .frt _ => false
  | .dic _ => false
  | .dit _ => false
  | .tup xs => D.imms xs
  | .non => true
  | .bl _ => true
  | .int _ => true
  | .str _ => true
  | .ins _ _ => true
  | .fn _ => true
  | .ty _ => true
  | .cls _ => true
  | .exc _ _ _ => true
noncomputable def D.imms : List D → Bool
  | [] => true
  | x :: r => D.imm x && D.imms r
end

noncomputable def M.mut : M → Bool
  | .ow => true
  | .io => true
  | _ => false

structure En where
  io : Addr → Prop
  f0 : Hp
structure Gr (G : Gi) (IO : En) (H0 H : Hp) : Prop where
  ls : ∀ b, H b = none → H0 b = none
  tab : NdefX.TabsN G.T H
  co : ∀ q ∈ G.T, IO.io q.1 ∧ IO.f0 q.1 = none ∧ H0 q.1 ≠ none
instance {G : Gi} {IO : En} {H0 H : Hp} : CoeFun (Gr G IO H0 H) fun _ => ∀ b, H b = none → H0 b = none := ⟨Gr.ls⟩
theorem Gr.to {G : Gi} {IO : En} {H0 H H' : Hp} (g : Gr G IO H0 H) (ls : ∀ b, H' b = none → H b = none) (tab : NdefX.TabsN G.T H') : Gr G IO H0 H' := ⟨fun b e => g.ls b (ls b e), tab, g.co⟩
/- v stands for d; the lists and dicts below it stand at the addresses L in H, each once -/
mutual
inductive Own (G : Gi) (Hf H : Hp) : List Addr → V → D → Prop
  | shr {v : V} {d : D} (hi : d.imm = true) (r : Rep G Hf v d) : Own G Hf H [] v d
  | lst {p : Addr} {vs : List V} {ds : List D} {L : List Addr} (h : H p = some (.lst vs)) (r : Owns G Hf H L vs ds) : Own G Hf H (p :: L) (.ref p) (.lst ds)
  | dic {p : Addr} {kvs : List (Key × V)} {kds : List (Key × D)} {L : List Addr} (h : H p = some (.dK kvs)) (l : kvs.map (·.1) = kds.map (·.1)) (r : Owns G Hf H L (kvs.map (·.2)) (kds.map (·.2))) : Own G Hf H (p :: L) (.ref p) (.dic kds)
  | dit {p : Addr} {kvs : List (List Key × V)} {kds : List (List Key × D)} {L : List Addr} (h : H p = some (.dT kvs)) (l : kvs.map (·.1) = kds.map (·.1)) (r : Owns G Hf H L (kvs.map (·.2)) (kds.map (·.2))) : Own G Hf H (p :: L) (.ref p) (.dit kds)
  | tup {p : Addr} {vs : List V} {ds : List D} {L : List Addr} (h : Hf p = some (.tup vs)) (r : Owns G Hf H L vs ds) : Own G Hf H L (.ref p) (.tup ds)
inductive Owns (G : Gi) (Hf H : Hp) : List Addr → List V → List D → Prop
  | nil : Owns G Hf H [] [] []
  | cons {L1 L2 : List Addr} {v : V} {d : D} {vs : List V} {ds : List D} (h : Own G Hf H L1 v d) (r : Owns G Hf H L2 vs ds) : Owns G Hf H (L1 ++ L2) (v :: vs) (d :: ds)
end
mutual
theorem Own.mono {G : Gi} {Hf Hf' H H' : Hp} (s : Same Hf Hf') : ∀ {L : List Addr} {v : V} {d : D}, Own G Hf H L v d → (∀ a ∈ L, ∀ o, H a = some o → H' a = some o) → Own G Hf' H' L v d
  | _, _, _, .shr hi r, _ => .shr hi (r.mono s)
  | _, _, _, .lst h r, k => .lst (k _ List.mem_cons_self _ h) (Owns.mono s r fun a ha => k a (List.mem_cons_of_mem _ ha))
  | _, _, _, .dic h l r, k => .dic (k _ List.mem_cons_self _ h) l (Owns.mono s r fun a ha => k a (List.mem_cons_of_mem _ ha))
  | _, _, _, .dit h l r, k => .dit (k _ List.mem_cons_self _ h) l (Owns.mono s r fun a ha => k a (List.mem_cons_of_mem _ ha))
  | _, _, _, .tup h r, k => .tup (s _ _ h) (Owns.mono s r k)
theorem Owns.mono {G : Gi} {Hf Hf' H H' : Hp} (s : Same Hf Hf') : ∀ {L : List Addr} {vs : List V} {ds : List D}, Owns G Hf H L vs ds → (∀ a ∈ L, ∀ o, H a = some o → H' a = some o) → Owns G Hf' H' L vs ds
  | _, _, _, .nil, _ => .nil
  | _, _, _, .cons h r, k => .cons (Own.mono s h fun a ha => k a (List.mem_append_left _ ha)) (Owns.mono s r fun a ha => k a (List.mem_append_right _ ha))
end
mutual
theorem Own.mut {G : Gi} {Hf H : Hp} : ∀ {L : List Addr} {v : V} {d : D}, Own G Hf H L v d → ∀ a ∈ L, ∃ o, H a = some o ∧ Mut (some o)
  | _, _, _, .shr _ _, a, ha => nomatch ha
  | _, _, _, .lst h r, a, ha => by
    rcases List.mem_cons.mp ha with e | ha
    · subst e; exact ⟨_, h, trivial⟩
    · exact Owns.mut r a ha
  | _, _, _, .dic h l r, a, ha => by
    rcases List.mem_cons.mp ha with e | ha
    · subst e; exact ⟨_, h, trivial⟩
    · exact Owns.mut r a ha
  | _, _, _, .dit h l r, a, ha => by
    rcases List.mem_cons.mp ha with e | ha
    · subst e; exact ⟨_, h, trivial⟩
    · exact Owns.mut r a ha
  | _, _, _, .tup h r, a, ha => Owns.mut r a ha
theorem Owns.mut {G : Gi} {Hf H : Hp} : ∀ {L : List Addr} {vs : List V} {ds : List D}, Owns G Hf H L vs ds → ∀ a ∈ L, ∃ o, H a = some o ∧ Mut (some o)
  | _, _, _, .nil, a, ha => nomatch ha
  | _, _, _, .cons h r, a, ha => by
    rcases List.mem_append.mp ha with ha | ha
    · exact Own.mut h a ha
    · exact Owns.mut r a ha
end
theorem Owns.len {G : Gi} {Hf H : Hp} : ∀ {L : List Addr} {vs : List V} {ds : List D}, Owns G Hf H L vs ds → vs.length = ds.length
  | _, _, _, .nil => rfl
  | _, _, _, .cons _ r => by rw [List.length_cons, List.length_cons, Owns.len r]
/- read as shared data of a wider heap -/
mutual
theorem Own.rep {G : Gi} {Hf H X : Hp} (s : Same Hf X) : ∀ {L : List Addr} {v : V} {d : D}, Own G Hf H L v d → (∀ a ∈ L, ∀ o, H a = some o → X a = some o) → Rep G X v d
  | _, _, _, .shr _ r, _ => r.mono s
  | _, _, _, .lst h r, k =>
    let q := Owns.rep s r fun a ha => k a (List.mem_cons_of_mem _ ha)
    .lst (k _ List.mem_cons_self _ h) q.len q.at'
  | _, _, _, .dic h l r, k =>
    let q := Owns.rep s r fun a ha => k a (List.mem_cons_of_mem _ ha)
    .dic (.inl (k _ List.mem_cons_self _ h)) l fun i a b h1 h2 => q.at' i a.2 b.2 (by rw [List.getElem?_map, h1]; rfl) (by rw [List.getElem?_map, h2]; rfl)
  | _, _, _, .dit h l r, k =>
    let q := Owns.rep s r fun a ha => k a (List.mem_cons_of_mem _ ha)
    .dit (.inl (k _ List.mem_cons_self _ h)) l fun i a b h1 h2 => q.at' i a.2 b.2 (by rw [List.getElem?_map, h1]; rfl) (by rw [List.getElem?_map, h2]; rfl)
  | _, _, _, .tup h r, k =>
    let q := Owns.rep s r k
    .tup (s _ _ h) q.len q.at'
theorem Owns.rep {G : Gi} {Hf H X : Hp} (s : Same Hf X) : ∀ {L : List Addr} {vs : List V} {ds : List D}, Owns G Hf H L vs ds → (∀ a ∈ L, ∀ o, H a = some o → X a = some o) → Reps G X vs ds
  | _, _, _, .nil, _ => .nil
  | _, _, _, .cons h r, k => .cons (Own.rep s h fun a ha => k a (List.mem_append_left _ ha)) (Owns.rep s r fun a ha => k a (List.mem_append_right _ ha))
end
mutual
theorem Own.by' {G : Gi} {Hf Hf' H H' : Hp} (s : ∀ v d, Rep G Hf v d → Rep G Hf' v d) (t : ∀ p vs, Hf p = some (.tup vs) → Hf' p = some (.tup vs)) : ∀ {L : List Addr} {v : V} {d : D}, Own G Hf H L v d → (∀ a ∈ L, ∀ o, H a = some o → H' a = some o) → Own G Hf' H' L v d
  | _, _, _, .shr hi r, _ => .shr hi (s _ _ r)
  | _, _, _, .lst h r, k => .lst (k _ List.mem_cons_self _ h) (Owns.by' s t r fun a ha => k a (List.mem_cons_of_mem _ ha))
  | _, _, _, .dic h l r, k => .dic (k _ List.mem_cons_self _ h) l (Owns.by' s t r fun a ha => k a (List.mem_cons_of_mem _ ha))
  | _, _, _, .dit h l r, k => .dit (k _ List.mem_cons_self _ h) l (Owns.by' s t r fun a ha => k a (List.mem_cons_of_mem _ ha))
  | _, _, _, .tup h r, k => .tup (t _ _ h) (Owns.by' s t r k)
theorem Owns.by' {G : Gi} {Hf Hf' H H' : Hp} (s : ∀ v d, Rep G Hf v d → Rep G Hf' v d) (t : ∀ p vs, Hf p = some (.tup vs) → Hf' p = some (.tup vs)) : ∀ {L : List Addr} {vs : List V} {ds : List D}, Owns G Hf H L vs ds → (∀ a ∈ L, ∀ o, H a = some o → H' a = some o) → Owns G Hf' H' L vs ds
  | _, _, _, .nil, _ => .nil
  | _, _, _, .cons h r, k => .cons (Own.by' s t h fun a ha => k a (List.mem_append_left _ ha)) (Owns.by' s t r fun a ha => k a (List.mem_append_right _ ha))
end
structure FrW (G : Gi) (H0 Hf : Hp) (σ : L2.St) (env : Env) (H : Hp) (Ls : Nat → List Addr) : Prop where
  own : ∀ (i : Nat) d, env[i]? = some (fr d) → ∃ v, σ[i]? = some (some v) ∧ Own G Hf H (Ls i) v d
  nd : ∀ i, (Ls i).Nodup
  out : ∀ i a, a ∈ Ls i → Hf a = none ∧ H0 a = none
  dis : ∀ i j a, a ∈ Ls i → a ∈ Ls j → i = j
  sep : ∀ (i j : Nat) (s : Slot) a, a ∈ Ls i → env[j]? = some (some s) → s.m.mut = true → σ[j]? = some (some (V.ref a)) → False
  cov : ∀ i a, a ∈ Ls i → ∃ d, env[i]? = some (fr d)
theorem FrW.at' {G : Gi} {H0 Hf : Hp} {σ : L2.St} {env : Env} {H : Hp} {Ls : Nat → List Addr} (w : FrW G H0 Hf σ env H Ls) {i : Nat} {a : Addr} (h : a ∈ Ls i) : ∃ o, H a = some o ∧ Mut (some o) := by
  obtain ⟨d, hd⟩ := w.cov i a h
  obtain ⟨v, _, o⟩ := w.own i d hd
  exact o.mut a h
noncomputable def FrOkQ (Q : Addr → Prop) (G : Gi) (H0 Hf : Hp) (σ : L2.St) (env : Env) (H : Hp) : Prop := ∃ Ls, FrW G H0 Hf σ env H Ls ∧ ∀ i a, a ∈ Ls i → Q a
noncomputable def FrOk (G : Gi) (H0 Hf : Hp) (σ : L2.St) (env : Env) (H : Hp) : Prop := ∃ Ls, FrW G H0 Hf σ env H Ls
theorem FrOkQ.ok {Q : Addr → Prop} {G : Gi} {H0 Hf : Hp} {σ : L2.St} {env : Env} {H : Hp} (h : FrOkQ Q G H0 Hf σ env H) : FrOk G H0 Hf σ env H := let ⟨Ls, w, _⟩ := h; ⟨Ls, w⟩
theorem FrOk.q {G : Gi} {H0 Hf : Hp} {σ : L2.St} {env : Env} {H : Hp} (h : FrOk G H0 Hf σ env H) : FrOkQ (fun _ => True) G H0 Hf σ env H := let ⟨Ls, w⟩ := h; ⟨Ls, w, fun _ _ _ => trivial⟩
theorem FrOkQ.to {Q Q' : Addr → Prop} {G : Gi} {H0 H0' Hf Hf' : Hp} {σ σ' : L2.St} {env env' : Env} {H H' : Hp} (h : FrOkQ Q G H0 Hf σ env H) (f : Nat → Nat) (inj : ∀ (i j : Nat) d d', env'[i]? = some (fr d) → env'[j]? = some (fr d') → f i = f j → i = j)
    (hf : ∀ (i : Nat) d, env'[i]? = some (fr d) → env[f i]? = some (fr d) ∧ ∀ v, σ[f i]? = some (some v) → σ'[i]? = some (some v)) (sf : Same Hf Hf')
    (keep : ∀ a o, Q a → H a = some o → Mut (some o) → Hf a = none → H0 a = none → (∀ (j : Nat) (s : Slot), env[j]? = some (some s) → s.m.mut = true → σ[j]? = some (some (V.ref a)) → False) →
      H' a = some o ∧ Hf' a = none ∧ H0' a = none ∧ ∀ (j : Nat) (s : Slot), env'[j]? = some (some s) → s.m.mut = true → σ'[j]? = some (some (V.ref a)) → False) (hq : ∀ a o, Q a → H a = some o → Q' a) : FrOkQ Q' G H0' Hf' σ' env' H' := by
  classical
  obtain ⟨Ls, w, wq⟩ := h
  have k2 : ∀ i a, a ∈ Ls i → ∃ o, H a = some o ∧ H' a = some o ∧ Hf' a = none ∧ H0' a = none ∧ ∀ (j : Nat) (s : Slot), env'[j]? = some (some s) → s.m.mut = true → σ'[j]? = some (some (V.ref a)) → False := fun i a ha => by
    obtain ⟨o, ho, hm⟩ := w.at' ha
    exact ⟨o, ho, keep a o (wq i a ha) ho hm (w.out i a ha).1 (w.out i a ha).2 fun j s hs hm hv => w.sep i j s a ha hs hm hv⟩
  have fr? : ∀ i a, a ∈ (if ∃ d, env'[i]? = some (fr d) then Ls (f i) else []) → (∃ d, env'[i]? = some (fr d)) ∧ a ∈ Ls (f i) := fun i a ha => by
    by_cases hd : ∃ d, env'[i]? = some (fr d)
    · rw [if_pos hd] at ha; exact ⟨hd, ha⟩
    · rw [if_neg hd] at ha; cases ha
  refine ⟨fun i => if ∃ d, env'[i]? = some (fr d) then Ls (f i) else [], ⟨fun i d hd => ?_, fun i => ?_, fun i a ha => ?_, fun i j a ha hb => ?_, fun i j s a ha hs hm hv => ?_, fun i a ha => (fr? i a ha).1⟩, fun i a ha => by obtain ⟨_, ha⟩ := fr? i a ha; obtain ⟨o, ho, _⟩ := k2 (f i) a ha; exact hq a o (wq _ a ha) ho⟩
  · rw [if_pos ⟨d, hd⟩]
    obtain ⟨h1, h2⟩ := hf i d hd
    obtain ⟨v, e, o⟩ := w.own (f i) d h1
    refine ⟨v, h2 v e, o.mono sf fun a ha x hx => ?_⟩
    obtain ⟨o', e1, e2, _⟩ := k2 (f i) a ha
    rw [hx] at e1; cases e1; exact e2
  · by_cases hd : ∃ d, env'[i]? = some (fr d)
    · simp only [if_pos hd]; exact w.nd _
    · simp only [if_neg hd]; exact List.nodup_nil
  · obtain ⟨_, ha⟩ := fr? i a ha
    obtain ⟨o, _, _, h1, h2, _⟩ := k2 (f i) a ha
    exact ⟨h1, h2⟩
  · obtain ⟨⟨d, hd⟩, ha⟩ := fr? i a ha
    obtain ⟨⟨d', hd'⟩, hb⟩ := fr? j a hb
    exact inj i j d d' hd hd' (w.dis _ _ a ha hb)
  · obtain ⟨_, ha⟩ := fr? i a ha
    obtain ⟨o, _, _, _, _, h3⟩ := k2 (f i) a ha
    exact h3 j s hs hm hv
theorem FrOk.to {G : Gi} {H0 H0' Hf Hf' : Hp} {σ σ' : L2.St} {env env' : Env} {H H' : Hp} (h : FrOk G H0 Hf σ env H) (f : Nat → Nat) (inj : ∀ (i j : Nat) d d', env'[i]? = some (fr d) → env'[j]? = some (fr d') → f i = f j → i = j)
    (hf : ∀ (i : Nat) d, env'[i]? = some (fr d) → env[f i]? = some (fr d) ∧ ∀ v, σ[f i]? = some (some v) → σ'[i]? = some (some v)) (sf : Same Hf Hf')
    (keep : ∀ a o, H a = some o → Mut (some o) → Hf a = none → H0 a = none → (∀ (j : Nat) (s : Slot), env[j]? = some (some s) → s.m.mut = true → σ[j]? = some (some (V.ref a)) → False) →
      H' a = some o ∧ Hf' a = none ∧ H0' a = none ∧ ∀ (j : Nat) (s : Slot), env'[j]? = some (some s) → s.m.mut = true → σ'[j]? = some (some (V.ref a)) → False) : FrOk G H0' Hf' σ' env' H' :=
  (h.q.to (Q' := fun _ => True) f inj hf sf (fun a o _ => keep a o) fun _ _ _ _ => trivial).ok
theorem FrOk.none' {G : Gi} {H0 Hf : Hp} {σ : L2.St} {env : Env} {H : Hp} (h : ∀ (i : Nat) d, env[i]? ≠ some (fr d)) : FrOk G H0 Hf σ env H :=
  ⟨fun _ => [], ⟨fun i d hd => absurd hd (h i d), fun _ => List.nodup_nil, fun _ _ h => (List.not_mem_nil h).elim, fun _ _ _ h _ => (List.not_mem_nil h).elim, fun _ _ _ _ h _ _ _ => (List.not_mem_nil h).elim, fun _ _ h => (List.not_mem_nil h).elim⟩⟩
structure SR (n : Nat) (G : Gi) (IO : En) (H0 Hf : Hp) (σ : L2.St) (env : Env) (H : Hp) : Prop where
  sub : Same Hf H
  keep : ∀ b o, H0 b = some o → ¬ IO.io b → H b = some o
  grow : Gr G IO H0 H
  nf : ∀ b o, Hf b = some o → H0 b = none ∨ IO.f0 b = some o ∨ Fxd o
  len : σ.length = env.length
  shr : ∀ (i : Nat) d, env[i]? = some (sh d) → ∃ v, σ[i]? = some (some v) ∧ Rep G Hf v d
  own : ∀ (i : Nat) d, env[i]? = some (ow d) → ∃ p o, σ[i]? = some (some (V.ref p)) ∧ Hf p = none ∧ H0 p = none ∧ H p = some o ∧ TopO G Hf o d
  inout : ∀ (i : Nat) d, env[i]? = some (io d) → ∃ p o, σ[i]? = some (some (V.ref p)) ∧ Hf p = none ∧ IO.io p ∧ H p = some o ∧ TopO G Hf o d
  ali : ∀ (i j : Nat) d, env[i]? = some (some ⟨.al j, d⟩) → j < n ∧ ∃ v, σ[i]? = some (some v) ∧ σ[j]? = some (some v) ∧ ∃ s : Slot, env[j]? = some (some s) ∧ ∀ k, s.m ≠ .al k
  sep : ∀ (i j : Nat) (a b : Slot) v, i ≠ j → env[i]? = some (some a) → env[j]? = some (some b) → a.m.mut = true → b.m.mut = true → σ[i]? = some (some v) → σ[j]? = some (some v) → False
  fre : FrOk G H0 Hf σ env H


section
variable {n : Nat} {G : Gi} {IO : En} {H0 Hf H : Hp} {σ tv : L2.St} {env te : Env}

theorem same_upd {H : Hp} {p : Addr} {o : HO} (h : H p = none) : Same H (upd H p o) := fun b x e => by
  rw [upd_ne (ne_of_none e h)]
  exact e
theorem get_last {α : Type} {l : List α} {x : α} : (l ++ [x])[l.length]? = some x := by simp
theorem get_before {α : Type} {l : List α} {x : α} {i : Nat} (h : i < l.length) : (l ++ [x])[i]? = l[i]? := List.getElem?_append_left h
theorem snoc_cases {α : Type} {l : List α} {x y : α} {i : Nat} (h : (l ++ [x])[i]? = some y) : (i < l.length ∧ l[i]? = some y) ∨ (i = l.length ∧ x = y) := by
  have hl : i < (l ++ [x]).length := (List.getElem?_eq_some_iff.mp h).1
  rw [List.length_append, List.length_singleton] at hl
  by_cases hi : i < l.length
  · rw [get_before hi] at h
    exact .inl ⟨hi, h⟩
  · have e : i = l.length := by omega
    subst e
    rw [get_last] at h
    exact .inr ⟨rfl, Option.some.inj h⟩
theorem lt_of_get {α : Type} {l : List α} {i : Nat} {x : α} (h : l[i]? = some x) : i < l.length := (List.getElem?_eq_some_iff.mp h).1

theorem FrOk.heap {Hf' H' : Hp} (h : FrOk G H0 Hf σ env H) (sf : Same Hf Hf')
    (kp : ∀ a o, H a = some o → Mut (some o) → Hf a = none → H0 a = none → (∀ (j : Nat) (s : Slot), env[j]? = some (some s) → s.m.mut = true → σ[j]? = some (some (V.ref a)) → False) → H' a = some o ∧ Hf' a = none) : FrOk G H0 Hf' σ env H' :=
  h.to id (fun _ _ _ _ _ _ e => e) (fun _ _ h => ⟨h, fun _ e => e⟩) sf fun a o e m f0 h0 ns => ⟨(kp a o e m f0 h0 ns).1, (kp a o e m f0 h0 ns).2, h0, ns⟩
theorem FrOk.pushed {Hf' H' : Hp} {x : Option V} {y : Option Slot} (h : FrOk G H0 Hf σ env H) (hl : σ.length = env.length) (hy : ∀ d, y ≠ fr d) (sf : Same Hf Hf')
    (kp : ∀ a o, H a = some o → Mut (some o) → Hf a = none → H0 a = none → (∀ (j : Nat) (s : Slot), env[j]? = some (some s) → s.m.mut = true → σ[j]? = some (some (V.ref a)) → False) → H' a = some o ∧ Hf' a = none)
    (new : ∀ (t : Slot) a, y = some t → t.m.mut = true → x = some (V.ref a) → H a = none) : FrOk G H0 Hf' (σ ++ [x]) (env ++ [y]) H' := by
  refine h.to id (fun _ _ _ _ _ _ e => e) (fun i d h => ?_) sf fun a o e m f0 h0 ns => ⟨(kp a o e m f0 h0 ns).1, (kp a o e m f0 h0 ns).2, h0, fun j s hs hm hv => ?_⟩
  · rcases snoc_cases h with ⟨hi, h⟩ | ⟨hi, h⟩
    · exact ⟨h, fun v e => by rw [get_before (by rw [hl]; exact hi)]; exact e⟩
    · exact absurd h (hy d)
  · rcases snoc_cases hs with ⟨hj, hs⟩ | ⟨hj, hs⟩
    · rw [get_before (by rw [hl]; exact hj)] at hv
      exact ns j s hs hm hv
    · have hx : x = some (V.ref a) := by rw [hj, ← hl, get_last] at hv; exact Option.some.inj hv
      have := new s a hs hm hx
      rw [e] at this; cases this
theorem SR.lift (R : SR n G IO H0 Hf σ env H) {i : Nat} {s : Option Slot} (h : env[i]? = some s) : i < σ.length := by rw [R.len]; exact lt_of_get h

theorem SR.tnf (R : SR n G IO H0 Hf σ env H) : ∀ q ∈ G.T, Hf q.1 = none := fun q hq => by
  cases e : Hf q.1 with
  | none => rfl
  | some o =>
    obtain ⟨c1, c2, c3⟩ := R.grow.co q hq
    rcases R.nf _ _ e with z | z | z
    · exact absurd z c3
    · rw [c2] at z; cases z
    · obtain ⟨ps, h1, _⟩ := R.grow.tab q hq
      rw [R.sub _ _ e] at h1
      exact absurd (Option.some.inj h1) (z.nt ps)
theorem Gr.ntab {p : Addr} {o : HO} (g : Gr G IO H0 H) (h : H p = some o) (m : Mut (some o)) : ∀ q ∈ G.T, q.1 ≠ p := fun q hq z => by
  obtain ⟨ps, h1, _⟩ := g.tab q hq
  rw [z, h] at h1
  cases h1
  exact m
theorem SR.push_sh (R : SR n G IO H0 Hf σ env H) {v : V} {d : D} (r : Rep G Hf v d) : SR n G IO H0 Hf (σ ++ [some v]) (env ++ [sh d]) H where
  sub := R.sub
  keep := R.keep
  grow := R.grow
  nf := R.nf
  len := by simp [R.len]
  shr := fun i d' h => by
    rcases snoc_cases h with ⟨hi, h⟩ | ⟨hi, h⟩
    · obtain ⟨w, e, q⟩ := R.shr i d' h
      exact ⟨w, by rw [get_before (R.lift h)]; exact e, q⟩
    · cases h
      refine ⟨v, ?_, r⟩
      rw [hi, ← R.len]; exact get_last
  own := fun i d' h => by
    rcases snoc_cases h with ⟨hi, h⟩ | ⟨hi, h⟩
    · obtain ⟨p, o, e, q⟩ := R.own i d' h
      exact ⟨p, o, by rw [get_before (R.lift h)]; exact e, q⟩
    · cases h
  inout := fun i d' h => by
    rcases snoc_cases h with ⟨hi, h⟩ | ⟨hi, h⟩
    · obtain ⟨p, o, e, q⟩ := R.inout i d' h
      exact ⟨p, o, by rw [get_before (R.lift h)]; exact e, q⟩
    · cases h
  ali := fun i j d' h => by
    rcases snoc_cases h with ⟨hi, h⟩ | ⟨hi, h⟩
    · obtain ⟨jn, w, e1, e2, s, e3, e4⟩ := R.ali i j d' h
      exact ⟨jn, w, by rw [get_before (R.lift h)]; exact e1, by rw [get_before (R.lift e3)]; exact e2, s, by rw [get_before (lt_of_get e3)]; exact e3, e4⟩
    · cases h
  sep := fun i j a b w ne ha hb ma mb h1 h2 => by
    rcases snoc_cases ha with ⟨hi, ha⟩ | ⟨hi, ha⟩
    · rcases snoc_cases hb with ⟨hj, hb⟩ | ⟨hj, hb⟩
      · rw [get_before (R.lift ha)] at h1
        rw [get_before (R.lift hb)] at h2
        exact R.sep i j a b w ne ha hb ma mb h1 h2
      · cases hb; simp [M.mut] at mb
    · cases ha; simp [M.mut] at ma
  fre := R.fre.pushed R.len (fun d' e => by cases e) (Same.refl _) (fun a o e _ f0 _ _ => ⟨e, f0⟩) fun t a e m => by cases e; cases m
theorem SR.fresh (R : SR n G IO H0 Hf σ env H) {p : Addr} (hp : H p = none) : Hf p = none ∧ H0 p = none := by
  refine ⟨?_, R.grow p hp⟩
  cases e : Hf p with
  | none => rfl
  | some o => rw [R.sub p o e] at hp; cases hp
theorem SR.more (R : SR n G IO H0 Hf σ env H) {p : Addr} {o : HO} (hp : H p = none) : SR n G IO H0 Hf σ env (upd H p o) where
  sub := fun b x e => same_upd hp b x (R.sub b x e)
  keep := fun b x e n => same_upd hp b x (R.keep b x e n)
  grow := R.grow.to (fun b e => by
    by_cases hb : b = p
    · subst hb; rw [upd_same] at e; cases e
    · rw [upd_ne hb] at e; exact e) (R.grow.tab.ext (same_upd hp))
  nf := R.nf
  len := R.len
  shr := R.shr
  own := fun i d h => by
    obtain ⟨q, x, e, a, b, c, t⟩ := R.own i d h
    exact ⟨q, x, e, a, b, same_upd hp _ _ c, t⟩
  inout := fun i d h => by
    obtain ⟨q, x, e, a, b, c, t⟩ := R.inout i d h
    exact ⟨q, x, e, a, b, same_upd hp _ _ c, t⟩
  ali := R.ali
  sep := R.sep
  fre := R.fre.heap (Same.refl _) fun a o' e _ f0 _ _ => ⟨same_upd hp _ _ e, f0⟩
theorem SR.push_ow (R : SR n G IO H0 Hf σ env H) {p : Addr} {o : HO} {d : D} (hp : H p = none) (t : TopO G Hf o d) : SR n G IO H0 Hf (σ ++ [some (V.ref p)]) (env ++ [ow d]) (upd H p o) := by
  have R1 := R.more (o := o) hp
  have f := R.fresh hp
  have nin : ∀ (i : Nat) (s : Slot), env[i]? = some (some s) → s.m.mut = true → σ[i]? ≠ some (some (V.ref p)) := fun i s hs hm e => by
    obtain ⟨m, d'⟩ := s
    cases m with
    | sh => cases hm
    | ow =>
      obtain ⟨q, x, e2, _, _, c, _⟩ := R.own i d' hs
      rw [e] at e2; cases e2
      rw [hp] at c; cases c
    | io =>
      obtain ⟨q, x, e2, _, _, c, _⟩ := R.inout i d' hs
      rw [e] at e2; cases e2
      rw [hp] at c; cases c
    | al j => cases hm
    | fr => cases hm
  refine ⟨R1.sub, R1.keep, R1.grow, R1.nf, by simp [R.len], fun i d' h => ?_, fun i d' h => ?_, fun i d' h => ?_, fun i j d' h => ?_, fun i j a b w ne ha hb ma mb h1 h2 => ?_, R.fre.pushed R.len (fun d' e => by cases e) (Same.refl _) (fun a o' e _ f0 _ _ => ⟨same_upd hp _ _ e, f0⟩) fun t a e m ex => by cases ex; exact hp⟩
  · rcases snoc_cases h with ⟨hi, h⟩ | ⟨hi, h⟩
    · obtain ⟨w, e, q⟩ := R1.shr i d' h
      exact ⟨w, by rw [get_before (R.lift h)]; exact e, q⟩
    · cases h
  · rcases snoc_cases h with ⟨hi, h⟩ | ⟨hi, h⟩
    · obtain ⟨q, x, e, z⟩ := R1.own i d' h
      exact ⟨q, x, by rw [get_before (R.lift h)]; exact e, z⟩
    · cases h
      refine ⟨p, o, ?_, f.1, f.2, upd_same, t⟩
      rw [hi, ← R.len]; exact get_last
  · rcases snoc_cases h with ⟨hi, h⟩ | ⟨hi, h⟩
    · obtain ⟨q, x, e, z⟩ := R1.inout i d' h
      exact ⟨q, x, by rw [get_before (R.lift h)]; exact e, z⟩
    · cases h
  · rcases snoc_cases h with ⟨hi, h⟩ | ⟨hi, h⟩
    · obtain ⟨jn, w, e1, e2, s, e3, e4⟩ := R.ali i j d' h
      exact ⟨jn, w, by rw [get_before (R.lift h)]; exact e1, by rw [get_before (R.lift e3)]; exact e2, s, by rw [get_before (lt_of_get e3)]; exact e3, e4⟩
    · cases h
  · rcases snoc_cases ha with ⟨hi, ha⟩ | ⟨hi, ha⟩
    · rcases snoc_cases hb with ⟨hj, hb⟩ | ⟨hj, hb⟩
      · rw [get_before (R.lift ha)] at h1
        rw [get_before (R.lift hb)] at h2
        exact R.sep i j a b w ne ha hb ma mb h1 h2
      · rw [get_before (R.lift ha)] at h1
        have : w = V.ref p := by rw [hj, ← R.len, get_last] at h2; exact (Option.some.inj (Option.some.inj h2)).symm
        subst this
        exact nin i a ha ma h1
    · rcases snoc_cases hb with ⟨hj, hb⟩ | ⟨hj, hb⟩
      · rw [get_before (R.lift hb)] at h2
        have : w = V.ref p := by rw [hi, ← R.len, get_last] at h1; exact (Option.some.inj (Option.some.inj h1)).symm
        subst this
        exact nin j b hb mb h2
      · exact ne (hi.trans hj.symm)
theorem SR.wider (R : SR n G IO H0 Hf σ env H) {p : Addr} {o : HO} (hp : H p = none) : SR n G IO H0 (upd Hf p o) σ env (upd H p o) := by
  have f := R.fresh hp
  have R1 := R.more (o := o) hp
  have s : Same Hf (upd Hf p o) := same_upd f.1
  refine ⟨fun b x e => ?_, R1.keep, R1.grow, fun b x e => ?_, R.len, fun i d h => ?_, fun i d h => ?_, fun i d h => ?_, R.ali, R.sep, R.fre.heap s fun a o' e _ f0 _ _ => ⟨same_upd hp _ _ e, by rw [upd_ne (ne_of_none e hp)]; exact f0⟩⟩
  · by_cases hb : b = p
    · subst hb; rw [upd_same] at e ⊢; exact e
    · rw [upd_ne hb] at e ⊢; exact R.sub b x e
  · by_cases hb : b = p
    · subst hb; exact .inl f.2
    · rw [upd_ne hb] at e; exact R.nf b x e
  · obtain ⟨v, e, r⟩ := R.shr i d h
    exact ⟨v, e, r.mono s⟩
  · obtain ⟨q, x, e, a, b, c, t⟩ := R1.own i d h
    refine ⟨q, x, e, ?_, b, c, t.mono s⟩
    have nq : q ≠ p := fun z => by
      subst z
      obtain ⟨q', x', e', _, _, c', _⟩ := R.own i d h
      rw [e] at e'; cases e'
      rw [hp] at c'; cases c'
    rw [upd_ne nq]; exact a
  · obtain ⟨q, x, e, a, b, c, t⟩ := R1.inout i d h
    refine ⟨q, x, e, ?_, b, c, t.mono s⟩
    have nq : q ≠ p := fun z => by
      subst z
      obtain ⟨q', x', e', _, _, c', _⟩ := R.inout i d h
      rw [e] at e'; cases e'
      rw [hp] at c'; cases c'
    rw [upd_ne nq]; exact a
theorem SR.push_tup (R : SR n G IO H0 Hf σ env H) {p : Addr} {vs : List V} {ds : List D} (hp : H p = none) (r : Reps G Hf vs ds) :
    SR n G IO H0 (upd Hf p (.tup vs)) (σ ++ [some (V.ref p)]) (env ++ [sh (.tup ds)]) (upd H p (.tup vs)) := by
  have f := R.fresh hp
  have s : Same Hf (upd Hf p (.tup vs)) := same_upd f.1
  exact (R.wider hp).push_sh (.tup upd_same r.len (r.mono s).at')
theorem SR.pop {x : Option V} {y : Option Slot} (R : SR n G IO H0 Hf (σ ++ [x]) (env ++ [y]) H) (hn : n ≤ env.length) : SR n G IO H0 Hf σ env H := by
  have hl : σ.length = env.length := by have := R.len; simpa using this
  have g : ∀ {i : Nat} {s : Slot}, env[i]? = some (some s) → (env ++ [y])[i]? = some (some s) := fun {i s} h => by rw [get_before (lt_of_get h)]; exact h
  have b : ∀ {i : Nat} {s : Slot} {w : V}, env[i]? = some (some s) → (σ ++ [x])[i]? = some (some w) → σ[i]? = some (some w) := fun {i s w} h e => by rwa [get_before (by rw [hl]; exact lt_of_get h)] at e
  refine ⟨R.sub, R.keep, R.grow, R.nf, hl, fun i d h => ?_, fun i d h => ?_, fun i d h => ?_, fun i j d h => ?_, fun i j a b' w ne ha hb ma mb h1 h2 => ?_, R.fre.to id (fun _ _ _ _ _ _ e => e) (fun i d h => ⟨g h, fun v e => b h e⟩) (Same.refl _) fun a o e m f0 h0 ns => ⟨e, f0, h0, fun j s hs hm hv => ns j s (g hs) hm (by rw [get_before (by rw [hl]; exact lt_of_get hs)]; exact hv)⟩⟩
  · obtain ⟨v, e, r⟩ := R.shr i d (g h); exact ⟨v, b h e, r⟩
  · obtain ⟨q, o, e, r⟩ := R.own i d (g h); exact ⟨q, o, b h e, r⟩
  · obtain ⟨q, o, e, r⟩ := R.inout i d (g h); exact ⟨q, o, b h e, r⟩
  · obtain ⟨jn, w, e1, e2, s, e3, e4⟩ := R.ali i j d (g h)
    have hj : j < env.length := Nat.lt_of_lt_of_le jn hn
    rw [get_before hj] at e3
    exact ⟨jn, w, b h e1, b e3 e2, s, e3, e4⟩
  · refine R.sep i j a b' w ne (g ha) (g hb) ma mb ?_ ?_
    · rw [get_before (by rw [hl]; exact lt_of_get ha)]; exact h1
    · rw [get_before (by rw [hl]; exact lt_of_get hb)]; exact h2
theorem SR.push_al (R : SR n G IO H0 Hf σ env H) {j : Nat} {v : V} {s : Slot} {d : D} (hj : j < n) (hv : σ[j]? = some (some v)) (hs : env[j]? = some (some s)) (na : ∀ k, s.m ≠ .al k) :
    SR n G IO H0 Hf (σ ++ [some v]) (env ++ [some ⟨.al j, d⟩]) H where
  sub := R.sub
  keep := R.keep
  grow := R.grow
  nf := R.nf
  len := by simp [R.len]
  shr := fun i d' h => by
    rcases snoc_cases h with ⟨hi, h⟩ | ⟨hi, h⟩
    · obtain ⟨w, e, q⟩ := R.shr i d' h
      exact ⟨w, by rw [get_before (R.lift h)]; exact e, q⟩
    · cases h
  own := fun i d' h => by
    rcases snoc_cases h with ⟨hi, h⟩ | ⟨hi, h⟩
    · obtain ⟨p, o, e, q⟩ := R.own i d' h
      exact ⟨p, o, by rw [get_before (R.lift h)]; exact e, q⟩
    · cases h
  inout := fun i d' h => by
    rcases snoc_cases h with ⟨hi, h⟩ | ⟨hi, h⟩
    · obtain ⟨p, o, e, q⟩ := R.inout i d' h
      exact ⟨p, o, by rw [get_before (R.lift h)]; exact e, q⟩
    · cases h
  ali := fun i k d' h => by
    rcases snoc_cases h with ⟨hi, h⟩ | ⟨hi, h⟩
    · obtain ⟨jn, w, e1, e2, s, e3, e4⟩ := R.ali i k d' h
      exact ⟨jn, w, by rw [get_before (R.lift h)]; exact e1, by rw [get_before (R.lift e3)]; exact e2, s, by rw [get_before (lt_of_get e3)]; exact e3, e4⟩
    · cases h
      refine ⟨hj, v, ?_, by rw [get_before (R.lift hs)]; exact hv, s, by rw [get_before (lt_of_get hs)]; exact hs, na⟩
      rw [hi, ← R.len]; exact get_last
  sep := fun i j a b w ne ha hb ma mb h1 h2 => by
    rcases snoc_cases ha with ⟨hi, ha⟩ | ⟨hi, ha⟩
    · rcases snoc_cases hb with ⟨hj, hb⟩ | ⟨hj, hb⟩
      · rw [get_before (R.lift ha)] at h1
        rw [get_before (R.lift hb)] at h2
        exact R.sep i j a b w ne ha hb ma mb h1 h2
      · cases hb; simp [M.mut] at mb
    · cases ha; simp [M.mut] at ma
  fre := R.fre.pushed R.len (fun d' e => by cases e) (Same.refl _) (fun a o e _ f0 _ _ => ⟨e, f0⟩) fun t a e m => by cases e; cases m
theorem SR.recast (R : SR n G IO H0 Hf σ env H) {Hf' H' : Hp} {i : Nat} {s s' : Slot} (hs : env[i]? = some (some s)) (na : ∀ k, s.m ≠ .al k) (na' : ∀ k, s'.m ≠ .al k) (hm : s'.m.mut = true → s.m.mut = true)
    (sub : Same Hf' H') (keep : ∀ b o, H0 b = some o → ¬ IO.io b → H' b = some o) (grow : Gr G IO H0 H') (nf : ∀ b o, Hf' b = some o → H0 b = none ∨ IO.f0 b = some o ∨ Fxd o) (sf : Same Hf Hf')
    (new : ∀ v, σ[i]? = some (some v) → match s'.m with
      | .sh => Rep G Hf' v s'.d
      | .ow => ∃ p o, v = .ref p ∧ Hf' p = none ∧ H0 p = none ∧ H' p = some o ∧ TopO G Hf' o s'.d
      | .io => ∃ p o, v = .ref p ∧ Hf' p = none ∧ IO.io p ∧ H' p = some o ∧ TopO G Hf' o s'.d
      | .al _ => False
      | .fr => False)
    (old : ∀ (j : Nat) (a : Slot) (p : Addr) (o : HO), j ≠ i → env[j]? = some (some a) → a.m.mut = true → σ[j]? = some (some (V.ref p)) → Hf p = none → H p = some o → Hf' p = none ∧ H' p = some o)
    (trees : ∀ a o, H a = some o → Mut (some o) → Hf a = none → H0 a = none → (∀ (j : Nat) (s : Slot), env[j]? = some (some s) → s.m.mut = true → σ[j]? = some (some (V.ref a)) → False) → H' a = some o ∧ Hf' a = none) (hv0 : s.m = .fr → False) :
    SR n G IO H0 Hf' σ (env.set i (some s')) H' := by
  have hi : i < env.length := lt_of_get hs
  have hv : ∃ v, σ[i]? = some (some v) := by
    obtain ⟨m, d⟩ := s
    cases m with
    | sh => obtain ⟨v, e, _⟩ := R.shr i d hs; exact ⟨v, e⟩
    | ow => obtain ⟨v, _, e, _⟩ := R.own i d hs; exact ⟨_, e⟩
    | io => obtain ⟨v, _, e, _⟩ := R.inout i d hs; exact ⟨_, e⟩
    | al k => exact absurd rfl (na k)
    | fr => exact (hv0 rfl).elim
  obtain ⟨v, hv⟩ := hv
  have nw := new v hv
  have gs : ∀ {j : Nat} {a : Slot}, (env.set i (some s'))[j]? = some (some a) → (j = i ∧ a = s') ∨ (j ≠ i ∧ env[j]? = some (some a)) := fun {j a} h => by
    by_cases hj : j = i
    · subst hj
      rw [List.getElem?_set_self hi] at h
      exact .inl ⟨rfl, (Option.some.inj (Option.some.inj h)).symm⟩
    · rw [List.getElem?_set_ne (Ne.symm hj)] at h
      exact .inr ⟨hj, h⟩
  refine ⟨sub, keep, grow, nf, by simp [R.len], fun j d h => ?_, fun j d h => ?_, fun j d h => ?_, fun j k d h => ?_, fun j k a b w ne ha hb ma mb h1 h2 => ?_, R.fre.to id (fun _ _ _ _ _ _ e => e) (fun j d h => ?_) sf fun a o e m f0 h0 ns => ⟨(trees a o e m f0 h0 ns).1, (trees a o e m f0 h0 ns).2, h0, fun j t hs' hm' hv' => ?_⟩⟩
  · rcases gs h with ⟨e, e2⟩ | ⟨ne, h⟩
    · subst e; subst e2; exact ⟨v, hv, nw⟩
    · obtain ⟨w, e, r⟩ := R.shr j d h; exact ⟨w, e, r.mono sf⟩
  · rcases gs h with ⟨e, e2⟩ | ⟨ne, h⟩
    · subst e; subst e2
      obtain ⟨p, o, e, z⟩ := nw
      subst e; exact ⟨p, o, hv, z⟩
    · obtain ⟨p, o, e, a, b, c, t⟩ := R.own j d h
      obtain ⟨x, y⟩ := old j _ p o ne h rfl e a c
      exact ⟨p, o, e, x, b, y, t.mono sf⟩
  · rcases gs h with ⟨e, e2⟩ | ⟨ne, h⟩
    · subst e; subst e2
      obtain ⟨p, o, e, z⟩ := nw
      subst e; exact ⟨p, o, hv, z⟩
    · obtain ⟨p, o, e, a, b, c, t⟩ := R.inout j d h
      obtain ⟨x, y⟩ := old j _ p o ne h rfl e a c
      exact ⟨p, o, e, x, b, y, t.mono sf⟩
  · rcases gs h with ⟨e, e2⟩ | ⟨ne, h⟩
    · subst e2; exact absurd rfl (na' k)
    · obtain ⟨jn, w, e1, e2, a, e3, e4⟩ := R.ali j k d h
      by_cases hk : k = i
      · subst hk
        exact ⟨jn, w, e1, e2, s', by rw [List.getElem?_set_self hi], na'⟩
      · exact ⟨jn, w, e1, e2, a, by rw [List.getElem?_set_ne (Ne.symm hk)]; exact e3, e4⟩
  · have z : ∀ {j : Nat} {a : Slot}, (env.set i (some s'))[j]? = some (some a) → a.m.mut = true → ∃ a', env[j]? = some (some a') ∧ a'.m.mut = true := fun {j a} h m => by
      rcases gs h with ⟨e, e2⟩ | ⟨_, h⟩
      · subst e; subst e2; exact ⟨s, hs, hm m⟩
      · exact ⟨a, h, m⟩
    obtain ⟨a', ha', ma'⟩ := z ha ma
    obtain ⟨b', hb', mb'⟩ := z hb mb
    exact R.sep j k a' b' w ne ha' hb' ma' mb' h1 h2
  · rcases gs h with ⟨e, e2⟩ | ⟨ne, h⟩
    · subst e2; exact nw.elim
    · exact ⟨h, fun v e => e⟩
  · rcases gs hs' with ⟨e, e2⟩ | ⟨ne, h⟩
    · subst e; subst e2; exact ns j s hs (hm hm') hv'
    · exact ns j t h hm' hv'
theorem SR.freeze (R : SR n G IO H0 Hf σ env H) {i : Nat} {d : D} (hs : env[i]? = some (ow d)) : ∃ Hf', Same Hf Hf' ∧ SR n G IO H0 Hf' σ (env.set i (sh d)) H := by
  obtain ⟨p, o, e, a, b, c, t⟩ := R.own i d hs
  have s : Same Hf (upd Hf p o) := same_upd a
  refine ⟨upd Hf p o, s, R.recast (s := ⟨.ow, d⟩) (s' := ⟨.sh, d⟩) hs (fun k => by simp) (fun k => by simp) (fun z => by simp [M.mut] at z) (fun q x h => ?_) R.keep R.grow (fun q x h => ?_) s (fun v hv => ?_) (fun j x q y ne hj hm hq hf hy => ⟨?_, hy⟩) (fun a' o' e' _ f0 _ ns => ⟨e', by rw [upd_ne (fun z => by subst z; exact ns i ⟨.ow, d⟩ hs rfl e)]; exact f0⟩) (fun z => by cases z)⟩
  · by_cases hq : q = p
    · subst hq; rw [upd_same] at h; rw [c]; exact h
    · rw [upd_ne hq] at h; exact R.sub q x h
  · by_cases hq : q = p
    · subst hq; exact .inl b
    · rw [upd_ne hq] at h; exact R.nf q x h
  · rw [e] at hv; cases hv
    exact (t.mono s).rep upd_same
  · have hqp : q ≠ p := fun z => by
      subst z
      exact R.sep j i x ⟨.ow, d⟩ (V.ref q) ne hj hs hm rfl hq e
    rw [upd_ne hqp]; exact hf
theorem SR.change (R : SR n G IO H0 Hf σ env H) {i : Nat} {s : Slot} {d' : D} {p : Addr} {o' : HO} (hs : env[i]? = some (some s)) (hm : s.m.mut = true) (hp : σ[i]? = some (some (V.ref p))) (t' : TopO G Hf o' d') :
    SR n G IO H0 Hf σ (env.set i (some ⟨s.m, d'⟩)) (upd H p o') := by
  obtain ⟨m, d⟩ := s
  have na : ∀ k, m ≠ .al k := fun k e => by subst e; cases hm
  have nfr : m ≠ .fr := fun e => by subst e; cases hm
  have hfp : Hf p = none ∧ (m = .ow → H0 p = none) ∧ (m = .io → IO.io p) ∧ ∃ o, H p = some o ∧ Mut (some o) := by
    cases m with
    | sh => cases hm
    | al j => cases hm
    | fr => cases hm
    | ow =>
      obtain ⟨q, o, e, a, b, c, t⟩ := R.own i d hs
      rw [hp] at e; cases e
      exact ⟨a, fun _ => b, (fun z => nomatch z), o, c, t.mut⟩
    | io =>
      obtain ⟨q, o, e, a, b, c, t⟩ := R.inout i d hs
      rw [hp] at e; cases e
      exact ⟨a, (fun z => nomatch z), fun _ => b, o, c, t.mut⟩
  obtain ⟨hf, h1, h2, o, ho, mo⟩ := hfp
  refine R.recast (s := ⟨m, d⟩) (s' := ⟨m, d'⟩) hs na na (fun z => z) (fun q x h => ?_) (fun q x h n => ?_) (R.grow.to (fun q h => ?_) (tabs_ch R.grow.tab ho mo)) R.nf (Same.refl _) (fun v hv => ?_) (fun j x q y ne hj hmx hq hfq hy => ⟨hfq, ?_⟩) (fun a o2 e' _ f0 _ ns => ⟨by rw [upd_ne (fun z => by subst z; exact ns i ⟨m, d⟩ hs hm hp)]; exact e', f0⟩) nfr
  · by_cases hq : q = p
    · subst hq; rw [hf] at h; cases h
    · rw [upd_ne hq]; exact R.sub q x h
  · by_cases hq : q = p
    · subst hq
      cases m with
      | sh => cases hm
      | al j => cases hm
      | fr => cases hm
      | ow => rw [h1 rfl] at h; cases h
      | io => exact absurd (h2 rfl) n
    · rw [upd_ne hq]; exact R.keep q x h n
  · by_cases hq : q = p
    · subst hq; rw [upd_same] at h; cases h
    · rw [upd_ne hq] at h; exact h
  · rw [hp] at hv; cases hv
    cases m with
    | sh => cases hm
    | al j => cases hm
    | fr => cases hm
    | ow => exact ⟨p, o', rfl, hf, h1 rfl, upd_same, t'⟩
    | io => exact ⟨p, o', rfl, hf, h2 rfl, upd_same, t'⟩
  · have hqp : q ≠ p := fun z => by
      subst z
      exact R.sep j i x ⟨m, d⟩ (V.ref q) ne hj hs hmx hm hq hp
    rw [upd_ne hqp]; exact hy
theorem FrW.drop {Ls : Nat → List Addr} {Hf' : Hp} (w : FrW G H0 Hf σ env H Ls) {i : Nat} {y : Option Slot} (hy : ∀ d, y ≠ fr d) (hm : ∀ t : Slot, y = some t → t.m.mut = false) (sf : Same Hf Hf') (kp : ∀ j a, j ≠ i → a ∈ Ls j → Hf' a = none) : FrW G H0 Hf' σ (env.set i y) H (fun j => if j = i then [] else Ls j) := by
  have in_ : ∀ j a, a ∈ (if j = i then [] else Ls j) → j ≠ i ∧ a ∈ Ls j := fun j a ha => by
    by_cases hj : j = i
    · rw [if_pos hj] at ha; cases ha
    · rw [if_neg hj] at ha; exact ⟨hj, ha⟩
  have gs : ∀ {j : Nat} {d : D}, (env.set i y)[j]? = some (fr d) → j ≠ i ∧ env[j]? = some (fr d) := fun {j d} h => by
    by_cases hj : j = i
    · subst hj
      rw [List.getElem?_set_self (by have := lt_of_get h; simpa using this)] at h
      exact absurd (Option.some.inj h) (hy d)
    · rw [List.getElem?_set_ne (Ne.symm hj)] at h
      exact ⟨hj, h⟩
  refine ⟨fun j d h => ?_, fun j => ?_, fun j a ha => ?_, fun j k a ha hb => ?_, fun j k s a ha hs hmu hv => ?_, fun j a ha => ?_⟩
  · obtain ⟨hj, h⟩ := gs h
    obtain ⟨v, e, o⟩ := w.own j d h
    rw [if_neg hj]
    exact ⟨v, e, o.mono sf fun _ _ _ e => e⟩
  · by_cases hj : j = i
    · simp only [if_pos hj]; exact List.nodup_nil
    · simp only [if_neg hj]; exact w.nd j
  · obtain ⟨hj, ha⟩ := in_ j a ha
    exact ⟨kp j a hj ha, (w.out j a ha).2⟩
  · exact w.dis j k a (in_ j a ha).2 (in_ k a hb).2
  · obtain ⟨_, ha⟩ := in_ j a ha
    by_cases hk : k = i
    · subst hk
      rw [List.getElem?_set_self (by have := lt_of_get hs; simpa using this)] at hs
      rw [hm s (Option.some.inj hs)] at hmu
      cases hmu
    · rw [List.getElem?_set_ne (Ne.symm hk)] at hs
      exact w.sep j k s a ha hs hmu hv
  · obtain ⟨hj, ha⟩ := in_ j a ha
    obtain ⟨d, hd⟩ := w.cov j a ha
    exact ⟨d, by rw [List.getElem?_set_ne (Ne.symm hj)]; exact hd⟩
theorem SR.freezeFr (R : SR n G IO H0 Hf σ env H) {i : Nat} {d : D} (hs : env[i]? = some (fr d)) : ∃ Hf', Same Hf Hf' ∧ SR n G IO H0 Hf' σ (env.set i (sh d)) H := by
  classical
  obtain ⟨Ls, w⟩ := id R.fre
  obtain ⟨v, hv, o⟩ := w.own i d hs
  have hi := lt_of_get hs
  have e1 : ∀ a, a ∈ Ls i → (if a ∈ Ls i then H a else Hf a) = H a := fun a ha => if_pos ha
  have e2 : ∀ a, a ∉ Ls i → (if a ∈ Ls i then H a else Hf a) = Hf a := fun a ha => if_neg ha
  have s : Same Hf (fun a => if a ∈ Ls i then H a else Hf a) := fun b x e => by
    have hb : b ∉ Ls i := fun hb => by rw [(w.out i b hb).1] at e; cases e
    show (if b ∈ Ls i then H b else Hf b) = _
    rw [e2 b hb]; exact e
  have gs : ∀ {j : Nat} {a : Slot}, (env.set i (sh d))[j]? = some (some a) → (j = i ∧ a = ⟨.sh, d⟩) ∨ (j ≠ i ∧ env[j]? = some (some a)) := fun {j a} h => by
    by_cases hj : j = i
    · subst hj
      rw [List.getElem?_set_self hi] at h
      exact .inl ⟨rfl, (Option.some.inj (Option.some.inj h)).symm⟩
    · rw [List.getElem?_set_ne (Ne.symm hj)] at h
      exact .inr ⟨hj, h⟩
  refine ⟨_, s, fun b x e => ?_, R.keep, R.grow, fun b x e => ?_, by simp [R.len], fun j d' h => ?_, fun j d' h => ?_, fun j d' h => ?_, fun j k d' h => ?_, fun j k a b w' ne ha hb ma mb h1 h2 => ?_,
    ⟨_, w.drop (y := sh d) (fun d' e => by cases e) (fun t e => by cases e; rfl) s fun j a hj ha => ?_⟩⟩
  · by_cases hb : b ∈ Ls i
    · rw [e1 b hb] at e; exact e
    · rw [e2 b hb] at e; exact R.sub b x e
  · by_cases hb : b ∈ Ls i
    · exact .inl (w.out i b hb).2
    · rw [e2 b hb] at e; exact R.nf b x e
  · rcases gs h with ⟨e, e3⟩ | ⟨ne, h⟩
    · subst e; cases e3
      exact ⟨v, hv, o.rep s fun a ha x hx => by rw [e1 a ha]; exact hx⟩
    · obtain ⟨u, e, r⟩ := R.shr j d' h
      exact ⟨u, e, r.mono s⟩
  · rcases gs h with ⟨e, e3⟩ | ⟨ne, h⟩
    · cases e3
    · obtain ⟨p, x, e, a, b, c, t⟩ := R.own j d' h
      exact ⟨p, x, e, by rw [e2 p fun hp => w.sep i j _ p hp h rfl e]; exact a, b, c, t.mono s⟩
  · rcases gs h with ⟨e, e3⟩ | ⟨ne, h⟩
    · cases e3
    · obtain ⟨p, x, e, a, b, c, t⟩ := R.inout j d' h
      exact ⟨p, x, e, by rw [e2 p fun hp => w.sep i j _ p hp h rfl e]; exact a, b, c, t.mono s⟩
  · rcases gs h with ⟨e, e3⟩ | ⟨ne, h⟩
    · cases e3
    · obtain ⟨jn, u, e4, e5, a, e6, e7⟩ := R.ali j k d' h
      by_cases hk : k = i
      · subst hk
        exact ⟨jn, u, e4, e5, ⟨.sh, d⟩, by rw [List.getElem?_set_self hi], fun z => by simp⟩
      · exact ⟨jn, u, e4, e5, a, by rw [List.getElem?_set_ne (Ne.symm hk)]; exact e6, e7⟩
  · rcases gs ha with ⟨e, e3⟩ | ⟨_, ha⟩
    · subst e3; cases ma
    · rcases gs hb with ⟨e, e3⟩ | ⟨_, hb⟩
      · subst e3; cases mb
      · exact R.sep j k a b w' ne ha hb ma mb h1 h2
  · rw [e2 a fun hb => hj (w.dis j i a ha hb)]
    exact (w.out j a ha).1
end

end VM

/-! VMB: the evaluator of expressions, and what its answers grant -/
namespace VM
open PySem PySem.Spec PyProof.Rows L2

inductive Ans where
  | ok (s : Slot) (e : Env) | ex (c : Str) (d : D) (e : Env) | no
inductive TAns where
  | ok (b : Bool) (e : Env) | ex (c : Str) (d : D) (e : Env) | no
inductive LAns where
  | ok (ss : List Slot) (e : Env) | ex (c : Str) (d : D) (e : Env) | no
inductive RR where
  | sh (d : D) | ow (d : D) | tp (ds : List D) | no
noncomputable abbrev Sm := Env → Ans
noncomputable abbrev Tm := Env → TAns
noncomputable abbrev Lm := Env → LAns

noncomputable def deref (e : Env) (s : Slot) : Option D := match s.m with
  | .al j => match e[j]? with
    | some (some t) => match t.m with
      | .fr => none
      | _ => some t.d
    | _ => none
  | .fr => none
  | _ => some s.d
theorem deref_al {e : Env} {j : Nat} {x d : D} {t : Slot} (h : deref e ⟨.al j, x⟩ = some d) (e3 : e[j]? = some (some t)) : t.d = d ∧ t.m ≠ .fr := by
  unfold deref at h
  simp only [e3] at h
  cases em : t.m <;> rw [em] at h <;> first | (cases h; done) | exact ⟨Option.some.inj h, by simp⟩
noncomputable def PRep (G : Gi) (Hf H : Hp) (v : V) (d : D) : Prop := Rep G Hf v d ∨ ∃ p o, v = .ref p ∧ H p = some o ∧ TopO G Hf o d
noncomputable def RRok (G : Gi) (Hf H : Hp) (T : VK → Prop) : RR → Prop
  | .sh d => ∀ Q : VK, (∀ v, Rep G Hf v d → Q v H) → T Q
  | .ow d => ∀ Q : VK, (∀ p o, H p = none → TopO G Hf o d → Q (.ref p) (upd H p o)) → T Q
  | .tp ds => ∀ Q : VK, (∀ p vs, H p = none → Reps G Hf vs ds → Q (.ref p) (upd H p (.tup vs))) → T Q
  | .no => True
noncomputable def RR.ans (e : Env) : RR → Ans
  | .sh d => .ok ⟨.sh, d⟩ e
  | .ow d => .ok ⟨.ow, d⟩ e
  | .tp ds => .ok ⟨.sh, .tup ds⟩ e
  | .no => .no

noncomputable def XR (exc : Str → Option (Addr × Str)) (G : Gi) (H0 Hf H : Hp) (cv : Value) (dx : Option Addr) (c : Str) (d : D) : Prop :=
  ∃ C f dd v, exc c = some (C, f) ∧ cv = .ref C ∧ dx = some dd ∧ (H dd = some (.xd [(f, v)]) ∧ H0 dd = none) ∧ Rep G Hf v d

structure Pl where
  M : Cx → Prop
  G : Gi
  W : WX
  exc : Str → Option (Addr × Str)

section
variable (P : Pl)
structure St0 (n : Nat) (IO : En) (H0 Hf : Hp) (σ tv : L2.St) (env te : Env) (H : Hp) : Prop where
  le : env.length = n
  ls : σ.length = n
  na : ∀ (i : Nat) (s : Slot), env[i]? = some (some s) → ∀ k, s.m ≠ .al k
  sr : SR n P.G IO H0 Hf (σ ++ tv) (env ++ te) H
noncomputable def Ev (t : TE) (m : Sm) : Prop := ∀ n IO H0 Hf σ tv env te H, St0 P n IO H0 Hf σ tv env te H → match m env with
  | .ok s env' => ∀ Q : VK, (∀ v Hf' H', Same Hf Hf' → St0 P n IO H0 Hf' σ (tv ++ [some v]) env' (te ++ [some s]) H' → Q v H') → t σ H Q
  | .ex c d env' => (∀ cv dx Hf' H', Same Hf Hf' → St0 P n IO H0 Hf' σ tv env' te H' → XR P.exc P.G H0 Hf' H' cv dx c d → P.W cv dx σ H') → ∀ Q, t σ H Q
  | .no => True
noncomputable def EvT (t : TT) (m : Tm) : Prop := ∀ n IO H0 Hf σ tv env te H, St0 P n IO H0 Hf σ tv env te H → match m env with
  | .ok b env' => ∀ Q : Bool → Hp → Prop, (∀ Hf' H', Same Hf Hf' → St0 P n IO H0 Hf' σ tv env' te H' → Q b H') → t σ H Q
  | .ex c d env' => (∀ cv dx Hf' H', Same Hf Hf' → St0 P n IO H0 Hf' σ tv env' te H' → XR P.exc P.G H0 Hf' H' cv dx c d → P.W cv dx σ H') → ∀ Q, t σ H Q
  | .no => True
noncomputable def EvL (t : TA) (m : Lm) : Prop := ∀ n IO H0 Hf σ tv env te H, St0 P n IO H0 Hf σ tv env te H → match m env with
  | .ok ss env' => ∀ Q : List V → Hp → Prop, (∀ vs Hf' H', Same Hf Hf' → vs.length = ss.length → St0 P n IO H0 Hf' σ (tv ++ vs.map some) env' (te ++ ss.map some) H' → Q vs H') → t σ H Q
  | .ex c d env' => (∀ cv dx Hf' H', Same Hf Hf' → St0 P n IO H0 Hf' σ tv env' te H' → XR P.exc P.G H0 Hf' H' cv dx c d → P.W cv dx σ H') → ∀ Q, t σ H Q
  | .no => True
noncomputable def SE (e : Expr) (m : Sm) : Prop := ∃ t, (∀ X, P.M X → PE X e t) ∧ Ev P t m
noncomputable def ST (e : Expr) (m : Tm) : Prop := ∃ t, (∀ X, P.M X → PT X e t) ∧ EvT P t m
noncomputable def SW (e : Expr) (m : Tm) : Prop := ∃ t, (∀ X, P.M X → PW X e t) ∧ EvT P t m
noncomputable def tAll : List TE → TA
  | [] => tNil
  | t :: ts => tCons t (tAll ts)
inductive PEs (X : Cx) : List Expr → List TE → Prop
  | nil : PEs X [] []
  | cons {e es t ts} : PE X e t → PEs X es ts → PEs X (e :: es) (t :: ts)
noncomputable def SL (es : List Expr) (m : Lm) : Prop := ∃ ts, (∀ X, P.M X → PEs X es ts) ∧ EvL P (tAll ts) m
end

section
variable {P : Pl} {n : Nat} {IO : En} {H0 Hf H : Hp} {σ tv : L2.St} {env te : Env}
theorem St0.l2 (S : St0 P n IO H0 Hf σ tv env te H) : tv.length = te.length := by
  have h := S.sr.len
  rw [List.length_append, List.length_append, S.le, S.ls] at h
  omega
theorem St0.push_sh (S : St0 P n IO H0 Hf σ tv env te H) {v : V} {d : D} (r : Rep P.G Hf v d) : St0 P n IO H0 Hf σ (tv ++ [some v]) env (te ++ [sh d]) H :=
  ⟨S.le, S.ls, S.na, by rw [← List.append_assoc, ← List.append_assoc]; exact S.sr.push_sh r⟩
theorem St0.push_ow (S : St0 P n IO H0 Hf σ tv env te H) {p : Addr} {o : HO} {d : D} (hp : H p = none) (t : TopO P.G Hf o d) : St0 P n IO H0 Hf σ (tv ++ [some (V.ref p)]) env (te ++ [ow d]) (upd H p o) :=
  ⟨S.le, S.ls, S.na, by rw [← List.append_assoc, ← List.append_assoc]; exact S.sr.push_ow hp t⟩
theorem St0.push_tup (S : St0 P n IO H0 Hf σ tv env te H) {p : Addr} {vs : List V} {ds : List D} (hp : H p = none) (r : Reps P.G Hf vs ds) : Same Hf (upd Hf p (.tup vs)) ∧ St0 P n IO H0 (upd Hf p (.tup vs)) σ (tv ++ [some (V.ref p)]) env (te ++ [sh (.tup ds)]) (upd H p (.tup vs)) :=
  ⟨same_upd (S.sr.fresh hp).1, S.le, S.ls, S.na, by rw [← List.append_assoc, ← List.append_assoc]; exact S.sr.push_tup hp r⟩
theorem St0.pop {x : Option V} {y : Option Slot} (S : St0 P n IO H0 Hf σ (tv ++ [x]) env (te ++ [y]) H) : St0 P n IO H0 Hf σ tv env te H :=
  ⟨S.le, S.ls, S.na, by
    have h := S.sr
    rw [← List.append_assoc, ← List.append_assoc] at h
    exact h.pop (by rw [List.length_append, S.le]; omega)⟩
theorem St0.pops : ∀ (k : Nat) {xs : L2.St} {ys : Env}, xs.length = k → ys.length = k → St0 P n IO H0 Hf σ (tv ++ xs) env (te ++ ys) H → St0 P n IO H0 Hf σ tv env te H
  | 0, xs, ys, h1, h2, S => by
    have e1 : xs = [] := List.eq_nil_of_length_eq_zero h1
    have e2 : ys = [] := List.eq_nil_of_length_eq_zero h2
    subst e1; subst e2
    simpa using S
  | k + 1, xs, ys, h1, h2, S => by
    have n1 : xs ≠ [] := fun e => by subst e; simp at h1
    have n2 : ys ≠ [] := fun e => by subst e; simp at h2
    rw [← List.dropLast_concat_getLast n1, ← List.dropLast_concat_getLast n2, ← List.append_assoc, ← List.append_assoc] at S
    exact St0.pops k (by simp [h1]) (by simp [h2]) S.pop
theorem St0.prep (S : St0 P n IO H0 Hf σ tv env te H) {i : Nat} {v : V} {s : Slot} {d : D} (h1 : tv[i]? = some (some v)) (h2 : te[i]? = some (some s)) (hd : deref env s = some d) : PRep P.G Hf H v d := by
  have g1 : (σ ++ tv)[n + i]? = some (some v) := by
    rw [List.getElem?_append_right (by rw [S.ls]; omega), S.ls, Nat.add_sub_cancel_left]; exact h1
  have g2 : (env ++ te)[n + i]? = some (some s) := by
    rw [List.getElem?_append_right (by rw [S.le]; omega), S.le, Nat.add_sub_cancel_left]; exact h2
  have at' : ∀ (k : Nat) (a : Slot), (env ++ te)[k]? = some (some a) → (σ ++ tv)[k]? = some (some v) → (∀ j, a.m ≠ .al j) → a.m ≠ .fr → PRep P.G Hf H v a.d := fun k a ha hv na nf => by
    obtain ⟨m, e⟩ := a
    cases m with
    | sh =>
      obtain ⟨w, e1, r⟩ := S.sr.shr k e ha
      rw [hv] at e1; cases e1
      exact .inl r
    | ow =>
      obtain ⟨p, o, e1, _, _, c, t⟩ := S.sr.own k e ha
      rw [hv] at e1; cases e1
      exact .inr ⟨p, o, rfl, c, t⟩
    | io =>
      obtain ⟨p, o, e1, _, _, c, t⟩ := S.sr.inout k e ha
      rw [hv] at e1; cases e1
      exact .inr ⟨p, o, rfl, c, t⟩
    | al j => exact absurd rfl (na j)
    | fr => exact absurd rfl nf
  obtain ⟨m, e⟩ := s
  cases m with
  | al j =>
    obtain ⟨jn, w, e1, e2, a, e3, e4⟩ := S.sr.ali (n + i) j e g2
    rw [g1] at e1; cases e1
    have e3' : env[j]? = some (some a) := by rwa [List.getElem?_append_left (by rw [S.le]; exact jn)] at e3
    have : d = a.d ∧ a.m ≠ .fr := by
      unfold deref at hd
      simp only [e3'] at hd
      cases em : a.m <;> rw [em] at hd <;> first | (cases hd; done) | exact ⟨(Option.some.inj hd).symm, by simp⟩
    obtain ⟨rfl, nf⟩ := this
    exact at' j a e3 e2 e4 nf
  | sh => unfold deref at hd; cases hd; exact at' _ _ g2 g1 (fun j => by simp) (by simp)
  | ow => unfold deref at hd; cases hd; exact at' _ _ g2 g1 (fun j => by simp) (by simp)
  | io => unfold deref at hd; cases hd; exact at' _ _ g2 g1 (fun j => by simp) (by simp)
  | fr => unfold deref at hd; cases hd
theorem St0.rr (S : St0 P n IO H0 Hf σ tv env te H) {T : VK → Prop} {r : RR} (h : RRok P.G Hf H T r) : match r.ans env with
    | .ok s env' => ∀ Q : VK, (∀ v Hf' H', Same Hf Hf' → St0 P n IO H0 Hf' σ (tv ++ [some v]) env' (te ++ [some s]) H' → Q v H') → T Q
    | .ex _ _ _ => False
    | .no => True := by
  cases r with
  | sh d => exact fun Q q => h Q fun v r => q v Hf H (Same.refl _) (S.push_sh r)
  | ow d => exact fun Q q => h Q fun p o hp t => q _ Hf _ (Same.refl _) (S.push_ow hp t)
  | tp ds => exact fun Q q => h Q fun p vs hp r => let ⟨s, S'⟩ := S.push_tup hp r; q _ _ _ s S'
  | no => trivial

/-! ### constants and names -/
noncomputable def mC (d : D) : Sm := fun e => .ok ⟨.sh, d⟩ e
theorem se_c {e : Expr} {v : V} {d : D} (h : ∀ X, P.M X → PE X e (tC v)) (r : ∀ H, Rep P.G H v d) : SE P e (mC d) :=
  ⟨_, h, fun n IO H0 Hf σ tv env te H S Q q => q v Hf H (Same.refl _) (S.push_sh (r Hf))⟩
noncomputable def mV (i : Nat) : Sm := fun e => match e[i]? with
  | some (some ⟨.sh, d⟩) => .ok ⟨.sh, d⟩ e
  | some (some ⟨.ow, _⟩) => .ok ⟨.al i, .non⟩ e
  | some (some ⟨.io, _⟩) => .ok ⟨.al i, .non⟩ e
  | _ => .no
theorem ev_v {i : Nat} : Ev P (tVar i) (mV i) := by
  intro n IO H0 Hf σ tv env te H S
  have base : ∀ {s : Option Slot}, env[i]? = some s → i < n ∧ (env ++ te)[i]? = some s ∧ (σ ++ tv)[i]? = σ[i]? := fun {s} hs => by
    have hi : i < env.length := lt_of_get hs
    refine ⟨by rw [← S.le]; exact hi, by rw [List.getElem?_append_left hi]; exact hs, List.getElem?_append_left (by rw [S.ls, ← S.le]; exact hi)⟩
  have al : ∀ (a : Slot), env[i]? = some (some a) → (∀ k, a.m ≠ .al k) → (∃ v, (σ ++ tv)[i]? = some (some v)) → ∀ Q : VK, (∀ v Hf' H', Same Hf Hf' → St0 P n IO H0 Hf' σ (tv ++ [some v]) env (te ++ [some ⟨.al i, .non⟩]) H' → Q v H') → tVar i σ H Q := fun a ha na hv Q q => by
    obtain ⟨b1, b2, b3⟩ := base ha
    obtain ⟨v, hv⟩ := hv
    refine ⟨v, by rw [← b3]; exact hv, q v Hf H (Same.refl _) ⟨S.le, S.ls, S.na, ?_⟩⟩
    rw [← List.append_assoc, ← List.append_assoc]
    exact S.sr.push_al b1 hv b2 na
  unfold mV
  cases hs : env[i]? with
  | none => trivial
  | some o =>
    cases o with
    | none => trivial
    | some s =>
      obtain ⟨b1, b2, b3⟩ := base hs
      obtain ⟨m, d⟩ := s
      cases m with
      | sh =>
        intro Q q
        obtain ⟨v, e1, r⟩ := S.sr.shr i d b2
        exact ⟨v, by rw [← b3]; exact e1, q v Hf H (Same.refl _) (S.push_sh r)⟩
      | ow =>
        obtain ⟨p, o, e1, _⟩ := S.sr.own i d b2
        exact al _ hs (fun k => by simp) ⟨_, e1⟩
      | io =>
        obtain ⟨p, o, e1, _⟩ := S.sr.inout i d b2
        exact al _ hs (fun k => by simp) ⟨_, e1⟩
      | al j => trivial
      | fr => trivial
theorem se_v {e : Expr} {i : Nat} (h : ∀ X, P.M X → PE X e (tVar i)) : SE P e (mV i) := ⟨_, h, ev_v⟩

/-! ### lists of values -/
noncomputable def lNil : Lm := fun e => .ok [] e
noncomputable def lCons (a : Sm) (r : Lm) : Lm := fun e => match a e with
  | .ok s e1 => match r e1 with
    | .ok ss e2 => .ok (s :: ss) e2
    | .ex c d e2 => .ex c d e2
    | .no => .no
  | .ex c d e1 => .ex c d e1
  | .no => .no
theorem sl_nil : SL P [] lNil := ⟨[], fun _ _ => .nil, fun n IO H0 Hf σ tv env te H S Q q => q [] Hf H (Same.refl _) rfl (by simpa using S)⟩
theorem evl_nil : EvL P tNil lNil := fun n IO H0 Hf σ tv env te H S Q q => q [] Hf H (Same.refl _) rfl (by simpa using S)
theorem evl_cons {ta : TE} {tr : TA} {a : Sm} {r : Lm} (fa : Ev P ta a) (fr : EvL P tr r) : EvL P (tCons ta tr) (lCons a r) := by
  intro n IO H0 Hf σ tv env te H S
  have h1 := fa n IO H0 Hf σ tv env te H S
  unfold lCons
  cases ea : a env with
  | no => trivial
  | ex c d e1 => rw [ea] at h1; exact fun w Q => h1 w _
  | ok s e1 =>
    rw [ea] at h1
    show match (match r e1 with | .ok ss e2 => LAns.ok (s :: ss) e2 | .ex c d e2 => .ex c d e2 | .no => .no) with | .ok ss env' => _ | .ex c d env' => _ | .no => _
    cases er : r e1 with
    | no => trivial
    | ex c d e2 =>
      refine fun w Q => h1 _ fun v Hf1 H1 s1 S1 => ?_
      have h2 := fr n IO H0 Hf1 σ _ e1 _ H1 S1
      rw [er] at h2
      exact h2 (fun cv dx Hf2 H2 s2 S2 x => w cv dx Hf2 H2 (s1.trans s2) S2.pop x) _
    | ok ss e2 =>
      refine fun Q q => h1 _ fun v Hf1 H1 s1 S1 => ?_
      have h2 := fr n IO H0 Hf1 σ _ e1 _ H1 S1
      rw [er] at h2
      refine h2 _ fun vs Hf2 H2 s2 l2 S2 => q (v :: vs) Hf2 H2 (s1.trans s2) (by simp [l2]) ?_
      simpa using S2

theorem sl_cons {e : Expr} {es : List Expr} {a : Sm} {r : Lm} (ha : SE P e a) (hr : SL P es r) : SL P (e :: es) (lCons a r) := by
  obtain ⟨ta, pa, fa⟩ := ha
  obtain ⟨tr, pr, fr⟩ := hr
  exact ⟨_, fun X hX => .cons (pa X hX) (pr X hX), evl_cons fa fr⟩

/-! ### rules on values -/
noncomputable def derefs (e : Env) : List Slot → Option (List D)
  | [] => some []
  | s :: r => match deref e s, derefs e r with
    | some d, some ds => some (d :: ds)
    | _, _ => none
inductive PReps (G : Gi) (Hf H : Hp) : List V → List D → Prop
  | nil : PReps G Hf H [] []
  | cons {v d vs ds} : PRep G Hf H v d → PReps G Hf H vs ds → PReps G Hf H (v :: vs) (d :: ds)
theorem St0.preps (S : St0 P n IO H0 Hf σ tv env te H) : ∀ {vs : List V} {ss : List Slot} {k : Nat} {ds : List D}, (∀ i v, vs[i]? = some v → tv[k + i]? = some (some v)) → (∀ i s, ss[i]? = some s → te[k + i]? = some (some s)) → vs.length = ss.length → derefs env ss = some ds → PReps P.G Hf H vs ds
  | [], [], k, ds, _, _, _, h => by
    cases h; exact .nil
  | [], s :: ss, _, _, _, _, h, _ => by simp at h
  | v :: vs, [], _, _, _, _, h, _ => by simp at h
  | v :: vs, s :: ss, k, ds, h1, h2, hl, h => by
    unfold derefs at h
    cases e1 : deref env s with
    | none => rw [e1] at h; cases h
    | some d =>
      cases e2 : derefs env ss with
      | none => rw [e1, e2] at h; cases h
      | some r =>
        rw [e1, e2] at h; cases h
        refine .cons (S.prep (i := k) (h1 0 v rfl) (h2 0 s rfl) e1) (S.preps (k := k + 1) (fun i w hw => ?_) (fun i w hw => ?_) (by simpa using hl) e2)
        · have := h1 (i + 1) w (by simpa using hw); rwa [Nat.add_right_comm, Nat.add_assoc] 
        · have := h2 (i + 1) w (by simpa using hw); rwa [Nat.add_right_comm, Nat.add_assoc]
noncomputable def SN (G : Gi) (r : List V → Hp → VK → Prop) (f : List D → RR) : Prop := ∀ Hf H vs ds, Same Hf H → PReps G Hf H vs ds → RRok G Hf H (r vs H) (f ds)
noncomputable def mN (f : List D → RR) (l : Lm) : Sm := fun e => match l e with
  | .ok ss e1 => match derefs e1 ss with
    | some ds => (f ds).ans e1
    | none => .no
  | .ex c d e1 => .ex c d e1
  | .no => .no
theorem RR.ans_ex {r : RR} {e e' : Env} {c : Str} {d : D} : r.ans e ≠ .ex c d e' := by cases r <;> simp [RR.ans]
theorem ev_n {t : TA} {r : List V → Hp → VK → Prop} {f : List D → RR} {l : Lm} (hf : SN P.G r f) (fl : EvL P t l) : Ev P (fun σ H Q => t σ H fun vs H1 => r vs H1 Q) (mN f l) := by
  intro n IO H0 Hf σ tv env te H S
  have h1 := fl n IO H0 Hf σ tv env te H S
  unfold mN
  cases el : l env with
  | no => trivial
  | ex c d e1 => rw [el] at h1; exact fun w Q => h1 w _
  | ok ss e1 =>
    rw [el] at h1
    show match (match derefs e1 ss with | some ds => (f ds).ans e1 | none => Ans.no) with | .ok s env' => _ | .ex c d env' => _ | .no => _
    cases ed : derefs e1 ss with
    | none => trivial
    | some ds =>
      show match (f ds).ans e1 with | .ok s env' => _ | .ex c d env' => _ | .no => _
      cases er : (f ds).ans e1 with
      | no => trivial
      | ex c d e2 => exact absurd er RR.ans_ex
      | ok s e2 =>
        refine fun Q q => h1 _ fun vs Hf1 H1 s1 l1 S1 => ?_
        have pr : PReps P.G Hf1 H1 vs ds := S1.preps (k := tv.length) (fun i v hv => ?_) (fun i v hv => ?_) l1 ed
        · have h0 : Same Hf1 H1 := S1.sr.sub
          have S2 : St0 P n IO H0 Hf1 σ tv e1 te H1 := St0.pops ss.length (by simp [l1]) (by simp) S1
          have h2 := S2.rr (hf Hf1 H1 vs ds h0 pr)
          rw [er] at h2
          exact h2 Q fun v Hf2 H2 s2 S3 => q v Hf2 H2 (s1.trans s2) S3
        · rw [List.getElem?_append_right (by omega), Nat.add_sub_cancel_left, List.getElem?_map, hv]; rfl
        · rw [List.getElem?_append_right (by rw [S.l2]; omega), S.l2, Nat.add_sub_cancel_left, List.getElem?_map, hv]; rfl
end

end VM

/-! VMC: tests, choices, displays; escapes -/
namespace VM
open PySem PySem.Spec PyProof.Rows L2

noncomputable def tru : D → Option Bool
  | .non => some false
  | .bl b => some b
  | .int i => some (i != 0)
  | .str s => if s.length ≤ sizeLine then some ((s.length : Int) != 0) else none
  | .lst xs => some (!xs.isEmpty)
  | .frl xs => some (!xs.isEmpty)
  | .tup xs => some (!xs.isEmpty)
  | .frt xs => some (!xs.isEmpty)
  | _ => none
noncomputable def mTru (m : Sm) : Tm := fun e => match m e with
  | .ok s e1 => match deref e1 s with
    | some d => match tru d with
      | some b => .ok b e1
      | none => .no
    | none => .no
  | .ex c d e1 => .ex c d e1
  | .no => .no
noncomputable def mBl (m : Sm) : Tm := fun e => match m e with
  | .ok s e1 => match deref e1 s with
    | some (.bl b) => .ok b e1
    | _ => .no
  | .ex c d e1 => .ex c d e1
  | .no => .no
noncomputable def mBV (m : Tm) : Sm := fun e => match m e with
  | .ok b e1 => .ok ⟨.sh, .bl b⟩ e1
  | .ex c d e1 => .ex c d e1
  | .no => .no
noncomputable def tmAnd (a b : Tm) : Tm := fun e => match a e with
  | .ok true e1 => b e1
  | .ok false e1 => .ok false e1
  | .ex c d e1 => .ex c d e1
  | .no => .no
noncomputable def tmOr (a b : Tm) : Tm := fun e => match a e with
  | .ok true e1 => .ok true e1
  | .ok false e1 => b e1
  | .ex c d e1 => .ex c d e1
  | .no => .no
noncomputable def tmNot (a : Tm) : Tm := fun e => match a e with
  | .ok b e1 => .ok (!b) e1
  | .ex c d e1 => .ex c d e1
  | .no => .no
noncomputable def mIf (c : Tm) (a b : Sm) : Sm := fun e => match c e with
  | .ok true e1 => a e1
  | .ok false e1 => b e1
  | .ex c d e1 => .ex c d e1
  | .no => .no
noncomputable def mAnd (a b : Sm) : Sm := fun e => match a e with
  | .ok s e1 => match deref e1 s with
    | some d => match tru d with
      | some true => b e1
      | some false => .ok s e1
      | none => .no
    | none => .no
  | .ex c d e1 => .ex c d e1
  | .no => .no
noncomputable def mOr (a b : Sm) : Sm := fun e => match a e with
  | .ok s e1 => match deref e1 s with
    | some d => match tru d with
      | some true => .ok s e1
      | some false => b e1
      | none => .no
    | none => .no
  | .ex c d e1 => .ex c d e1
  | .no => .no
noncomputable def mNot (a : Sm) : Sm := fun e => match a e with
  | .ok s e1 => match deref e1 s with
    | some d => match tru d with
      | some b => .ok ⟨.sh, .bl (!b)⟩ e1
      | none => .no
    | none => .no
  | .ex c d e1 => .ex c d e1
  | .no => .no
noncomputable def mF (m : Sm) : Sm := fun e => match m e with
  | .ok ⟨.sh, d⟩ e1 => .ok ⟨.sh, d⟩ e1
  | .ok ⟨.ow, d⟩ e1 => .ok ⟨.sh, d⟩ e1
  | .ok ⟨.fr, d⟩ e1 => .ok ⟨.sh, d⟩ e1
  | .ok ⟨.io, d⟩ e1 => .no
  | .ok ⟨.al j, _⟩ e1 => match e1[j]? with
    | some (some ⟨.ow, d⟩) => .ok ⟨.sh, d⟩ (e1.set j (sh d))
    | some (some ⟨.sh, d⟩) => .ok ⟨.sh, d⟩ e1
    | _ => .no
  | .ex c d e1 => .ex c d e1
  | .no => .no
noncomputable def mE (m : Sm) : Sm := fun e => match m e with
  | .ok ⟨.ow, d⟩ e1 => .ok ⟨.ow, d⟩ e1
  | .ok ⟨.fr, d⟩ e1 => .ok ⟨.fr, d⟩ e1
  | _ => mF m e

section
variable {P : Pl} {n : Nat} {IO : En} {H0 Hf H : Hp} {σ tv : L2.St} {env te : Env}

theorem tru_v {G : Gi} {Hf H : Hp} {v : V} {d : D} {b : Bool} (s : Same Hf H) (r : PRep G Hf H v d) (h : tru d = some b) : TruV G.K v H b := by
  rcases r with r | ⟨p, o, rfl, hp, t⟩
  · cases r with
    | non => cases h; rfl
    | bl => cases h; rfl
    | int => cases h; rfl
    | @str x =>
      by_cases hl : x.length ≤ sizeLine
      · simp only [tru, if_pos hl] at h; cases h; exact ⟨hl, rfl⟩
      · simp only [tru, if_neg hl] at h; cases h
    | tup h1 l r =>
      cases h
      refine .inr (.inl ⟨_, .inl (.inl (s _ _ h1)), ?_⟩)
      rename_i vs ds
      cases vs <;> cases ds <;> simp at l ⊢
    | frt h1 l r =>
      cases h
      refine .inr (.inl ⟨_, SqT.mono s h1, ?_⟩)
      rename_i vs ds
      cases vs <;> cases ds <;> simp at l ⊢
    | lst h1 l r =>
      cases h
      refine .inl ⟨_, .inl (.inl (s _ _ h1)), ?_⟩
      rename_i vs ds
      cases vs <;> cases ds <;> simp at l ⊢
    | frl h1 l r =>
      cases h
      refine .inl ⟨_, SqL.mono s h1, ?_⟩
      rename_i vs ds
      cases vs <;> cases ds <;> simp at l ⊢
    | dic => cases h
    | dit => cases h
    | ins => cases h
    | fn => cases h
    | ty => cases h
    | cls => cases h
    | exc => cases h
    | clo => cases h
  · cases d with
    | lst ds =>
      obtain ⟨vs, e, r⟩ := t
      subst e; cases h
      refine .inl ⟨_, .inl (.inl hp), ?_⟩
      have l := r.len
      cases vs <;> cases ds <;> simp at l ⊢
    | dic => cases h
    | dit => cases h
    | ins => cases h
    | non => exact t.elim
    | bl b => exact t.elim
    | int b => exact t.elim
    | str b => exact t.elim
    | tup b => exact t.elim
    | frl b => exact t.elim
    | frt b => exact t.elim
    | fn b => exact t.elim
    | ty b => exact t.elim
    | cls b => exact t.elim
    | exc b c e => exact t.elim

theorem St0.last {v : V} {s : Slot} {d : D} (S : St0 P n IO H0 Hf σ (tv ++ [some v]) env (te ++ [some s]) H) (l : tv.length = te.length) (hd : deref env s = some d) : PRep P.G Hf H v d :=
  S.prep (i := tv.length) get_last (by rw [l]; exact get_last) hd

theorem evT_tru {t : TE} {m : Sm} (f : Ev P t m)  : EvT P (fun σ H Q => t σ H fun x H' => ∃ k, TruV P.G.K x H' k ∧ Q k H') (mTru m) := by
  intro n IO H0 Hf σ tv env te H S
  have h1 := f n IO H0 Hf σ tv env te H S
  unfold mTru
  cases em : m env with
  | no => trivial
  | ex c d e1 => rw [em] at h1; exact fun w Q => h1 w _
  | ok s e1 =>
    rw [em] at h1
    show match (match deref e1 s with | some d => (match tru d with | some b => TAns.ok b e1 | none => .no) | none => TAns.no) with | .ok s env' => _ | .ex c d env' => _ | .no => _
    cases ed : deref e1 s with
    | none => trivial
    | some d =>
      show match (match tru d with | some b => TAns.ok b e1 | none => .no) with | .ok s env' => _ | .ex c d env' => _ | .no => _
      cases eb : tru d with
      | none => trivial
      | some b => exact fun Q q => h1 _ fun v Hf1 H1 s1 S1 => ⟨b, tru_v S1.sr.sub (S1.last S.l2 ed) eb, q Hf1 H1 s1 S1.pop⟩
theorem evT_bl {t : TE} {m : Sm} (f : Ev P t m) : EvT P (tB t) (mBl m) := by
  intro n IO H0 Hf σ tv env te H S
  have h1 := f n IO H0 Hf σ tv env te H S
  unfold mBl
  cases em : m env with
  | no => trivial
  | ex c d e1 => rw [em] at h1; exact fun w Q => h1 w _
  | ok s e1 =>
    rw [em] at h1
    show match (match deref e1 s with | some (.bl b) => TAns.ok b e1 | _ => TAns.no) with | .ok s env' => _ | .ex c d env' => _ | .no => _
    cases ed : deref e1 s with
    | none => trivial
    | some d =>
      cases d with
      | bl b =>
        refine fun Q q => h1 _ fun v Hf1 H1 s1 S1 => ?_
        rcases S1.last S.l2 ed with r | ⟨p, o, _, _, t⟩
        · cases r; exact ⟨b, rfl, q Hf1 H1 s1 S1.pop⟩
        · exact t.elim
      | _ => trivial
theorem st_tru {e : Expr} {m : Sm} (hK : ∀ X, P.M X → X.K = P.G.K) (h : SE P e m) (he : ∀ env whole, isTrue e env whole = (do let v ← whole; standAt e.pos; holding [v] (truthy v))) : ST P e (mTru m) :=
  let ⟨_, p, f⟩ := h; ⟨_, fun X hX => (hK X hX) ▸ pt_truth (p X hX) (he _), evT_tru f⟩
theorem st_w {e : Expr} {m : Tm} (h : SW P e m) : ST P e m := let ⟨_, p, f⟩ := h; ⟨_, fun X hX => (p X hX).pt, f⟩
theorem sw_or1 {a : Expr} {pos : Pos} {m : Tm} (h : ST P a m) : SW P (.BoolOp .Or [a] pos) m := let ⟨_, p, f⟩ := h; ⟨_, fun X hX => pw_or1 (p X hX), f⟩
theorem evT_or {t u : TT} {a b : Tm} (f : EvT P t a) (g : EvT P u b) : EvT P (tOr t u) (tmOr a b) := by
  intro n IO H0 Hf σ tv env te H S
  have h1 := f n IO H0 Hf σ tv env te H S
  unfold tmOr
  cases ea : a env with
  | no => trivial
  | ex c d e1 => rw [ea] at h1; exact fun w Q => h1 w _
  | ok k e1 =>
    rw [ea] at h1
    cases k with
    | true => exact fun Q q => h1 _ fun Hf1 H1 s1 S1 => iteT (q Hf1 H1 s1 S1)
    | false =>
      show match b e1 with | .ok s env' => _ | .ex c d env' => _ | .no => _
      cases eb : b e1 with
      | no => trivial
      | ex c d e2 =>
        refine fun w Q => h1 _ fun Hf1 H1 s1 S1 => iteF ?_
        have h2 := g n IO H0 Hf1 σ tv e1 te H1 S1
        rw [eb] at h2
        exact h2 (fun cv dx Hf2 H2 s2 S2 x => w cv dx Hf2 H2 (s1.trans s2) S2 x) _
      | ok k2 e2 =>
        refine fun Q q => h1 _ fun Hf1 H1 s1 S1 => iteF ?_
        have h2 := g n IO H0 Hf1 σ tv e1 te H1 S1
        rw [eb] at h2
        exact h2 _ fun Hf2 H2 s2 S2 => q Hf2 H2 (s1.trans s2) S2
theorem sw_or {a b : Expr} {rest : List Expr} {pos : Pos} {m k : Tm} (h : ST P a m) (g : SW P (.BoolOp .Or (b :: rest) pos) k) : SW P (.BoolOp .Or (a :: b :: rest) pos) (tmOr m k) :=
  let ⟨_, p, f⟩ := h; let ⟨_, p', f'⟩ := g; ⟨_, fun X hX => pw_or (p X hX) (p' X hX), evT_or f f'⟩
theorem st_not {a : Expr} {pos : Pos} {m : Tm} (h : ST P a m) : ST P (.UnaryOp .Not a pos) (tmNot m) := by
  obtain ⟨t, p, f⟩ := h
  refine ⟨_, fun X hX => pt_not (p X hX), fun n IO H0 Hf σ tv env te H S => ?_⟩
  have h1 := f n IO H0 Hf σ tv env te H S
  unfold tmNot
  cases em : m env with
  | no => trivial
  | ex c d e1 => rw [em] at h1; exact fun w Q => h1 w _
  | ok k e1 => rw [em] at h1; exact fun Q q => h1 _ fun Hf1 H1 s1 S1 => q Hf1 H1 s1 S1
theorem ev_and {ta tb : TE} {a b : Sm} {K : PySem.W.Frag} (hK : P.G.K = K) (f : Ev P ta a) (g : Ev P tb b) :
    Ev P (fun σ H Q => ta σ H fun x H1 => ∃ k, TruV K x H1 k ∧ if k = true then tb σ H1 Q else Q x H1) (mAnd a b) := by
  subst hK
  intro n IO H0 Hf σ tv env te H S
  have h1 := f n IO H0 Hf σ tv env te H S
  unfold mAnd
  cases ea : a env with
  | no => trivial
  | ex c d e1 => rw [ea] at h1; exact fun w Q => h1 w _
  | ok s e1 =>
    rw [ea] at h1
    show match (match deref e1 s with | some d => (match tru d with | some true => b e1 | some false => Ans.ok s e1 | none => .no) | none => Ans.no) with | .ok s env' => _ | .ex c d env' => _ | .no => _
    cases ed : deref e1 s with
    | none => trivial
    | some d =>
      show match (match tru d with | some true => b e1 | some false => Ans.ok s e1 | none => .no) with | .ok s env' => _ | .ex c d env' => _ | .no => _
      cases et : tru d with
      | none => trivial
      | some k =>
        cases k with
        | false => exact fun Q q => h1 _ fun v Hf1 H1 s1 S1 => ⟨false, tru_v S1.sr.sub (S1.last S.l2 ed) et, iteF (q v Hf1 H1 s1 S1)⟩
        | true =>
          show match b e1 with | .ok s env' => _ | .ex c d env' => _ | .no => _
          cases eb : b e1 with
          | no => trivial
          | ex c d e2 =>
            refine fun w Q => h1 _ fun v Hf1 H1 s1 S1 => ⟨true, tru_v S1.sr.sub (S1.last S.l2 ed) et, iteT ?_⟩
            have h2 := g n IO H0 Hf1 σ tv e1 te H1 S1.pop
            rw [eb] at h2
            exact h2 (fun cv dx Hf2 H2 s2 S2 x => w cv dx Hf2 H2 (s1.trans s2) S2 x) _
          | ok s' e2 =>
            refine fun Q q => h1 _ fun v Hf1 H1 s1 S1 => ⟨true, tru_v S1.sr.sub (S1.last S.l2 ed) et, iteT ?_⟩
            have h2 := g n IO H0 Hf1 σ tv e1 te H1 S1.pop
            rw [eb] at h2
            exact h2 _ fun v Hf2 H2 s2 S2 => q v Hf2 H2 (s1.trans s2) S2
theorem ev_not {ta : TE} {a : Sm} {K : PySem.W.Frag} (hK : P.G.K = K) (f : Ev P ta a) :
    Ev P (fun σ H Q => ta σ H fun x H1 => ∃ k, TruV K x H1 k ∧ Q (.bl (!k)) H1) (mNot a) := by
  subst hK
  intro n IO H0 Hf σ tv env te H S
  have h1 := f n IO H0 Hf σ tv env te H S
  unfold mNot
  cases ea : a env with
  | no => trivial
  | ex c d e1 => rw [ea] at h1; exact fun w Q => h1 w _
  | ok s e1 =>
    rw [ea] at h1
    show match (match deref e1 s with | some d => (match tru d with | some b => Ans.ok ⟨.sh, .bl (!b)⟩ e1 | none => .no) | none => Ans.no) with | .ok s env' => _ | .ex c d env' => _ | .no => _
    cases ed : deref e1 s with
    | none => trivial
    | some d =>
      show match (match tru d with | some b => Ans.ok ⟨.sh, .bl (!b)⟩ e1 | none => .no) with | .ok s env' => _ | .ex c d env' => _ | .no => _
      cases et : tru d with
      | none => trivial
      | some k => exact fun Q q => h1 _ fun v Hf1 H1 s1 S1 => ⟨k, tru_v S1.sr.sub (S1.last S.l2 ed) et, q _ Hf1 H1 s1 (S1.pop.push_sh .bl)⟩

/-! ### escapes -/
theorem set_app_right {α : Type} {l : List α} {x y : α} : (l ++ [x]).set l.length y = l ++ [y] := by
  induction l with
  | nil => rfl
  | cons a l ih => show a :: (l ++ [x]).set l.length y = _; rw [ih]; rfl
theorem set_app_left {α : Type} {l r : List α} {i : Nat} {y : α} (h : i < l.length) : (l ++ r).set i y = l.set i y ++ r := by
  induction l generalizing i with
  | nil => simp at h
  | cons a l ih =>
    cases i with
    | zero => rfl
    | succ i => show a :: (l ++ r).set i y = _; rw [ih (by simpa using h)]; rfl
theorem na_set {env : Env} {j : Nat} {t : Slot} (h : ∀ (i : Nat) (s : Slot), env[i]? = some (some s) → ∀ k, s.m ≠ .al k) (ht : ∀ k, t.m ≠ .al k) : ∀ (i : Nat) (s : Slot), (env.set j (some t))[i]? = some (some s) → ∀ k, s.m ≠ .al k := fun i s hs => by
  by_cases hj : j = i
  · subst hj
    rw [List.getElem?_set_self (by have := lt_of_get hs; simpa using this)] at hs
    cases hs; exact ht
  · rw [List.getElem?_set_ne hj] at hs
    exact h i s hs
theorem St0.freeze (S : St0 P n IO H0 Hf σ tv env te H) {j : Nat} {d : D} (h : env[j]? = some (ow d)) : ∃ Hf', Same Hf Hf' ∧ St0 P n IO H0 Hf' σ tv (env.set j (sh d)) te H := by
  have hj := lt_of_get h
  obtain ⟨Hf', s, R⟩ := S.sr.freeze (i := j) (d := d) (by rw [List.getElem?_append_left hj]; exact h)
  refine ⟨Hf', s, by rw [List.length_set]; exact S.le, S.ls, na_set S.na (fun k => by simp), ?_⟩
  rwa [set_app_left hj] at R
theorem St0.freezeL {v : V} {d : D} (S : St0 P n IO H0 Hf σ (tv ++ [some v]) env (te ++ [ow d]) H) : ∃ Hf', Same Hf Hf' ∧ St0 P n IO H0 Hf' σ (tv ++ [some v]) env (te ++ [sh d]) H := by
  have hR := S.sr
  rw [← List.append_assoc env] at hR
  obtain ⟨Hf', s, R⟩ := hR.freeze (i := (env ++ te).length) (d := d) get_last
  refine ⟨Hf', s, S.le, S.ls, S.na, ?_⟩
  rwa [set_app_right, List.append_assoc] at R
theorem St0.freezeFrL {v : V} {d : D} (S : St0 P n IO H0 Hf σ (tv ++ [some v]) env (te ++ [fr d]) H) : ∃ Hf', Same Hf Hf' ∧ St0 P n IO H0 Hf' σ (tv ++ [some v]) env (te ++ [sh d]) H := by
  have hR := S.sr
  rw [← List.append_assoc env] at hR
  obtain ⟨Hf', s, R⟩ := hR.freezeFr (i := (env ++ te).length) (d := d) get_last
  refine ⟨Hf', s, S.le, S.ls, S.na, ?_⟩
  rwa [set_app_right, List.append_assoc] at R
theorem St0.slot_sh (S : St0 P n IO H0 Hf σ tv env te H) {j : Nat} {d : D} (h : env[j]? = some (sh d)) : ∃ v, σ[j]? = some (some v) ∧ Rep P.G Hf v d := by
  have hj := lt_of_get h
  obtain ⟨v, e, r⟩ := S.sr.shr j d (by rw [List.getElem?_append_left hj]; exact h)
  rw [List.getElem?_append_left (by rw [S.ls, ← S.le]; exact hj)] at e
  exact ⟨v, e, r⟩
theorem St0.ali {v : V} {d : D} {j : Nat} (S : St0 P n IO H0 Hf σ (tv ++ [some v]) env (te ++ [some ⟨.al j, d⟩]) H) (l : tv.length = te.length) : j < n ∧ σ[j]? = some (some v) := by
  have g2 : (env ++ (te ++ [some (⟨.al j, d⟩ : Slot)]))[n + te.length]? = some (some ⟨.al j, d⟩) := by
    rw [List.getElem?_append_right (by rw [S.le]; omega), S.le, Nat.add_sub_cancel_left]; exact get_last
  obtain ⟨jn, w, e1, e2, a, e3, e4⟩ := S.sr.ali _ j d g2
  have g1 : (σ ++ (tv ++ [some v]))[n + te.length]? = some (some v) := by
    rw [List.getElem?_append_right (by rw [S.ls]; omega), S.ls, Nat.add_sub_cancel_left, ← l]; exact get_last
  rw [g1] at e1; cases e1
  exact ⟨jn, by rwa [List.getElem?_append_left (by rw [S.ls]; exact jn)] at e2⟩
theorem ev_F {t : TE} {m : Sm} (f : Ev P t m) : Ev P t (mF m) := by
  intro n IO H0 Hf σ tv env te H S
  have h1 := f n IO H0 Hf σ tv env te H S
  unfold mF
  cases em : m env with
  | no => trivial
  | ex c d e1 => rw [em] at h1; exact h1
  | ok s e1 =>
    rw [em] at h1
    obtain ⟨k, d⟩ := s
    cases k with
    | sh => exact h1
    | ow => exact fun Q q => h1 _ fun v Hf1 H1 s1 S1 => let ⟨Hf2, s2, S2⟩ := S1.freezeL; q v Hf2 H1 (s1.trans s2) S2
    | fr => exact fun Q q => h1 _ fun v Hf1 H1 s1 S1 => let ⟨Hf2, s2, S2⟩ := S1.freezeFrL; q v Hf2 H1 (s1.trans s2) S2
    | io => trivial
    | al j =>
      show match (match e1[j]? with | some (some ⟨.ow, d⟩) => Ans.ok ⟨.sh, d⟩ (e1.set j (sh d)) | some (some ⟨.sh, d⟩) => .ok ⟨.sh, d⟩ e1 | _ => .no) with | .ok s env' => _ | .ex c d env' => _ | .no => _
      cases ej : e1[j]? with
      | none => trivial
      | some o =>
        cases o with
        | none => trivial
        | some s =>
          obtain ⟨k, d'⟩ := s
          cases k with
          | io => trivial
          | al _ => trivial
          | fr => trivial
          | sh =>
            refine fun Q q => h1 _ fun v Hf1 H1 s1 S1 => q v Hf1 H1 s1 ?_
            obtain ⟨jn, hv⟩ := S1.ali S.l2
            obtain ⟨w, e, r⟩ := S1.slot_sh ej
            rw [hv] at e; cases e
            exact S1.pop.push_sh r
          | ow =>
            refine fun Q q => h1 _ fun v Hf1 H1 s1 S1 => ?_
            obtain ⟨jn, hv⟩ := S1.ali S.l2
            obtain ⟨Hf2, s2, S2⟩ := S1.pop.freeze ej
            obtain ⟨w, e, r⟩ := S2.slot_sh (j := j) (d := d') (by rw [List.getElem?_set_self (lt_of_get ej)])
            rw [hv] at e; cases e
            exact q v Hf2 H1 (s1.trans s2) (S2.push_sh r)
theorem ev_E {t : TE} {m : Sm} (f : Ev P t m) : Ev P t (mE m) := by
  intro n IO H0 Hf σ tv env te H S
  have h1 := f n IO H0 Hf σ tv env te H S
  have h2 := ev_F f n IO H0 Hf σ tv env te H S
  unfold mE
  cases em : m env with
  | no => exact h2
  | ex c d e1 => exact h2
  | ok s e1 =>
    obtain ⟨k, d⟩ := s
    cases k with
    | ow => rw [em] at h1; exact h1
    | fr => rw [em] at h1; exact h1
    | sh => exact h2
    | io => exact h2
    | al j => exact h2
theorem se_F {e : Expr} {m : Sm} (h : SE P e m) : SE P e (mF m) := let ⟨_, p, f⟩ := h; ⟨_, p, ev_F f⟩
end

end VM

/-! VMD: displays; calls of the text's own defs -/
namespace VM
open PySem PySem.Spec PyProof.Rows L2

noncomputable def notStar : Expr → Bool
  | .Starred _ _ => false
  | _ => true
theorem star_ok {e : Expr} {es : List Expr} {env : PySem.Env} (h : notStar e = true) : starEach (e :: es) env = (false, eval e env) :: starEach es env := by
  cases e <;> first | rfl | (simp [notStar] at h)
theorem pa_of {X : Cx} : ∀ {es : List Expr} {ts : List TE}, PEs X es ts → es.all notStar = true → PA X es (tAll ts)
  | _, _, .nil, _ => pa_nil
  | _, _, .cons h r, hs => by
    rw [List.all_cons, Bool.and_eq_true] at hs
    exact pa_cons h (pa_of r hs.2) (star_ok hs.1)
theorem star_any {env : PySem.Env} {pos : Pos} : ∀ {es : List Expr}, es.all notStar = true → (backTo pos (starEach es env)).any (·.1) = false
  | [], _ => rfl
  | e :: es, hs => by
    rw [List.all_cons, Bool.and_eq_true] at hs
    rw [star_ok hs.1]
    show (false || (backTo pos (starEach es env)).any (·.1)) = false
    rw [star_any hs.2]
    rfl

noncomputable def shs : List Slot → Option (List D)
  | [] => some []
  | ⟨.sh, d⟩ :: r => match shs r with
    | some ds => some (d :: ds)
    | none => none
  | _ => none
noncomputable def mTup (l : Lm) : Sm := fun e => match l e with
  | .ok ss e1 => match shs ss with
    | some ds => if ds.length ≤ 1000 then .ok ⟨.sh, .tup ds⟩ e1 else .no
    | none => .no
  | .ex c d e1 => .ex c d e1
  | .no => .no
noncomputable def mLst (l : Lm) : Sm := fun e => match l e with
  | .ok ss e1 => match shs ss with
    | some ds => if ds.length ≤ 1000 then .ok ⟨.ow, .lst ds⟩ e1 else .no
    | none => .no
  | .ex c d e1 => .ex c d e1
  | .no => .no

section
variable {P : Pl} {n : Nat} {IO : En} {H0 Hf H : Hp} {σ tv : L2.St} {env te : Env}
theorem St0.at_sh (S : St0 P n IO H0 Hf σ tv env te H) {i : Nat} {v : V} {d : D} (h1 : tv[i]? = some (some v)) (h2 : te[i]? = some (sh d)) : Rep P.G Hf v d := by
  have g1 : (σ ++ tv)[n + i]? = some (some v) := by
    rw [List.getElem?_append_right (by rw [S.ls]; omega), S.ls, Nat.add_sub_cancel_left]; exact h1
  have g2 : (env ++ te)[n + i]? = some (sh d) := by
    rw [List.getElem?_append_right (by rw [S.le]; omega), S.le, Nat.add_sub_cancel_left]; exact h2
  obtain ⟨w, e, r⟩ := S.sr.shr _ d g2
  rw [g1] at e; cases e
  exact r
theorem shs_get : ∀ {ss : List Slot} {ds : List D}, shs ss = some ds → ss.length = ds.length ∧ ∀ (i : Nat) (d : D), ds[i]? = some d → ss[i]? = some (⟨.sh, d⟩ : Slot)
  | [], ds, h => by cases h; exact ⟨rfl, fun i d h => by simp at h⟩
  | ⟨m, d⟩ :: r, ds, h => by
    cases m with
    | sh =>
      unfold shs at h
      cases e : shs r with
      | none => rw [e] at h; cases h
      | some ds' =>
        rw [e] at h; cases h
        obtain ⟨l, g⟩ := shs_get e
        refine ⟨by simp [l], fun i d' hd => ?_⟩
        cases i with
        | zero => simp at hd ⊢; exact hd
        | succ i => simp at hd ⊢; exact g i d' hd
    | ow => unfold shs at h; cases h
    | io => unfold shs at h; cases h
    | al j => unfold shs at h; cases h
    | fr => unfold shs at h; cases h
theorem St0.all_sh {vs : List V} {ss : List Slot} {ds : List D} (S : St0 P n IO H0 Hf σ (tv ++ vs.map some) env (te ++ ss.map some) H) (l : tv.length = te.length) (hl : vs.length = ss.length) (h : shs ss = some ds) : Reps P.G Hf vs ds := by
  obtain ⟨l2, g⟩ := shs_get h
  refine ⟨by omega, fun i v d h1 h2 => S.at_sh (i := tv.length + i) ?_ ?_⟩
  · rw [List.getElem?_append_right (by omega), Nat.add_sub_cancel_left, List.getElem?_map, h1]; rfl
  · rw [l, List.getElem?_append_right (by omega), Nat.add_sub_cancel_left, List.getElem?_map, g i d h2]; rfl
theorem small_line {n : Nat} (h : n ≤ 1000) : n ≤ sizeLine := Nat.le_of_lt (small1000 h)
theorem ev_tup {t : TA} {l : Lm} (f : EvL P t l) : Ev P (tTup t) (mTup l) := by
  intro n IO H0 Hf σ tv env te H S
  have h1 := f n IO H0 Hf σ tv env te H S
  unfold mTup
  cases el : l env with
  | no => trivial
  | ex c d e1 => rw [el] at h1; exact fun w Q => h1 w _
  | ok ss e1 =>
    rw [el] at h1
    show match (match shs ss with | some ds => (if ds.length ≤ 1000 then Ans.ok ⟨.sh, .tup ds⟩ e1 else .no) | none => Ans.no) with | .ok s env' => _ | .ex c d env' => _ | .no => _
    cases es : shs ss with
    | none => trivial
    | some ds =>
      show match (if ds.length ≤ 1000 then Ans.ok ⟨.sh, .tup ds⟩ e1 else .no) with | .ok s env' => _ | .ex c d env' => _ | .no => _
      by_cases hz : ds.length ≤ 1000
      · rw [if_pos hz]
        refine fun Q q => h1 _ fun vs Hf1 H1 s1 l1 S1 => ?_
        have r := S1.all_sh S.l2 l1 es
        have S2 : St0 P n IO H0 Hf1 σ tv e1 te H1 := St0.pops ss.length (by simp [l1]) (by simp) S1
        refine ⟨by rw [r.len]; exact small_line hz, fun p hp => ?_⟩
        obtain ⟨s2, S3⟩ := S2.push_tup hp r
        exact q _ _ _ (s1.trans s2) S3
      · rw [if_neg hz]; trivial
theorem ev_lst {t : TA} {l : Lm} (f : EvL P t l) : Ev P (tLst t) (mLst l) := by
  intro n IO H0 Hf σ tv env te H S
  have h1 := f n IO H0 Hf σ tv env te H S
  unfold mLst
  cases el : l env with
  | no => trivial
  | ex c d e1 => rw [el] at h1; exact fun w Q => h1 w _
  | ok ss e1 =>
    rw [el] at h1
    show match (match shs ss with | some ds => (if ds.length ≤ 1000 then Ans.ok ⟨.ow, .lst ds⟩ e1 else .no) | none => Ans.no) with | .ok s env' => _ | .ex c d env' => _ | .no => _
    cases es : shs ss with
    | none => trivial
    | some ds =>
      show match (if ds.length ≤ 1000 then Ans.ok ⟨.ow, .lst ds⟩ e1 else .no) with | .ok s env' => _ | .ex c d env' => _ | .no => _
      by_cases hz : ds.length ≤ 1000
      · rw [if_pos hz]
        refine fun Q q => h1 _ fun vs Hf1 H1 s1 l1 S1 => ?_
        have r := S1.all_sh S.l2 l1 es
        have S2 : St0 P n IO H0 Hf1 σ tv e1 te H1 := St0.pops ss.length (by simp [l1]) (by simp) S1
        refine ⟨by rw [r.len]; exact small_line hz, fun p hp => ?_⟩
        exact q _ _ _ s1 (S2.push_ow hp ⟨vs, rfl, r⟩)
      · rw [if_neg hz]; trivial
theorem se_tup {es : List Expr} {k : Nat} {pos : Pos} {l : Lm} (h : SL P es l) (hs : es.all notStar = true) : SE P (.Tuple es k pos) (mTup l) :=
  let ⟨_, p, f⟩ := h; ⟨_, fun X hX => pe_tup (pa_of (p X hX) hs), ev_tup f⟩
theorem se_lst {es : List Expr} {pos : Pos} {l : Lm} (h : SL P es l) (hs : es.all notStar = true) : SE P (.List es pos) (mLst l) :=
  let ⟨_, p, f⟩ := h; ⟨_, fun X hX => pe_lst (pa_of (p X hX) hs), ev_lst f⟩
end

/-! ### what a def does, by its data -/
inductive FA where
  | ok (own : Bool) (d : D) (outs : List D)
  | okf (d : D) (outs : List D)
  | ex (c : Str) (d : D) (outs : List D)
  | no
structure FS where
  io : List Bool
  F : List D → FA

mutual
noncomputable def D.pu : D → Bool
  | .non => true
  | .bl _ => true
  | .int _ => true
  | .str _ => true
  | .fn _ => true
  | .ty _ => true
  | .cls _ => true
  | .tup xs => D.pus xs
  | .lst _ => false
  | .frl _ => false
  | .frt _ => false
  | .dic _ => false
  | .dit _ => false
  | .ins _ _ => false
  | .exc _ _ _ => false
noncomputable def D.pus : List D → Bool
  | [] => true
  | x :: r => D.pu x && D.pus r
end
theorem D.pus_get : ∀ {xs : List D} {i : Nat} {d : D}, D.pus xs = true → xs[i]? = some d → d.pu = true
  | [], i, d, _, h => by simp at h
  | x :: r, 0, d, p, h => by
    simp at h; subst h
    unfold D.pus at p
    exact (Bool.and_eq_true _ _ ▸ p).1
  | x :: r, i + 1, d, p, h => by
    unfold D.pus at p
    exact D.pus_get (Bool.and_eq_true _ _ ▸ p).2 (by simpa using h)
noncomputable def D.kids : D → Option (List D)
  | .lst xs => some xs
  | .dic kvs => some (kvs.map (·.2))
  | .dit kvs => some (kvs.map (·.2))
  | .ins _ fs => some (fs.map (·.2))
  | _ => none
noncomputable def D.kpu (d : D) : Bool := match d.kids with
  | some ds => D.pus ds
  | none => false
noncomputable def clean (own : Bool) (d : D) : Bool := if own then d.kpu else d.pu

theorem Rep.pure {G : Gi} {Hf Hg : Hp} {v : V} {d : D} (r : Rep G Hf v d) (hg : ∀ p o, Hf p = some o → ¬ Mut (some o) → Hg p = some o) (h : d.pu = true) : Rep G Hg v d := by
  induction r with
  | non => exact .non
  | bl => exact .bl
  | int => exact .int
  | str => exact .str
  | fn h' => exact .fn h'
  | ty => exact .ty
  | cls h' => exact .cls h'
  | exc => simp [D.pu] at h
  | clo => simp [D.pu] at h
  | tup hq l _ ih =>
    exact .tup (hg _ _ hq (fun z => z)) l fun i v d h1 h2 => ih i v d h1 h2 (D.pus_get (by simpa [D.pu] using h) h2)
  | frt => simp [D.pu] at h
  | lst => simp [D.pu] at h
  | frl => simp [D.pu] at h
  | dic => simp [D.pu] at h
  | dit => simp [D.pu] at h
  | ins => simp [D.pu] at h
theorem Reps.pure {G : Gi} {Hf Hg : Hp} {vs : List V} {ds : List D} (r : Reps G Hf vs ds) (hg : ∀ p o, Hf p = some o → ¬ Mut (some o) → Hg p = some o) (h : D.pus ds = true) : Reps G Hg vs ds :=
  ⟨r.len, fun i v d h1 h2 => (r.at' i v d h1 h2).pure hg (D.pus_get h h2)⟩
theorem TopO.pure {G : Gi} {Hf Hg : Hp} {o : HO} {d : D} (t : TopO G Hf o d) (hg : ∀ p o, Hf p = some o → ¬ Mut (some o) → Hg p = some o) (h : d.kpu = true) : TopO G Hg o d := by
  cases d with
  | lst ds => obtain ⟨vs, e, r⟩ := t; exact ⟨vs, e, r.pure hg h⟩
  | dic kds => obtain ⟨vs, e, l, r⟩ := t; exact ⟨vs, e, l, r.pure hg h⟩
  | dit kds => obtain ⟨vs, e, l, r⟩ := t; exact ⟨vs, e, l, r.pure hg h⟩
  | ins c fds => obtain ⟨C, dx, fs, e, hc, l, r⟩ := t; exact ⟨C, dx, fs, e, hc, l, r.pure hg h⟩
  | _ => exact t.elim

noncomputable def IOs (G : Gi) (io : List Bool) (vs : List V) : Addr → Prop := fun p => (∃ i : Nat, io[i]? = some true ∧ vs[i]? = some (V.ref p)) ∨ ∃ q ∈ G.T, q.1 = p
structure GrP (G : Gi) (H H' : Hp) : Prop where
  ls : ∀ b, H' b = none → H b = none
  tab : NdefX.TabsN G.T H'
instance {G : Gi} {H H' : Hp} : CoeFun (GrP G H H') fun _ => ∀ b, H' b = none → H b = none := ⟨GrP.ls⟩
theorem Gr.post {G : Gi} {IO : En} {H0 H H' : Hp} (g : Gr G IO H0 H) (p : GrP G H H') : Gr G IO H0 H' := g.to p.ls p.tab
structure Post (G : Gi) (io : List Bool) (vs : List V) (Hf H Hf' H' : Hp) : Prop where
  sf : Same Hf Hf'
  sub : Same Hf' H'
  keep : ∀ b o, H b = some o → ¬ IOs G io vs b → H' b = some o
  grow : GrP G H H'
  nf : ∀ b o, Hf' b = some o → H b = none ∨ Hf b = some o ∨ Fxd o
noncomputable def Outs (G : Gi) (io : List Bool) (vs : List V) (Hf' H' : Hp) (outs : List D) : Prop :=
  outs.length = vs.length ∧ ∀ (i : Nat) (p : Addr) (d : D), io[i]? = some true → vs[i]? = some (V.ref p) → outs[i]? = some d → ∃ o, H' p = some o ∧ TopO G Hf' o d
noncomputable def VRes (G : Gi) (H Hf' H' : Hp) (v : V) (own : Bool) (d : D) : Prop :=
  if own then ∃ p o, v = .ref p ∧ Hf' p = none ∧ H p = none ∧ H' p = some o ∧ TopO G Hf' o d else Rep G Hf' v d
noncomputable def FrRes (G : Gi) (H Hf' H' : Hp) (v : V) (d : D) : Prop := ∃ L, Own G Hf' H' L v d ∧ L.Nodup ∧ ∀ a ∈ L, Hf' a = none ∧ H a = none
structure ArgsR (G : Gi) (io : List Bool) (Hf H : Hp) (vs : List V) (ds : List D) : Prop where
  tab : NdefX.TabsN G.T H
  tnf : ∀ q ∈ G.T, Hf q.1 = none
  lv : vs.length = io.length
  ld : ds.length = io.length
  shr : ∀ (i : Nat) v d, io[i]? = some false → vs[i]? = some v → ds[i]? = some d → Rep G Hf v d
  inout : ∀ (i : Nat) v d, io[i]? = some true → vs[i]? = some v → ds[i]? = some d → ∃ p o, v = .ref p ∧ Hf p = none ∧ H p = some o ∧ TopO G Hf o d
  sep : ∀ (i j : Nat) v, i ≠ j → io[i]? = some true → io[j]? = some true → vs[i]? = some v → vs[j]? = some v → False
noncomputable def spOf (exc : Str → Option (Addr × Str)) (G : Gi) (fs : FS) : Sp := fun vs H Q E => ∃ (Hf : Hp) (ds : List D), Same Hf H ∧ ArgsR G fs.io Hf H vs ds ∧
  match fs.F ds with
  | .ok own d outs => ∀ v Hf' H', Post G fs.io vs Hf H Hf' H' → VRes G H Hf' H' v own d → Outs G fs.io vs Hf' H' outs → Q v H'
  | .okf d outs => ∀ v Hf' H', Post G fs.io vs Hf H Hf' H' → FrRes G H Hf' H' v d → Outs G fs.io vs Hf' H' outs → Q v H'
  | .ex c d outs => ∀ cv dx Hf' H', Post G fs.io vs Hf H Hf' H' → XR exc G H Hf' H' cv dx c d → Outs G fs.io vs Hf' H' outs → E cv dx H'
  | .no => False

end VM

/-! VME: calls of the text's own defs -/
namespace VM
open PySem PySem.Spec PyProof.Rows L2

noncomputable def mT (m : Sm) : Sm := fun e => match m e with
  | .ok ⟨.ow, d⟩ e1 => .ok ⟨.sh, d⟩ e1
  | r => r
noncomputable def argOk (st : Bool) (e : Env) (ss : List Slot) : Bool → Slot → Bool
  | false, s => match s.m with
    | .sh => true
    | .al j => match e[j]? with
      | some (some t) => !(st && t.m.mut)
      | _ => false
    | _ => false
  | true, s => match s.m with
    | .ow => true
    | .al j => (match e[j]? with
      | some (some t) => t.m.mut
      | _ => false) && (ss.filter fun t => decide (t.m = .al j)).length == 1
    | _ => false
noncomputable def argsOk (st : Bool) (e : Env) (ss : List Slot) : List Bool → List Slot → Bool
  | [], [] => true
  | b :: bs, s :: r => argOk st e ss b s && argsOk st e ss bs r
  | _, _ => false
noncomputable def writeBack : List Bool → List Slot → List D → Env → Env
  | true :: bs, s :: ss, d :: ds, e => match s.m with
    | .al j => match e[j]? with
      | some (some t) => writeBack bs ss ds (e.set j (some ⟨t.m, d⟩))
      | _ => writeBack bs ss ds e
    | _ => writeBack bs ss ds e
  | false :: bs, _ :: ss, _ :: ds, e => writeBack bs ss ds e
  | _, _, _, e => e
noncomputable def shareArgs : List Bool → List Slot → Env → Option Env
  | false :: bs, s :: ss, e => match s.m with
    | .al j => match e[j]? with
      | some (some ⟨.ow, d⟩) => shareArgs bs ss (e.set j (sh d))
      | some (some ⟨.sh, _⟩) => shareArgs bs ss e
      | _ => none
    | _ => shareArgs bs ss e
  | true :: bs, _ :: ss, e => shareArgs bs ss e
  | [], [], e => some e
  | _, _, _ => none
noncomputable def outsClean : List Bool → List D → Bool
  | true :: bs, d :: ds => d.kpu && outsClean bs ds
  | false :: bs, _ :: ds => outsClean bs ds
  | [], [] => true
  | _, _ => false
noncomputable def callW (fs : FS) (ss : List Slot) (st : Bool) (e : Env) : Ans :=
  if argsOk st e ss fs.io ss then match derefs e ss with
    | some ds => match fs.F ds with
      | .ok own d outs => if outs.length = ss.length ∧ (st || (clean own d && outsClean fs.io outs)) = true then .ok ⟨if own then .ow else .sh, d⟩ (writeBack fs.io ss outs e) else .no
      | .okf d outs => if outs.length = ss.length ∧ st = true then .ok ⟨.fr, d⟩ (writeBack fs.io ss outs e) else .no
      | .ex c d outs => if outs.length = ss.length ∧ (st || (d.pu && outsClean fs.io outs)) = true then .ex c d (writeBack fs.io ss outs e) else .no
      | .no => .no
    | none => .no
  else .no
noncomputable def callS (fs : FS) (ss : List Slot) (e : Env) : Ans := match callW fs ss true e with
  | .no => match callW fs ss false e with
    | .no => match shareArgs fs.io ss e with
      | some e2 => callW fs ss true e2
      | none => .no
    | r => r
  | r => r
noncomputable def mCall (fs : FS) (l : Lm) : Sm := fun e => match l e with
  | .ok ss e1 => callS fs ss e1
  | .ex c d e1 => .ex c d e1
  | .no => .no

section
variable {n : Nat} {G : Gi} {IO : En} {H0 Hf H Hg H' : Hp} {σ tv : L2.St} {env te E E' : Env}
theorem SR.afterQ (R : SR n G IO H0 Hf σ E H) (chg : Addr → Prop) (hl : E'.length = E.length) (sf : Same Hf Hg) (sub : Same Hg H') (nf : ∀ b o, Hg b = some o → H0 b = none ∨ IO.f0 b = some o ∨ Fxd o) (keep : ∀ b o, H b = some o → ¬ chg b → H' b = some o) (grow : GrP G H H')
    (nfw : ∀ b o, Hg b = some o → H b = none ∨ Hf b = some o ∨ Fxd o) (hc : ∀ p, chg p → (∃ (k : Nat) (s : Slot), E[k]? = some (some s) ∧ s.m.mut = true ∧ σ[k]? = some (some (V.ref p))) ∨ ∃ q ∈ G.T, q.1 = p)
    (hfr : ∀ (k : Nat) (s : Slot) p, E[k]? = some (some s) → s.m.mut = true → σ[k]? = some (some (V.ref p)) → Hg p = none)
    (h : ∀ k : Nat, (E'[k]? = E[k]? ∧ ∀ (s : Slot) p, E[k]? = some (some s) → s.m.mut = true → σ[k]? = some (some (V.ref p)) → ¬ chg p) ∨
      ∃ (m : M) (d d' : D) (p : Addr) (o : HO), E[k]? = some (some ⟨m, d⟩) ∧ m.mut = true ∧ E'[k]? = some (some ⟨m, d'⟩) ∧ σ[k]? = some (some (V.ref p)) ∧ H' p = some o ∧ TopO G Hg o d') : ∀ Q : Addr → Prop, (∀ a o, H a = some o → Q a) → FrOkQ Q G H0 Hg σ E' H' := by
  have back : ∀ {k : Nat} {s : Slot}, E'[k]? = some (some s) → ∃ d, E[k]? = some (some ⟨s.m, d⟩) := fun {k s} hs => by
    rcases h k with ⟨e, _⟩ | ⟨m, d, d', p, o, e1, hm, e2, e3, e4, t⟩
    · rw [e] at hs; exact ⟨s.d, hs⟩
    · rw [e2] at hs; cases hs; exact ⟨d, e1⟩
  intro Q hQ
  refine R.fre.q.to id (fun _ _ _ _ _ _ e => e) (fun k d hk => ?_) sf (fun a o _ e m f0 h0 ns => ?_) fun a o _ e => hQ a o e
  · rcases h k with ⟨e, _⟩ | ⟨m, d1, d', p, o, e1, hm, e2, e3, e4, t⟩
    · exact ⟨by rw [e] at hk; exact hk, fun v e => e⟩
    · rw [e2] at hk; cases hk; cases hm
  · have nc : ¬ chg a := fun z => by
      rcases hc a z with ⟨k, s, hk, hm, hp⟩ | ⟨q, hq, rfl⟩
      · exact ns k s hk hm hp
      · obtain ⟨ps, h1, _⟩ := R.grow.tab q hq
        rw [h1] at e; cases e; exact m.elim
    have e' := keep a o e nc
    refine ⟨e', ?_, h0, fun k s hs hm hv => ?_⟩
    · cases q : Hg a with
      | none => rfl
      | some x =>
        rcases nfw a x q with z | z | z
        · rw [e] at z; cases z
        · rw [f0] at z; cases z
        · rw [sub a _ q] at e'
          cases e'
          exact absurd m z.nm
    · obtain ⟨d, hk⟩ := back hs
      exact ns k _ hk hm hv
theorem SR.after (R : SR n G IO H0 Hf σ E H) (chg : Addr → Prop) (hl : E'.length = E.length) (sf : Same Hf Hg) (sub : Same Hg H') (nf : ∀ b o, Hg b = some o → H0 b = none ∨ IO.f0 b = some o ∨ Fxd o) (keep : ∀ b o, H b = some o → ¬ chg b → H' b = some o) (grow : GrP G H H')
    (nfw : ∀ b o, Hg b = some o → H b = none ∨ Hf b = some o ∨ Fxd o) (hc : ∀ p, chg p → (∃ (k : Nat) (s : Slot), E[k]? = some (some s) ∧ s.m.mut = true ∧ σ[k]? = some (some (V.ref p))) ∨ ∃ q ∈ G.T, q.1 = p)
    (hfr : ∀ (k : Nat) (s : Slot) p, E[k]? = some (some s) → s.m.mut = true → σ[k]? = some (some (V.ref p)) → Hg p = none)
    (h : ∀ k : Nat, (E'[k]? = E[k]? ∧ ∀ (s : Slot) p, E[k]? = some (some s) → s.m.mut = true → σ[k]? = some (some (V.ref p)) → ¬ chg p) ∨
      ∃ (m : M) (d d' : D) (p : Addr) (o : HO), E[k]? = some (some ⟨m, d⟩) ∧ m.mut = true ∧ E'[k]? = some (some ⟨m, d'⟩) ∧ σ[k]? = some (some (V.ref p)) ∧ H' p = some o ∧ TopO G Hg o d') : SR n G IO H0 Hg σ E' H' := by
  have back : ∀ {k : Nat} {s : Slot}, E'[k]? = some (some s) → ∃ d, E[k]? = some (some ⟨s.m, d⟩) := fun {k s} hs => by
    rcases h k with ⟨e, _⟩ | ⟨m, d, d', p, o, e1, hm, e2, e3, e4, t⟩
    · rw [e] at hs; exact ⟨s.d, hs⟩
    · rw [e2] at hs; cases hs; exact ⟨d, e1⟩
  have forth : ∀ {k : Nat} {s : Slot}, E[k]? = some (some s) → ∃ d, E'[k]? = some (some ⟨s.m, d⟩) := fun {k s} hs => by
    rcases h k with ⟨e, _⟩ | ⟨m, d, d', p, o, e1, hm, e2, e3, e4, t⟩
    · rw [← e] at hs; exact ⟨s.d, hs⟩
    · rw [e1] at hs; cases hs; exact ⟨d', e2⟩
  refine ⟨sub, fun b o e nio => ?_, R.grow.post grow, nf, by rw [hl]; exact R.len, fun k d hs => ?_, fun k d hs => ?_, fun k d hs => ?_, fun k j d hs => ?_, fun i j a b w ne ha hb ma mb h1 h2 => ?_, ?_⟩
  · have hb := R.keep b o e nio
    by_cases hcb : chg b
    · rcases hc b hcb with ⟨k, s, hk, hm, hp⟩ | ⟨q, hq, rfl⟩
      case inr => exact absurd (R.grow.co q hq).1 nio
      obtain ⟨m, d⟩ := s
      cases m with
      | sh => cases hm
      | al j => cases hm
      | fr => cases hm
      | ow =>
        obtain ⟨p, x, e1, _, z, _⟩ := R.own k d hk
        rw [hp] at e1; cases e1
        rw [e] at z; cases z
      | io =>
        obtain ⟨p, x, e1, _, z, _⟩ := R.inout k d hk
        rw [hp] at e1; cases e1
        exact absurd z nio
    · exact keep b o hb hcb
  · rcases h k with ⟨e, _⟩ | ⟨m, d1, d', p, o, e1, hm, e2, e3, e4, t⟩
    · rw [e] at hs
      obtain ⟨v, hv, r⟩ := R.shr k d hs
      exact ⟨v, hv, r.mono sf⟩
    · rw [e2] at hs; cases hs; cases hm
  · rcases h k with ⟨e, nc⟩ | ⟨m, d1, d', p, o, e1, hm, e2, e3, e4, t⟩
    · rw [e] at hs
      obtain ⟨p, o, e1, a, b, c, t⟩ := R.own k d hs
      exact ⟨p, o, e1, hfr k _ p hs rfl e1, b, keep p o c (nc _ p hs rfl e1), t.mono sf⟩
    · rw [e2] at hs; cases hs
      obtain ⟨p', o', e5, a, b, c, t'⟩ := R.own k d1 e1
      rw [e3] at e5; cases e5
      exact ⟨p, o, e3, hfr k _ p e1 rfl e3, b, e4, t⟩
  · rcases h k with ⟨e, nc⟩ | ⟨m, d1, d', p, o, e1, hm, e2, e3, e4, t⟩
    · rw [e] at hs
      obtain ⟨p, o, e1, a, b, c, t⟩ := R.inout k d hs
      exact ⟨p, o, e1, hfr k _ p hs rfl e1, b, keep p o c (nc _ p hs rfl e1), t.mono sf⟩
    · rw [e2] at hs; cases hs
      obtain ⟨p', o', e5, a, b, c, t'⟩ := R.inout k d1 e1
      rw [e3] at e5; cases e5
      exact ⟨p, o, e3, hfr k _ p e1 rfl e3, b, e4, t⟩
  · obtain ⟨d0, hk⟩ := back hs
    obtain ⟨jn, w, e1, e2, s, e3, e4⟩ := R.ali k j d0 hk
    obtain ⟨d2, h2⟩ := forth e3
    exact ⟨jn, w, e1, e2, _, h2, e4⟩
  · obtain ⟨d1, h3⟩ := back ha
    obtain ⟨d2, h4⟩ := back hb
    exact R.sep i j _ _ w ne h3 h4 ma mb h1 h2
  · exact (SR.afterQ R chg hl sf sub nf keep grow nfw hc hfr h (fun _ => True) fun _ _ _ => trivial).ok
theorem SR.after2 (R : SR n G IO H0 Hf σ E H) (chg : Addr → Prop) (hl : E'.length = E.length) (sf : Same Hf Hg) (sub : Same Hg H') (nf : ∀ b o, Hg b = some o → H0 b = none ∨ IO.f0 b = some o ∨ Fxd o) (keep : ∀ b o, H b = some o → ¬ chg b → H' b = some o) (grow : GrP G H H')
    (nfw : ∀ b o, Hg b = some o → H b = none ∨ Hf b = some o ∨ Fxd o) (hc : ∀ p, chg p → (∃ (k : Nat) (s : Slot), E[k]? = some (some s) ∧ s.m.mut = true ∧ σ[k]? = some (some (V.ref p))) ∨ ∃ q ∈ G.T, q.1 = p)
    (hfr : ∀ (k : Nat) (s : Slot) p, E[k]? = some (some s) → s.m.mut = true → σ[k]? = some (some (V.ref p)) → Hg p = none)
    (h : ∀ k : Nat, (E'[k]? = E[k]? ∧ ∀ (s : Slot) p, E[k]? = some (some s) → s.m.mut = true → σ[k]? = some (some (V.ref p)) → ¬ chg p) ∨
      ∃ (m : M) (d d' : D) (p : Addr) (o : HO), E[k]? = some (some ⟨m, d⟩) ∧ m.mut = true ∧ E'[k]? = some (some ⟨m, d'⟩) ∧ σ[k]? = some (some (V.ref p)) ∧ H' p = some o ∧ TopO G Hg o d') : SR n G IO H0 Hg σ E' H' ∧ ∀ Q : Addr → Prop, (∀ a o, H a = some o → Q a) → FrOkQ Q G H0 Hg σ E' H' :=
  ⟨SR.after R chg hl sf sub nf keep grow nfw hc hfr h, SR.afterQ R chg hl sf sub nf keep grow nfw hc hfr h⟩

end

section
variable {P : Pl}
theorem wb_len : ∀ {io : List Bool} {ss : List Slot} {ds : List D} {e : Env}, (writeBack io ss ds e).length = e.length
  | [], _, _, _ => by simp [writeBack]
  | true :: bs, [], _, _ => by simp [writeBack]
  | false :: bs, [], _, _ => by simp [writeBack]
  | true :: bs, s :: ss, [], _ => by simp [writeBack]
  | false :: bs, s :: ss, [], _ => by simp [writeBack]
  | false :: bs, s :: ss, d :: ds, e => by unfold writeBack; exact wb_len
  | true :: bs, s :: ss, d :: ds, e => by
    unfold writeBack
    obtain ⟨m, x⟩ := s
    cases m with
    | al j =>
      dsimp only
      split
      · rw [wb_len, List.length_set]
      · exact wb_len
    | _ => exact wb_len
theorem wb_same {k : Nat} : ∀ {io : List Bool} {ss : List Slot} {ds : List D} {e : Env}, (∀ (i : Nat) (s : Slot), io[i]? = some true → ss[i]? = some s → s.m ≠ .al k) → (writeBack io ss ds e)[k]? = e[k]?
  | [], _, _, _, _ => by simp [writeBack]
  | true :: bs, [], _, _, _ => by simp [writeBack]
  | false :: bs, [], _, _, _ => by simp [writeBack]
  | true :: bs, s :: ss, [], _, _ => by simp [writeBack]
  | false :: bs, s :: ss, [], _, _ => by simp [writeBack]
  | false :: bs, s :: ss, d :: ds, e, h => by
    unfold writeBack
    exact wb_same fun i t h1 h2 => h (i + 1) t (by simpa using h1) (by simpa using h2)
  | true :: bs, s :: ss, d :: ds, e, h => by
    have ih : ∀ e' : Env, (writeBack bs ss ds e')[k]? = e'[k]? := fun e' => wb_same fun i t h1 h2 => h (i + 1) t (by simpa using h1) (by simpa using h2)
    have h0 := h 0 s rfl rfl
    unfold writeBack
    obtain ⟨m, x⟩ := s
    cases m with
    | al j =>
      dsimp only
      have : j ≠ k := fun z => h0 (by rw [z])
      split
      · rw [ih, List.getElem?_set_ne this]
      · exact ih e
    | _ => exact ih e
theorem wb_at {k : Nat} {t : Slot} : ∀ {io : List Bool} {ss : List Slot} {ds : List D} {e : Env} {i : Nat} {s : Slot} {d : D}, io[i]? = some true → ss[i]? = some s → s.m = .al k → ds[i]? = some d → e[k]? = some (some t) →
    (∀ (i' : Nat) (s' : Slot), i' ≠ i → io[i']? = some true → ss[i']? = some s' → s'.m ≠ .al k) → (writeBack io ss ds e)[k]? = some (some ⟨t.m, d⟩)
  | [], _, _, _, i, _, _, h, _, _, _, _, _ => by simp at h
  | b :: bs, [], _, _, i, _, _, _, h, _, _, _, _ => by simp at h
  | b :: bs, s :: ss, [], _, i, _, _, _, _, _, h, _, _ => by simp at h
  | b :: bs, s :: ss, d :: ds, e, 0, s', d', h1, h2, h3, h4, h5, u => by
    simp at h1 h2 h4
    subst h1; subst h2; subst h4
    unfold writeBack
    obtain ⟨m, x⟩ := s
    have h3' : m = .al k := h3
    subst h3'
    dsimp only
    rw [h5]
    dsimp only
    rw [wb_same fun i t h1 h2 => u (i + 1) t (by omega) (by simpa using h1) (by simpa using h2), List.getElem?_set_self (lt_of_get h5)]
  | b :: bs, s :: ss, d :: ds, e, i + 1, s', d', h1, h2, h3, h4, h5, u => by
    simp at h1 h2 h4
    have ih : ∀ e' : Env, e'[k]? = some (some t) → (writeBack bs ss ds e')[k]? = some (some ⟨t.m, d'⟩) := fun e' he => wb_at h1 h2 h3 h4 he fun i' s'' hi h1' h2' => u (i' + 1) s'' (by omega) (by simpa using h1') (by simpa using h2')
    cases b with
    | false => unfold writeBack; exact ih e h5
    | true =>
      unfold writeBack
      have h0 := u 0 s (by omega) rfl rfl
      obtain ⟨m, x⟩ := s
      cases m with
      | al j =>
        dsimp only
        have : j ≠ k := fun z => h0 (by rw [z])
        split
        · exact ih _ (by rw [List.getElem?_set_ne this]; exact h5)
        · exact ih e h5
      | _ => exact ih e h5
theorem argsOk_get {st : Bool} {e : Env} {ss : List Slot} : ∀ {bs : List Bool} {r : List Slot}, argsOk st e ss bs r = true → bs.length = r.length ∧ ∀ (i : Nat) b s, bs[i]? = some b → r[i]? = some s → argOk st e ss b s = true
  | [], [], _ => ⟨rfl, fun i b s h => by simp at h⟩
  | [], s :: r, h => by simp [argsOk] at h
  | b :: bs, [], h => by simp [argsOk] at h
  | b :: bs, s :: r, h => by
    unfold argsOk at h
    rw [Bool.and_eq_true] at h
    obtain ⟨l, g⟩ := argsOk_get h.2
    refine ⟨by simp [l], fun i b' s' h1 h2 => ?_⟩
    cases i with
    | zero => simp at h1 h2; subst h1; subst h2; exact h.1
    | succ i => exact g i b' s' (by simpa using h1) (by simpa using h2)
theorem filter_two {p : Slot → Bool} : ∀ {ss : List Slot} {i j : Nat} {a b : Slot}, i ≠ j → ss[i]? = some a → ss[j]? = some b → p a = true → p b = true → 2 ≤ (ss.filter p).length
  | [], i, j, _, _, _, h, _, _, _ => by simp at h
  | s :: ss, 0, 0, _, _, ne, _, _, _, _ => absurd rfl ne
  | s :: ss, 0, j + 1, a, b, _, h1, h2, pa, pb => by
    simp at h1 h2; subst h1
    rw [List.filter_cons, if_pos pa, List.length_cons]
    have : 0 < (ss.filter p).length := List.length_pos_of_mem (List.mem_filter.mpr ⟨List.mem_of_getElem? h2, pb⟩)
    omega
  | s :: ss, i + 1, 0, a, b, _, h1, h2, pa, pb => by
    simp at h1 h2; subst h2
    rw [List.filter_cons, if_pos pb, List.length_cons]
    have : 0 < (ss.filter p).length := List.length_pos_of_mem (List.mem_filter.mpr ⟨List.mem_of_getElem? h1, pa⟩)
    omega
  | s :: ss, i + 1, j + 1, a, b, ne, h1, h2, pa, pb => by
    have ih := filter_two (p := p) (ss := ss) (i := i) (j := j) (by omega) (by simpa using h1) (by simpa using h2) pa pb
    rw [List.filter_cons]
    split
    · rw [List.length_cons]; omega
    · exact ih
theorem derefs_get {e : Env} : ∀ {ss : List Slot} {ds : List D}, derefs e ss = some ds → ss.length = ds.length ∧ ∀ (i : Nat) s d, ss[i]? = some s → ds[i]? = some d → deref e s = some d
  | [], ds, h => by cases h; exact ⟨rfl, fun i s d h => by simp at h⟩
  | s :: ss, ds, h => by
    unfold derefs at h
    cases e1 : deref e s with
    | none => rw [e1] at h; cases h
    | some d =>
      cases e2 : derefs e ss with
      | none => rw [e1, e2] at h; cases h
      | some r =>
        rw [e1, e2] at h; cases h
        obtain ⟨l, g⟩ := derefs_get e2
        refine ⟨by simp [l], fun i s' d' h1 h2 => ?_⟩
        cases i with
        | zero => simp at h1 h2; subst h1; subst h2; exact e1
        | succ i => exact g i s' d' (by simpa using h1) (by simpa using h2)
end

end VM

/-! VMF: a call's reading is granted -/
namespace VM
open PySem PySem.Spec PyProof.Rows L2

noncomputable def upT : List Bool → List Slot → List D → List Slot
  | true :: bs, s :: ss, d :: ds => (if s.m = .ow then ⟨.ow, d⟩ else s) :: upT bs ss ds
  | false :: bs, s :: ss, _ :: ds => s :: upT bs ss ds
  | _, ss, _ => ss
theorem upT_len : ∀ {io : List Bool} {ss : List Slot} {ds : List D}, (upT io ss ds).length = ss.length
  | [], _, _ => rfl
  | true :: bs, [], _ => rfl
  | false :: bs, [], _ => rfl
  | true :: bs, s :: ss, [] => rfl
  | false :: bs, s :: ss, [] => rfl
  | true :: bs, s :: ss, d :: ds => by simp [upT, upT_len (io := bs) (ss := ss) (ds := ds)]
  | false :: bs, s :: ss, d :: ds => by simp [upT, upT_len (io := bs) (ss := ss) (ds := ds)]
theorem upT_get : ∀ {io : List Bool} {ss : List Slot} {ds : List D} {i : Nat} {s : Slot}, ss[i]? = some s → (∀ d, io[i]? = some true → s.m = .ow → ds[i]? = some d → (upT io ss ds)[i]? = some ⟨.ow, d⟩) ∧
    ((io[i]? = some false ∨ s.m ≠ .ow) → (upT io ss ds)[i]? = some s)
  | [], ss, ds, i, s, h => ⟨fun d h => by simp at h, fun _ => h⟩
  | b :: bs, [], ds, i, s, h => by simp at h
  | true :: bs, s :: ss, [], i, t, h => ⟨fun d _ _ h => by simp at h, fun _ => h⟩
  | false :: bs, s :: ss, [], i, t, h => ⟨fun d _ _ h => by simp at h, fun _ => h⟩
  | true :: bs, s :: ss, d :: ds, 0, t, h => by
    simp at h; subst h
    refine ⟨fun d' _ hm hd => ?_, fun hh => ?_⟩
    · simp at hd; subst hd
      simp [upT, hm]
    · rcases hh with hh | hh
      · simp at hh
      · simp [upT, hh]
  | false :: bs, s :: ss, d :: ds, 0, t, h => by
    simp at h; subst h
    exact ⟨fun d' z => by simp at z, fun _ => by simp [upT]⟩
  | true :: bs, s :: ss, d :: ds, i + 1, t, h => by
    have ih := upT_get (io := bs) (ss := ss) (ds := ds) (i := i) (s := t) (by simpa using h)
    simpa [upT] using ih
  | false :: bs, s :: ss, d :: ds, i + 1, t, h => by
    have ih := upT_get (io := bs) (ss := ss) (ds := ds) (i := i) (s := t) (by simpa using h)
    simpa [upT] using ih
theorem outsClean_get : ∀ {io : List Bool} {ds : List D} {i : Nat} {d : D}, outsClean io ds = true → io[i]? = some true → ds[i]? = some d → d.kpu = true
  | [], _, i, _, _, h, _ => by simp at h
  | b :: bs, [], i, _, _, _, h => by simp at h
  | true :: bs, d :: ds, 0, e, h, _, h2 => by
    simp at h2; subst h2
    unfold outsClean at h
    exact (Bool.and_eq_true _ _ ▸ h).1
  | false :: bs, d :: ds, 0, e, h, h1, _ => by simp at h1
  | true :: bs, d :: ds, i + 1, e, h, h1, h2 => by
    unfold outsClean at h
    exact outsClean_get (Bool.and_eq_true _ _ ▸ h).2 (by simpa using h1) (by simpa using h2)
  | false :: bs, d :: ds, i + 1, e, h, h1, h2 => by
    unfold outsClean at h
    exact outsClean_get h (by simpa using h1) (by simpa using h2)

theorem wb_mode {k : Nat} : ∀ {io : List Bool} {ss : List Slot} {ds : List D} {e : Env} {s : Slot}, (writeBack io ss ds e)[k]? = some (some s) → ∃ z : Slot, e[k]? = some (some z) ∧ z.m = s.m
  | [], _, _, e, s, h => ⟨s, by simpa [writeBack] using h, rfl⟩
  | true :: bs, [], _, e, s, h => ⟨s, by simpa [writeBack] using h, rfl⟩
  | false :: bs, [], _, e, s, h => ⟨s, by simpa [writeBack] using h, rfl⟩
  | true :: bs, t :: ss, [], e, s, h => ⟨s, by simpa [writeBack] using h, rfl⟩
  | false :: bs, t :: ss, [], e, s, h => ⟨s, by simpa [writeBack] using h, rfl⟩
  | false :: bs, t :: ss, d :: ds, e, s, h => by
    unfold writeBack at h
    exact wb_mode h
  | true :: bs, t :: ss, d :: ds, e, s, h => by
    unfold writeBack at h
    obtain ⟨m, x⟩ := t
    cases m with
    | al j =>
      dsimp only at h
      cases ej : e[j]? with
      | none => rw [ej] at h; exact wb_mode h
      | some o =>
        cases o with
        | none => rw [ej] at h; exact wb_mode h
        | some u =>
          rw [ej] at h
          obtain ⟨z, h1, h2⟩ := wb_mode h
          by_cases hj : j = k
          · subst hj
            rw [List.getElem?_set_self (lt_of_get ej)] at h1
            cases h1
            exact ⟨u, ej, h2⟩
          · rw [List.getElem?_set_ne hj] at h1
            exact ⟨z, h1, h2⟩
    | _ => exact wb_mode h
section
variable {n : Nat} {G : Gi} {IO : En} {H0 Hf H : Hp} {σ : L2.St} {env : Env}
theorem SR.add_ow (R : SR n G IO H0 Hf σ env H) {p : Addr} {o : HO} {d : D} (h1 : Hf p = none) (h2 : H0 p = none) (h3 : H p = some o) (t : TopO G Hf o d)
    (nin : ∀ (i : Nat) (s : Slot), env[i]? = some (some s) → s.m.mut = true → σ[i]? = some (some (V.ref p)) → False) (fre' : FrOk G H0 Hf (σ ++ [some (V.ref p)]) (env ++ [ow d]) H) : SR n G IO H0 Hf (σ ++ [some (V.ref p)]) (env ++ [ow d]) H := by
  refine ⟨R.sub, R.keep, R.grow, R.nf, by simp [R.len], fun i d' h => ?_, fun i d' h => ?_, fun i d' h => ?_, fun i j d' h => ?_, fun i j a b w ne ha hb ma mb g1 g2 => ?_, fre'⟩
  · rcases snoc_cases h with ⟨hi, h⟩ | ⟨hi, h⟩
    · obtain ⟨w, e, q⟩ := R.shr i d' h
      exact ⟨w, by rw [get_before (R.lift h)]; exact e, q⟩
    · cases h
  · rcases snoc_cases h with ⟨hi, h⟩ | ⟨hi, h⟩
    · obtain ⟨q, x, e, z⟩ := R.own i d' h
      exact ⟨q, x, by rw [get_before (R.lift h)]; exact e, z⟩
    · cases h
      refine ⟨p, o, ?_, h1, h2, h3, t⟩
      rw [hi, ← R.len]; exact get_last
  · rcases snoc_cases h with ⟨hi, h⟩ | ⟨hi, h⟩
    · obtain ⟨q, x, e, z⟩ := R.inout i d' h
      exact ⟨q, x, by rw [get_before (R.lift h)]; exact e, z⟩
    · cases h
  · rcases snoc_cases h with ⟨hi, h⟩ | ⟨hi, h⟩
    · obtain ⟨jn, w, e1, e2, s, e3, e4⟩ := R.ali i j d' h
      exact ⟨jn, w, by rw [get_before (R.lift h)]; exact e1, by rw [get_before (R.lift e3)]; exact e2, s, by rw [get_before (lt_of_get e3)]; exact e3, e4⟩
    · cases h
  · rcases snoc_cases ha with ⟨hi, ha⟩ | ⟨hi, ha⟩
    · rcases snoc_cases hb with ⟨hj, hb⟩ | ⟨hj, hb⟩
      · rw [get_before (R.lift ha)] at g1
        rw [get_before (R.lift hb)] at g2
        exact R.sep i j a b w ne ha hb ma mb g1 g2
      · rw [get_before (R.lift ha)] at g1
        have : w = V.ref p := by rw [hj, ← R.len, get_last] at g2; exact (Option.some.inj (Option.some.inj g2)).symm
        subst this
        exact nin i a ha ma g1
    · rcases snoc_cases hb with ⟨hj, hb⟩ | ⟨hj, hb⟩
      · rw [get_before (R.lift hb)] at g2
        have : w = V.ref p := by rw [hi, ← R.len, get_last] at g1; exact (Option.some.inj (Option.some.inj g1)).symm
        subst this
        exact nin j b hb mb g2
      · exact ne (hi.trans hj.symm)
end

section
variable {P : Pl} {n : Nat} {IO : En} {H0 Hf H : Hp} {σ tv : L2.St} {e te : Env} {vs : List V} {ss : List Slot} {io : List Bool} {ds : List D} {st : Bool}

noncomputable def rt (b : Nat) (ss : List Slot) (i : Nat) : Nat := match ss[i]? with
  | some ⟨.al j, _⟩ => j
  | _ => b + i

structure CallEnv (n : Nat) (G : Gi) (IO : En) (H0 Hf H : Hp) (E : Env) (S : L2.St) (b : Nat) (e : Env) (ss : List Slot) (vs : List V) (io : List Bool) (ds : List D) (st : Bool) : Prop where
  R : SR n G IO H0 Hf S E H
  nb : n ≤ b
  lv : vs.length = ss.length
  lio : io.length = ss.length
  ld : ds.length = ss.length
  le : e.length = n
  base : ∀ j : Nat, j < n → E[j]? = e[j]?
  tmpE : ∀ i : Nat, E[b + i]? = (ss[i]?).map some
  tmpS : ∀ i : Nat, S[b + i]? = (vs[i]?).map some
  ok : ∀ (i : Nat) k s, io[i]? = some k → ss[i]? = some s → argOk st e ss k s = true
  de : ∀ (i : Nat) s d, ss[i]? = some s → ds[i]? = some d → deref e s = some d

variable {G : Gi} {E : Env} {S : L2.St} {b : Nat}
theorem CallEnv.alias (c : CallEnv n G IO H0 Hf H E S b e ss vs io ds st) {i j : Nat} {d : D} {v : V} (hs : ss[i]? = some ⟨.al j, d⟩) (hv : vs[i]? = some v) :
    j < n ∧ S[j]? = some (some v) ∧ ∃ t : Slot, e[j]? = some (some t) ∧ E[j]? = some (some t) ∧ ∀ k, t.m ≠ .al k := by
  have g : E[b + i]? = some (some ⟨.al j, d⟩) := by rw [c.tmpE, hs]; rfl
  obtain ⟨jn, w, e1, e2, t, e3, e4⟩ := c.R.ali _ j d g
  have e1' : S[b + i]? = some (some v) := by rw [c.tmpS, hv]; rfl
  rw [e1'] at e1; cases e1
  exact ⟨jn, e2, t, by rw [← c.base j jn]; exact e3, e3, e4⟩
theorem CallEnv.ioat (c : CallEnv n G IO H0 Hf H E S b e ss vs io ds st) {i : Nat} {s : Slot} {v : V} (hi : io[i]? = some true) (hs : ss[i]? = some s) (hv : vs[i]? = some v) :
    ∃ t : Slot, E[rt b ss i]? = some (some t) ∧ t.m.mut = true ∧ S[rt b ss i]? = some (some v) ∧ (∀ d, ds[i]? = some d → t.d = d) := by
  have h := c.ok i true s hi hs
  obtain ⟨m, d⟩ := s
  cases m with
  | sh => simp [argOk] at h
  | io => simp [argOk] at h
  | fr => simp [argOk] at h
  | ow =>
    have er : rt b ss i = b + i := by unfold rt; rw [hs]
    rw [er]
    refine ⟨⟨.ow, d⟩, by rw [c.tmpE, hs]; rfl, rfl, by rw [c.tmpS, hv]; rfl, fun d' hd => ?_⟩
    have := c.de i _ d' hs hd
    unfold deref at this
    exact Option.some.inj this
  | al j =>
    have er : rt b ss i = j := by unfold rt; rw [hs]
    rw [er]
    obtain ⟨jn, e2, t, e3, e4, e5⟩ := c.alias hs hv
    simp only [argOk, e3, Bool.and_eq_true] at h
    refine ⟨t, e4, h.1, e2, fun d' hd => ?_⟩
    exact (deref_al (c.de i _ d' hs hd) e3).1
theorem CallEnv.uniq (c : CallEnv n G IO H0 Hf H E S b e ss vs io ds st) {i k : Nat} {s t : Slot} (hi : io[i]? = some true) (hs : ss[i]? = some s) (ht : ss[k]? = some t) (ne : i ≠ k) : rt b ss i ≠ rt b ss k := by
  have h := c.ok i true s hi hs
  have al : ∀ {i j : Nat} {d : D}, ss[i]? = some (⟨.al j, d⟩ : Slot) → rt b ss i = j ∧ j < n := fun {i j d} hs => by
    refine ⟨by unfold rt; rw [hs], ?_⟩
    have hl : i < vs.length := by rw [c.lv]; exact lt_of_get hs
    exact (c.alias hs (List.getElem?_eq_getElem hl)).1
  have nal : ∀ {i : Nat} {s : Slot}, ss[i]? = some s → (∀ j, s.m ≠ .al j) → rt b ss i = b + i := fun {i s} hs na => by
    unfold rt
    rw [hs]
    obtain ⟨m, d⟩ := s
    cases m with
    | al j => exact absurd rfl (na j)
    | _ => rfl
  have nb := c.nb
  obtain ⟨m, d⟩ := s
  obtain ⟨m', d'⟩ := t
  by_cases ha : ∃ j, m = .al j
  · obtain ⟨j, rfl⟩ := ha
    obtain ⟨r1, jn⟩ := al hs
    by_cases hb : ∃ j', m' = .al j'
    · obtain ⟨j', rfl⟩ := hb
      obtain ⟨r2, _⟩ := al ht
      rw [r1, r2]
      intro ej
      subst ej
      simp only [argOk, Bool.and_eq_true] at h
      have h2 := filter_two (p := fun t : Slot => decide (t.m = .al j)) ne hs ht (by simp) (by simp)
      have h1 : (ss.filter fun t => decide (t.m = .al j)).length = 1 := by simpa using h.2
      omega
    · rw [r1, nal ht (fun j' z => hb ⟨j', z⟩)]; omega
  · rw [nal hs (fun j z => ha ⟨j, z⟩)]
    by_cases hb : ∃ j', m' = .al j'
    · obtain ⟨j', rfl⟩ := hb
      obtain ⟨r2, jn⟩ := al ht
      rw [r2]; omega
    · rw [nal ht (fun j' z => hb ⟨j', z⟩)]; omega
noncomputable def rdo (E : Env) (b : Nat) (ss : List Slot) (vs : List V) (io : List Bool) : Addr → Prop := fun p =>
  ∃ (i : Nat) (j : Nat) (d : D) (t : Slot), io[i]? = some false ∧ ss[i]? = some ⟨.al j, d⟩ ∧ vs[i]? = some (V.ref p) ∧ E[j]? = some (some t) ∧ t.m.mut = true
theorem SR.mutAt {R : SR n G IO H0 Hf S E H} {k : Nat} {t : Slot} {p : Addr} (ht : E[k]? = some (some t)) (hm : t.m.mut = true) (hp : S[k]? = some (some (V.ref p))) : Hf p = none ∧ ∃ o, H p = some o ∧ TopO G Hf o t.d ∧ (H0 p = none ∨ IO.io p) := by
  obtain ⟨m, d⟩ := t
  cases m with
  | sh => cases hm
  | al j => cases hm
  | fr => cases hm
  | ow =>
    obtain ⟨q, o, e1, a, b, c, t⟩ := R.own k d ht
    rw [hp] at e1; cases e1
    exact ⟨a, o, c, t, .inl b⟩
  | io =>
    obtain ⟨q, o, e1, a, b, c, t⟩ := R.inout k d ht
    rw [hp] at e1; cases e1
    exact ⟨a, o, c, t, .inr b⟩
open Classical in
noncomputable def hfc (Hf H : Hp) (A : Addr → Prop) : Hp := fun b => if A b then H b else Hf b
open Classical in
noncomputable def hfg (Hf Hf' H : Hp) : Hp := fun b => if H b = none ∨ ∃ o, Hf' b = some o ∧ Fxd o then Hf' b else Hf b

theorem CallEnv.rdoAt (c : CallEnv n G IO H0 Hf H E S b e ss vs io ds st) {p : Addr} (h : rdo E b ss vs io p) : Hf p = none ∧ ∃ o d, H p = some o ∧ TopO G Hf o d := by
  obtain ⟨i, j, d, t, h1, h2, h3, h4, h5⟩ := h
  obtain ⟨jn, e2, t', e3, e4, e5⟩ := c.alias h2 h3
  obtain ⟨a, o, x, y, z⟩ := SR.mutAt (R := c.R) h4 h5 e2
  exact ⟨a, o, _, x, y⟩
theorem CallEnv.apart (c : CallEnv n G IO H0 Hf H E S b e ss vs io ds st) {p : Addr} (h : rdo E b ss vs io p) : ¬ IOs G io vs p := by
  rintro (⟨k, hk, hv⟩ | ⟨q, hq, rfl⟩)
  case inr =>
    obtain ⟨_, o, d, e, t⟩ := c.rdoAt h
    exact c.R.grow.ntab e t.mut q hq rfl
  obtain ⟨i, j, d, t, h1, h2, h3, h4, h5⟩ := h
  obtain ⟨jn, e2, _⟩ := c.alias h2 h3
  have hl : k < ss.length := by rw [← c.lio]; exact lt_of_get hk
  obtain ⟨t', a1, a2, a3, _⟩ := c.ioat hk (List.getElem?_eq_getElem hl) hv
  have ne : k ≠ i := fun z => by subst z; rw [hk] at h1; cases h1
  have u := c.uniq hk (List.getElem?_eq_getElem hl) h2 ne
  have r : rt b ss i = j := by unfold rt; rw [h2]
  rw [r] at u
  exact c.R.sep _ _ t' t _ u a1 h4 a2 h5 a3 e2
theorem CallEnv.args (c : CallEnv n G IO H0 Hf H E S b e ss vs io ds st) : Same Hf (hfc Hf H (rdo E b ss vs io)) ∧ Same (hfc Hf H (rdo E b ss vs io)) H ∧ ArgsR G io (hfc Hf H (rdo E b ss vs io)) H vs ds := by
  have s1 : Same Hf (hfc Hf H (rdo E b ss vs io)) := fun q o h => by
    unfold hfc
    by_cases hq : rdo E b ss vs io q
    · rw [(c.rdoAt hq).1] at h; cases h
    · rw [if_neg hq]; exact h
  refine ⟨s1, fun q o h => ?_, c.R.grow.tab, fun q hq => ?_, by rw [c.lv, c.lio], by rw [c.ld, c.lio], fun i v d h1 h2 h3 => ?_, fun i v d h1 h2 h3 => ?_, fun i k v ne h1 h2 h3 h4 => ?_⟩
  · unfold hfc at h
    by_cases hq : rdo E b ss vs io q
    · rw [if_pos hq] at h; exact h
    · rw [if_neg hq] at h; exact c.R.sub q o h
  · unfold hfc
    rw [if_neg fun z => c.R.grow.ntab (c.rdoAt z).2.choose_spec.choose_spec.1 (c.rdoAt z).2.choose_spec.choose_spec.2.mut q hq rfl]
    exact c.R.tnf q hq
  · have hl : i < ss.length := by rw [← c.lio]; exact lt_of_get h1
    have hs := List.getElem?_eq_getElem hl
    generalize ss[i] = s at hs
    have ok := c.ok i false s h1 hs
    have de := c.de i s d hs h3
    obtain ⟨m, x⟩ := s
    cases m with
    | sh =>
      have g : E[b + i]? = some (sh x) := by rw [c.tmpE, hs]; rfl
      obtain ⟨w, e1, r⟩ := c.R.shr _ x g
      rw [c.tmpS, h2] at e1
      cases e1
      have : d = x := by unfold deref at de; exact (Option.some.inj de).symm
      subst this
      exact r.mono s1
    | ow => simp [argOk] at ok
    | io => simp [argOk] at ok
    | fr => simp [argOk] at ok
    | al j =>
      obtain ⟨jn, e2, t, e3, e4, e5⟩ := c.alias hs h2
      have ed : d = t.d := (deref_al de e3).1.symm
      have enf := (deref_al de e3).2
      subst ed
      by_cases hm : t.m.mut = true
      · have hp : ∃ p, v = V.ref p := by
          obtain ⟨m, y⟩ := t
          cases m with
          | sh => cases hm
          | al _ => cases hm
          | fr => cases hm
          | ow => obtain ⟨q, o, e1, _⟩ := c.R.own j y e4; rw [e2] at e1; cases e1; exact ⟨q, rfl⟩
          | io => obtain ⟨q, o, e1, _⟩ := c.R.inout j y e4; rw [e2] at e1; cases e1; exact ⟨q, rfl⟩
        obtain ⟨p, rfl⟩ := hp
        obtain ⟨a, o, x1, y1, z⟩ := SR.mutAt (R := c.R) e4 hm e2
        refine (y1.mono s1).rep ?_
        unfold hfc
        rw [if_pos ⟨i, j, x, t, h1, hs, h2, e4, hm⟩]
        exact x1
      · obtain ⟨m, y⟩ := t
        cases m with
        | ow => exact absurd rfl hm
        | io => exact absurd rfl hm
        | al k => exact absurd rfl (e5 k)
        | fr => exact absurd rfl enf
        | sh =>
          obtain ⟨w, e1, r⟩ := c.R.shr j y e4
          rw [e2] at e1; cases e1
          exact r.mono s1
  · have hl : i < ss.length := by rw [← c.lio]; exact lt_of_get h1
    obtain ⟨t, a1, a2, a3, a4⟩ := c.ioat h1 (List.getElem?_eq_getElem hl) h2
    have hp : ∃ p, v = V.ref p := by
      obtain ⟨m, y⟩ := t
      cases m with
      | sh => cases a2
      | al _ => cases a2
      | fr => cases a2
      | ow => obtain ⟨q, o, e1, _⟩ := c.R.own _ y a1; rw [a3] at e1; cases e1; exact ⟨q, rfl⟩
      | io => obtain ⟨q, o, e1, _⟩ := c.R.inout _ y a1; rw [a3] at e1; cases e1; exact ⟨q, rfl⟩
    obtain ⟨p, rfl⟩ := hp
    obtain ⟨a, o, x1, y1, z⟩ := SR.mutAt (R := c.R) a1 a2 a3
    refine ⟨p, o, rfl, ?_, x1, ?_⟩
    · unfold hfc
      rw [if_neg fun q => c.apart q (.inl ⟨i, h1, h2⟩)]
      exact a
    · rw [← a4 d h3]; exact y1.mono s1
  · have hl : i < ss.length := by rw [← c.lio]; exact lt_of_get h1
    have hl2 : k < ss.length := by rw [← c.lio]; exact lt_of_get h2
    obtain ⟨t, a1, a2, a3, a4⟩ := c.ioat h1 (List.getElem?_eq_getElem hl) h3
    obtain ⟨t', b1, b2, b3, b4⟩ := c.ioat h2 (List.getElem?_eq_getElem hl2) h4
    exact c.R.sep _ _ t t' v (c.uniq h1 (List.getElem?_eq_getElem hl) (List.getElem?_eq_getElem hl2) ne) a1 b1 a2 b2 a3 b3
theorem CallEnv.post (c : CallEnv n G IO H0 Hf H E S b e ss vs io ds st) {Hf' H' : Hp} {outs : List D} (p : Post G io vs (hfc Hf H (rdo E b ss vs io)) H Hf' H') (hE : E = e ++ (te ++ ss.map some)) (hb : b = n + te.length)
    (ho : Outs G io vs Hf' H' outs) (hl : outs.length = ss.length) (hst : st = true ∨ outsClean io outs = true) :
    Same Hf (hfg Hf Hf' H) ∧ SR n G IO H0 (hfg Hf Hf' H) S (writeBack io ss outs e ++ (te ++ (upT io ss outs).map some)) H' ∧
    (∀ v own d, VRes G H Hf' H' v own d → (st = true ∨ clean own d = true) → VRes G H (hfg Hf Hf' H) H' v own d) ∧ (∀ q o, H q = none → Hf' q = some o → hfg Hf Hf' H q = some o) ∧
    (∀ v d, Rep G Hf' v d → (st = true ∨ d.pu = true) → Rep G (hfg Hf Hf' H) v d) ∧ (∀ Q : Addr → Prop, (∀ a o, H a = some o → Q a) → FrOkQ Q G H0 (hfg Hf Hf' H) S (writeBack io ss outs e ++ (te ++ (upT io ss outs).map some)) H') := by
  obtain ⟨s1, s2, _⟩ := c.args
  have sg : Same Hf (hfg Hf Hf' H) := fun q o h => by
    unfold hfg
    split
    · exact p.sf q o (s1 q o h)
    · exact h
  have noTup : ∀ q o d, H q = some o → TopO G Hf o d → ∀ o', Fxd o' → Hf' q ≠ some o' := fun q o d hq t o' fx z => by
    have hs := p.sub q _ z
    by_cases hi : IOs G io vs q
    · rcases hi with ⟨i, h1, h2⟩ | ⟨q', hq', e⟩
      case inr => exact absurd e (c.R.grow.ntab hq t.mut q' hq')
      have hl3 : i < outs.length := by rw [hl, ← c.lio]; exact lt_of_get h1
      obtain ⟨o', g1, g2⟩ := ho.2 i q outs[i] h1 h2 (List.getElem?_eq_getElem hl3)
      rw [hs] at g1
      cases g1
      exact absurd g2.mut fx.nm
    · have := p.keep q o hq hi
      rw [hs] at this
      cases this
      exact absurd t.mut fx.nm
  have emp : st = true → ∀ q, ¬ rdo E b ss vs io q := fun hs q ⟨i, j, d, t, h1, h2, h3, h4, h5⟩ => by
    subst hs
    have ok := c.ok i false _ h1 h2
    obtain ⟨jn, e2, t', e3, e4, e5⟩ := c.alias h2 h3
    rw [h4] at e4; cases e4
    simp [argOk, e3, h5] at ok
  have tr : ∀ (strict : Prop), (strict ∨ st = true) → ∀ q o, Hf' q = some o → (st = true ∨ ¬ Mut (some o)) → hfg Hf Hf' H q = some o := fun _ _ q o h hm => by
    unfold hfg
    by_cases hq : H q = none ∨ ∃ o, Hf' q = some o ∧ Fxd o
    · rw [if_pos hq]; exact h
    · rw [if_neg hq]
      rcases p.nf q o h with z | z | z
      · exact absurd (.inl z) hq
      case inr.inr => exact absurd (.inr ⟨_, h, z⟩) hq
      · unfold hfc at z
        by_cases hr : rdo E b ss vs io q
        · rcases hm with hm | hm
          · exact absurd hr (emp hm q)
          · rw [if_pos hr] at z
            obtain ⟨_, o', d, e1, t⟩ := c.rdoAt hr
            rw [e1] at z; cases z
            exact absurd t.mut hm
        · rw [if_neg hr] at z; exact z
  have repT : ∀ v d, Rep G Hf' v d → (st = true ∨ d.pu = true) → Rep G (hfg Hf Hf' H) v d := fun v d r h => by
    rcases h with h | h
    · exact r.mono fun q o z => tr True (.inl trivial) q o z (.inl h)
    · exact r.pure (fun q o z hm => tr True (.inl trivial) q o z (.inr hm)) h
  have topT : ∀ o d, TopO G Hf' o d → (st = true ∨ d.kpu = true) → TopO G (hfg Hf Hf' H) o d := fun o d r h => by
    rcases h with h | h
    · exact r.mono fun q o z => tr True (.inl trivial) q o z (.inl h)
    · exact r.pure (fun q o z hm => tr True (.inl trivial) q o z (.inr hm)) h
  have nb := c.nb
  suffices A : SR n G IO H0 (hfg Hf Hf' H) S (writeBack io ss outs e ++ (te ++ (upT io ss outs).map some)) H' ∧ ∀ Q : Addr → Prop, (∀ a o, H a = some o → Q a) → FrOkQ Q G H0 (hfg Hf Hf' H) S (writeBack io ss outs e ++ (te ++ (upT io ss outs).map some)) H' from by
    refine ⟨sg, A.1, fun v own d r h => ?_, fun q o hq h => ?_, repT, A.2⟩
    · unfold VRes at r ⊢
      cases own with
      | false => exact repT v d r (by simpa [clean] using h)
      | true =>
        obtain ⟨q, o, e1, e2, e3, e4, t⟩ := r
        refine ⟨q, o, e1, ?_, e3, e4, topT o d t (by simpa [clean] using h)⟩
        unfold hfg
        rw [if_pos (.inl e3)]; exact e2
    · unfold hfg
      rw [if_pos (.inl hq)]; exact h
  refine SR.after2 c.R (IOs G io vs) ?_ sg (fun q o h => ?_) (fun q o h => ?_) p.keep p.grow (fun q o h => ?_) (fun q hqi => ?_) (fun k t q ht hm hq => ?_) fun k => ?_
  · rw [hE]; simp [wb_len, upT_len]
  · unfold hfg at h
    split at h
    · exact p.sub q o h
    · exact p.sub q o (p.sf q o (s1 q o h))
  · unfold hfg at h
    split at h
    · rename_i hq
      rcases hq with hq | ⟨o2, hq, fx⟩
      · exact .inl (c.R.grow q hq)
      · rw [hq] at h; cases h; exact .inr (.inr fx)
    · exact c.R.nf q o h
  · unfold hfg at h
    split at h
    · rename_i hq
      rcases hq with hq | ⟨o2, hq, fx⟩
      · exact .inl hq
      · rw [hq] at h; cases h; exact .inr (.inr fx)
    · exact .inr (.inl h)
  · rcases hqi with ⟨i, hi, hv⟩ | hqi
    case inr => exact .inr hqi
    have hl2 : i < ss.length := by rw [← c.lio]; exact lt_of_get hi
    refine .inl ?_
    obtain ⟨t, a1, a2, a3, _⟩ := c.ioat hi (List.getElem?_eq_getElem hl2) hv
    exact ⟨_, t, a1, a2, a3⟩
  · obtain ⟨a, o, x, t', _⟩ := SR.mutAt (R := c.R) ht hm hq
    unfold hfg
    rw [if_neg (by
      rintro (z | ⟨o2, z, fx⟩)
      · rw [x] at z; cases z
      · exact noTup q o _ x t' o2 fx z)]
    exact a
  · -- which place is it
    by_cases hk : ∃ (i : Nat) (s : Slot), io[i]? = some true ∧ ss[i]? = some s ∧ rt b ss i = k
    · obtain ⟨i, s, hi, hs, hr⟩ := hk
      have hlv : i < vs.length := by rw [c.lv]; exact lt_of_get hs
      have hlo : i < outs.length := by rw [hl]; exact lt_of_get hs
      have hv := List.getElem?_eq_getElem hlv
      have hd := List.getElem?_eq_getElem hlo
      generalize vs[i] = v at hv
      generalize outs[i] = d at hd
      obtain ⟨t, a1, a2, a3, a4⟩ := c.ioat hi hs hv
      have hp : ∃ q, v = V.ref q := by
        obtain ⟨m, y⟩ := t
        cases m with
        | sh => cases a2
        | al _ => cases a2
        | fr => cases a2
        | ow => obtain ⟨q, o, e1, _⟩ := c.R.own _ y a1; rw [a3] at e1; cases e1; exact ⟨q, rfl⟩
        | io => obtain ⟨q, o, e1, _⟩ := c.R.inout _ y a1; rw [a3] at e1; cases e1; exact ⟨q, rfl⟩
      obtain ⟨q, rfl⟩ := hp
      obtain ⟨o, ho1, ho2⟩ := ho.2 i q d hi hv hd
      have hkp : st = true ∨ d.kpu = true := hst.imp (fun z => z) fun z => outsClean_get z hi hd
      rw [hr] at a1 a3
      refine .inr ⟨t.m, t.d, d, q, o, a1, a2, ?_, a3, ho1, topT o d ho2 hkp⟩
      obtain ⟨m, x⟩ := s
      have okx := c.ok i true _ hi hs
      cases m with
      | sh => simp [argOk] at okx
      | io => simp [argOk] at okx
      | fr => simp [argOk] at okx
      | ow =>
        have er : rt b ss i = b + i := by unfold rt; rw [hs]
        have ek : k = n + te.length + i := by rw [← hr, er, hb]
        have h1 := (upT_get (io := io) (ds := outs) hs).1 d hi rfl hd
        have et : t.m = .ow := by
          rw [← hr, er, c.tmpE, hs] at a1
          cases a1; rfl
        rw [ek, List.getElem?_append_right (by rw [wb_len, c.le]; omega), wb_len, c.le, show n + te.length + i - n = te.length + i by omega, List.getElem?_append_right (by omega), Nat.add_sub_cancel_left, List.getElem?_map, h1, et]
        rfl
      | al j =>
        have er : rt b ss i = j := by unfold rt; rw [hs]
        obtain ⟨jn, e2, t', e3, e4, e5⟩ := c.alias hs hv
        have ek : k = j := by rw [← hr, er]
        subst ek
        rw [a1] at e4; cases e4
        rw [List.getElem?_append_left (by rw [wb_len, c.le]; exact jn)]
        refine wb_at hi hs rfl hd e3 fun i' s' hi' h1 h2 => ?_
        intro z
        have u := c.uniq hi hs h2 (Ne.symm hi')
        have r2 : rt b ss i' = k := by
          unfold rt
          rw [h2]
          obtain ⟨m', x'⟩ := s'
          have z' : m' = .al k := z
          subst z'
          rfl
        exact u (er.trans r2.symm)
    · refine .inl ⟨?_, fun s q hs hm hq hio => ?_⟩
      · rw [hE]
        by_cases h1 : k < n
        · rw [List.getElem?_append_left (by rw [wb_len, c.le]; exact h1), List.getElem?_append_left (by rw [c.le]; exact h1)]
          refine wb_same fun i s hi hs z => hk ⟨i, s, hi, hs, ?_⟩
          unfold rt
          rw [hs]
          obtain ⟨m, x⟩ := s
          have z' : m = .al k := z
          subst z'
          rfl
        · have q1 : (writeBack io ss outs e ++ (te ++ (upT io ss outs).map some))[k]? = (te ++ (upT io ss outs).map some)[k - e.length]? := by
            rw [List.getElem?_append_right (by rw [wb_len, c.le]; omega), wb_len]
          have q2 : (e ++ (te ++ ss.map some))[k]? = (te ++ ss.map some)[k - e.length]? := by
            rw [List.getElem?_append_right (by rw [c.le]; omega)]
          rw [q1, q2]
          by_cases h2 : k - e.length < te.length
          · rw [List.getElem?_append_left h2, List.getElem?_append_left h2]
          · have q3 : (te ++ (upT io ss outs).map some)[k - e.length]? = ((upT io ss outs).map some)[k - e.length - te.length]? := List.getElem?_append_right (by omega)
            have q4 : (te ++ ss.map some)[k - e.length]? = (ss.map some)[k - e.length - te.length]? := List.getElem?_append_right (by omega)
            rw [q3, q4]
            have ei : k = b + (k - e.length - te.length) := by rw [hb, c.le]; rw [c.le] at h2; omega
            generalize k - e.length - te.length = i at ei
            rw [List.getElem?_map, List.getElem?_map]
            cases hs : ss[i]? with
            | none =>
              have : (upT io ss outs)[i]? = none := by
                rw [List.getElem?_eq_none_iff, upT_len]
                exact List.getElem?_eq_none_iff.mp hs
              rw [this]
            | some s =>
              have hli : i < io.length := by rw [c.lio]; exact lt_of_get hs
              have hio := List.getElem?_eq_getElem hli
              generalize io[i] = k1 at hio
              rw [(upT_get (io := io) (ds := outs) hs).2 ?_]
              cases k1 with
              | false => exact .inl hio
              | true =>
                refine .inr fun z => hk ⟨i, s, hio, hs, ?_⟩
                unfold rt
                rw [hs]
                obtain ⟨m, x⟩ := s
                have z' : m = .ow := z
                subst z'
                exact ei.symm
      · rcases hio with ⟨i, hi, hv⟩ | ⟨q2, hq2, e2⟩
        case inr =>
          obtain ⟨_, o, e3, t3, _⟩ := SR.mutAt (R := c.R) hs hm hq
          exact c.R.grow.ntab e3 t3.mut q2 hq2 e2
        have hl2 : i < ss.length := by rw [← c.lio]; exact lt_of_get hi
        obtain ⟨t, a1, a2, a3, _⟩ := c.ioat hi (List.getElem?_eq_getElem hl2) hv
        by_cases ne : rt b ss i = k
        · exact hk ⟨i, _, hi, List.getElem?_eq_getElem hl2, ne⟩
        · exact c.R.sep _ _ t s _ ne a1 hs a2 hm a3 hq
theorem SR.add_fr (R : SR n G IO H0 Hf σ env H) {v : V} {d : D} {L : List Addr} (o : Own G Hf H L v d) (nd : L.Nodup) (h1 : ∀ a ∈ L, Hf a = none ∧ H0 a = none)
    (nin : ∀ (i : Nat) (s : Slot) a, a ∈ L → env[i]? = some (some s) → s.m.mut = true → σ[i]? = some (some (V.ref a)) → False) (fq : FrOkQ (fun a => a ∉ L) G H0 Hf σ env H) : SR n G IO H0 Hf (σ ++ [some v]) (env ++ [fr d]) H := by
  classical
  refine ⟨R.sub, R.keep, R.grow, R.nf, by simp [R.len], fun i d' h => ?_, fun i d' h => ?_, fun i d' h => ?_, fun i j d' h => ?_, fun i j a b w ne ha hb ma mb g1 g2 => ?_, ?_⟩
  · rcases snoc_cases h with ⟨hi, h⟩ | ⟨hi, h⟩
    · obtain ⟨w, e, q⟩ := R.shr i d' h
      exact ⟨w, by rw [get_before (R.lift h)]; exact e, q⟩
    · cases h
  · rcases snoc_cases h with ⟨hi, h⟩ | ⟨hi, h⟩
    · obtain ⟨q, x, e, z⟩ := R.own i d' h
      exact ⟨q, x, by rw [get_before (R.lift h)]; exact e, z⟩
    · cases h
  · rcases snoc_cases h with ⟨hi, h⟩ | ⟨hi, h⟩
    · obtain ⟨q, x, e, z⟩ := R.inout i d' h
      exact ⟨q, x, by rw [get_before (R.lift h)]; exact e, z⟩
    · cases h
  · rcases snoc_cases h with ⟨hi, h⟩ | ⟨hi, h⟩
    · obtain ⟨jn, w, e1, e2, s, e3, e4⟩ := R.ali i j d' h
      exact ⟨jn, w, by rw [get_before (R.lift h)]; exact e1, by rw [get_before (R.lift e3)]; exact e2, s, by rw [get_before (lt_of_get e3)]; exact e3, e4⟩
    · cases h
  · rcases snoc_cases ha with ⟨hi, ha⟩ | ⟨hi, ha⟩
    · rcases snoc_cases hb with ⟨hj, hb⟩ | ⟨hj, hb⟩
      · rw [get_before (R.lift ha)] at g1
        rw [get_before (R.lift hb)] at g2
        exact R.sep i j a b w ne ha hb ma mb g1 g2
      · cases hb; cases mb
    · cases ha; cases ma
  · obtain ⟨Ls, w, wq⟩ := fq
    have pick : ∀ {i : Nat} {a : Addr}, a ∈ (if i = env.length then L else Ls i) → (i = env.length ∧ a ∈ L) ∨ (i ≠ env.length ∧ a ∈ Ls i) := fun {i a} h => by
      by_cases hi : i = env.length
      · rw [if_pos hi] at h; exact .inl ⟨hi, h⟩
      · rw [if_neg hi] at h; exact .inr ⟨hi, h⟩
    refine ⟨fun i => if i = env.length then L else Ls i, ⟨fun i x h => ?_, fun i => ?_, fun i a ha => ?_, fun i k a ha hb => ?_, fun i k s a ha hs hm hv => ?_, fun i a ha => ?_⟩⟩
    · rcases snoc_cases h with ⟨hi, h⟩ | ⟨hi, h⟩
      · obtain ⟨u, hu, ou⟩ := w.own i x h
        exact ⟨u, by rw [get_before (R.lift h)]; exact hu, by rw [if_neg (by omega)]; exact ou⟩
      · cases h
        exact ⟨v, by rw [hi, ← R.len]; exact get_last, by rw [if_pos hi]; exact o⟩
    · by_cases hi : i = env.length
      · rw [if_pos hi]; exact nd
      · rw [if_neg hi]; exact w.nd i
    · rcases pick ha with ⟨_, ma⟩ | ⟨_, ma⟩
      · exact h1 a ma
      · exact w.out i a ma
    · rcases pick ha with ⟨e1, ma⟩ | ⟨hi, ma⟩
      · rcases pick hb with ⟨e2, mb⟩ | ⟨hk, mb⟩
        · rw [e1, e2]
        · exact absurd ma (wq k a mb)
      · rcases pick hb with ⟨e2, mb⟩ | ⟨hk, mb⟩
        · exact absurd mb (wq i a ma)
        · exact w.dis _ _ a ma mb
    · rcases snoc_cases hs with ⟨hk, hs⟩ | ⟨hk, hs⟩
      · rw [get_before (R.lift hs)] at hv
        rcases pick ha with ⟨e1, ma⟩ | ⟨hi, ma⟩
        · exact nin k s a ma hs hm hv
        · exact w.sep i k s a ma hs hm hv
      · cases hs; cases hm
    · rcases pick ha with ⟨e1, ma⟩ | ⟨hi, ma⟩
      · subst e1; exact ⟨d, get_last⟩
      · obtain ⟨x, hx⟩ := w.cov i a ma
        exact ⟨x, by rw [get_before (lt_of_get hx)]; exact hx⟩
theorem callW_ok {fs : FS} {tv : L2.St} (S : St0 P n IO H0 Hf σ (tv ++ vs.map some) e (te ++ ss.map some) H) (l : tv.length = te.length) (lv : vs.length = ss.length) (Q : VK) : match callW fs ss st e with
    | .ok s e' => (∀ v Hf' H', Same Hf Hf' → St0 P n IO H0 Hf' σ (tv ++ [some v]) e' (te ++ [some s]) H' → Q v H') → spOf P.exc P.G fs vs H Q (WE P.W σ)
    | .ex c d e' => (∀ cv dx Hf' H', Same Hf Hf' → St0 P n IO H0 Hf' σ tv e' te H' → XR P.exc P.G H0 Hf' H' cv dx c d → P.W cv dx σ H') → spOf P.exc P.G fs vs H Q (WE P.W σ)
    | .no => True := by
  unfold callW
  by_cases ha : argsOk st e ss fs.io ss = true
  · rw [if_pos ha]
    obtain ⟨lio, ok⟩ := argsOk_get ha
    cases ed : derefs e ss with
    | none => trivial
    | some ds =>
      dsimp only
      obtain ⟨ld, de⟩ := derefs_get ed
      have c : CallEnv n P.G IO H0 Hf H (e ++ (te ++ ss.map some)) (σ ++ (tv ++ vs.map some)) (n + te.length) e ss vs fs.io ds st :=
        ⟨S.sr, by omega, lv, lio, ld.symm, S.le, fun j hj => List.getElem?_append_left (by rw [S.le]; exact hj), fun i => by
          rw [List.getElem?_append_right (by rw [S.le]; omega), S.le, show n + te.length + i - n = te.length + i by omega, List.getElem?_append_right (by omega), Nat.add_sub_cancel_left, List.getElem?_map], fun i => by
          rw [List.getElem?_append_right (by rw [S.ls]; omega), S.ls, show n + te.length + i - n = tv.length + i by omega, List.getElem?_append_right (by omega), Nat.add_sub_cancel_left, List.getElem?_map],
          fun i k s h1 h2 => ok i k s h1 h2, fun i s d h1 h2 => de i s d h1 h2⟩
      obtain ⟨s1, s2, ar⟩ := c.args
      cases ef : fs.F ds with
      | no => trivial
      | ok own d outs =>
        dsimp only
        by_cases hc : outs.length = ss.length ∧ (st || (clean own d && outsClean fs.io outs)) = true
        · rw [if_pos hc]
          have h1 : st = true ∨ outsClean fs.io outs = true := by
            rcases Bool.or_eq_true _ _ ▸ hc.2 with h | h
            · exact .inl h
            · exact .inr (Bool.and_eq_true _ _ ▸ h).2
          have h2 : st = true ∨ clean own d = true := by
            rcases Bool.or_eq_true _ _ ▸ hc.2 with h | h
            · exact .inl h
            · exact .inr (Bool.and_eq_true _ _ ▸ h).1
          intro q
          refine ⟨_, ds, s2, ar, ?_⟩
          rw [ef]
          intro v Hf' H' p r o
          obtain ⟨sg, R, vt, fg, _, tq⟩ := c.post p rfl rfl o hc.1 h1
          have r' := vt v own d r h2
          have S' : St0 P n IO H0 (hfg Hf Hf' H) σ (tv ++ vs.map some) (writeBack fs.io ss outs e) (te ++ (upT fs.io ss outs).map some) H' := ⟨by rw [wb_len]; exact S.le, S.ls, fun i s hs k => by obtain ⟨z, h1, h2⟩ := wb_mode hs; rw [← h2]; exact S.na i z h1 k, R⟩
          have S2 := St0.pops ss.length (by simp [lv]) (by simp [upT_len]) S'
          refine q v _ H' sg ?_
          cases own with
          | false => exact S2.push_sh r'
          | true =>
            obtain ⟨w, x, e1, e2, e3, e4, t⟩ := r'
            subst e1
            refine ⟨S2.le, S2.ls, S2.na, ?_⟩
            rw [← List.append_assoc, ← List.append_assoc]
            have nin : ∀ (k : Nat) (s : Slot), (writeBack fs.io ss outs e ++ te)[k]? = some (some s) → s.m.mut = true → (σ ++ tv)[k]? = some (some (V.ref w)) → False := fun k s hk hm hw => ?_
            refine SR.add_ow S2.sr e2 (c.R.grow _ e3) e4 t nin ?_
            · have tq' := tq (fun a => a ≠ w) fun a o e z => by rw [z, e3] at e; cases e
              have lE : (writeBack fs.io ss outs e ++ te).length = (σ ++ tv).length := S2.sr.len.symm
              refine (tq'.to (Q' := fun _ => True) id (fun _ _ _ _ _ _ e => e) (fun i d' h => ?_) (Same.refl _) (fun a o na e m f0 h0 ns => ⟨e, f0, h0, fun j s hs hm hv => ?_⟩) fun _ _ _ _ => trivial).ok
              · rcases snoc_cases h with ⟨hi, h⟩ | ⟨hi, h⟩
                · refine ⟨by show (writeBack fs.io ss outs e ++ (te ++ (upT fs.io ss outs).map some))[i]? = _; rw [← List.append_assoc, List.getElem?_append_left hi]; exact h, fun v hv => ?_⟩
                  have hv : (σ ++ (tv ++ vs.map some))[i]? = some (some v) := hv
                  rw [← List.append_assoc, List.getElem?_append_left (by rw [← lE]; exact hi)] at hv
                  rw [get_before (by rw [← lE]; exact hi)]; exact hv
                · cases h
              · rcases snoc_cases hs with ⟨hj, hs⟩ | ⟨hj, hs⟩
                · rw [get_before (by rw [← lE]; exact hj)] at hv
                  exact ns j s (by rw [← List.append_assoc, List.getElem?_append_left hj]; exact hs) hm (by rw [← List.append_assoc, List.getElem?_append_left (by rw [← lE]; exact hj)]; exact hv)
                · have : V.ref a = V.ref w := by rw [hj, lE, get_last] at hv; exact (Option.some.inj (Option.some.inj hv)).symm
                  exact na (V.ref.inj this)
            -- no thing of ours stands at a place that was free
            obtain ⟨k0, s0, h0, m0⟩ : ∃ (k0 : Nat) (s0 : Slot), (e ++ (te ++ ss.map some))[k]? = some (some s0) ∧ s0.m = s.m := by
              have hkl : k < (writeBack fs.io ss outs e ++ te).length := lt_of_get hk
              rw [List.length_append, wb_len] at hkl
              have hk' : (writeBack fs.io ss outs e ++ (te ++ (upT fs.io ss outs).map some))[k]? = some (some s) := by
                rw [← List.append_assoc, List.getElem?_append_left (lt_of_get hk)]; exact hk
              by_cases hkn : k < e.length
              · rw [List.getElem?_append_left (by rw [wb_len]; exact hkn)] at hk'
                cases hek : e[k]? with
                | none => exact absurd (List.getElem?_eq_none_iff.mp hek) (by omega)
                | some o0 =>
                  obtain ⟨z, hz⟩ := wb_mode (io := fs.io) (ss := ss) (ds := outs) hk'
                  exact ⟨0, z, by rw [List.getElem?_append_left hkn]; exact hz.1, hz.2⟩
              · refine ⟨0, s, ?_, rfl⟩
                rw [List.getElem?_append_right (by omega)]
                rw [List.getElem?_append_right (by rw [wb_len]; omega), wb_len, List.getElem?_append_left (by omega)] at hk'
                rw [List.getElem?_append_left (by omega)]
                exact hk'
            have hw' : (σ ++ (tv ++ vs.map some))[k]? = some (some (V.ref w)) := by
              rw [← List.append_assoc, List.getElem?_append_left (by have := S2.sr.len; rw [this]; exact lt_of_get hk)]
              exact hw
            obtain ⟨_, y, hy, _⟩ := SR.mutAt (R := S.sr) h0 (by rw [m0]; exact hm) hw'
            rw [e3] at hy; cases hy
        · rw [if_neg hc]; trivial
      | okf d outs =>
        dsimp only
        by_cases hc : outs.length = ss.length ∧ st = true
        · rw [if_pos hc]
          intro q
          refine ⟨_, ds, s2, ar, ?_⟩
          rw [ef]
          intro v Hf' H' p r o
          obtain ⟨sg, R, vt, fg, rt', tq⟩ := c.post p rfl rfl o hc.1 (.inl hc.2)
          obtain ⟨L, ow', nd, hL⟩ := r
          have ot : Own P.G (hfg Hf Hf' H) H' L v d := ow'.by' (fun v d r => rt' v d r (.inl hc.2)) (fun q vs e => by unfold hfg; rw [if_pos (.inr ⟨_, e, .inl ⟨vs, rfl⟩⟩)]; exact e) fun _ _ _ e => e
          have S' : St0 P n IO H0 (hfg Hf Hf' H) σ (tv ++ vs.map some) (writeBack fs.io ss outs e) (te ++ (upT fs.io ss outs).map some) H' := ⟨by rw [wb_len]; exact S.le, S.ls, fun i s hs k => by obtain ⟨z, h1, h2⟩ := wb_mode hs; rw [← h2]; exact S.na i z h1 k, R⟩
          have S2 := St0.pops ss.length (by simp [lv]) (by simp [upT_len]) S'
          refine q v _ H' sg ?_
          refine ⟨S2.le, S2.ls, S2.na, ?_⟩
          rw [← List.append_assoc, ← List.append_assoc]
          have lE : (writeBack fs.io ss outs e ++ te).length = (σ ++ tv).length := S2.sr.len.symm
          refine SR.add_fr S2.sr ot nd (fun a ha => ⟨by unfold hfg; rw [if_pos (.inl (hL a ha).2)]; exact (hL a ha).1, c.R.grow _ (hL a ha).2⟩) (fun k s w hwL hk hm hw => ?_) ?_
          · obtain ⟨k0, s0, h0, m0⟩ : ∃ (k0 : Nat) (s0 : Slot), (e ++ (te ++ ss.map some))[k]? = some (some s0) ∧ s0.m = s.m := by
              have hkl : k < (writeBack fs.io ss outs e ++ te).length := lt_of_get hk
              rw [List.length_append, wb_len] at hkl
              have hk' : (writeBack fs.io ss outs e ++ (te ++ (upT fs.io ss outs).map some))[k]? = some (some s) := by
                rw [← List.append_assoc, List.getElem?_append_left (lt_of_get hk)]; exact hk
              by_cases hkn : k < e.length
              · rw [List.getElem?_append_left (by rw [wb_len]; exact hkn)] at hk'
                cases hek : e[k]? with
                | none => exact absurd (List.getElem?_eq_none_iff.mp hek) (by omega)
                | some o0 =>
                  obtain ⟨z, hz⟩ := wb_mode (io := fs.io) (ss := ss) (ds := outs) hk'
                  exact ⟨0, z, by rw [List.getElem?_append_left hkn]; exact hz.1, hz.2⟩
              · refine ⟨0, s, ?_, rfl⟩
                rw [List.getElem?_append_right (by omega)]
                rw [List.getElem?_append_right (by rw [wb_len]; omega), wb_len, List.getElem?_append_left (by omega)] at hk'
                rw [List.getElem?_append_left (by omega)]
                exact hk'
            have hw' : (σ ++ (tv ++ vs.map some))[k]? = some (some (V.ref w)) := by
              rw [← List.append_assoc, List.getElem?_append_left (by have := S2.sr.len; rw [this]; exact lt_of_get hk)]
              exact hw
            obtain ⟨_, y, hy, _⟩ := SR.mutAt (R := S.sr) h0 (by rw [m0]; exact hm) hw'
            rw [(hL w hwL).2] at hy; cases hy
          · have tq' := tq (fun a => a ∉ L) fun a o e z => by rw [(hL a z).2] at e; cases e
            refine tq'.to id (fun _ _ _ _ _ _ e => e) (fun i d' h => ?_) (Same.refl _) (fun a o na e m f0 h0 ns => ⟨e, f0, h0, fun j s hs hm hv => ?_⟩) fun a _ na _ => na
            · have hi := lt_of_get h
              refine ⟨by show (writeBack fs.io ss outs e ++ (te ++ (upT fs.io ss outs).map some))[i]? = _; rw [← List.append_assoc, List.getElem?_append_left hi]; exact h, fun v hv => ?_⟩
              have hv : (σ ++ (tv ++ vs.map some))[i]? = some (some v) := hv
              rw [← List.append_assoc, List.getElem?_append_left (by rw [← lE]; exact hi)] at hv
              exact hv
            · have hj := lt_of_get hs
              exact ns j s (by rw [← List.append_assoc, List.getElem?_append_left hj]; exact hs) hm (by rw [← List.append_assoc, List.getElem?_append_left (by rw [← lE]; exact hj)]; exact hv)
        · rw [if_neg hc]; trivial
      | ex cl d outs =>
        dsimp only
        by_cases hc : outs.length = ss.length ∧ (st || (d.pu && outsClean fs.io outs)) = true
        · rw [if_pos hc]
          have h1 : st = true ∨ outsClean fs.io outs = true := by
            rcases Bool.or_eq_true _ _ ▸ hc.2 with h | h
            · exact .inl h
            · exact .inr (Bool.and_eq_true _ _ ▸ h).2
          have h2 : st = true ∨ d.pu = true := by
            rcases Bool.or_eq_true _ _ ▸ hc.2 with h | h
            · exact .inl h
            · exact .inr (Bool.and_eq_true _ _ ▸ h).1
          intro q
          refine ⟨_, ds, s2, ar, ?_⟩
          rw [ef]
          intro cv dx Hf' H' p r o
          obtain ⟨sg, R, vt, fg, rt', _⟩ := c.post p rfl rfl o hc.1 h1
          have S' : St0 P n IO H0 (hfg Hf Hf' H) σ (tv ++ vs.map some) (writeBack fs.io ss outs e) (te ++ (upT fs.io ss outs).map some) H' := ⟨by rw [wb_len]; exact S.le, S.ls, fun i s hs k => by obtain ⟨z, h1, h2⟩ := wb_mode hs; rw [← h2]; exact S.na i z h1 k, R⟩
          have S2 := St0.pops ss.length (by simp [lv]) (by simp [upT_len]) S'
          obtain ⟨C, f, dd, w, x1, x2, x3, x4, x5⟩ := r
          exact q cv dx _ H' sg S2 ⟨C, f, dd, w, x1, x2, x3, ⟨x4.1, S.sr.grow _ x4.2⟩, rt' w d x5 h2⟩
        · rw [if_neg hc]; trivial
  · rw [if_neg ha]; trivial
end

end VM

/-! VMG: calls as expressions; targets; statements -/
namespace VM
open PySem PySem.Spec PyProof.Rows L2

/-! ### calls from where no repr is under way -/
structure RoomG (k : Nat) (A : Around) : Prop where
  rm : Room k A
  gd : A.guards = some []
theorem RoomG.mono {j k : Nat} {A : Around} (r : RoomG k A) (h : j ≤ k) : RoomG j A := ⟨r.rm.mono h, r.gd⟩
theorem RoomG.deep {k : Nat} {A : Around} (r : RoomG (k + 1) A) (env : PySem.Env) : RoomG k (A.deeper env) := ⟨r.rm.deeper env, r.gd⟩
theorem RoomG.make {k : Nat} {A : Around} (r : RoomG (k + 1) A) (C : Addr) (us : List Value) (kw : List (Str × Value)) : RoomG k (A.under (.builtin "type.__call__" ⟨.ref C :: us, kw⟩)) :=
  ⟨r.rm.make C us kw, by first | exact r.gd | simpa [Around.under, Code.guards, Code.isGuard, guardIds, pushGuards] using r.gd⟩
structure FnOkG (pr : Program) (w : World) (K : PySem.W.Frag) (mg : Str → Option Value) (base : Heap) (cx : CXT) (k : Nat) (f : Addr) (fd : FuncData) (ps : List Str) (sp : Sp) : Prop where
  len : ∀ vs H Q W, sp vs H Q W → vs.length = ps.length
  run : ∀ (A : Around) (fr : List PySem.Env) (s : Shared) (H : Hp) (as : Args) (us : List Value) (vs : List V) (Q : VK) (W : XK), RoomG k A → Env0 pr w K mg base A fr s H → BindsTo s fd as (ps.zip us) → Vals vs us → sp vs H Q W →
    codeAny (model pr w) A (.call (.ref f) as) (CR cx fr pr w H s Q W) s
theorem FnOkG.mono {pr : Program} {w : World} {K : PySem.W.Frag} {mg : Str → Option Value} {base : Heap} {cx : CXT} {j k : Nat} {f : Addr} {fd : FuncData} {ps : List Str} {sp : Sp} (F : FnOkG pr w K mg base cx j f fd ps sp) (h : j ≤ k) :
    FnOkG pr w K mg base cx k f fd ps sp := ⟨F.len, fun A fr s H as us vs Q W r => F.run A fr s H as us vs Q W (r.mono h)⟩
section
variable {X : Cx} {cx : CXT} {k : Nat} {f : Addr} {fd : FuncData} {ps : List Str} {sp : Sp} {W : L2.St → XK} {x : Str} {p pos : Pos} {e : Expr} {es : List Expr} {t : TA}
theorem run_G {pins : List (Addr × Obj)} {σ : L2.St} {H : Hp} {s : Shared} {Q : VK} {us : List Value} {vs : List V} (F : FnOkG X.prog X.w X.K X.mg X.base cx k f fd ps sp) (hr : RoomG k X.A) (hb : Binds X.K fd ps []) (hx : PassesAt cx X σ (W σ))
    (I : Inv X pins σ H s) (r : Vals vs us) (h : sp vs H Q (W σ)) : wpAny (model X.prog X.w) X.A (call (.ref f) us) (EP X pins σ Q) X.xe s := by
  have e1 : (us ++ []).length = ps.length := by rw [List.append_nil, ← r.length, F.len _ _ _ _ h]
  have b1 := hb s us I.kIn e1
  rw [List.append_nil] at b1
  refine wpAny_call (codeAny_mono (F.run _ _ s H ⟨us, []⟩ us vs _ _ hr I.env0 b1 r h) fun r1 s1 h1 => ?_)
  match r1, h1 with
  | .error e2, h1 => exact hx pins H s e2 s1 I h1
  | .ok (.ret u), h1 => exact I.after h1
theorem pe_callG (F : FnOkG X.prog X.w X.K X.mg X.base cx k f fd ps sp) (hr : RoomG k X.A) (hg : Gl X x) (hm : X.mg x = some (.ref f)) (hk : PySem.W.keepIn X.K (.ref f) = true) (hb : Binds X.K fd ps []) (hx : ∀ σ, PassesAt cx X σ (W σ))
    (ha : PA X (e :: es) t) (hdb : (x == ("__debug__" : Str)) = false) (he : starEach (e :: es) X.env = (false, eval e X.env) :: starEach es X.env) (hpl : (backTo pos (starEach es X.env)).any (·.1) = false) :
    PE X (.Call (.Name x p) (e :: es) [] pos) (tCallS sp W t) := by
  refine ⟨fun pins s σ H Q I h => wpAny_Call_Name_kw (ld_glob I hg hm ?_ hdb)⟩
  refine PySem.W.callWith_K (h₀ := X.base) I.ok.mod.kin hk (thn (ha.run pos pins s σ H _ I h) fun us s1 z => ?_) he hpl
  obtain ⟨vs, H1, I1, rv, q⟩ := z
  exact ⟨I1.kIn, run_G F hr hb (hx σ) I1 rv q⟩
end

section
variable {P : Pl} {n : Nat} {IO : En} {H0 Hf H : Hp} {σ tv : L2.St} {env te : Env}
theorem share_ok : ∀ {io : List Bool} {ss : List Slot} {e e2 : Env} {Hf : Hp} {tv : L2.St} {te : Env}, shareArgs io ss e = some e2 → St0 P n IO H0 Hf σ tv e te H → ∃ Hf', Same Hf Hf' ∧ St0 P n IO H0 Hf' σ tv e2 te H
  | [], [], e, e2, Hf, tv, te, h, S => by
    unfold shareArgs at h
    cases h; exact ⟨Hf, Same.refl _, S⟩
  | [], s :: ss, e, e2, Hf, tv, te, h, S => by simp [shareArgs] at h
  | true :: bs, [], e, e2, Hf, tv, te, h, S => by simp [shareArgs] at h
  | false :: bs, [], e, e2, Hf, tv, te, h, S => by simp [shareArgs] at h
  | true :: bs, s :: ss, e, e2, Hf, tv, te, h, S => by
    unfold shareArgs at h
    exact share_ok h S
  | false :: bs, s :: ss, e, e2, Hf, tv, te, h, S => by
    unfold shareArgs at h
    obtain ⟨m, x⟩ := s
    cases m with
    | sh => exact share_ok h S
    | ow => exact share_ok h S
    | io => exact share_ok h S
    | fr => exact share_ok h S
    | al j =>
      dsimp only at h
      cases ej : e[j]? with
      | none => rw [ej] at h; cases h
      | some o =>
        cases o with
        | none => rw [ej] at h; cases h
        | some t =>
          obtain ⟨m, d⟩ := t
          cases m with
          | ow =>
            rw [ej] at h
            obtain ⟨Hf1, s1, S1⟩ := S.freeze ej
            obtain ⟨Hf2, s2, S2⟩ := share_ok h S1
            exact ⟨Hf2, s1.trans s2, S2⟩
          | sh => rw [ej] at h; exact share_ok h S
          | io => rw [ej] at h; cases h
          | al _ => rw [ej] at h; cases h
          | fr => rw [ej] at h; cases h
theorem callS_ok {fs : FS} {e : Env} {vs : List V} {ss : List Slot} (S : St0 P n IO H0 Hf σ (tv ++ vs.map some) e (te ++ ss.map some) H) (l : tv.length = te.length) (lv : vs.length = ss.length) (Q : VK) : match callS fs ss e with
    | .ok s e' => (∀ v Hf' H', Same Hf Hf' → St0 P n IO H0 Hf' σ (tv ++ [some v]) e' (te ++ [some s]) H' → Q v H') → spOf P.exc P.G fs vs H Q (WE P.W σ)
    | .ex c d e' => (∀ cv dx Hf' H', Same Hf Hf' → St0 P n IO H0 Hf' σ tv e' te H' → XR P.exc P.G H0 Hf' H' cv dx c d → P.W cv dx σ H') → spOf P.exc P.G fs vs H Q (WE P.W σ)
    | .no => True := by
  unfold callS
  have h1 := callW_ok (st := true) (fs := fs) S l lv Q
  cases e1 : callW fs ss true e with
  | ok s e' => rw [e1] at h1; exact h1
  | ex c d e' => rw [e1] at h1; exact h1
  | no =>
    dsimp only
    have h2 := callW_ok (st := false) (fs := fs) S l lv Q
    cases e2 : callW fs ss false e with
    | ok s e' => rw [e2] at h2; exact h2
    | ex c d e' => rw [e2] at h2; exact h2
    | no =>
      dsimp only
      cases e3 : shareArgs fs.io ss e with
      | none => trivial
      | some e4 =>
        obtain ⟨Hf1, s1, S1⟩ := share_ok e3 S
        have h3 := callW_ok (st := true) (fs := fs) S1 l lv Q
        dsimp only
        cases e5 : callW fs ss true e4 with
        | no => trivial
        | ok s e' => rw [e5] at h3; exact fun q => h3 fun v Hf2 H2 s2 => q v Hf2 H2 (s1.trans s2)
        | ex c d e' => rw [e5] at h3; exact fun q => h3 fun cv dx Hf2 H2 s2 => q cv dx Hf2 H2 (s1.trans s2)
theorem ev_call {t : TA} {l : Lm} {fs : FS} (f : EvL P t l) : Ev P (tCallS (spOf P.exc P.G fs) (WE P.W) t) (mCall fs l) := by
  intro n IO H0 Hf σ tv env te H S
  have h1 := f n IO H0 Hf σ tv env te H S
  unfold mCall
  cases el : l env with
  | no => trivial
  | ex c d e1 => rw [el] at h1; exact fun w Q => h1 w _
  | ok ss e1 =>
    rw [el] at h1
    dsimp only
    cases ec : callS fs ss e1 with
    | no => trivial
    | ok s e2 =>
      refine fun Q q => h1 _ fun vs Hf1 H1 s1 l1 S1 => ?_
      have h2 := callS_ok (fs := fs) S1 S.l2 l1 Q
      rw [ec] at h2
      exact h2 fun v Hf2 H2 s2 S2 => q v Hf2 H2 (s1.trans s2) S2
    | ex c d e2 =>
      refine fun w Q => h1 _ fun vs Hf1 H1 s1 l1 S1 => ?_
      have h2 := callS_ok (fs := fs) S1 S.l2 l1 Q
      rw [ec] at h2
      exact h2 fun cv dx Hf2 H2 s2 S2 => w cv dx Hf2 H2 (s1.trans s2) S2
noncomputable def FnFact (P : Pl) (x : Str) (fs : FS) : Prop := ∀ X, P.M X → ∃ f fd ps k, FnOkG X.prog X.w X.K X.mg X.base (L2.CX X.prog X.w) k f fd ps (spOf P.exc P.G fs) ∧ RoomG k X.A ∧ X.mg x = some (.ref f) ∧ PySem.W.keepIn X.K (.ref f) = true ∧ Binds X.K fd ps []
theorem se_call {x : Str} {fs : FS} {p pos : Pos} {e : Expr} {es : List Expr} {l : Lm} (hF : FnFact P x fs) (hg : ∀ X, P.M X → Gl X x) (tk : ∀ X, P.M X → Takes X P.W) (hl : SL P (e :: es) l) (hs : (e :: es).all notStar = true) (hdb : (x == ("__debug__" : Str)) = false) :
    SE P (.Call (.Name x p) (e :: es) [] pos) (mCall fs l) := by
  obtain ⟨ts, pt, ft⟩ := hl
  have hs2 := hs
  rw [List.all_cons, Bool.and_eq_true] at hs2
  refine ⟨_, fun X hX => ?_, ev_call ft⟩
  obtain ⟨f, fd, ps, k, F, hr, hm, hk, hb⟩ := hF X hX
  exact pe_callG F hr (hg X hX) hm hk hb (fun σ => passAt (tk X hX) σ) (pa_of (pt X hX) hs) hdb (star_ok hs2.1) (star_any hs2.2)

/-! ### slots -/
noncomputable def NoAl (te : Env) : Prop := ∀ (i : Nat) (s : Slot), te[i]? = some (some s) → ∀ k, s.m ≠ .al k
theorem SR.select {n' : Nat} {G : Gi} {σ' : L2.St} {env' : Env} (R : SR n G IO H0 Hf σ env H) (f : Nat → Nat) (hl : σ'.length = env'.length)
    (inj : ∀ (i j : Nat) (a b : Slot), env'[i]? = some (some a) → env'[j]? = some (some b) → f i = f j → i = j)
    (h : ∀ (i : Nat) (s : Slot), env'[i]? = some (some s) → env[f i]? = some (some s) ∧ σ'[i]? = σ[f i]?) (na : NoAl env') : SR n' G IO H0 Hf σ' env' H := by
  refine ⟨R.sub, R.keep, R.grow, R.nf, hl, fun i d hs => ?_, fun i d hs => ?_, fun i d hs => ?_, fun i j d hs => ?_, fun i j a b w ne ha hb ma mb g1 g2 => ?_,
    R.fre.to f (fun i j d d' h1 h2 => inj i j _ _ h1 h2) (fun i d hs => let ⟨h1, h2⟩ := h i _ hs; ⟨h1, fun v e => by rw [h2]; exact e⟩) (Same.refl _) fun a o e m f0 h0 ns => ⟨e, f0, h0, fun j s hs hm hv => let ⟨h1, h2⟩ := h j s hs; ns (f j) s h1 hm (by rw [← h2]; exact hv)⟩⟩
  · obtain ⟨h1, h2⟩ := h i _ hs
    obtain ⟨v, e, r⟩ := R.shr _ d h1
    exact ⟨v, h2.trans e, r⟩
  · obtain ⟨h1, h2⟩ := h i _ hs
    obtain ⟨p, o, e, r⟩ := R.own _ d h1
    exact ⟨p, o, h2.trans e, r⟩
  · obtain ⟨h1, h2⟩ := h i _ hs
    obtain ⟨p, o, e, r⟩ := R.inout _ d h1
    exact ⟨p, o, h2.trans e, r⟩
  · exact absurd rfl (na i _ hs j)
  · obtain ⟨a1, a2⟩ := h i _ ha
    obtain ⟨b1, b2⟩ := h j _ hb
    exact R.sep (f i) (f j) a b w (fun z => ne (inj i j a b ha hb z)) a1 b1 ma mb (a2 ▸ g1) (b2 ▸ g2)

theorem St0.store {v : V} {s : Slot} (S : St0 P n IO H0 Hf σ (tv ++ [some v]) env (te ++ [some s]) H) (nt : NoAl te) (l : tv.length = te.length) (ns : ∀ k, s.m ≠ .al k) {i : Nat} (hi : i < n) : St0 P n IO H0 Hf (σ.set i (some v)) tv (env.set i (some s)) te H := by
  have le := S.le
  have ls := S.ls
  have na := na_set (j := i) S.na ns
  refine ⟨by simpa using le, by simpa using ls, na, ?_⟩
  have up : ∀ (j : Nat) (a : Slot), (env.set i (some s) ++ te)[j]? = some (some a) → (j = i ∧ a = s) ∨ (j ≠ i ∧ j < n + te.length ∧ (env ++ (te ++ [some s]))[j]? = some (some a) ∧ (σ.set i (some v) ++ tv)[j]? = (σ ++ (tv ++ [some v]))[j]?) := fun j a h => by
    have hj := lt_of_get h
    rw [List.length_append, List.length_set, le] at hj
    by_cases e : j = i
    · subst e
      rw [List.getElem?_append_left (by rw [List.length_set, le]; exact hi), List.getElem?_set_self (by rw [le]; exact hi)] at h
      exact .inl ⟨rfl, (Option.some.inj (Option.some.inj h)).symm⟩
    · refine .inr ⟨e, hj, ?_, ?_⟩
      · by_cases h1 : j < n
        · rw [List.getElem?_append_left (by rw [List.length_set, le]; exact h1), List.getElem?_set_ne (Ne.symm e)] at h
          rw [List.getElem?_append_left (by rw [le]; exact h1)]; exact h
        · rw [List.getElem?_append_right (by rw [List.length_set, le]; omega), List.length_set] at h
          rw [List.getElem?_append_right (by rw [le]; omega), List.getElem?_append_left (by rw [le]; omega)]; exact h
      · by_cases h1 : j < n
        · rw [List.getElem?_append_left (by rw [List.length_set, ls]; exact h1), List.getElem?_set_ne (Ne.symm e), List.getElem?_append_left (by rw [ls]; exact h1)]
        · rw [List.getElem?_append_right (by rw [List.length_set, ls]; omega), List.length_set, List.getElem?_append_right (by rw [ls]; omega), List.getElem?_append_left (by rw [ls]; omega)]
  have hv : (σ.set i (some v) ++ tv)[i]? = some (some v) := by
    rw [List.getElem?_append_left (by rw [List.length_set, ls]; exact hi), List.getElem?_set_self (by rw [ls]; exact hi)]
  have lastE : (env ++ (te ++ [some s]))[n + te.length]? = some (some s) := by
    rw [List.getElem?_append_right (by rw [le]; omega), le, Nat.add_sub_cancel_left]; exact get_last
  have lastS : (σ ++ (tv ++ [some v]))[n + te.length]? = some (some v) := by
    rw [List.getElem?_append_right (by rw [ls]; omega), ls, Nat.add_sub_cancel_left, ← l]; exact get_last
  refine SR.select S.sr (fun j => if j = i then n + te.length else j) (by simp [le, ls, l]) (fun a b x y ha hb e => ?_) (fun j a h => ?_) (fun j a h k => ?_)
  · rcases up a x ha with ⟨e1, _⟩ | ⟨e1, l1, _⟩ <;> rcases up b y hb with ⟨e2, _⟩ | ⟨e2, l2, _⟩
    · omega
    · rw [if_pos e1, if_neg e2] at e; omega
    · rw [if_neg e1, if_pos e2] at e; omega
    · rw [if_neg e1, if_neg e2] at e; exact e
  · rcases up j a h with ⟨e1, e2⟩ | ⟨e1, l1, h1, h2⟩
    · subst e1; subst e2
      rw [if_pos rfl]
      exact ⟨lastE, hv.trans lastS.symm⟩
    · rw [if_neg e1]; exact ⟨h1, h2⟩
  · have hj := lt_of_get h
    by_cases h1 : j < n
    · rw [List.getElem?_append_left (by rw [List.length_set, le]; exact h1)] at h
      exact na j a h k
    · rw [List.getElem?_append_right (by rw [List.length_set, le]; omega)] at h
      exact nt _ a h k

/-! ### targets -/
noncomputable def AsgOk (l : List Nat) (σ σ' : L2.St) : Prop := σ'.length = σ.length ∧ ∀ j, j ∉ l → σ'[j]? = σ[j]?
theorem AsgOk.refl {l : List Nat} {σ : L2.St} : AsgOk l σ σ := ⟨rfl, fun _ _ => rfl⟩
theorem AsgOk.trans {l : List Nat} {σ σ' σ2 : L2.St} (a : AsgOk l σ σ') (b : AsgOk l σ' σ2) : AsgOk l σ σ2 := ⟨b.1.trans a.1, fun j h => (b.2 j h).trans (a.2 j h)⟩
theorem AsgOk.mono {l k : List Nat} {σ σ' : L2.St} (a : AsgOk l σ σ') (h : ∀ j, j ∈ l → j ∈ k) : AsgOk k σ σ' := ⟨a.1, fun j hj => a.2 j fun z => hj (h j z)⟩
theorem AsgOk.set {i : Nat} {σ : L2.St} {v : Option V} : AsgOk [i] σ (σ.set i v) := ⟨by simp, fun j hj => List.getElem?_set_ne (by simpa using Ne.symm (by simpa using hj))⟩
noncomputable def free (e : Env) (i : Nat) : Bool := match e[i]? with
  | some (some s) => decide (s.m ≠ .io)
  | some none => true
  | none => false
structure Tgt where
  run : Slot → Env → Option Env
  asg : List Nat
noncomputable def gN (i : Nat) : Tgt := ⟨fun s e => if free e i then some (e.set i (some s)) else none, [i]⟩
noncomputable def setAll : List Nat → List D → Env → Option Env
  | [], [], e => some e
  | i :: is, d :: ds, e => if free e i then setAll is ds (e.set i (sh d)) else none
  | _, _, _ => none
noncomputable def gT (is : List Nat) : Tgt := ⟨fun s e => match s.m with
  | .sh => match s.d with
    | .tup ds => setAll is ds e
    | .lst ds => setAll is ds e
    | _ => none
  | _ => none, is⟩
noncomputable def EvG (P : Pl) (g : TG) (f : Tgt) : Prop := ∀ n IO H0 Hf σ tv env te H (v : V) (s : Slot), St0 P n IO H0 Hf σ (tv ++ [some v]) env (te ++ [some s]) H → NoAl te → tv.length = te.length → (∀ k, s.m ≠ .al k) → match f.run s env with
  | some env' => ∀ Q : L2.St → Hp → Prop, (∀ σ', AsgOk f.asg σ σ' → St0 P n IO H0 Hf σ' tv env' te H → Q σ' H) → g v σ H Q
  | none => True
noncomputable def SG (P : Pl) (tg : Expr) (f : Tgt) : Prop := ∃ g, (∀ X, P.M X → PG X tg g) ∧ EvG P g f
theorem free_lt {e : Env} {i : Nat} (h : free e i = true) : i < e.length := by
  unfold free at h
  cases he : e[i]? with
  | none => rw [he] at h; cases h
  | some o => exact lt_of_get he
theorem evg_n {i : Nat} : EvG P (gName i) (gN i) := by
  intro n IO H0 Hf σ tv env te H v s S nt l ns
  show match (if free env i then some (env.set i (some s)) else none) with | some env' => _ | none => _
  by_cases hf : free env i = true
  · rw [if_pos hf]
    exact fun Q q => q _ AsgOk.set (S.store nt l ns (by rw [← S.le]; exact free_lt hf))
  · rw [if_neg hf]; trivial
end
end VM

/-! VMH: statements -/
namespace VM
open PySem PySem.Spec PyProof.Rows L2

inductive SA where
  | nx (e : Env) | bk (e : Env) | ct (e : Env) | rt (s : Slot) (e : Env) | ex (c : Str) (d : D) (e : Env) | no
structure Sx where
  run : Env → SA
  asg : List Nat

noncomputable def OutS (P : Pl) (n : Nat) (IO : En) (H0 Hf : Hp) (σ tv : L2.St) (te : Env) (asg : List Nat) (T : Ends → Prop) : SA → Prop
  | .nx e => ∀ D : Ends, (∀ σ' Hf' H', Same Hf Hf' → AsgOk asg σ σ' → St0 P n IO H0 Hf' σ' tv e te H' → D.nx σ' H') → T D
  | .bk e => ∀ D : Ends, (∀ σ' Hf' H', Same Hf Hf' → AsgOk asg σ σ' → St0 P n IO H0 Hf' σ' tv e te H' → D.bk σ' H') → T D
  | .ct e => ∀ D : Ends, (∀ σ' Hf' H', Same Hf Hf' → AsgOk asg σ σ' → St0 P n IO H0 Hf' σ' tv e te H' → D.ct σ' H') → T D
  | .rt s e => ∀ D : Ends, (∀ v σ' Hf' H', Same Hf Hf' → AsgOk asg σ σ' → St0 P n IO H0 Hf' σ' (tv ++ [some v]) e (te ++ [some s]) H' → D.rt v H') → T D
  | .ex c d e => (∀ cv dx σ' Hf' H', Same Hf Hf' → AsgOk asg σ σ' → St0 P n IO H0 Hf' σ' tv e te H' → XR P.exc P.G H0 Hf' H' cv dx c d → P.W cv dx σ' H') → ∀ D, T D
  | .no => True
noncomputable def RtOk (m : Sx) : Prop := ∀ e s e', m.run e = .rt s e' → ∀ k, s.m ≠ .al k
noncomputable def EvS (P : Pl) (t : TS) (m : Sx) : Prop := RtOk m ∧ ∀ n IO H0 Hf σ tv env te H, St0 P n IO H0 Hf σ tv env te H → NoAl te → OutS P n IO H0 Hf σ tv te m.asg (fun D => t D σ H) (m.run env)
noncomputable def SS (P : Pl) (st : Stmt) (m : Sx) : Prop := ∃ t, (∀ X, P.M X → PS X st t) ∧ EvS P t m
noncomputable def SSs (P : Pl) (sts : List Stmt) (m : Sx) : Prop := ∃ t, (∀ X, P.M X → PSs X sts t) ∧ EvS P t m

noncomputable def xSkip : Sx := ⟨fun e => .nx e, []⟩
noncomputable def xBreak : Sx := ⟨fun e => .bk e, []⟩
noncomputable def xCont : Sx := ⟨fun e => .ct e, []⟩
noncomputable def xSeq (a b : Sx) : Sx := ⟨fun e => match a.run e with
  | .nx e1 => b.run e1
  | r => r, a.asg ++ b.asg⟩
noncomputable def xExpr (m : Sm) : Sx := ⟨fun e => match m e with
  | .ok _ e1 => .nx e1
  | .ex c d e1 => .ex c d e1
  | .no => .no, []⟩
noncomputable def xRet (m : Sm) : Sx := ⟨fun e => match m e with
  | .ok ⟨.sh, d⟩ e1 => .rt ⟨.sh, d⟩ e1
  | .ok ⟨.ow, d⟩ e1 => .rt ⟨.ow, d⟩ e1
  | .ok ⟨.fr, d⟩ e1 => .rt ⟨.fr, d⟩ e1
  | .ok ⟨.al j, _⟩ e1 => match e1[j]? with
    | some (some ⟨.ow, d⟩) => .rt ⟨.ow, d⟩ (e1.set j none)
    | some (some ⟨.sh, d⟩) => .rt ⟨.sh, d⟩ e1
    | _ => .no
  | .ok ⟨.io, _⟩ _ => .no
  | .ex c d e1 => .ex c d e1
  | .no => .no, []⟩
noncomputable def xRetN : Sx := ⟨fun e => .rt ⟨.sh, .non⟩ e, []⟩
noncomputable def xAsg (m : Sm) (g : Tgt) : Sx := ⟨fun e => match mE m e with
  | .ok s e1 => match g.run s e1 with
    | some e2 => .nx e2
    | none => .no
  | .ex c d e1 => .ex c d e1
  | .no => .no, g.asg⟩
noncomputable def xIf (c : Tm) (a b : Sx) : Sx := ⟨fun e => match c e with
  | .ok true e1 => a.run e1
  | .ok false e1 => b.run e1
  | .ex c d e1 => .ex c d e1
  | .no => .no, a.asg ++ b.asg⟩
noncomputable abbrev Chk := Option (Nat × D)
open Classical in
noncomputable def chkE : Chk → Env → Bool
  | none, _ => true
  | some (j, d), e => match e[j]? with
    | some (some s) => s.m.mut && decide (s.d = d)
    | _ => false
noncomputable def chkA : Chk → List Nat → Bool
  | none, _ => true
  | some (j, _), l => decide (j ∉ l)
noncomputable def forD (k : Chk) (g : Tgt) (b : Sx) : List D → Env → SA
  | [], e => if chkE k e then .nx e else .no
  | d :: r, e => if chkE k e then match g.run ⟨.sh, d⟩ e with
    | some e1 => match b.run e1 with
      | .nx e2 => forD k g b r e2
      | .ct e2 => forD k g b r e2
      | .bk e2 => .nx e2
      | x => x
    | none => .no
    else .no
inductive IA where
  | ok (ds : List D) (e : Env) (k : Chk) | ex (c : Str) (d : D) (e : Env) | no
noncomputable abbrev Im := Env → IA
noncomputable def xFor (i : Im) (g : Tgt) (b : Sx) : Sx := ⟨fun e => match i e with
  | .ok ds e1 k => if chkA k (g.asg ++ b.asg) then forD k g b ds e1 else .no
  | .ex c d e1 => .ex c d e1
  | .no => .no, g.asg ++ b.asg⟩
noncomputable def KeepC (k : Chk) (σ1 σ' : L2.St) (env' : Env) : Prop := ∀ j d, k = some (j, d) → σ'[j]? = σ1[j]? ∧ ∃ s : Slot, env'[j]? = some (some s) ∧ s.m.mut = true ∧ s.d = d
theorem keepC_of {k : Chk} {σ1 σ' : L2.St} {e : Env} (h : chkE k e = true) (hs : ∀ j d, k = some (j, d) → σ'[j]? = σ1[j]?) : KeepC k σ1 σ' e := fun j d hk => by
  subst hk
  refine ⟨hs j d rfl, ?_⟩
  unfold chkE at h
  cases he : e[j]? with
  | none => simp [he] at h
  | some o => cases o with
    | none => simp [he] at h
    | some s =>
      simp [he] at h
      exact ⟨s, rfl, h.1, h.2⟩
theorem chkA_of {k : Chk} {l : List Nat} (h : chkA k l = true) (j : Nat) (d : D) (hk : k = some (j, d)) : j ∉ l := by
  subst hk
  exact of_decide_eq_true h
section
variable {P : Pl} {n : Nat} {IO : En} {H0 Hf H : Hp} {σ tv : L2.St} {env te : Env}
theorem evs_skip : EvS P tNext xSkip := ⟨fun e s e' h => (by cases h), fun n IO H0 Hf σ tv env te H S _ D q => q σ Hf H (Same.refl _) AsgOk.refl S⟩
theorem sss_nil : SSs P [] xSkip := ⟨_, fun _ _ => pss_nil, evs_skip⟩
theorem OutS.mono {asg asg' : List Nat} {σ0 : L2.St} {Hf0 : Hp} {T : Ends → Prop} {r : SA} (h : OutS P n IO H0 Hf σ tv te asg T r) (s : Same Hf0 Hf) (a : AsgOk asg' σ0 σ) (m : ∀ j, j ∈ asg → j ∈ asg') : OutS P n IO H0 Hf0 σ0 tv te asg' T r := by
  cases r with
  | nx e => exact fun D q => h D fun σ' Hf' H' s' a' S => q σ' Hf' H' (s.trans s') (a.trans (a'.mono m)) S
  | bk e => exact fun D q => h D fun σ' Hf' H' s' a' S => q σ' Hf' H' (s.trans s') (a.trans (a'.mono m)) S
  | ct e => exact fun D q => h D fun σ' Hf' H' s' a' S => q σ' Hf' H' (s.trans s') (a.trans (a'.mono m)) S
  | rt s1 e => exact fun D q => h D fun v σ' Hf' H' s' a' S => q v σ' Hf' H' (s.trans s') (a.trans (a'.mono m)) S
  | ex c d e => exact fun w D => h (fun cv dx σ' Hf' H' s' a' S x => w cv dx σ' Hf' H' (s.trans s') (a.trans (a'.mono m)) S x) D
  | no => trivial
theorem sss_cons {st : Stmt} {rest : List Stmt} {a b : Sx} (h : SS P st a) (g : SSs P rest b) : SSs P (st :: rest) (xSeq a b) := by
  obtain ⟨t, p, fr, f⟩ := h
  obtain ⟨u, p', fr', f'⟩ := g
  refine ⟨_, fun X hX => pss_cons (p X hX) (p' X hX), fun e s e' h => ?_, fun n IO H0 Hf σ tv env te H S nt => ?_⟩
  · have h : (match a.run e with | .nx e1 => b.run e1 | r => r) = .rt s e' := h
    cases ea : a.run e with
    | nx e1 => rw [ea] at h; exact fr' _ _ _ h
    | rt s1 e1 => rw [ea] at h; cases h; exact fr _ _ _ ea
    | bk e1 => rw [ea] at h; cases h
    | ct e1 => rw [ea] at h; cases h
    | ex c d e1 => rw [ea] at h; cases h
    | no => rw [ea] at h; cases h
  have h1 := f n IO H0 Hf σ tv env te H S nt
  have ml : ∀ j, j ∈ a.asg → j ∈ a.asg ++ b.asg := fun j hj => List.mem_append_left _ hj
  have mr : ∀ j, j ∈ b.asg → j ∈ a.asg ++ b.asg := fun j hj => List.mem_append_right _ hj
  show OutS P n IO H0 Hf σ tv te (a.asg ++ b.asg) _ (match a.run env with | .nx e1 => b.run e1 | r => r)
  cases ea : a.run env with
  | nx e1 =>
    rw [ea] at h1
    dsimp only
    have go : ∀ (D : Ends), (∀ σ' Hf' H', Same Hf Hf' → AsgOk a.asg σ σ' → St0 P n IO H0 Hf' σ' tv e1 te H' → u D σ' H') → tSeq t u D σ H := fun D q => h1 { D with nx := u D } q
    have h2 : ∀ σ' Hf' H', St0 P n IO H0 Hf' σ' tv e1 te H' → OutS P n IO H0 Hf' σ' tv te b.asg (fun D => u D σ' H') (b.run e1) := fun σ' Hf' H' S' => f' n IO H0 Hf' σ' tv e1 te H' S' nt
    cases eb : b.run e1 with
    | nx e2 => exact fun D q => go D fun σ' Hf' H' s' a' S' => (h2 σ' Hf' H' S' |> fun z => by rw [eb] at z; exact z D fun σ2 Hf2 H2 s2 a2 S2 => q σ2 Hf2 H2 (s'.trans s2) ((a'.mono ml).trans (a2.mono mr)) S2)
    | bk e2 => exact fun D q => go D fun σ' Hf' H' s' a' S' => (h2 σ' Hf' H' S' |> fun z => by rw [eb] at z; exact z D fun σ2 Hf2 H2 s2 a2 S2 => q σ2 Hf2 H2 (s'.trans s2) ((a'.mono ml).trans (a2.mono mr)) S2)
    | ct e2 => exact fun D q => go D fun σ' Hf' H' s' a' S' => (h2 σ' Hf' H' S' |> fun z => by rw [eb] at z; exact z D fun σ2 Hf2 H2 s2 a2 S2 => q σ2 Hf2 H2 (s'.trans s2) ((a'.mono ml).trans (a2.mono mr)) S2)
    | rt s e2 => exact fun D q => go D fun σ' Hf' H' s' a' S' => (h2 σ' Hf' H' S' |> fun z => by rw [eb] at z; exact z D fun v σ2 Hf2 H2 s2 a2 S2 => q v σ2 Hf2 H2 (s'.trans s2) ((a'.mono ml).trans (a2.mono mr)) S2)
    | ex c d e2 => exact fun w D => go D fun σ' Hf' H' s' a' S' => (h2 σ' Hf' H' S' |> fun z => by rw [eb] at z; exact z (fun cv dx σ2 Hf2 H2 s2 a2 S2 x => w cv dx σ2 Hf2 H2 (s'.trans s2) ((a'.mono ml).trans (a2.mono mr)) S2 x) D)
    | no => trivial
  | bk e1 => rw [ea] at h1; exact fun D q => h1 { D with nx := u D } fun σ' Hf' H' s' a' S' => q σ' Hf' H' s' (a'.mono ml) S'
  | ct e1 => rw [ea] at h1; exact fun D q => h1 { D with nx := u D } fun σ' Hf' H' s' a' S' => q σ' Hf' H' s' (a'.mono ml) S'
  | rt s e1 => rw [ea] at h1; exact fun D q => h1 { D with nx := u D } fun v σ' Hf' H' s' a' S' => q v σ' Hf' H' s' (a'.mono ml) S'
  | ex c d e1 => rw [ea] at h1; exact fun w D => h1 (fun cv dx σ' Hf' H' s' a' S' x => w cv dx σ' Hf' H' s' (a'.mono ml) S' x) { D with nx := u D }
  | no => trivial
noncomputable def notComp : Expr → Bool
  | .ListComp _ _ _ _ => false
  | .SetComp _ _ _ _ => false
  | .DictComp _ _ _ _ _ => false
  | _ => true
theorem swaps_no {e : Expr} {t : Option Expr} {l : Nat} {env : PySem.Env} (h : notComp e = true) : swapsWith e t l env = pure false := by
  cases e <;> first | rfl | (simp [notComp] at h)
theorem ss_expr {e : Expr} {pos : Pos} {m : Sm} (h : SE P e m) (hc : notComp e = true) : SS P (.Expr e pos) (xExpr m) := by
  obtain ⟨t, p, f⟩ := h
  refine ⟨_, fun X hX => ps_expr (p X hX) (swaps_no hc), fun e s e' h => ?_, fun n IO H0 Hf σ tv env te H S nt => ?_⟩
  · have h : (match m e with | .ok _ e1 => SA.nx e1 | .ex c d e1 => .ex c d e1 | .no => .no) = .rt s e' := h
    cases em : m e <;> rw [em] at h <;> cases h
  have h1 := f n IO H0 Hf σ tv env te H S
  show OutS P n IO H0 Hf σ tv te [] _ (match m env with | .ok _ e1 => SA.nx e1 | .ex c d e1 => .ex c d e1 | .no => .no)
  cases em : m env with
  | no => trivial
  | ex c d e1 => rw [em] at h1; exact fun w D => h1 (fun cv dx Hf' H' s' S' x => w cv dx σ Hf' H' s' AsgOk.refl S' x) _
  | ok s e1 => rw [em] at h1; exact fun D q => h1 _ fun v Hf' H' s' S' => q σ Hf' H' s' AsgOk.refl S'.pop
theorem St0.move {v : V} {d d' : D} {j : Nat} (S : St0 P n IO H0 Hf σ (tv ++ [some v]) env (te ++ [some ⟨.al j, d⟩]) H) (nt : NoAl te) (l : tv.length = te.length) (hj : env[j]? = some (ow d')) : St0 P n IO H0 Hf σ (tv ++ [some v]) (env.set j none) (te ++ [ow d']) H := by
  obtain ⟨jn, hv⟩ := S.ali l
  have le := S.le
  have ls := S.ls
  have na : ∀ (i : Nat) (s : Slot), (env.set j none)[i]? = some (some s) → i ≠ j ∧ env[i]? = some (some s) := fun i s hs => by
    by_cases e : j = i
    · subst e
      rw [List.getElem?_set_self (lt_of_get hj)] at hs
      cases hs
    · rw [List.getElem?_set_ne e] at hs
      exact ⟨Ne.symm e, hs⟩
  refine ⟨by simpa using le, ls, fun i s hs => S.na i s (na i s hs).2, ?_⟩
  have up : ∀ (i : Nat) (a : Slot), (env.set j none ++ (te ++ [ow d']))[i]? = some (some a) → (i = n + te.length ∧ a = ⟨.ow, d'⟩) ∨ (i ≠ j ∧ i < n + te.length ∧ (env ++ (te ++ [some ⟨.al j, d⟩]))[i]? = some (some a) ∧ ∀ k, a.m ≠ .al k) := fun i a h => by
    have hi := lt_of_get h
    simp only [List.length_append, List.length_set, List.length_singleton, le] at hi
    by_cases h1 : i < n
    · rw [List.getElem?_append_left (by rw [List.length_set, le]; exact h1)] at h
      obtain ⟨x, y⟩ := na i a h
      exact .inr ⟨x, by omega, by rw [List.getElem?_append_left (by rw [le]; exact h1)]; exact y, S.na i a y⟩
    · rw [List.getElem?_append_right (by rw [List.length_set, le]; omega), List.length_set, le] at h
      by_cases h2 : i < n + te.length
      · rw [List.getElem?_append_left (by omega)] at h
        refine .inr ⟨by omega, h2, ?_, nt _ a h⟩
        rw [List.getElem?_append_right (by rw [le]; omega), le, List.getElem?_append_left (by omega)]; exact h
      · have e : i = n + te.length := by omega
        rw [e, Nat.add_sub_cancel_left, get_last] at h
        exact .inl ⟨e, (Option.some.inj (Option.some.inj h)).symm⟩
  have jE : (env ++ (te ++ [some (⟨.al j, d⟩ : Slot)]))[j]? = some (ow d') := by rw [List.getElem?_append_left (by rw [le]; exact jn)]; exact hj
  have jS : (σ ++ (tv ++ [some v]))[j]? = some (some v) := by rw [List.getElem?_append_left (by rw [ls]; exact jn)]; exact hv
  have lS : (σ ++ (tv ++ [some v]))[n + te.length]? = some (some v) := by
    rw [List.getElem?_append_right (by rw [ls]; omega), ls, Nat.add_sub_cancel_left, ← l]; exact get_last
  refine SR.select S.sr (fun i => if i = n + te.length then j else i) (by simp [le, ls, l]) (fun a b x y ha hb e => ?_) (fun i a h => ?_) (fun i a h k => ?_)
  · rcases up a x ha with ⟨e1, _⟩ | ⟨e1, l1, _⟩ <;> rcases up b y hb with ⟨e2, _⟩ | ⟨e2, l2, _⟩
    · omega
    · rw [if_pos e1, if_neg (by omega)] at e; exact absurd e.symm e2
    · rw [if_neg (by omega), if_pos e2] at e; exact absurd e e1
    · rw [if_neg (by omega), if_neg (by omega)] at e; exact e
  · rcases up i a h with ⟨e1, e2⟩ | ⟨e1, l1, h1, _⟩
    · subst e1; subst e2
      rw [if_pos rfl]
      exact ⟨jE, lS.trans jS.symm⟩
    · rw [if_neg (by omega)]; exact ⟨h1, rfl⟩
  · rcases up i a h with ⟨e1, e2⟩ | ⟨_, _, _, h2⟩
    · subst e2; simp
    · exact h2 k
theorem evs_ret {t : TE} {m : Sm} (f : Ev P t m) : EvS P (tRet t) (xRet m) := by
  refine ⟨fun e s e' h => ?_, fun n IO H0 Hf σ tv env te H S nt => ?_⟩
  · unfold xRet at h
    dsimp only at h
    cases em : m e with
    | no => rw [em] at h; cases h
    | ex c d e1 => rw [em] at h; cases h
    | ok t e1 =>
      rw [em] at h
      obtain ⟨k, d⟩ := t
      cases k with
      | sh => cases h; simp
      | ow => cases h; simp
      | fr => cases h; simp
      | io => cases h
      | al j =>
        dsimp only at h
        cases ej : e1[j]? with
        | none => rw [ej] at h; cases h
        | some o =>
          cases o with
          | none => rw [ej] at h; cases h
          | some u =>
            obtain ⟨k, d'⟩ := u
            cases k with
            | sh => rw [ej] at h; cases h; simp
            | ow => rw [ej] at h; cases h; simp
            | io => rw [ej] at h; cases h
            | fr => rw [ej] at h; cases h
            | al _ => rw [ej] at h; cases h
  have h1 := f n IO H0 Hf σ tv env te H S
  show OutS P n IO H0 Hf σ tv te [] _ (match m env with
    | .ok ⟨.sh, d⟩ e1 => SA.rt ⟨.sh, d⟩ e1
    | .ok ⟨.ow, d⟩ e1 => .rt ⟨.ow, d⟩ e1
    | .ok ⟨.fr, d⟩ e1 => .rt ⟨.fr, d⟩ e1
    | .ok ⟨.al j, _⟩ e1 => match e1[j]? with
      | some (some ⟨.ow, d⟩) => .rt ⟨.ow, d⟩ (e1.set j none)
      | some (some ⟨.sh, d⟩) => .rt ⟨.sh, d⟩ e1
      | _ => .no
    | .ok ⟨.io, _⟩ _ => .no
    | .ex c d e1 => .ex c d e1
    | .no => .no)
  cases em : m env with
  | no => trivial
  | ex c d e1 => rw [em] at h1; exact fun w D => h1 (fun cv dx Hf' H' s' S' x => w cv dx σ Hf' H' s' AsgOk.refl S' x) _
  | ok s e1 =>
    rw [em] at h1
    obtain ⟨k, d⟩ := s
    cases k with
    | sh => exact fun D q => h1 _ fun v Hf' H' s' S' => q v σ Hf' H' s' AsgOk.refl S'
    | ow => exact fun D q => h1 _ fun v Hf' H' s' S' => q v σ Hf' H' s' AsgOk.refl S'
    | fr => exact fun D q => h1 _ fun v Hf' H' s' S' => q v σ Hf' H' s' AsgOk.refl S'
    | io => trivial
    | al j =>
      dsimp only
      cases ej : e1[j]? with
      | none => trivial
      | some o =>
        cases o with
        | none => trivial
        | some s =>
          obtain ⟨k, d'⟩ := s
          cases k with
          | io => trivial
          | fr => trivial
          | al _ => trivial
          | ow => exact fun D q => h1 _ fun v Hf' H' s' S' => q v σ Hf' H' s' AsgOk.refl (S'.move nt S.l2 ej)
          | sh =>
            refine fun D q => h1 _ fun v Hf' H' s' S' => q v σ Hf' H' s' AsgOk.refl ?_
            obtain ⟨jn, hv⟩ := S'.ali S.l2
            obtain ⟨w, e, r⟩ := S'.slot_sh ej
            rw [hv] at e; cases e
            exact S'.pop.push_sh r
theorem ss_ret {e : Expr} {pos : Pos} {m : Sm} (h : SE P e m) : SS P (.Return (some e) pos) (xRet m) := let ⟨_, p, f⟩ := h; ⟨_, fun X hX => ps_ret (p X hX), evs_ret f⟩
theorem mE_noal {m : Sm} {e e1 : Env} {s : Slot} (h : mE m e = .ok s e1) : ∀ k, s.m ≠ .al k := by
  have hF : ∀ {e1 : Env} {s : Slot}, mF m e = .ok s e1 → ∀ k, s.m ≠ .al k := by
    intro e1 s h
    unfold mF at h
    cases em : m e with
    | no => rw [em] at h; cases h
    | ex _ _ _ => rw [em] at h; cases h
    | ok t e2 =>
      rw [em] at h
      obtain ⟨k, d⟩ := t
      cases k with
      | sh => cases h; simp
      | ow => cases h; simp
      | fr => cases h; simp
      | io => cases h
      | al j =>
        dsimp only at h
        cases ej : e2[j]? with
        | none => rw [ej] at h; cases h
        | some o =>
          cases o with
          | none => rw [ej] at h; cases h
          | some u =>
            obtain ⟨k, d'⟩ := u
            cases k with
            | sh => rw [ej] at h; cases h; simp
            | ow => rw [ej] at h; cases h; simp
            | io => rw [ej] at h; cases h
            | fr => rw [ej] at h; cases h
            | al _ => rw [ej] at h; cases h
  unfold mE at h
  cases em : m e with
  | no => rw [em] at h; exact hF h
  | ex _ _ _ => rw [em] at h; exact hF h
  | ok t e2 =>
    rw [em] at h
    obtain ⟨k, d⟩ := t
    cases k with
    | ow => cases h; simp
    | fr => cases h; simp
    | sh => exact hF h
    | io => exact hF h
    | al j => exact hF h
theorem evs_asg {te' : TE} {g : TG} {m : Sm} {f : Tgt} (a : Ev P te' m) (b : EvG P g f) : EvS P (tAsg te' g) (xAsg m f) := by
  refine ⟨fun e s e' h => ?_, ?_⟩
  · unfold xAsg at h
    dsimp only at h
    cases em : mE m e with
    | no => rw [em] at h; cases h
    | ex c d e1 => rw [em] at h; cases h
    | ok s1 e1 =>
      rw [em] at h
      dsimp only at h
      cases ef : f.run s1 e1 <;> rw [ef] at h <;> cases h
  intro n IO H0 Hf σ tv env te H S nt
  have h1 := ev_E a n IO H0 Hf σ tv env te H S
  show OutS P n IO H0 Hf σ tv te f.asg _ (match mE m env with | .ok s e1 => (match f.run s e1 with | some e2 => SA.nx e2 | none => .no) | .ex c d e1 => .ex c d e1 | .no => .no)
  cases em : mE m env with
  | no => trivial
  | ex c d e1 => rw [em] at h1; exact fun w D => h1 (fun cv dx Hf' H' s' S' x => w cv dx σ Hf' H' s' AsgOk.refl S' x) _
  | ok s e1 =>
    rw [em] at h1
    dsimp only
    cases ef : f.run s e1 with
    | none => trivial
    | some e2 =>
      refine fun D q => h1 _ fun v Hf' H' s' S' => ?_
      have h2 := b n IO H0 Hf' σ tv e1 te H' v s S' nt S.l2 (mE_noal em)
      rw [ef] at h2
      exact h2 _ fun σ' a' S2 => q σ' Hf' H' s' a' S2
theorem ss_asg {tg e : Expr} {pos : Pos} {m : Sm} {f : Tgt} (h : SE P e m) (g : SG P tg f) (hs : ∀ X, P.M X → swapsWithSole [tg] e pos.line X.env = pure false) (hw : ∀ X, P.M X → swappedStores [tg] e X.env = pure none)
    (h1 : ∀ env, (assignEach [tg] env).map (·.2) = [assign tg env]) : SS P (.Assign [tg] e pos) (xAsg m f) :=
  let ⟨_, p, a⟩ := h; let ⟨_, p', b⟩ := g; ⟨_, fun X hX => ps_asg (p X hX) (p' X hX) (hs X hX) (hw X hX) (h1 _), evs_asg a b⟩
theorem ss_if {c : Expr} {a b : List Stmt} {pos : Pos} {mc : Tm} {ma mb : Sx} (hc : ST P c mc) (ha : SSs P a ma) (hb : SSs P b mb) : SS P (.If c a b pos) (xIf mc ma mb) := by
  obtain ⟨tc, pc, fc⟩ := hc
  obtain ⟨ta, pa, fra, fa⟩ := ha
  obtain ⟨tb, pb, frb, fb⟩ := hb
  refine ⟨_, fun X hX => ps_if (pc X hX) (pa X hX) (pb X hX), fun e s e' h => ?_, fun n IO H0 Hf σ tv env te H S nt => ?_⟩
  · unfold xIf at h
    dsimp only at h
    cases ec : mc e with
    | no => rw [ec] at h; cases h
    | ex c d e1 => rw [ec] at h; cases h
    | ok k e1 =>
      rw [ec] at h
      cases k with
      | true => exact fra _ _ _ h
      | false => exact frb _ _ _ h
  have h1 := fc n IO H0 Hf σ tv env te H S
  show OutS P n IO H0 Hf σ tv te (ma.asg ++ mb.asg) _ (match mc env with | .ok true e1 => ma.run e1 | .ok false e1 => mb.run e1 | .ex c d e1 => SA.ex c d e1 | .no => .no)
  cases ec : mc env with
  | no => trivial
  | ex c d e1 => rw [ec] at h1; exact fun w D => h1 (fun cv dx Hf' H' s' S' x => w cv dx σ Hf' H' s' AsgOk.refl S' x) _
  | ok k e1 =>
    rw [ec] at h1
    have two : ∀ (t : TS) (m : Sx), EvS P t m → (∀ j, j ∈ m.asg → j ∈ ma.asg ++ mb.asg) → (∀ D H1, t D σ H1 → (if k = true then ta D σ H1 else tb D σ H1)) → OutS P n IO H0 Hf σ tv te (ma.asg ++ mb.asg) (fun D => tIfS tc ta tb D σ H) (m.run e1) := fun t m ⟨_, g⟩ mm way => by
      have h2 : ∀ Hf' H', Same Hf Hf' → St0 P n IO H0 Hf' σ tv e1 te H' → OutS P n IO H0 Hf σ tv te (ma.asg ++ mb.asg) (fun D => t D σ H') (m.run e1) := fun Hf' H' s' S' => (g n IO H0 Hf' σ tv e1 te H' S' nt).mono s' AsgOk.refl mm
      cases em : m.run e1 with
      | no => trivial
      | nx e2 => exact fun D q => h1 _ fun Hf' H' s' S' => way D H' (h2 Hf' H' s' S' |> fun z => by rw [em] at z; exact z D q)
      | bk e2 => exact fun D q => h1 _ fun Hf' H' s' S' => way D H' (h2 Hf' H' s' S' |> fun z => by rw [em] at z; exact z D q)
      | ct e2 => exact fun D q => h1 _ fun Hf' H' s' S' => way D H' (h2 Hf' H' s' S' |> fun z => by rw [em] at z; exact z D q)
      | rt s e2 => exact fun D q => h1 _ fun Hf' H' s' S' => way D H' (h2 Hf' H' s' S' |> fun z => by rw [em] at z; exact z D q)
      | ex c d e2 => exact fun w D => h1 _ fun Hf' H' s' S' => way D H' (h2 Hf' H' s' S' |> fun z => by rw [em] at z; exact z w D)
    cases k with
    | true => exact two ta ma ⟨fra, fa⟩ (fun j hj => List.mem_append_left _ hj) fun D H1 h => iteT h
    | false => exact two tb mb ⟨frb, fb⟩ (fun j hj => List.mem_append_right _ hj) fun D H1 h => iteF h

theorem St0.skip {v : V} {s : Slot} {xv : Option V} {xs : Option Slot} (S : St0 P n IO H0 Hf σ ((tv ++ [xv]) ++ [some v]) env ((te ++ [xs]) ++ [some s]) H) (l : tv.length = te.length) (nt : NoAl te) (ns : ∀ k, s.m ≠ .al k) : St0 P n IO H0 Hf σ (tv ++ [some v]) env (te ++ [some s]) H := by
  have le := S.le
  have ls := S.ls
  refine ⟨le, ls, S.na, ?_⟩
  have up : ∀ (i : Nat) (a : Slot), (env ++ (te ++ [some s]))[i]? = some (some a) → (i = n + te.length ∧ a = s) ∨ (i < n + te.length ∧ (env ++ ((te ++ [xs]) ++ [some s]))[i]? = some (some a) ∧ (σ ++ (tv ++ [some v]))[i]? = (σ ++ ((tv ++ [xv]) ++ [some v]))[i]? ∧ ∀ k, a.m ≠ .al k) := fun i a h => by
    have hi := lt_of_get h
    simp only [List.length_append, List.length_singleton, le] at hi
    by_cases h1 : i < n
    · rw [List.getElem?_append_left (by rw [le]; exact h1)] at h
      refine .inr ⟨by omega, by rw [List.getElem?_append_left (by rw [le]; exact h1)]; exact h, ?_, S.na i a h⟩
      rw [List.getElem?_append_left (by rw [ls]; exact h1), List.getElem?_append_left (by rw [ls]; exact h1)]
    · rw [List.getElem?_append_right (by rw [le]; omega), le] at h
      by_cases h2 : i < n + te.length
      · rw [List.getElem?_append_left (by omega)] at h
        refine .inr ⟨h2, ?_, ?_, nt _ a h⟩
        · rw [List.getElem?_append_right (by rw [le]; omega), le, List.getElem?_append_left (by simp; omega), List.getElem?_append_left (by omega)]; exact h
        · have q1 : (σ ++ (tv ++ [some v]))[i]? = tv[i - n]? := by
            rw [List.getElem?_append_right (by rw [ls]; omega), ls, List.getElem?_append_left (by omega)]
          have q2 : (σ ++ ((tv ++ [xv]) ++ [some v]))[i]? = tv[i - n]? := by
            rw [List.getElem?_append_right (by rw [ls]; omega), ls, List.getElem?_append_left (by simp; omega), List.getElem?_append_left (by omega)]
          rw [q1, q2]
      · have e : i = n + te.length := by omega
        rw [e, Nat.add_sub_cancel_left, get_last] at h
        exact .inl ⟨e, (Option.some.inj (Option.some.inj h)).symm⟩
  have lE : (env ++ ((te ++ [xs]) ++ [some s]))[n + te.length + 1]? = some (some s) := by
    rw [List.getElem?_append_right (by rw [le]; omega), le, show n + te.length + 1 - n = (te ++ [xs]).length by simp; omega]; exact get_last
  have lS : (σ ++ ((tv ++ [xv]) ++ [some v]))[n + te.length + 1]? = some (some v) := by
    rw [List.getElem?_append_right (by rw [ls]; omega), ls, show n + te.length + 1 - n = (tv ++ [xv]).length by simp [l]; omega]; exact get_last
  have lS' : (σ ++ (tv ++ [some v]))[n + te.length]? = some (some v) := by
    rw [List.getElem?_append_right (by rw [ls]; omega), ls, Nat.add_sub_cancel_left, ← l]; exact get_last
  refine SR.select S.sr (fun i => if i = n + te.length then n + te.length + 1 else i) (by simp [le, ls, l]) (fun a b x y ha hb e => ?_) (fun i a h => ?_) (fun i a h k => ?_)
  · rcases up a x ha with ⟨e1, _⟩ | ⟨l1, _⟩ <;> rcases up b y hb with ⟨e2, _⟩ | ⟨l2, _⟩
    · omega
    · rw [if_pos e1, if_neg (by omega)] at e; omega
    · rw [if_neg (by omega), if_pos e2] at e; omega
    · rw [if_neg (by omega), if_neg (by omega)] at e; exact e
  · rcases up i a h with ⟨e1, e2⟩ | ⟨l1, h1, h2, _⟩
    · subst e1; subst e2
      rw [if_pos rfl]
      exact ⟨lE, lS'.trans lS.symm⟩
    · rw [if_neg (by omega)]; exact ⟨h1, h2⟩
  · rcases up i a h with ⟨e1, e2⟩ | ⟨_, _, _, h2⟩
    · subst e2; exact ns k
    · exact h2 k
/-! ### for -/
noncomputable def Walks1 (P : Pl) (n : Nat) (IO : En) (H0 Hf1 : Hp) (σ1 : L2.St) (k : Chk) (xv : Option V) (xs : Option Slot) (J : It) (items : List D) : Prop :=
  ∀ tv te σ' env' Hf' H', Same Hf1 Hf' → KeepC k σ1 σ' env' → St0 P n IO H0 Hf' σ' (tv ++ [xv]) env' (te ++ [xs]) H' → J.stop items.length H' ∧
    ∀ (i : Nat) d, items[i]? = some d → J.go i H' ∧ ∀ x H'', J.yld i H' x H'' → ∃ Hf'', Same Hf' Hf'' ∧ St0 P n IO H0 Hf'' σ' ((tv ++ [xv]) ++ [some x]) env' ((te ++ [xs]) ++ [sh d]) H''
noncomputable def EvI (P : Pl) (wi : TI) (m : Im) : Prop := ∀ n IO H0 Hf σ tv env te H, St0 P n IO H0 Hf σ tv env te H → match m env with
  | .ok ds env' k => ∀ R : It → Hp → Prop, (∀ J xv xs Hf' H', Same Hf Hf' → St0 P n IO H0 Hf' σ (tv ++ [xv]) env' (te ++ [xs]) H' → NoAl [xs] → Walks1 P n IO H0 Hf' σ k xv xs J ds → R J H') → wi σ H R
  | .ex c d env' => (∀ cv dx Hf' H', Same Hf Hf' → St0 P n IO H0 Hf' σ tv env' te H' → XR P.exc P.G H0 Hf' H' cv dx c d → P.W cv dx σ H') → ∀ R, wi σ H R
  | .no => True
noncomputable def SI (P : Pl) (tg iter : Expr) (m : Im) : Prop := ∃ wi, (∀ X, P.M X → PI X tg iter wi) ∧ EvI P wi m
theorem noal_app {a b : Env} (h : NoAl a) (g : NoAl b) : NoAl (a ++ b) := fun i s hs k => by
  by_cases hi : i < a.length
  · rw [List.getElem?_append_left hi] at hs; exact h i s hs k
  · rw [List.getElem?_append_right (by omega)] at hs; exact g _ s hs k
theorem for_at {wi : TI} {g : TG} {tb : TS} {mi : Im} {f : Tgt} {mb : Sx} (fg : EvG P g f) (fr : RtOk mb) (fb : ∀ n IO H0 Hf σ tv env te H, St0 P n IO H0 Hf σ tv env te H → NoAl te → OutS P n IO H0 Hf σ tv te mb.asg (fun D => tb D σ H) (mb.run env))
    {n : Nat} {IO : En} {H0 Hf H : Hp} {σ tv : L2.St} {env te : Env} (l2 : tv.length = te.length) (nt : NoAl te) (h1 : match mi env with
  | .ok ds env' k => ∀ R : It → Hp → Prop, (∀ J xv xs Hf' H', Same Hf Hf' → St0 P n IO H0 Hf' σ (tv ++ [xv]) env' (te ++ [xs]) H' → NoAl [xs] → Walks1 P n IO H0 Hf' σ k xv xs J ds → R J H') → wi σ H R
  | .ex c d env' => (∀ cv dx Hf' H', Same Hf Hf' → St0 P n IO H0 Hf' σ tv env' te H' → XR P.exc P.G H0 Hf' H' cv dx c d → P.W cv dx σ H') → ∀ R, wi σ H R
  | .no => True) : OutS P n IO H0 Hf σ tv te (f.asg ++ mb.asg) (fun D => tFor wi g tb D σ H) ((xFor mi f mb).run env) := by
  show OutS P n IO H0 Hf σ tv te (f.asg ++ mb.asg) _ (match mi env with | .ok ds e1 k => if chkA k (f.asg ++ mb.asg) then forD k f mb ds e1 else .no | .ex c d e1 => SA.ex c d e1 | .no => .no)
  cases ei : mi env with
  | no => trivial
  | ex c d e1 => rw [ei] at h1; exact fun w D => h1 (fun cv dx Hf' H' s' S' x => w cv dx σ Hf' H' s' AsgOk.refl S' x) _
  | ok ds e1 k =>
    rw [ei] at h1
    dsimp only
    by_cases hka : chkA k (f.asg ++ mb.asg) = true
    case neg => rw [if_neg hka]; trivial
    rw [if_pos hka]
    generalize hr : forD k f mb ds e1 = r
    by_cases hno : r = .no
    · subst hno; trivial
    have mg : ∀ j, j ∈ f.asg → j ∈ f.asg ++ mb.asg := fun j hj => List.mem_append_left _ hj
    have mm : ∀ j, j ∈ mb.asg → j ∈ f.asg ++ mb.asg := fun j hj => List.mem_append_right _ hj
    have key : ∀ D : Ends, 
        (∀ σ' Hf' H' e', Same Hf Hf' → AsgOk (f.asg ++ mb.asg) σ σ' → St0 P n IO H0 Hf' σ' tv e' te H' → r = .nx e' → D.nx σ' H') →
        (∀ v s σ' Hf' H' e', Same Hf Hf' → AsgOk (f.asg ++ mb.asg) σ σ' → St0 P n IO H0 Hf' σ' (tv ++ [some v]) e' (te ++ [some s]) H' → r = .rt s e' → D.rt v H') →
        (∀ cv dx cl d σ' Hf' H' e', Same Hf Hf' → AsgOk (f.asg ++ mb.asg) σ σ' → St0 P n IO H0 Hf' σ' tv e' te H' → XR P.exc P.G H0 Hf' H' cv dx cl d → r = .ex cl d e' → P.W cv dx σ' H') → tFor wi g tb D σ H := by
      intro D q1 q2 q3
      refine h1 _ fun J xv xs Hf1 H1 s1 S1 nx wk => ?_
      refine ⟨fun i m σ2 H2 => m = ds.length - i ∧ i ≤ ds.length ∧ ∃ Hf2 e2, Same Hf1 Hf2 ∧ AsgOk (f.asg ++ mb.asg) σ σ2 ∧ St0 P n IO H0 Hf2 σ2 (tv ++ [xv]) e2 (te ++ [xs]) H2 ∧ forD k f mb (ds.drop i) e2 = r,
        ⟨ds.length, by simp, Nat.zero_le _, Hf1, e1, Same.refl _, AsgOk.refl, S1, by simpa using hr⟩, ?_⟩
      rintro i m σ2 H2 ⟨rfl, hi, Hf2, e2, s2, a2, S2, hw⟩
      have hck : chkE k e2 = true := by
        by_cases z : chkE k e2 = true
        · exact z
        · exfalso
          apply hno
          rw [← hw]
          cases ds.drop i with
          | nil => rw [forD, if_neg z]
          | cons d r => rw [forD, if_neg z]
      obtain ⟨stop, go⟩ := wk _ _ σ2 e2 Hf2 H2 s2 (keepC_of hck fun j d hk => a2.2 j (chkA_of hka j d hk)) S2
      by_cases hlt : i < ds.length
      · refine .inr ?_
        have hd := List.getElem?_eq_getElem hlt
        obtain ⟨g1, g2⟩ := go i _ hd
        refine ⟨g1, fun σ3 H3 => ∃ Hf2 e2, Same Hf1 Hf2 ∧ AsgOk (f.asg ++ mb.asg) σ σ3 ∧ St0 P n IO H0 Hf2 σ3 (tv ++ [xv]) e2 (te ++ [xs]) H3 ∧ forD k f mb (ds.drop (i + 1)) e2 = r,
          fun σ3 H3 h => ⟨ds.length - (i + 1), by omega, rfl, hlt, h⟩, fun x H3 hy => ?_⟩
        obtain ⟨Hf3, s3, S3⟩ := g2 x H3 hy
        rw [List.drop_eq_getElem_cons hlt] at hw
        unfold forD at hw
        rw [if_pos hck] at hw
        have h4 := fg n IO H0 Hf3 σ2 _ e2 _ H3 x ⟨.sh, ds[i]⟩ S3 (noal_app nt nx) (by have := S2.l2; exact this) (fun k => by simp)
        cases ef : f.run ⟨.sh, ds[i]⟩ e2 with
        | none => rw [ef] at hw; exact absurd hw.symm hno
        | some e3 =>
          rw [ef] at h4 hw
          refine h4 _ fun σ4 a4 S4 => ?_
          have h5 := fb n IO H0 Hf3 σ4 _ e3 _ H3 S4 (noal_app nt nx)
          dsimp only at hw
          have s23 := s2.trans s3
          have a24 := a2.trans (a4.mono mg)
          cases eb : mb.run e3 with
          | no => rw [eb] at hw; exact absurd hw.symm hno
          | nx e4 => rw [eb] at h5 hw; exact h5 _ fun σ' Hf' H' s' a' S' => ⟨Hf', e4, s23.trans s', a24.trans (a'.mono mm), S', hw⟩
          | ct e4 => rw [eb] at h5 hw; exact h5 _ fun σ' Hf' H' s' a' S' => ⟨Hf', e4, s23.trans s', a24.trans (a'.mono mm), S', hw⟩
          | bk e4 => rw [eb] at h5 hw; exact h5 _ fun σ' Hf' H' s' a' S' => q1 σ' Hf' H' e4 ((s1.trans s23).trans s') (a24.trans (a'.mono mm)) S'.pop hw.symm
          | rt s e4 =>
            rw [eb] at h5 hw
            refine h5 _ fun v σ' Hf' H' s' a' S' => q2 v s σ' Hf' H' e4 ((s1.trans s23).trans s') (a24.trans (a'.mono mm)) ?_ hw.symm
            exact S'.skip l2 nt (fr _ _ _ eb)
          | ex cl d e4 => rw [eb] at h5 hw; exact h5 (fun cv dx σ' Hf' H' s' a' S' x => q3 cv dx cl d σ' Hf' H' e4 ((s1.trans s23).trans s') (a24.trans (a'.mono mm)) S'.pop x hw.symm) _
      · have e : i = ds.length := by omega
        subst e
        refine .inl ⟨stop, q1 σ2 Hf2 H2 e2 (s1.trans s2) a2 S2.pop ?_⟩
        rw [List.drop_length, forD, if_pos hck] at hw
        exact hw.symm
    cases r with
    | no => exact absurd rfl hno
    | nx e => exact fun D q => key D (fun σ' Hf' H' e' s' a' S' z => by cases z; exact q σ' Hf' H' s' a' S') (fun v s σ' Hf' H' e' _ _ _ z => by cases z) (fun cv dx cl d σ' Hf' H' e' _ _ _ _ z => by cases z)
    | rt s e => exact fun D q => key D (fun σ' Hf' H' e' s' a' S' z => by cases z) (fun v s σ' Hf' H' e' s' a' S' z => by cases z; exact q v σ' Hf' H' s' a' S') (fun cv dx cl d σ' Hf' H' e' _ _ _ _ z => by cases z)
    | ex c d e => exact fun w D => key D (fun σ' Hf' H' e' s' a' S' z => by cases z) (fun v s σ' Hf' H' e' _ _ _ z => by cases z) (fun cv dx cl d σ' Hf' H' e' s' a' S' x z => by cases z; exact w cv dx σ' Hf' H' s' a' S' x)
    | bk e => exact fun D q => key D (fun σ' Hf' H' e' s' a' S' z => by cases z) (fun v s σ' Hf' H' e' s' a' S' z => by cases z) (fun cv dx cl d σ' Hf' H' e' _ _ _ _ z => by cases z)
    | ct e => exact fun D q => key D (fun σ' Hf' H' e' s' a' S' z => by cases z) (fun v s σ' Hf' H' e' s' a' S' z => by cases z) (fun cv dx cl d σ' Hf' H' e' _ _ _ _ z => by cases z)
theorem for_rt {mi : Im} {f : Tgt} {mb : Sx} (fr : RtOk mb) : RtOk (xFor mi f mb) := by
  have rk : ∀ (k : Chk) (ds : List D) e s e', forD k f mb ds e = .rt s e' → ∀ j, s.m ≠ .al j := by
    intro k ds
    induction ds with
    | nil => intro e s e' h; rw [forD] at h; split at h <;> cases h
    | cons d ds ih =>
      intro e s e' h
      rw [forD] at h
      split at h
      case isFalse => cases h
      cases hc : f.run ⟨.sh, d⟩ e with
      | none => rw [hc] at h; cases h
      | some e1 =>
        rw [hc] at h
        dsimp only at h
        cases hb : mb.run e1 with
        | nx e2 => rw [hb] at h; exact ih _ _ _ h
        | ct e2 => rw [hb] at h; exact ih _ _ _ h
        | bk e2 => rw [hb] at h; cases h
        | rt s1 e2 => rw [hb] at h; cases h; exact fr _ _ _ hb
        | ex _ _ _ => rw [hb] at h; cases h
        | no => rw [hb] at h; cases h
  intro e s e' h
  unfold xFor at h
  dsimp only at h
  cases ei : mi e with
  | no => rw [ei] at h; cases h
  | ex _ _ _ => rw [ei] at h; cases h
  | ok ds e1 k =>
    rw [ei] at h
    dsimp only at h
    split at h
    · exact rk _ _ _ _ _ h
    · cases h
theorem ss_for {tg iter : Expr} {body : List Stmt} {pos : Pos} {mi : Im} {f : Tgt} {mb : Sx} (hp : ∀ X, P.M X → PassesOwn (model X.prog X.w) X.A X.env X.xe) (hc : ∀ X, P.M X → X.calm = true) (hi : SI P tg iter mi) (hg : SG P tg f) (hb : SSs P body mb)
    (hs : ∀ env x, foldedSetIterable iter env x = pure x) : SS P (.For tg iter body [] pos) (xFor mi f mb) := by
  obtain ⟨wi, pi, fi⟩ := hi
  obtain ⟨g, pg, fg⟩ := hg
  obtain ⟨tb, pb, fr, fb⟩ := hb
  refine ⟨_, fun X hX => ps_for (hp X hX) (hc X hX) (pi X hX) (pg X hX) (pb X hX) (hs _), fun e s e' h => ?_, fun n IO H0 Hf σ tv env te H S nt => ?_⟩
  · exact for_rt fr e s e' h
  exact for_at fg fr fb S.l2 nt (fi n IO H0 Hf σ tv env te H S)
end
end VM

/-! VMI: what is walked; comprehensions -/
namespace VM
open PySem PySem.Spec PyProof.Rows L2

noncomputable def signs (z : Str) : List D := z.cps.toList.map fun c => .str ⟨#[c]⟩
noncomputable def iSeq (m : Sm) : Im := fun e => match mF m e with
  | .ok ⟨.sh, .lst xs⟩ e1 => .ok xs e1 none
  | .ok ⟨.sh, .frl xs⟩ e1 => .ok xs e1 none
  | .ok ⟨.sh, .tup xs⟩ e1 => .ok xs e1 none
  | .ok ⟨.sh, .frt xs⟩ e1 => .ok xs e1 none
  | .ok ⟨.sh, .str z⟩ e1 => .ok (signs z) e1 none
  | .ex c d e1 => .ex c d e1
  | _ => .no
noncomputable def tSeqI (K : PySem.W.Frag) (te : TE) : TI := fun σ H R => te σ H fun x H1 => (∃ a xs, x = .ref a ∧ SqL K H1 a xs ∧ R (Itl K a) H1) ∨ (∃ a xs, x = .ref a ∧ SqT K H1 a xs ∧ R (Itt K a) H1) ∨ ∃ z, x = .str z ∧ R (Its z) H1
theorem pi_seq {X : Cx} {tg l : Expr} {tl : TE} (hl : PE X l tl) : PI X tg l (tSeqI X.K tl) := by
  refine ⟨fun pins s σ H R I h => ?_⟩
  refine thn (hl.run pins s σ H _ I h) fun v s1 ⟨x, H1, I1, r1, q1⟩ => ?_
  rcases q1 with ⟨a, xs, e, hq, q⟩ | ⟨a, xs, e, hq, q⟩ | ⟨z, e, q⟩
  · subst e
    cases r1
    obtain ⟨its, rv, p, hz⟩ := I1.list hq
    refine wpAny_pyIter_list p.isList ?_
    refine ⟨s1.heap.objs.size, [s1.heap.objs.size], _, _, H1, rfl, I1.kept (t' := s1.toks) fun b o e => Heap.get?_push_of_some _ e, turn_list a _, ⟨_, Heap.get?_push_size _ rfl, rfl, rfl⟩, fun b hb => ?_, q⟩
    have e : b = s1.heap.objs.size := by simpa using hb
    subst e
    exact I1.fpOk (Nat.le_refl _) (I1.hok.fresh (Nat.le_refl _))
  · subst e
    cases r1
    obtain ⟨its, rv, p, hz⟩ := I1.tuple hq
    refine wpAny_pyIter_tuple (show s1.heap.IsTuple a its.toArray from p) ?_
    refine ⟨s1.heap.objs.size, [s1.heap.objs.size], _, _, H1, rfl, I1.kept (t' := s1.toks) fun b o e => Heap.get?_push_of_some _ e, turn_tuple a _, ⟨_, Heap.get?_push_size _ rfl, rfl, rfl⟩, fun b hb => ?_, q⟩
    have e : b = s1.heap.objs.size := by simpa using hb
    subst e
    exact I1.fpOk (Nat.le_refl _) (I1.hok.fresh (Nat.le_refl _))
  · subst e
    obtain ⟨t, rfl⟩ := r1
    cases ha : z.cps.all (· < 128)
    · exact wpAny_pyIter_wide ha (pi_one (tk := s1.toks) I1 _ (turn_str _ z t "str_iterator" (.inr rfl)) ⟨_, Heap.get?_push_size _ rfl, rfl, rfl⟩ q)
    · exact wpAny_pyIter_ascii ha (pi_one (tk := s1.toks) I1 _ (turn_str _ z t "str_ascii_iterator" (.inl rfl)) ⟨_, Heap.get?_push_size _ rfl, rfl, rfl⟩ q)

section
variable {P : Pl} {n : Nat} {IO : En} {H0 Hf H : Hp} {σ tv : L2.St} {env te : Env}
theorem St0.held {v : V} {d : D} (S : St0 P n IO H0 Hf σ (tv ++ [some v]) env (te ++ [sh d]) H) (l : tv.length = te.length) : Rep P.G Hf v d := S.at_sh (i := tv.length) get_last (by rw [l]; exact get_last)
theorem noal_sh {d : D} : NoAl [sh d] := fun i s hs k => by
  cases i with
  | zero => simp at hs; subst hs; simp
  | succ i => simp at hs
theorem noal_none : NoAl [none] := fun i s hs k => by
  cases i with
  | zero => simp at hs
  | succ i => simp at hs
theorem walks_tup {Hf1 : Hp} {K : PySem.W.Frag} {a : Addr} {d0 : D} {ds : List D} (hr : ∀ Hf, Rep P.G Hf (.ref a) d0 → ∃ vs, SqT K Hf a vs ∧ Reps P.G Hf vs ds) :
    Walks1 P n IO H0 Hf1 σ none (some (V.ref a)) (sh d0) (Itt K a) ds := by
  intro tv te σ' env' Hf' H' _ _ S
  have l : tv.length = te.length := by have := S.l2; simpa using this
  obtain ⟨vs, h1, h2⟩ := hr Hf' (S.held l)
  have h1' := SqT.mono S.sr.sub h1
  refine ⟨⟨vs, h1', by rw [h2.len]; exact Nat.le_refl _⟩, fun i d hd => ?_⟩
  obtain ⟨v, hv, rv⟩ := h2.get hd
  refine ⟨⟨vs, v, h1', hv⟩, fun x H'' hy => ?_⟩
  obtain ⟨e1, e2⟩ := hy
  subst e1
  have e : v = x := Option.some.inj (hv.symm.trans (e2 vs h1'))
  subst e
  exact ⟨Hf', Same.refl _, S.push_sh rv⟩
theorem walks_str {Hf1 : Hp} {z : Str} {xv : Option V} {xs : Option Slot} : Walks1 P n IO H0 Hf1 σ none xv xs (Its z) (signs z) := by
  intro tv te σ' env' Hf' H' _ _ S
  have hz : (signs z).length = z.cps.size := by unfold signs; simp
  refine ⟨by show z.cps.size ≤ _; omega, fun i d hd => ?_⟩
  have hi : i < z.cps.size := by rw [← hz]; exact lt_of_get hd
  refine ⟨hi, fun x H'' hy => ?_⟩
  obtain ⟨e1, c, hc, e2⟩ := hy
  subst e1; subst e2
  have : d = .str ⟨#[c]⟩ := by
    unfold signs at hd
    rw [List.getElem?_map, Array.getElem?_toList, hc] at hd
    exact (Option.some.inj hd).symm
  subst this
  exact ⟨Hf', Same.refl _, S.push_sh .str⟩
theorem walks_rng {Hf1 : Hp} {lo : Int} {k : Nat} {xv : Option V} {xs : Option Slot} : Walks1 P n IO H0 Hf1 σ none xv xs (Itr lo k) ((List.range k).map fun (i : Nat) => .int (lo + i)) := by
  intro tv te σ' env' Hf' H' _ _ S
  refine ⟨by show k ≤ _; simp, fun i d hd => ?_⟩
  have hi : i < k := by have := lt_of_get hd; simpa using this
  refine ⟨hi, fun x H'' hy => ?_⟩
  obtain ⟨e1, e2⟩ := hy
  subst e1; subst e2
  have : d = .int (lo + i) := by
    rw [List.getElem?_map, List.getElem?_range hi] at hd
    exact (Option.some.inj hd).symm
  subst this
  exact ⟨Hf', Same.refl _, S.push_sh .int⟩
theorem walks_rngC {Hf1 : Hp} {lo c : Int} {k : Nat} {xv : Option V} {xs : Option Slot} : Walks1 P n IO H0 Hf1 σ none xv xs (Itc lo c k) ((List.range k).map fun (i : Nat) => .int (lo + i * c)) := by
  intro tv te σ' env' Hf' H' _ _ S
  refine ⟨by show k ≤ _; simp, fun i d hd => ?_⟩
  have hi : i < k := by have := lt_of_get hd; simpa using this
  refine ⟨hi, fun x H'' hy => ?_⟩
  obtain ⟨e1, e2⟩ := hy
  subst e1; subst e2
  have : d = .int (lo + i * c) := by
    rw [List.getElem?_map, List.getElem?_range hi] at hd
    exact (Option.some.inj hd).symm
  subst this
  exact ⟨Hf', Same.refl _, S.push_sh .int⟩
theorem mF_sh {m : Sm} {e e1 : Env} {s : Slot} (h : mF m e = .ok s e1) : s.m = .sh := by
  unfold mF at h
  cases em : m e with
  | no => rw [em] at h; cases h
  | ex _ _ _ => rw [em] at h; cases h
  | ok t e2 =>
    rw [em] at h
    obtain ⟨k, d⟩ := t
    cases k with
    | sh => cases h; rfl
    | ow => cases h; rfl
    | fr => cases h; rfl
    | io => cases h
    | al j =>
      dsimp only at h
      cases ej : e2[j]? with
      | none => rw [ej] at h; cases h
      | some o =>
        cases o with
        | none => rw [ej] at h; cases h
        | some u =>
          obtain ⟨k, d'⟩ := u
          cases k with
          | sh => rw [ej] at h; cases h; rfl
          | ow => rw [ej] at h; cases h; rfl
          | io => rw [ej] at h; cases h
          | fr => rw [ej] at h; cases h
          | al _ => rw [ej] at h; cases h
theorem ev_iseq {t : TE} {m : Sm} (f : Ev P t m) : EvI P (tSeqI P.G.K t) (iSeq m) := by
  intro n IO H0 Hf σ tv env te H S
  have h1 := ev_F f n IO H0 Hf σ tv env te H S
  unfold iSeq
  cases em : mF m env with
  | no => trivial
  | ex c d e1 => rw [em] at h1; exact fun w R => h1 w _
  | ok s e1 =>
    rw [em] at h1
    have hm := mF_sh em
    obtain ⟨k, d⟩ := s
    have hm' : k = .sh := hm
    subst hm'
    cases d with
    | lst ds =>
      refine fun R q => h1 _ fun v Hf1 H1 s1 S1 => ?_
      have r := S1.held S.l2
      cases r with
      | lst h l r =>
        rename_i p vs
        refine .inl ⟨p, vs, rfl, .inl (.inl (S1.sr.sub _ _ h)), q _ _ _ Hf1 H1 s1 S1 noal_sh ?_⟩
        intro tv te σ' env' Hf' H' _ _ S'
        have r' := S'.held (by have := S'.l2; simpa using this)
        cases r' with
        | lst h' l' r' =>
          rename_i vs'
          have hh := S'.sr.sub _ _ h'
          refine ⟨⟨vs', .inl (.inl hh), by rw [l']; exact Nat.le_refl _⟩, fun i d hd => ?_⟩
          obtain ⟨v, hv, rv⟩ := Reps.get ⟨l', r'⟩ hd
          refine ⟨⟨vs', v, .inl (.inl hh), hv⟩, fun x H'' hy => ?_⟩
          obtain ⟨e1, e2⟩ := hy
          subst e1
          have e : v = x := Option.some.inj (hv.symm.trans (e2 vs' (.inl (.inl hh))))
          subst e
          exact ⟨Hf', Same.refl _, S'.push_sh rv⟩
    | frl ds =>
      refine fun R q => h1 _ fun v Hf1 H1 s1 S1 => ?_
      have r := S1.held S.l2
      cases r with
      | frl h l r =>
        rename_i p vs
        refine .inl ⟨p, vs, rfl, SqL.mono S1.sr.sub h, q _ _ _ Hf1 H1 s1 S1 noal_sh ?_⟩
        intro tv te σ' env' Hf' H' _ _ S'
        have r' := S'.held (by have := S'.l2; simpa using this)
        cases r' with
        | frl h' l' r' =>
          rename_i vs'
          have hh := SqL.mono S'.sr.sub h'
          refine ⟨⟨vs', hh, by rw [l']; exact Nat.le_refl _⟩, fun i d hd => ?_⟩
          obtain ⟨v, hv, rv⟩ := Reps.get ⟨l', r'⟩ hd
          refine ⟨⟨vs', v, hh, hv⟩, fun x H'' hy => ?_⟩
          obtain ⟨e1, e2⟩ := hy
          subst e1
          have e : v = x := Option.some.inj (hv.symm.trans (e2 vs' hh))
          subst e
          exact ⟨Hf', Same.refl _, S'.push_sh rv⟩
    | tup ds =>
      refine fun R q => h1 _ fun v Hf1 H1 s1 S1 => ?_
      have r := S1.held S.l2
      cases r with
      | tup h l r =>
        rename_i p vs
        refine .inr (.inl ⟨p, vs, rfl, .inl (.inl (S1.sr.sub _ _ h)), q _ _ _ Hf1 H1 s1 S1 noal_sh (walks_tup fun Hf r => ?_)⟩)
        cases r with
        | tup h l r => exact ⟨_, .inl (.inl h), l, r⟩
    | frt ds =>
      refine fun R q => h1 _ fun v Hf1 H1 s1 S1 => ?_
      have r := S1.held S.l2
      cases r with
      | frt h l r =>
        rename_i p vs
        refine .inr (.inl ⟨p, vs, rfl, SqT.mono S1.sr.sub h, q _ _ _ Hf1 H1 s1 S1 noal_sh (walks_tup fun Hf r => ?_)⟩)
        cases r with
        | frt h l r => exact ⟨_, h, l, r⟩
    | str z =>
      refine fun R q => h1 _ fun v Hf1 H1 s1 S1 => ?_
      have r := S1.held S.l2
      cases r
      exact .inr (.inr ⟨z, rfl, q _ _ _ Hf1 H1 s1 S1 noal_sh walks_str⟩)
    | _ => trivial
theorem si_seq {tg e : Expr} {m : Sm} (hK : ∀ X, P.M X → X.K = P.G.K) (h : SE P e m) : SI P tg e (iSeq m) :=
  let ⟨_, p, f⟩ := h; ⟨_, fun X hX => (hK X hX) ▸ pi_seq (p X hX), ev_iseq f⟩

theorem St0.blank (S : St0 P n IO H0 Hf σ tv env te H) : St0 P n IO H0 Hf σ (tv ++ [none]) env (te ++ [none]) H := by
  refine ⟨S.le, S.ls, S.na, ?_⟩
  rw [← List.append_assoc, ← List.append_assoc]
  have R := S.sr
  have g : ∀ {i : Nat} {s : Slot}, ((env ++ te) ++ [none])[i]? = some (some s) → (env ++ te)[i]? = some (some s) := fun {i s} h => by
    rcases snoc_cases h with ⟨_, h⟩ | ⟨_, h⟩
    · exact h
    · cases h
  have b : ∀ {i : Nat} {s : Slot}, (env ++ te)[i]? = some (some s) → ((σ ++ tv) ++ [none])[i]? = (σ ++ tv)[i]? := fun {i s} h => get_before (R.lift h)
  refine ⟨R.sub, R.keep, R.grow, R.nf, by rw [List.length_append, R.len, List.length_append (as := env ++ te)]; rfl, fun i d h => ?_, fun i d h => ?_, fun i d h => ?_, fun i j d h => ?_, fun i j x y w ne hx hy mx my g1 g2 => ?_, R.fre.pushed R.len (fun d e => by cases e) (Same.refl _) (fun a o e _ f0 _ _ => ⟨e, f0⟩) fun t a e => by cases e⟩
  · obtain ⟨v, e, r⟩ := R.shr i d (g h); exact ⟨v, (b (g h)).trans e, r⟩
  · obtain ⟨q, o, e, r⟩ := R.own i d (g h); exact ⟨q, o, (b (g h)).trans e, r⟩
  · obtain ⟨q, o, e, r⟩ := R.inout i d (g h); exact ⟨q, o, (b (g h)).trans e, r⟩
  · obtain ⟨jn, w, e1, e2, s, e3, e4⟩ := R.ali i j d (g h)
    exact ⟨jn, w, (b (g h)).trans e1, (b e3).trans e2, s, by rw [get_before (lt_of_get e3)]; exact e3, e4⟩
  · exact R.sep i j x y w ne (g hx) (g hy) mx my (by rw [← b (g hx)]; exact g1) (by rw [← b (g hy)]; exact g2)
noncomputable def iVar (j : Nat) : Im := fun e => match e[j]? with
  | some (some ⟨.ow, .lst ds⟩) => .ok ds e (some (j, .lst ds))
  | some (some ⟨.io, .lst ds⟩) => .ok ds e (some (j, .lst ds))
  | _ => iSeq (mV j) e
theorem St0.ownAt (S : St0 P n IO H0 Hf σ tv env te H) {j : Nat} {s : Slot} (hj : env[j]? = some (some s)) (hm : s.m.mut = true) : ∃ p o, σ[j]? = some (some (V.ref p)) ∧ H p = some o ∧ TopO P.G Hf o s.d := by
  have hl := lt_of_get hj
  have le := S.le
  have ls := S.ls
  have he : (env ++ te)[j]? = some (some s) := by rw [List.getElem?_append_left hl]; exact hj
  have back : ∀ {v}, (σ ++ tv)[j]? = some v → σ[j]? = some v := fun h => by rwa [List.getElem?_append_left (by omega)] at h
  obtain ⟨m, d⟩ := s
  cases m with
  | ow => obtain ⟨p, o, h1, h2, _, h3, h4⟩ := S.sr.own j d he; exact ⟨p, o, back h1, h3, h4⟩
  | io => obtain ⟨p, o, h1, h2, _, h3, h4⟩ := S.sr.inout j d he; exact ⟨p, o, back h1, h3, h4⟩
  | sh => cases hm
  | fr => cases hm
  | al k => cases hm
theorem ev_ivar {j : Nat} {t : TE} (f : Ev P t (mV j)) (ht : ∀ (σ : L2.St) (H : Hp) (Q : VK), t σ H Q = tVar j σ H Q) : EvI P (tSeqI P.G.K t) (iVar j) := by
  intro n IO H0 Hf σ tv env te H S
  have gen : ∀ ds m, env[j]? = some (some ⟨m, .lst ds⟩) → m.mut = true → ∀ R : It → Hp → Prop, (∀ J xv xs Hf' H', Same Hf Hf' → St0 P n IO H0 Hf' σ (tv ++ [xv]) env (te ++ [xs]) H' → NoAl [xs] → Walks1 P n IO H0 Hf' σ (some (j, .lst ds)) xv xs J ds → R J H') → tSeqI P.G.K t σ H R := by
    intro ds m hj hm R q
    obtain ⟨p, o, h1, h2, h3⟩ := S.ownAt hj hm
    obtain ⟨vs, rfl, r⟩ := h3
    show t σ H _
    rw [ht]
    refine ⟨_, h1, .inl ⟨p, vs, rfl, .inl (.inl h2), q _ none none Hf H (Same.refl _) S.blank noal_none ?_⟩⟩
    intro tv te σ' env' Hf' H' sf ck S'
    obtain ⟨k1, s, k2, k3, k4⟩ := ck j _ rfl
    obtain ⟨p', o', g1, g2, g3⟩ := S'.ownAt k2 k3
    rw [k4] at g3
    obtain ⟨vs', rfl, r'⟩ := g3
    rw [k1, h1] at g1
    cases g1
    have hh : SqL P.G.K H' p vs' := .inl (.inl g2)
    refine ⟨⟨vs', hh, by rw [r'.len]; exact Nat.le_refl _⟩, fun i d hd => ?_⟩
    obtain ⟨v, hv, rv⟩ := Reps.get r' hd
    refine ⟨⟨vs', v, hh, hv⟩, fun x H'' hy => ?_⟩
    obtain ⟨e1, e2⟩ := hy
    subst e1
    have e : v = x := Option.some.inj (hv.symm.trans (e2 vs' hh))
    subst e
    exact ⟨Hf', Same.refl _, S'.push_sh rv⟩
  have old := ev_iseq f n IO H0 Hf σ tv env te H S
  unfold iVar
  cases hj : env[j]? with
  | none => exact old
  | some o => cases o with
    | none => exact old
    | some s =>
      obtain ⟨m, d⟩ := s
      cases m with
      | sh => exact old
      | fr => exact old
      | al k => exact old
      | ow => cases d with
        | lst ds => exact gen ds _ hj rfl
        | _ => exact old
      | io => cases d with
        | lst ds => exact gen ds _ hj rfl
        | _ => exact old
theorem si_var {tg e : Expr} {j : Nat} (hK : ∀ X, P.M X → X.K = P.G.K) (h : ∀ X, P.M X → PE X e (tVar j)) (f : Ev P (tVar j) (mV j)) : SI P tg e (iVar j) :=
  ⟨_, fun X hX => (hK X hX) ▸ pi_seq (h X hX), ev_ivar f fun _ _ _ => rfl⟩
/-! ### ranges -/
noncomputable def small62 (i : Int) : Bool := cdec (-(2 ^ 62) ≤ i ∧ i < 2 ^ 62)
noncomputable def intsOf : List Slot → Option (List Int)
  | [] => some []
  | ⟨.sh, .int i⟩ :: r => match intsOf r with
    | some is => some (i :: is)
    | none => none
  | _ => none
noncomputable def upto (i : Int) (n : Nat) : List D := (List.range n).map fun (k : Nat) => .int (i + k)
noncomputable def downto (i : Int) (n : Nat) : List D := (List.range n).map fun (k : Nat) => .int (i + k * (-1))
noncomputable def iInts (f : List Int → Option (List D)) (l : Lm) : Im := fun e => match l e with
  | .ok ss e1 => match intsOf ss with
    | some is => match f is with
      | some ds => .ok ds e1 none
      | none => .no
    | none => .no
  | .ex c d e1 => .ex c d e1
  | .no => .no
noncomputable def rng1 : List Int → Option (List D)
  | [j] => if small62 j then some (upto 0 j.toNat) else none
  | _ => none
noncomputable def rng3 : List Int → Option (List D)
  | [i, j, c] => if c = -1 ∧ (small62 i && small62 j) = true then some (downto i (i - j).toNat) else none
  | _ => none
theorem small62_iff {i : Int} (h : small62 i = true) : -(2 ^ 62) ≤ i ∧ i < 2 ^ 62 := of_cdec h
theorem St0.int_at {vs : List V} {ss : List Slot} {i : Nat} {k : Int} (S : St0 P n IO H0 Hf σ (tv ++ vs.map some) env (te ++ ss.map some) H) (l : tv.length = te.length) (hl : vs.length = ss.length) (h : ss[i]? = some ⟨.sh, .int k⟩) : vs[i]? = some (.int k) := by
  have hi : i < vs.length := by rw [hl]; exact lt_of_get h
  have hv := List.getElem?_eq_getElem hi
  have r := S.at_sh (i := tv.length + i) (v := vs[i]) (d := .int k) (by rw [List.getElem?_append_right (by omega), Nat.add_sub_cancel_left, List.getElem?_map, hv]; rfl) (by rw [l, List.getElem?_append_right (by omega), Nat.add_sub_cancel_left, List.getElem?_map, h]; rfl)
  rw [hv]
  generalize vs[i] = v at r
  cases r
  rfl
theorem ints_get : ∀ {ss : List Slot} {is : List Int}, intsOf ss = some is → ss = is.map fun i => ⟨.sh, .int i⟩
  | [], is, h => by cases h; rfl
  | ⟨m, d⟩ :: r, is, h => by
    cases m with
    | sh =>
      cases d with
      | int i =>
        unfold intsOf at h
        cases er : intsOf r with
        | none => rw [er] at h; cases h
        | some ks => rw [er] at h; cases h; rw [ints_get er]; rfl
      | _ => unfold intsOf at h; cases h
    | _ => unfold intsOf at h; cases h
theorem St0.intsAt {vs : List V} {ss : List Slot} {is : List Int} (S : St0 P n IO H0 Hf σ (tv ++ vs.map some) env (te ++ ss.map some) H) (l : tv.length = te.length) (hl : vs.length = ss.length) (h : intsOf ss = some is) : vs = is.map V.int := by
  have e := ints_get h
  apply List.ext_getElem?
  intro k
  by_cases hk : k < is.length
  · have g : ss[k]? = some ⟨.sh, .int is[k]⟩ := by rw [e, List.getElem?_map, List.getElem?_eq_getElem hk]; rfl
    rw [S.int_at l hl g, List.getElem?_map, List.getElem?_eq_getElem hk]; rfl
  · rw [List.getElem?_eq_none (by rw [hl, e, List.length_map]; omega), List.getElem?_eq_none (by rw [List.length_map]; omega)]
theorem ev_ints {t : TA} {l : Lm} {f : List Int → Option (List D)} {bd : List V → Hp → (It → Hp → Prop) → Prop} (f1 : EvL P t l)
    (h : ∀ (is : List Int) (ds : List D), f is = some ds → ∃ J, (∀ n IO H0 Hf1 σ, Walks1 P n IO H0 Hf1 σ none none none J ds) ∧ ∀ H (R : It → Hp → Prop), R J H → bd (is.map V.int) H R) : EvI P (fun σ H R => t σ H fun vs H1 => bd vs H1 R) (iInts f l) := by
  intro n IO H0 Hf σ tv env te H S
  have h1 := f1 n IO H0 Hf σ tv env te H S
  unfold iInts
  cases el : l env with
  | no => trivial
  | ex c d e1 =>
    rw [el] at h1
    exact fun w R => h1 w _
  | ok ss e1 =>
    rw [el] at h1
    dsimp only
    cases ei : intsOf ss with
    | none => trivial
    | some is =>
      dsimp only
      cases ef : f is with
      | none => trivial
      | some ds =>
        obtain ⟨J, hw, hJ⟩ := h is ds ef
        refine fun R q => h1 _ fun vs Hf1 H1 s1 l1 S1 => ?_
        rw [S1.intsAt S.l2 l1 ei]
        exact hJ _ _ (q _ none none Hf1 H1 s1 (St0.blank (St0.pops ss.length (by simp [l1]) (by simp) S1)) noal_none (hw _ _ _ _ _))
theorem ev_rng1 {t : TA} {l : Lm} (f : EvL P t l) : EvI P (iRng1 t) (iInts rng1 l) := ev_ints f fun is ds h => by
  unfold rng1 at h
  split at h
  · rename_i j
    split at h
    · rename_i hj
      cases h
      obtain ⟨a, b⟩ := small62_iff hj
      exact ⟨_, fun n IO H0 Hf1 σ => walks_rng, fun H R q => ⟨j, rfl, a, b, q⟩⟩
    · cases h
  · cases h
theorem ev_rng3 {t : TA} {l : Lm} (f : EvL P t l) : EvI P (iRng3 t) (iInts rng3 l) := ev_ints f fun is ds h => by
  unfold rng3 at h
  split at h
  · rename_i i j c
    split at h
    · rename_i hj
      cases h
      obtain ⟨rfl, hj⟩ := hj
      rw [Bool.and_eq_true] at hj
      obtain ⟨a, b⟩ := small62_iff hj.1
      obtain ⟨a', b'⟩ := small62_iff hj.2
      exact ⟨_, fun n IO H0 Hf1 σ => walks_rngC, fun H R q => ⟨i, j, -1, _, rfl, RgC.neg a b a' b', q⟩⟩
    · cases h
  · cases h
theorem si_rng1 {tg a : Expr} {p pos : Pos} {l : Lm} (hg : ∀ X, P.M X → Gl X "range") (hm : ∀ X, P.M X → X.mg "range" = none) (h : SL P [a] l) (hs : [a].all notStar = true) : SI P tg (.Call (.Name "range" p) [a] [] pos) (iInts rng1 l) :=
  let ⟨_, q, f⟩ := h; ⟨_, fun X hX => pi_range1 (hg X hX) (hm X hX) (pa_of (q X hX) hs) (star_ok (by simpa using hs)), ev_rng1 f⟩
theorem si_rng3 {tg a b c : Expr} {p pos : Pos} {l : Lm} (hg : ∀ X, P.M X → Gl X "range") (hm : ∀ X, P.M X → X.mg "range" = none) (h : SL P [a, b, c] l) (hs : [a, b, c].all notStar = true) : SI P tg (.Call (.Name "range" p) [a, b, c] [] pos) (iInts rng3 l) :=
  let ⟨_, q, f⟩ := h; ⟨_, fun X hX => pi_range3 (hg X hX) (hm X hX) (pa_of (q X hX) hs) (star_ok (by simp at hs; exact hs.1)) (star_any (by simp at hs ⊢; exact hs.2)), ev_rng3 f⟩
end
end VM

/-! VMJ: comprehensions -/
namespace VM
open PySem PySem.Spec PyProof.Rows L2

section
variable {P : Pl} {n : Nat} {IO : En} {H0 Hf H : Hp} {σ tv : L2.St} {env te : Env}
theorem St0.perm {tv' : L2.St} {te' : Env} (S : St0 P n IO H0 Hf σ tv env te H) (f : Nat → Nat) (hl : tv'.length = te'.length)
    (inj : ∀ (i j : Nat) (a b : Slot), te'[i]? = some (some a) → te'[j]? = some (some b) → f i = f j → i = j)
    (h : ∀ (i : Nat) (s : Slot), te'[i]? = some (some s) → te[f i]? = some (some s) ∧ tv'[i]? = tv[f i]?) : St0 P n IO H0 Hf σ tv' env te' H := by
  have le := S.le
  have ls := S.ls
  have R := S.sr
  have l2 := S.l2
  have lo : ∀ {i : Nat}, i < n → (env ++ te')[i]? = (env ++ te)[i]? ∧ (σ ++ tv')[i]? = (σ ++ tv)[i]? := fun {i} hi => by
    rw [List.getElem?_append_left (by omega), List.getElem?_append_left (by omega), List.getElem?_append_left (by omega), List.getElem?_append_left (by omega)]
    exact ⟨rfl, rfl⟩
  have g : ∀ {i : Nat} {s : Slot}, (env ++ te')[i]? = some (some s) → ∃ k, (env ++ te)[k]? = some (some s) ∧ (σ ++ tv')[i]? = (σ ++ tv)[k]? ∧ ((i < n ∧ k = i) ∨ (n ≤ i ∧ k = n + f (i - n) ∧ te'[i - n]? = some (some s))) := fun {i s} hs => by
    by_cases hi : i < n
    · exact ⟨i, (lo hi).1 ▸ hs, (lo hi).2, .inl ⟨hi, rfl⟩⟩
    · rw [List.getElem?_append_right (by omega), le] at hs
      obtain ⟨h1, h2⟩ := h _ s hs
      refine ⟨n + f (i - n), ?_, ?_, .inr ⟨by omega, rfl, hs⟩⟩
      · rw [List.getElem?_append_right (by omega), le, Nat.add_sub_cancel_left]; exact h1
      · rw [List.getElem?_append_right (by omega), ls, List.getElem?_append_right (by omega), ls, Nat.add_sub_cancel_left]; exact h2
  have gf : ∀ {i : Nat} {s : Slot}, (env ++ te')[i]? = some (some s) → (env ++ te)[if i < n then i else n + f (i - n)]? = some (some s) ∧ (σ ++ tv')[i]? = (σ ++ tv)[if i < n then i else n + f (i - n)]? := fun {i s} hs => by
    obtain ⟨k, h1, h2, h3⟩ := g hs
    rcases h3 with ⟨x, y⟩ | ⟨x, y, _⟩
    · subst y; rw [if_pos x]; exact ⟨h1, h2⟩
    · rw [if_neg (by omega), ← y]; exact ⟨h1, h2⟩
  refine ⟨le, ls, S.na, R.sub, R.keep, R.grow, R.nf, by simp [le, ls, hl], fun i d hs => ?_, fun i d hs => ?_, fun i d hs => ?_, fun i j d hs => ?_, fun i j a b w ne ha hb ma mb g1 g2 => ?_,
    R.fre.to (fun i => if i < n then i else n + f (i - n)) (fun i j d d' h1 h2 e => ?_) (fun i d hs => ⟨(gf hs).1, fun v e => by rw [(gf hs).2]; exact e⟩) (Same.refl _) fun a o e m f0 h0 ns => ⟨e, f0, h0, fun j s hs hm hv => ns _ s (gf hs).1 hm (by rw [← (gf hs).2]; exact hv)⟩⟩
  · obtain ⟨k, h1, h2, _⟩ := g hs
    obtain ⟨v, e, r⟩ := R.shr _ d h1
    exact ⟨v, h2.trans e, r⟩
  · obtain ⟨k, h1, h2, _⟩ := g hs
    obtain ⟨p, o, e, r⟩ := R.own _ d h1
    exact ⟨p, o, h2.trans e, r⟩
  · obtain ⟨k, h1, h2, _⟩ := g hs
    obtain ⟨p, o, e, r⟩ := R.inout _ d h1
    exact ⟨p, o, h2.trans e, r⟩
  · obtain ⟨k, h1, h2, _⟩ := g hs
    obtain ⟨jn, w, e1, e2, s, e3, e4⟩ := R.ali _ j d h1
    exact ⟨jn, w, h2.trans e1, (lo jn).2.trans e2, s, (lo jn).1.trans e3, e4⟩
  · obtain ⟨k, h1, h2, h3⟩ := g ha
    obtain ⟨k', h1', h2', h3'⟩ := g hb
    refine R.sep k k' a b w (fun z => ?_) h1 h1' ma mb (h2 ▸ g1) (h2' ▸ g2)
    rcases h3 with ⟨x, y⟩ | ⟨x, y, y'⟩ <;> rcases h3' with ⟨x', z'⟩ | ⟨x', z', z2⟩
    · omega
    · omega
    · omega
    · have := inj (i - n) (j - n) a b y' z2 (by omega)
      omega
  · by_cases x : i < n <;> by_cases y : j < n
    · rw [if_pos x, if_pos y] at e; exact e
    · rw [if_pos x, if_neg y] at e; omega
    · rw [if_neg x, if_pos y] at e; omega
    · rw [if_neg x, if_neg y] at e
      rw [List.getElem?_append_right (by omega), le] at h1 h2
      have := inj (i - n) (j - n) _ _ h1 h2 (by omega)
      omega
theorem St0.swap {a b : Option V} {x y : Option Slot} (S : St0 P n IO H0 Hf σ ((tv ++ [a]) ++ [b]) env ((te ++ [x]) ++ [y]) H) : St0 P n IO H0 Hf σ ((tv ++ [b]) ++ [a]) env ((te ++ [y]) ++ [x]) H := by
  have l : tv.length = te.length := by have := S.l2; simpa using this
  have at1 : ∀ {α : Type} (l : List α) (u w : α) (i : Nat), ((l ++ [u]) ++ [w])[i]? = if i < l.length then l[i]? else if i = l.length then some u else if i = l.length + 1 then some w else none := fun l u w i => by
    by_cases h1 : i < l.length
    · rw [if_pos h1, List.getElem?_append_left (by simp; omega), List.getElem?_append_left h1]
    · rw [if_neg h1]
      by_cases h2 : i = l.length
      · rw [if_pos h2, h2, List.getElem?_append_left (by simp), get_last]
      · rw [if_neg h2]
        by_cases h3 : i = l.length + 1
        · rw [if_pos h3, h3]
          have : l.length + 1 = (l ++ [u]).length := by simp
          rw [this, get_last]
        · rw [if_neg h3, List.getElem?_eq_none (by simp; omega)]
  refine S.perm (fun i => if i = te.length then te.length + 1 else if i = te.length + 1 then te.length else i) (by simp [l]) (fun i j a b _ _ e => ?_) (fun i s hs => ?_)
  · split at e <;> split at e <;> (try split at e) <;> (try split at e) <;> omega
  · rw [at1] at hs
    rw [at1, at1, at1, l]
    by_cases h1 : i = te.length
    · rw [if_neg (by omega), if_pos h1] at hs
      rw [if_pos h1, if_neg (by omega), if_neg (by omega), if_pos rfl, if_neg (by omega), if_pos h1, if_neg (by omega), if_neg (by omega), if_pos rfl]
      exact ⟨hs, rfl⟩
    · by_cases h2 : i = te.length + 1
      · rw [if_neg (by omega), if_neg h1, if_pos h2] at hs
        rw [if_neg h1, if_pos h2, if_neg (by omega), if_pos rfl, if_neg (by omega), if_neg h1, if_pos h2, if_neg (by omega), if_pos rfl]
        exact ⟨hs, rfl⟩
      · rw [if_neg h1, if_neg h2] at hs
        rw [if_neg h1, if_neg h2]
        split at hs
        · rename_i h3
          rw [if_pos h3, if_pos h3, if_pos h3]
          exact ⟨hs, rfl⟩
        · cases hs
theorem St0.to {P' : Pl} (S : St0 P n IO H0 Hf σ tv env te H) (h : P'.G = P.G) : St0 P' n IO H0 Hf σ tv env te H := ⟨S.le, S.ls, S.na, by rw [h]; exact S.sr⟩
end

noncomputable def Pl.blk (P : Pl) (scope : Scope) : Pl := { P with M := fun X' => ∃ X s H C cl fp, P.M X ∧ X' = X.blk s H scope (compEnvC scope cl C X.env) fp, W := fun _ _ _ _ => False }

noncomputable def wipeE (vs : List Nat) (e : Env) : Env := match vs with
  | [] => e
  | v :: r => (wipeE r e).set v none
noncomputable def backE (vs : List Nat) (e0 e : Env) : Env := match vs with
  | [] => e
  | v :: r => (backE r e0 e).set v ((e0[v]?).getD none)
noncomputable def canWipe (vs : List Nat) (e : Env) : Bool := vs.all fun v => match e[v]? with
  | some none => true
  | some (some s) => decide (s.m = .sh)
  | none => false
noncomputable def sameDef (e1 e2 : Env) : Bool := (List.range e1.length).all fun i => match e1[i]? with
  | some (some _) => (match e2[i]? with
    | some (some _) => true
    | _ => false)
  | _ => true
noncomputable def lcD (k : Chk) (g : Tgt) (c : Tm) (m : Sm) (vs : List Nat) : List D → List D → Env → Ans
  | [], acc, e => if chkE k e then .ok ⟨.ow, .lst acc⟩ e else .no
  | d :: r, acc, e => if chkE k e then match g.run ⟨.sh, d⟩ (wipeE vs e) with
    | some e1 => match c e1 with
      | .ok true e2 => match mF m e2 with
        | .ok s e3 => if acc.length < 1000 then lcD k g c m vs r (acc ++ [s.d]) (wipeE vs e3) else .no
        | _ => .no
      | .ok false e2 => lcD k g c m vs r acc (wipeE vs e2)
      | _ => .no
    | none => .no
    else .no
noncomputable def mLc (i : Im) (g : Tgt) (c : Tm) (m : Sm) (vs : List Nat) : Sm := fun e => match i e with
  | .ok ds e1 k => if canWipe vs e1 && g.asg.all (fun j => decide (j ∈ vs)) && chkA k vs then match lcD k g c m vs ds [] (wipeE vs e1) with
      | .ok s e2 => if sameDef e1 (backE vs e1 e2) then .ok s (backE vs e1 e2) else .no
      | _ => .no
    else .no
  | .ex c d e1 => .ex c d e1
  | .no => .no

section
variable {P : Pl} {n : Nat} {IO : En} {H0 Hf H : Hp} {σ tv : L2.St} {env te : Env}
theorem wipeE_length {vs : List Nat} {e : Env} : (wipeE vs e).length = e.length := by
  induction vs with
  | nil => rfl
  | cons v r ih => unfold wipeE; rw [List.length_set, ih]
theorem wipeE_get {vs : List Nat} {e : Env} {i : Nat} {s : Slot} : (wipeE vs e)[i]? = some (some s) ↔ i ∉ vs ∧ e[i]? = some (some s) := by
  induction vs with
  | nil => unfold wipeE; simp
  | cons v r ih =>
    unfold wipeE
    by_cases hv : v = i
    · subst hv
      refine ⟨fun h => ?_, fun h => absurd (List.mem_cons_self) h.1⟩
      by_cases hl : v < (wipeE r e).length
      · rw [List.getElem?_set_self hl] at h; cases h
      · rw [List.getElem?_eq_none (by rw [List.length_set]; omega)] at h; cases h
    · rw [List.getElem?_set_ne hv, ih]
      refine ⟨fun ⟨a, b⟩ => ⟨fun z => ?_, b⟩, fun ⟨a, b⟩ => ⟨fun z => a (List.mem_cons_of_mem _ z), b⟩⟩
      rcases List.mem_cons.mp z with z | z
      · exact hv z.symm
      · exact a z
theorem backE_length {vs : List Nat} {e0 e : Env} : (backE vs e0 e).length = e.length := by
  induction vs with
  | nil => rfl
  | cons v r ih => unfold backE; rw [List.length_set, ih]
theorem backE_get {vs : List Nat} {e0 e : Env} {i : Nat} (h : e0.length = e.length) : (backE vs e0 e)[i]? = if i ∈ vs then e0[i]? else e[i]? := by
  induction vs with
  | nil => unfold backE; simp
  | cons v r ih =>
    unfold backE
    by_cases hv : v = i
    · subst hv
      rw [if_pos List.mem_cons_self]
      by_cases hl : v < e.length
      · rw [List.getElem?_set_self (by rw [backE_length]; exact hl), List.getElem?_eq_getElem (by rw [h]; exact hl)]; rfl
      · rw [List.getElem?_eq_none (by rw [List.length_set, backE_length]; omega), List.getElem?_eq_none (by omega)]
    · rw [List.getElem?_set_ne hv, ih]
      by_cases hi : i ∈ r
      · rw [if_pos hi, if_pos (List.mem_cons_of_mem _ hi)]
      · rw [if_neg hi, if_neg (fun z => by
          rcases List.mem_cons.mp z with z | z
          · exact hv z.symm
          · exact hi z)]
theorem wipe_other {vs : List Nat} {i : Nat} (h : i ∉ vs) : (wipe σ vs)[i]? = σ[i]? := wipe_out h
theorem St0.wiped (vs : List Nat) (S : St0 P n IO H0 Hf σ tv env te H) (hal : ∀ (i : Nat) (s : Slot) (j : Nat), te[i]? = some (some s) → s.m = .al j → j ∉ vs) : St0 P n IO H0 Hf (wipe σ vs) tv (wipeE vs env) te H := by
  have le := S.le
  have ls := S.ls
  have R := S.sr
  have l2 := S.l2
  have g : ∀ {i : Nat} {s : Slot}, (wipeE vs env ++ te)[i]? = some (some s) → (env ++ te)[i]? = some (some s) ∧ (wipe σ vs ++ tv)[i]? = (σ ++ tv)[i]? := fun {i s} hs => by
    by_cases hi : i < n
    · rw [List.getElem?_append_left (by rw [wipeE_length]; omega)] at hs
      obtain ⟨h1, h2⟩ := wipeE_get.mp hs
      rw [List.getElem?_append_left (by omega), List.getElem?_append_left (by rw [wipe_length]; omega), List.getElem?_append_left (by omega), wipe_other h1]
      exact ⟨h2, rfl⟩
    · rw [List.getElem?_append_right (by rw [wipeE_length]; omega), wipeE_length] at hs
      rw [List.getElem?_append_right (by omega), List.getElem?_append_right (by rw [wipe_length]; omega), List.getElem?_append_right (by omega), wipe_length]
      exact ⟨hs, rfl⟩
  refine ⟨by rw [wipeE_length]; exact le, by rw [wipe_length]; exact ls, fun i s hs => S.na i s (wipeE_get.mp hs).2, R.sub, R.keep, R.grow, R.nf, by simp [le, ls, l2, wipeE_length, wipe_length], fun i d hs => ?_, fun i d hs => ?_, fun i d hs => ?_, fun i j d hs => ?_, fun i j a b w ne ha hb ma mb g1 g2 => ?_,
    R.fre.to id (fun _ _ _ _ _ _ e => e) (fun i d hs => ⟨(g hs).1, fun v e => by rw [(g hs).2]; exact e⟩) (Same.refl _) fun a o e m f0 h0 ns => ⟨e, f0, h0, fun j s hs hm hv => ns j s (g hs).1 hm (by rw [← (g hs).2]; exact hv)⟩⟩
  · obtain ⟨h1, h2⟩ := g hs
    obtain ⟨v, e, r⟩ := R.shr _ d h1
    exact ⟨v, h2.trans e, r⟩
  · obtain ⟨h1, h2⟩ := g hs
    obtain ⟨p, o, e, r⟩ := R.own _ d h1
    exact ⟨p, o, h2.trans e, r⟩
  · obtain ⟨h1, h2⟩ := g hs
    obtain ⟨p, o, e, r⟩ := R.inout _ d h1
    exact ⟨p, o, h2.trans e, r⟩
  · obtain ⟨h1, h2⟩ := g hs
    obtain ⟨jn, w, e1, e2, s, e3, e4⟩ := R.ali _ j d h1
    have jv : j ∉ vs := by
      by_cases hi : i < n
      · rw [List.getElem?_append_left (by omega)] at h1
        exact absurd rfl (S.na i _ h1 j)
      · rw [List.getElem?_append_right (by omega)] at h1
        exact hal _ _ j h1 rfl
    refine ⟨jn, w, h2.trans e1, ?_, s, ?_, e4⟩
    · rw [List.getElem?_append_left (by rw [wipe_length]; omega), wipe_other jv]
      rw [List.getElem?_append_left (by omega)] at e2; exact e2
    · rw [List.getElem?_append_left (by omega)] at e3
      rw [List.getElem?_append_left (by rw [wipeE_length]; omega)]
      exact wipeE_get.mpr ⟨jv, e3⟩
  · obtain ⟨h1, h2⟩ := g ha
    obtain ⟨h1', h2'⟩ := g hb
    exact R.sep i j a b w ne h1 h1' ma mb (h2 ▸ g1) (h2' ▸ g2)
noncomputable def hideT (te : Env) : Env := te.map fun o => match o with
  | some ⟨.al _, _⟩ => none
  | o => o
theorem hideT_get {te : Env} {i : Nat} {s : Slot} (h : (hideT te)[i]? = some (some s)) : te[i]? = some (some s) ∧ ∀ j, s.m ≠ .al j := by
  unfold hideT at h
  rw [List.getElem?_map] at h
  cases e : te[i]? with
  | none => rw [e] at h; cases h
  | some o =>
    rw [e] at h
    cases o with
    | none => cases h
    | some t =>
      obtain ⟨m, d⟩ := t
      cases m with
      | al j => cases h
      | sh => cases h; exact ⟨rfl, fun k e => by cases e⟩
      | ow => cases h; exact ⟨rfl, fun k e => by cases e⟩
      | io => cases h; exact ⟨rfl, fun k e => by cases e⟩
      | fr => cases h; exact ⟨rfl, fun k e => by cases e⟩
theorem hideT_out {te : Env} {i : Nat} {s : Slot} (h : te[i]? = some (some s)) : (hideT te)[i]? = some (some s) ∨ ∃ j, s.m = .al j := by
  unfold hideT
  rw [List.getElem?_map, h]
  obtain ⟨m, d⟩ := s
  cases m with
  | al j => exact .inr ⟨j, rfl⟩
  | sh => exact .inl rfl
  | ow => exact .inl rfl
  | io => exact .inl rfl
  | fr => exact .inl rfl
theorem hideT_length {te : Env} : (hideT te).length = te.length := by unfold hideT; simp
theorem hideT_noal {te : Env} : NoAl (hideT te) := fun i s h k e => (hideT_get h).2 k e
theorem sameDef_get {e1 e2 : Env} (h : sameDef e1 e2 = true) {i : Nat} {s : Slot} (hi : e1[i]? = some (some s)) : ∃ s', e2[i]? = some (some s') := by
  have := List.all_eq_true.mp h i (List.mem_range.mpr (lt_of_get hi))
  rw [hi] at this
  dsimp only at this
  cases e : e2[i]? with
  | none => rw [e] at this; cases this
  | some o =>
    cases o with
    | none => rw [e] at this; cases this
    | some s' => exact ⟨s', rfl⟩
theorem St0.backed {vs : List Nat} {Hf' H' : Hp} {env' : Env} {tv2 : L2.St} {te2 : Env} (S : St0 P n IO H0 Hf σ tv env te H) (S' : St0 P n IO H0 Hf' (wipe σ vs) (tv ++ tv2) env' (hideT te ++ te2) H') (sf : Same Hf Hf') (hw : canWipe vs env = true) (he : ∀ v ∈ vs, ∀ s, env'[v]? ≠ some (some s)) (hdf : sameDef env (backE vs env env') = true) : St0 P n IO H0 Hf' σ (tv ++ tv2) (backE vs env env') (te ++ te2) H' := by
  have le := S.le
  have ls := S.ls
  have le' := S'.le
  have R := S'.sr
  have l2 := S'.l2
  have l1 := S.l2
  have hl : env.length = env'.length := by omega
  have can : ∀ v ∈ vs, ∀ s, env[v]? = some (some s) → s.m = .sh := fun v hv s hs => by
    have := List.all_eq_true.mp hw v hv
    rw [hs] at this
    simpa using this
  have bl : (backE vs env env').length = n := by rw [backE_length]; exact le'
  have sv : ∀ {i : Nat}, (i < n → i ∉ vs) → (σ ++ (tv ++ tv2))[i]? = (wipe σ vs ++ (tv ++ tv2))[i]? := fun {i} hv => by
    by_cases hi : i < n
    · rw [List.getElem?_append_left (by omega), List.getElem?_append_left (by rw [wipe_length]; omega), wipe_other (hv hi)]
    · have w1 : (σ ++ (tv ++ tv2))[i]? = (tv ++ tv2)[i - n]? := by rw [List.getElem?_append_right (by omega), ls]
      have w2 : (wipe σ vs ++ (tv ++ tv2))[i]? = (tv ++ tv2)[i - n]? := by rw [List.getElem?_append_right (by rw [wipe_length]; omega), wipe_length, ls]
      rw [w1, w2]
  have g : ∀ {i : Nat} {s : Slot}, (backE vs env env' ++ (te ++ te2))[i]? = some (some s) → ((i < n ∧ i ∈ vs ∧ s.m = .sh ∧ env[i]? = some (some s)) ∨ ((env' ++ (hideT te ++ te2))[i]? = some (some s) ∧ (σ ++ (tv ++ tv2))[i]? = (wipe σ vs ++ (tv ++ tv2))[i]? ∧ (i < n → i ∉ vs)) ∨ (n ≤ i ∧ te[i - n]? = some (some s) ∧ ∃ j, s.m = .al j)) := fun {i s} hs => by
    by_cases hi : i < n
    · rw [List.getElem?_append_left (by omega), backE_get hl] at hs
      by_cases hv : i ∈ vs
      · rw [if_pos hv] at hs
        exact .inl ⟨hi, hv, can i hv s hs, hs⟩
      · rw [if_neg hv] at hs
        refine .inr (.inl ⟨?_, sv fun _ => hv, fun _ => hv⟩)
        rw [List.getElem?_append_left (by omega)]; exact hs
    · rw [List.getElem?_append_right (by omega), bl] at hs
      by_cases h2 : i - n < te.length
      · rw [List.getElem?_append_left h2] at hs
        rcases hideT_out hs with q | q
        · refine .inr (.inl ⟨?_, sv fun z => absurd z hi, fun z => absurd z hi⟩)
          rw [List.getElem?_append_right (by omega), le', List.getElem?_append_left (by rw [hideT_length]; exact h2)]; exact q
        · exact .inr (.inr ⟨by omega, hs, q⟩)
      · rw [List.getElem?_append_right (by omega)] at hs
        refine .inr (.inl ⟨?_, sv fun z => absurd z hi, fun z => absurd z hi⟩)
        rw [List.getElem?_append_right (by omega), le', List.getElem?_append_right (by rw [hideT_length]; omega), hideT_length]; exact hs
  refine ⟨bl, ls, fun i s hs k e => ?_, R.sub, R.keep, R.grow, R.nf, by simp [bl, ls, l1]; simpa [l1, hideT_length] using l2, fun i d hs => ?_, fun i d hs => ?_, fun i d hs => ?_, fun i j d hs => ?_, fun i j a b w ne ha hb ma mb g1 g2 => ?_,
    R.fre.to id (fun _ _ _ _ _ _ e => e) (fun i d hs => ?_) (Same.refl _) fun a o e m f0 h0 ns => ⟨e, f0, h0, fun j s hs hm hv => ?_⟩⟩
  · have hi : i < n := by rw [← bl]; exact lt_of_get hs
    rw [backE_get hl] at hs
    split at hs
    · exact S.na i s hs k e
    · exact S'.na i s hs k e
  · rcases g hs with ⟨h1, h2, h3, h4⟩ | ⟨h1, h2, _⟩ | ⟨_, _, j, h3⟩
    · obtain ⟨v, e, r⟩ := S.sr.shr i d (by rw [List.getElem?_append_left (by omega)]; exact h4)
      rw [List.getElem?_append_left (by omega)] at e
      exact ⟨v, by rw [List.getElem?_append_left (by omega)]; exact e, r.mono sf⟩
    · obtain ⟨v, e, r⟩ := R.shr _ d h1
      exact ⟨v, h2.trans e, r⟩
    · cases h3
  · rcases g hs with ⟨h1, h2, h3, h4⟩ | ⟨h1, h2, _⟩ | ⟨_, _, j, h3⟩
    · cases h3
    · obtain ⟨p, o, e, r⟩ := R.own _ d h1
      exact ⟨p, o, h2.trans e, r⟩
    · cases h3
  · rcases g hs with ⟨h1, h2, h3, h4⟩ | ⟨h1, h2, _⟩ | ⟨_, _, j, h3⟩
    · cases h3
    · obtain ⟨p, o, e, r⟩ := R.inout _ d h1
      exact ⟨p, o, h2.trans e, r⟩
    · cases h3
  · rcases g hs with ⟨h1, h2, h3, h4⟩ | ⟨h1, h2, _⟩ | ⟨ni, hs', j', h3⟩
    · cases h3
    · obtain ⟨jn, w, e1, e2, s, e3, e4⟩ := R.ali _ j d h1
      rw [List.getElem?_append_left (by omega)] at e3
      have jv : j ∉ vs := fun z => he j z _ e3
      refine ⟨jn, w, h2.trans e1, ?_, s, ?_, e4⟩
      · rw [List.getElem?_append_left (by rw [wipe_length]; omega), wipe_other jv] at e2
        rw [List.getElem?_append_left (by omega)]; exact e2
      · rw [List.getElem?_append_left (by omega), backE_get hl, if_neg jv]; exact e3
    · cases h3
      obtain ⟨jn, w, e1, e2, s, e3, e4⟩ := S.sr.ali i j d (by rw [List.getElem?_append_right (by omega), le]; exact hs')
      rw [List.getElem?_append_left (by omega)] at e2 e3
      have hi' := lt_of_get hs'
      obtain ⟨s', e5⟩ := sameDef_get hdf e3
      refine ⟨jn, w, ?_, by rw [List.getElem?_append_left (by omega)]; exact e2, s', ?_, fun k => ?_⟩
      · rw [List.getElem?_append_right (by omega), ls] at e1
        rw [List.getElem?_append_right (by omega), ls, List.getElem?_append_left (by omega)]; exact e1
      · rw [List.getElem?_append_left (by omega)]; exact e5
      · rw [backE_get hl] at e5
        split at e5
        · exact S.na _ _ e5 k
        · exact S'.na _ _ e5 k
  · rcases g ha with ⟨_, _, h3, _⟩ | ⟨h1, h2, _⟩ | ⟨_, _, j, h3⟩
    · rw [h3] at ma; cases ma
    · rcases g hb with ⟨_, _, h3, _⟩ | ⟨h1', h2', _⟩ | ⟨_, _, j, h3⟩
      · rw [h3] at mb; cases mb
      · exact R.sep i _ a b w ne h1 h1' ma mb (h2 ▸ g1) (h2' ▸ g2)
      · rw [h3] at mb; cases mb
    · rw [h3] at ma; cases ma
  · rcases g hs with ⟨_, _, h3, _⟩ | ⟨h1, h2, _⟩ | ⟨_, _, j, h3⟩
    · cases h3
    · exact ⟨h1, fun v e => by rw [h2]; exact e⟩
    · cases h3
  · rcases g hs with ⟨_, _, h3, _⟩ | ⟨h1, h2, _⟩ | ⟨_, _, k, h3⟩
    · rw [h3] at hm; cases hm
    · exact ns j s h1 hm (by rw [← h2]; exact hv)
    · rw [h3] at hm; cases hm
end
end VM

/-! VMK: comprehensions, read -/
namespace VM
open PySem PySem.Spec PyProof.Rows L2

section
variable {P : Pl} {n : Nat} {IO : En} {H0 Hf H : Hp} {σ tv : L2.St} {env te : Env}
theorem mF_ok {m : Sm} {e e1 : Env} {s : Slot} (h : mF m e = .ok s e1) : s = ⟨.sh, s.d⟩ := by
  have := mF_sh h
  obtain ⟨k, d⟩ := s
  dsimp only at this
  subst this
  rfl
theorem St0.grown {L : Addr} {xv : Option V} {xs : Option Slot} {o : HO} {d d' : D} (S : St0 P n IO H0 Hf σ ((tv ++ [some (V.ref L)]) ++ [xv]) env ((te ++ [ow d]) ++ [xs]) H) (t : TopO P.G Hf o d') :
    St0 P n IO H0 Hf σ ((tv ++ [some (V.ref L)]) ++ [xv]) env ((te ++ [ow d']) ++ [xs]) (upd H L o) := by
  have le := S.le
  have ls := S.ls
  have l2 : tv.length = te.length := by have := S.l2; simpa using this
  refine ⟨le, ls, S.na, ?_⟩
  have hs : (env ++ ((te ++ [ow d]) ++ [xs]))[n + te.length]? = some (ow d) := by
    rw [List.getElem?_append_right (by omega), le, Nat.add_sub_cancel_left, List.getElem?_append_left (by simp), get_last]
  have hp : (σ ++ ((tv ++ [some (V.ref L)]) ++ [xv]))[n + te.length]? = some (some (V.ref L)) := by
    rw [List.getElem?_append_right (by omega), ls, Nat.add_sub_cancel_left, ← l2, List.getElem?_append_left (by simp), get_last]
  have h := S.sr.change hs rfl hp t
  have e : (env ++ ((te ++ [ow d]) ++ [xs])).set (n + te.length) (some ⟨.ow, d'⟩) = env ++ ((te ++ [ow d']) ++ [xs]) := by
    rw [List.set_append_right _ _ (by omega), le, Nat.add_sub_cancel_left, List.set_append_left _ _ (by simp), List.set_append_right _ _ (by omega), Nat.sub_self]
    rfl
  rw [e] at h
  exact h
theorem ev_lc {wi : TI} {im : Im} {g : TG} {f : Tgt} {tt : TT} {c : Tm} {t : TE} {m : Sm} {scope : Scope} {vs : List Nat} (hi : EvI P wi im) (hg : EvG (P.blk scope) g f) (hc : EvT (P.blk scope) tt c) (hm : Ev (P.blk scope) t m) : Ev P (tLc wi g tt t vs) (mLc im f c m vs) := by
  intro n IO H0 Hf σ tv env te H S
  have h1 := hi n IO H0 Hf σ tv env te H S
  unfold mLc
  cases ei : im env with
  | no => trivial
  | ex cl d e1 => rw [ei] at h1; exact fun w Q => h1 w _
  | ok ds e1 ck =>
    rw [ei] at h1
    dsimp only
    by_cases hw : (canWipe vs e1 && f.asg.all (fun j => decide (j ∈ vs)) && chkA ck vs) = true
    · rw [if_pos hw]
      rw [Bool.and_eq_true, Bool.and_eq_true] at hw
      obtain ⟨⟨hw, ha⟩, hka⟩ := hw
      have ha : ∀ j, j ∈ f.asg → j ∈ vs := fun j hj => of_decide_eq_true (List.all_eq_true.mp ha j hj)
      cases er : lcD ck f c m vs ds [] (wipeE vs e1) with
      | no => trivial
      | ex _ _ _ => trivial
      | ok sF eF =>
        dsimp only
        by_cases hd : sameDef e1 (backE vs e1 eF) = true
        · rw [if_pos hd]
          refine fun Q q => h1 _ fun J xv xs Hf1 H1 s1 S1 nx wk D hD => ?_
          have S0 := S1.pop
          have hsF : ∃ acc, sF = ⟨.ow, .lst acc⟩ := by
            have gen : ∀ (ds acc : List VM.D) (e : Env), lcD ck f c m vs ds acc e = .ok sF eF → ∃ acc, sF = ⟨.ow, .lst acc⟩ := by
              intro ds
              induction ds with
              | nil => intro acc e h; rw [lcD] at h; split at h <;> cases h; exact ⟨_, rfl⟩
              | cons d r ih =>
                intro acc e h
                rw [lcD] at h
                split at h
                case isFalse => cases h
                split at h
                · split at h
                  · split at h
                    · split at h
                      · exact ih _ _ h
                      · cases h
                    · cases h
                  · exact ih _ _ h
                  · cases h
                · cases h
            exact gen _ _ _ er
          have S2 : St0 P n IO H0 Hf1 (wipe σ vs) ((tv ++ [some (V.ref D)]) ++ [xv]) (wipeE vs e1) ((hideT te ++ [ow (.lst [])]) ++ [xs]) (upd H1 D (.lst [])) := by
            have a : St0 P n IO H0 Hf1 σ (tv ++ [xv]) e1 (hideT te ++ [xs]) H1 := S1.perm (fun i => i) (by rw [S1.l2, List.length_append, List.length_append, hideT_length]) (fun i j a b _ _ e => e) (fun i s hs => ⟨?_, rfl⟩)
            · have b := (a.push_ow (d := .lst []) hD ⟨[], rfl, .nil⟩).swap
              refine b.wiped vs fun i s j hs e => ?_
              exact absurd e (noal_app (noal_app hideT_noal (fun i s hs k => by
                cases i with
                | zero => simp at hs; subst hs; simp
                | succ i => simp at hs)) nx i s hs j)
            · by_cases h2 : i < te.length
              · rw [List.getElem?_append_left (by rw [hideT_length]; exact h2)] at hs
                rw [List.getElem?_append_left h2]; exact (hideT_get hs).1
              · rw [List.getElem?_append_right (by rw [hideT_length]; omega), hideT_length] at hs
                rw [List.getElem?_append_right (by omega)]; exact hs
          refine ⟨fun i k H2 => k = ds.length - i ∧ i ≤ ds.length ∧ ∃ Hf2 e2 acc, Same Hf1 Hf2 ∧ St0 P n IO H0 Hf2 (wipe σ vs) ((tv ++ [some (V.ref D)]) ++ [xv]) e2 ((hideT te ++ [ow (.lst acc)]) ++ [xs]) H2 ∧ lcD ck f c m vs (ds.drop i) acc e2 = .ok sF eF ∧ (∀ v ∈ vs, ∀ s, e2[v]? ≠ some (some s)),
            ⟨ds.length, by simp, Nat.zero_le _, Hf1, wipeE vs e1, [], Same.refl _, S2, by simpa using er, fun v hv s z => (wipeE_get.mp z).1 hv⟩, ?_⟩
          rintro i k H2 ⟨rfl, hi, Hf2, e2, acc, s2, S3, hl, hv⟩
          have hck : chkE ck e2 = true := by
            by_cases z : chkE ck e2 = true
            · exact z
            · exfalso
              cases hd2 : ds.drop i with
              | nil => rw [hd2, lcD, if_neg z] at hl; cases hl
              | cons d r => rw [hd2, lcD, if_neg z] at hl; cases hl
          obtain ⟨stop, go⟩ := wk _ _ _ e2 Hf2 H2 s2 (keepC_of hck fun j d hk => wipe_other (chkA_of hka j d hk)) S3
          have nal : NoAl ((hideT te ++ [ow (.lst acc)]) ++ [xs]) := noal_app (noal_app hideT_noal (fun i s hs k => by
                cases i with
                | zero => simp at hs; subst hs; simp
                | succ i => simp at hs)) nx
          have le2 : ((tv ++ [some (V.ref D)]) ++ [xv]).length = ((hideT te ++ [ow (.lst acc)]) ++ [xs]).length := S3.l2
          by_cases hlt : i < ds.length
          · refine .inr ?_
            have hd := List.getElem?_eq_getElem hlt
            obtain ⟨g1, g2⟩ := go i _ hd
            refine ⟨g1, fun H3 => ∃ Hf2 e2 acc, Same Hf1 Hf2 ∧ St0 P n IO H0 Hf2 (wipe σ vs) ((tv ++ [some (V.ref D)]) ++ [xv]) e2 ((hideT te ++ [ow (.lst acc)]) ++ [xs]) H3 ∧ lcD ck f c m vs (ds.drop (i + 1)) acc e2 = .ok sF eF ∧ (∀ v ∈ vs, ∀ s, e2[v]? ≠ some (some s)),
              fun H3 h => ⟨ds.length - (i + 1), by omega, rfl, hlt, h⟩, fun x H3 hy => ?_⟩
            obtain ⟨Hf3, s3, S4⟩ := g2 x H3 hy
            rw [List.drop_eq_getElem_cons hlt] at hl
            unfold lcD at hl
            rw [if_pos hck] at hl
            have h4 := hg n IO H0 Hf3 _ _ e2 _ H3 x ⟨.sh, ds[i]⟩ (S4.to rfl) nal le2 (fun k => by simp)
            have ew : wipeE vs e2 = e2 := by
              apply List.ext_getElem?
              intro j
              have gen : ∀ (us : List Nat), (∀ v ∈ us, ∀ s, e2[v]? ≠ some (some s)) → (wipeE us e2)[j]? = e2[j]? := by
                intro us
                induction us with
                | nil => intro _; rfl
                | cons u us ih =>
                  intro hu
                  unfold wipeE
                  by_cases huj : u = j
                  · subst huj
                    by_cases hz : u < e2.length
                    · rw [List.getElem?_set_self (by rw [wipeE_length]; exact hz)]
                      have := hu u List.mem_cons_self
                      rw [List.getElem?_eq_getElem hz] at this ⊢
                      cases ez : e2[u] with
                      | none => rfl
                      | some s => exact absurd (by rw [ez]) (this s)
                    · rw [List.getElem?_eq_none (by rw [List.length_set, wipeE_length]; omega), List.getElem?_eq_none (by omega)]
                  · rw [List.getElem?_set_ne huj]; exact ih fun v hv => hu v (List.mem_cons_of_mem _ hv)
              exact gen vs hv
            rw [ew] at hl
            cases ef : f.run ⟨.sh, ds[i]⟩ e2 with
            | none => rw [ef] at hl; cases hl
            | some e3 =>
              rw [ef] at h4 hl
              refine h4 _ fun σ4 a4 S5 => ?_
              have a5 : AsgOk vs (wipe σ vs) σ4 := a4.mono ha
              have wp : wipe σ4 vs = wipe σ vs := by
                apply List.ext_getElem?
                intro j
                by_cases hj : j ∈ vs
                · have z : ∀ (σ : L2.St) (us : List Nat), j ∈ us → (wipe σ us)[j]? = if j < σ.length then some none else none := by
                    intro σ us
                    induction us with
                    | nil => intro h; cases h
                    | cons u us ih =>
                      intro h
                      unfold wipe
                      by_cases huj : u = j
                      · subst huj
                        by_cases hz : u < σ.length
                        · rw [if_pos hz, List.getElem?_set_self (by rw [wipe_length]; exact hz)]
                        · rw [if_neg hz, List.getElem?_eq_none (by rw [List.length_set, wipe_length]; omega)]
                      · rw [List.getElem?_set_ne huj]
                        rcases List.mem_cons.mp h with h | h
                        · exact absurd h.symm huj
                        · exact ih h
                  rw [z _ _ hj, z _ _ hj]
                  have := a5.1
                  rw [wipe_length] at this
                  rw [this]
                · rw [wipe_other hj, a5.2 j hj, wipe_other hj]
              refine ⟨wp, ?_⟩
              have h5 := hc n IO H0 Hf3 σ4 _ e3 _ H3 S5
              dsimp only at hl
              have s23 := s2.trans s3
              cases ec : c e3 with
              | no => rw [ec] at hl; cases hl
              | ex _ _ _ => rw [ec] at hl; cases hl
              | ok b e4 =>
                rw [ec] at h5 hl
                refine h5 _ fun Hf4 H4 s4 S6 => ?_
                cases b with
                | false =>
                  refine iteF ⟨Hf4, wipeE vs e4, acc, s23.trans s4, ?_, hl, fun v hv s z => (wipeE_get.mp z).1 hv⟩
                  have S7 : St0 P n IO H0 Hf4 σ4 _ e4 _ H4 := S6.to rfl
                  have := S7.wiped vs fun i s j hs e => absurd e (nal i s hs j)
                  rwa [wp] at this
                | true =>
                  refine iteT ?_
                  dsimp only at hl
                  have h6 := ev_F hm n IO H0 Hf4 σ4 _ e4 _ H4 S6
                  cases em : mF m e4 with
                  | no => rw [em] at hl; cases hl
                  | ex _ _ _ => rw [em] at hl; cases hl
                  | ok s e5 =>
                    rw [em] at h6 hl
                    refine h6 _ fun y Hf5 H5 s5 S8 => ?_
                    have es := mF_ok em
                    have S9 : St0 P n IO H0 Hf5 σ4 (((tv ++ [some (V.ref D)]) ++ [xv]) ++ [some y]) e5 (((hideT te ++ [ow (.lst acc)]) ++ [xs]) ++ [sh s.d]) H5 := by
                      have := S8.to (P' := P) rfl
                      rw [es] at this
                      exact this
                    have ry : Rep P.G Hf5 y s.d := S9.held le2
                    have S10 := S9.pop
                    dsimp only at hl
                    by_cases hz : acc.length < 1000
                    · rw [if_pos hz] at hl
                      have lt : tv.length = (hideT te).length := by simpa using le2
                      obtain ⟨p, o, e1', e2', _, e3', to⟩ := S10.sr.own (n + (hideT te).length) (.lst acc) (by
                        rw [List.getElem?_append_right (by rw [S10.le]; omega), S10.le, Nat.add_sub_cancel_left, List.getElem?_append_left (by simp), get_last])
                      have ep : V.ref D = V.ref p := by
                        rw [List.getElem?_append_right (by rw [S10.ls]; omega), S10.ls, Nat.add_sub_cancel_left, ← lt, List.getElem?_append_left (by simp), get_last] at e1'
                        exact Option.some.inj (Option.some.inj e1')
                      cases ep
                      obtain ⟨av, rfl, ra⟩ := to
                      refine ⟨av, e3', by rw [ra.len]; exact small1000 (Nat.le_of_lt hz), Hf5, wipeE vs e5, acc ++ [s.d], (s23.trans s4).trans s5, ?_, hl, fun v hv s z => (wipeE_get.mp z).1 hv⟩
                      have S11 := S10.grown (d' := .lst (acc ++ [s.d])) (o := .lst (av ++ [y])) ⟨_, rfl, ra.append (.cons ry .nil)⟩
                      have := S11.wiped vs fun i s j hs e => absurd e (noal_app (noal_app hideT_noal (fun i s hs k => by
                        cases i with
                        | zero => simp at hs; subst hs; simp
                        | succ i => simp at hs)) nx i s hs j)
                      rwa [wp] at this
                    · rw [if_neg hz] at hl; cases hl
          · have e : i = ds.length := by omega
            subst e
            refine .inl ⟨stop, ?_⟩
            rw [List.drop_length] at hl
            unfold lcD at hl
            rw [if_pos hck] at hl
            cases hl
            have S5 : St0 P n IO H0 Hf2 (wipe σ vs) (tv ++ [some (V.ref D)]) _ (hideT te ++ [ow (.lst acc)]) H2 := S3.pop
            refine q _ Hf2 H2 (s1.trans s2) ?_
            exact S0.backed S5 s2 hw hv hd
        · rw [if_neg hd]; trivial
    · rw [if_neg hw]; trivial
end
end VM

/-! VML: the frame's names; rules on values -/
namespace VM
open PySem PySem.Spec PyProof.Rows L2

structure Fra (P : Pl) (N : List Str) (sc : Scope) (mg : Str → Option Value) : Prop where
  hN : ∀ X, P.M X → X.N = N
  hsc : ∀ X, P.M X → X.env.scope = sc
  K : ∀ X, P.M X → X.K = P.G.K
  hmg : ∀ X, P.M X → X.mg = mg
  calm : ∀ X, P.M X → X.calm = true
  tk : ∀ X, P.M X → Takes X P.W
  pass : ∀ X, P.M X → PassesOwn (model X.prog X.w) X.A X.env X.xe
  hu : ∀ X, P.M X → X.A.units + 65 < cLine
  gd : ∀ X, P.M X → X.A.guards = some []
  nd : N.Nodup
theorem Fra.blk {P : Pl} {N : List Str} {sc : Scope} {mg : Str → Option Value} (fr : Fra P N sc mg) (scope : Scope) : Fra (P.blk scope) N (relS scope sc) mg where
  hN := fun X' ⟨X, s, H, C, cl, fp, h, e⟩ => by subst e; exact fr.hN X h
  hsc := fun X' ⟨X, s, H, C, cl, fp, h, e⟩ => by subst e; rw [← fr.hsc X h]; rfl
  K := fun X' ⟨X, s, H, C, cl, fp, h, e⟩ => by subst e; exact fr.K X h
  hmg := fun X' ⟨X, s, H, C, cl, fp, h, e⟩ => by subst e; exact fr.hmg X h
  calm := fun X' ⟨X, s, H, C, cl, fp, h, e⟩ => by subst e; exact fr.calm X h
  tk := fun X' ⟨X, s, H, C, cl, fp, h, e⟩ => by subst e; exact takes0
  pass := fun X' ⟨X, s, H, C, cl, fp, h, e⟩ => by subst e; exact PassesOwn.never
  hu := fun X' ⟨X, s, H, C, cl, fp, h, e⟩ => by subst e; exact fr.hu X h
  gd := fun X' ⟨X, s, H, C, cl, fp, h, e⟩ => by subst e; exact fr.gd X h
  nd := fr.nd
theorem FnFact.blk {P : Pl} {x : Str} {fs : FS} (h : FnFact P x fs) (scope : Scope) : FnFact (P.blk scope) x fs :=
  fun X' ⟨X, s, H, C, cl, fp, hX, e⟩ => by subst e; exact h X hX

section
variable {P : Pl} {N : List Str} {sc : Scope} {mg : Str → Option Value}
theorem Fra.v (fr : Fra P N sc mg) (i : Nat) {x : Str} {pos : Pos} (hN : N[i]? = some x) (hv : Vis sc x) (hd : (x == ("__debug__" : Str)) = false := by decide) (hc : (x == ("__classdict__" : Str)) = false := by decide) : SE P (.Name x pos) (mV i) :=
  se_v fun X hX => pe_var (by rw [fr.hN X hX]; exact hN) (by rw [fr.hsc X hX]; exact hv) hd hc
theorem Fra.iv (fr : Fra P N sc mg) (i : Nat) {tg : Expr} {x : Str} {pos : Pos} (hN : N[i]? = some x) (hv : Vis sc x) (hd : (x == ("__debug__" : Str)) = false := by decide) (hc : (x == ("__classdict__" : Str)) = false := by decide) : SI P tg (.Name x pos) (iVar i) :=
  si_var fr.K (fun X hX => pe_var (by rw [fr.hN X hX]; exact hN) (by rw [fr.hsc X hX]; exact hv) hd hc) ev_v
theorem Fra.gl (fr : Fra P N sc mg) {x : Str} (h : sc.names.lookup x = some .globalImplicit) : ∀ X, P.M X → Gl X x := fun X hX => by
  unfold Gl PySem.Env.kindOf
  rw [fr.hsc X hX]; exact h
theorem Fra.bm (fr : Fra P N sc mg) {x : Str} {u : Option Value} (h : mg x = u) : ∀ X, P.M X → X.mg x = u := fun X hX => by rw [fr.hmg X hX]; exact h
theorem Fra.g (fr : Fra P N sc mg) (i : Nat) {x : Str} {pos : Pos} (hN : N[i]? = some x) (hx : Loc sc x) (hf : sc.names.lookup x = some .local ∨ ∀ X, P.M X → X.fn x = true) : SG P (.Name x pos) (gN i) :=
  ⟨_, fun X hX => pg_name (by rw [fr.hN X hX]; exact fr.nd) (by rw [fr.hN X hX]; exact hN) (by rw [fr.hsc X hX]; exact hx) (hf.elim (fun h => .inr (by rw [fr.hsc X hX]; exact h)) (fun h => .inl (h X hX))), evg_n⟩

/-! ### constants -/
theorem se_int {i : Int} {k : Nat} {pos : Pos} : SE P (.Constant (.int i) k pos) (mC (.int i)) := se_c (fun _ _ => pe_int) fun _ => .int
theorem se_str {z : Str} {k : Nat} {pos : Pos} : SE P (.Constant (.str z) k pos) (mC (.str z)) := se_c (fun _ _ => pe_str) fun _ => .str
theorem se_bool {b : Bool} {k : Nat} {pos : Pos} : SE P (.Constant (.bool b) k pos) (mC (.bl b)) := se_c (fun _ _ => pe_bl) fun _ => .bl
theorem se_none {k : Nat} {pos : Pos} : SE P (.Constant .none k pos) (mC .non) := se_c (fun _ _ => pe_non) fun _ => .non
theorem Fra.gi (fr : Fra P N sc mg) {x : Str} {i : Int} {t : Tok} {pos : Pos} (h : sc.names.lookup x = some .globalImplicit) (hm : mg x = some (.int i t)) (hd : (x == ("__debug__" : Str)) = false := by decide) : SE P (.Name x pos) (mC (.int i)) :=
  se_c (fun X hX => pe_glob (fr.gl h X hX) (fr.bm hm X hX) (show RelV (.int i) (.int i t) from ⟨t, rfl⟩) hd) fun _ => .int
theorem Fra.gs (fr : Fra P N sc mg) {x : Str} {z : Str} {t : Tok} {pos : Pos} (h : sc.names.lookup x = some .globalImplicit) (hm : mg x = some (.str z t)) (hd : (x == ("__debug__" : Str)) = false := by decide) : SE P (.Name x pos) (mC (.str z)) :=
  se_c (fun X hX => pe_glob (fr.gl h X hX) (fr.bm hm X hX) (show RelV (.str z) (.str z t) from ⟨t, rfl⟩) hd) fun _ => .str
theorem Fra.ty (fr : Fra P N sc mg) {x : Str} {T : String} {pos : Pos} (h : sc.names.lookup x = some .globalImplicit) (hm : mg x = none) (hv : bootBuiltins x = some (.type T)) (hn : x ≠ "__name__" := by decide) (hd : (x == ("__debug__" : Str)) = false := by decide) : SE P (.Name x pos) (mC (.ty T)) :=
  se_c (fun X hX => pe_bltn (fr.gl h X hX) (fr.bm hm X hX) hv (show RelV (.ty T) (.type T) from rfl) hn hd) fun _ => .ty

/-! ### operators -/
noncomputable def f2 (f : D → D → RR) : List D → RR
  | [d, e] => f d e
  | _ => .no
noncomputable def f1 (f : D → RR) : List D → RR
  | [d] => f d
  | _ => .no
noncomputable def m2 (f : D → D → RR) (a b : Sm) : Sm := mN (f2 f) (lCons a (lCons b lNil))
noncomputable def m1 (f : D → RR) (a : Sm) : Sm := mN (f1 f) (lCons a lNil)
noncomputable def S2 (G : Gi) (r : R2) (f : D → D → RR) : Prop := ∀ Hf H x y d e, Same Hf H → PRep G Hf H x d → PRep G Hf H y e → RRok G Hf H (r x y H) (f d e)
noncomputable def S1 (G : Gi) (r : V → Hp → VK → Prop) (f : D → RR) : Prop := ∀ Hf H x d, Same Hf H → PRep G Hf H x d → RRok G Hf H (r x H) (f d)
noncomputable def r2 (r : R2) : List V → Hp → VK → Prop := fun vs H Q => match vs with
  | [x, y] => r x y H Q
  | _ => False
noncomputable def r1 (r : V → Hp → VK → Prop) : List V → Hp → VK → Prop := fun vs H Q => match vs with
  | [x] => r x H Q
  | _ => False
theorem sn_2 {G : Gi} {r : R2} {f : D → D → RR} (h : S2 G r f) : SN G (r2 r) (f2 f) := by
  intro Hf H vs ds s p
  cases p with
  | nil => trivial
  | cons p1 p =>
    cases p with
    | nil => trivial
    | cons p2 p =>
      cases p with
      | nil => exact h Hf H _ _ _ _ s p1 p2
      | cons p3 p => trivial
theorem sn_1 {G : Gi} {r : V → Hp → VK → Prop} {f : D → RR} (h : S1 G r f) : SN G (r1 r) (f1 f) := by
  intro Hf H vs ds s p
  cases p with
  | nil => trivial
  | cons p1 p =>
    cases p with
    | nil => exact h Hf H _ _ s p1
    | cons p3 p => trivial
theorem ev_2 {r : R2} {f : D → D → RR} {ta tb : TE} {a b : Sm} (hf : S2 P.G r f) (ha : Ev P ta a) (hb : Ev P tb b) : Ev P (tOp r ta tb) (m2 f a b) :=
  ev_n (r := r2 r) (sn_2 hf) (evl_cons ha (evl_cons hb evl_nil))
theorem ev_1 {r : V → Hp → VK → Prop} {f : D → RR} {ta : TE} {a : Sm} (hf : S1 P.G r f) (ha : Ev P ta a) : Ev P (tUn r ta) (m1 f a) :=
  ev_n (r := r1 r) (sn_1 hf) (evl_cons ha evl_nil)
theorem se_op {op : Operator} {r : R2} {f : D → D → RR} {a b : Expr} {pos : Pos} {ma mb : Sm} (ho : ∀ X, P.M X → OpR X (binaryOp op) r) (hf : S2 P.G r f) (ha : SE P a ma) (hb : SE P b mb) : SE P (.BinOp a op b pos) (m2 f ma mb) :=
  let ⟨_, p, e⟩ := ha; let ⟨_, q, g⟩ := hb; ⟨_, fun X hX => pe_op (ho X hX) (p X hX) (q X hX), ev_2 hf e g⟩
theorem se_un {op : UnaryOp} {r : V → Hp → VK → Prop} {f : D → RR} {a : Expr} {pos : Pos} {ma : Sm} (ho : ∀ X, P.M X → UnR X (unaryOp op) r) (hf : S1 P.G r f) (ha : SE P a ma) : SE P (.UnaryOp op a pos) (m1 f ma) :=
  let ⟨_, p, e⟩ := ha; ⟨_, fun X hX => pe_un (ho X hX) (p X hX), ev_1 hf e⟩
theorem se_cmpR {op : CmpOp} {r : R2} {f : D → D → RR} {a b : Expr} {pos : Pos} {ma mb : Sm} (ho : ∀ X, P.M X → OpR X (compareOp op) r) (hf : S2 P.G r f) (ha : SE P a ma) (hb : SE P b mb) (hm : behindInMarks op b = false) : SE P (.Compare a [op] [b] pos) (m2 f ma mb) :=
  let ⟨_, p, e⟩ := ha; let ⟨_, q, g⟩ := hb; ⟨_, fun X hX => pe_cmpR (ho X hX) (p X hX) (q X hX) hm, ev_2 hf e g⟩
theorem st_cmpR {op : CmpOp} {r : R2} {f : D → D → RR} {a b : Expr} {pos : Pos} {ma mb : Sm} (ho : ∀ X, P.M X → OpR X (compareOp op) r) (hf : S2 P.G r f) (ha : SE P a ma) (hb : SE P b mb) (hm : behindInMarks op b = false) : ST P (.Compare a [op] [b] pos) (mBl (m2 f ma mb)) :=
  let ⟨_, p, e⟩ := ha; let ⟨_, q, g⟩ := hb; ⟨_, fun X hX => pt_cmpR (ho X hX) (p X hX) (q X hX) hm, evT_bl (ev_2 hf e g)⟩
theorem PRep.int {G : Gi} {Hf H : Hp} {v : V} {i : Int} (h : PRep G Hf H v (.int i)) : v = .int i := by
  rcases h with h | ⟨p, o, _, _, t⟩
  · cases h; rfl
  · exact t.elim
theorem PRep.bl {G : Gi} {Hf H : Hp} {v : V} {b : Bool} (h : PRep G Hf H v (.bl b)) : v = .bl b := by
  rcases h with h | ⟨p, o, _, _, t⟩
  · cases h; rfl
  · exact t.elim
theorem PRep.str {G : Gi} {Hf H : Hp} {v : V} {z : Str} (h : PRep G Hf H v (.str z)) : v = .str z := by
  rcases h with h | ⟨p, o, _, _, t⟩
  · cases h; rfl
  · exact t.elim
theorem PRep.non {G : Gi} {Hf H : Hp} {v : V} (h : PRep G Hf H v .non) : v = .non := by
  rcases h with h | ⟨p, o, _, _, t⟩
  · cases h; rfl
  · exact t.elim
noncomputable def fI (C : Int → Int → Bool) (g : Int → Int → D) (d e : D) : RR := match d, e with
  | .int i, .int j => if C i j then .sh (g i j) else .no
  | _, _ => .no
noncomputable def fI0 (g : Int → Int → D) (d e : D) : RR := match d, e with
  | .int i, .int j => .sh (g i j)
  | _, _ => .no
theorem s_I {G : Gi} {C : Int → Int → Prop} {C' : Int → Int → Bool} {g : Int → Int → V} {g' : Int → Int → D} (hC : ∀ i j, C' i j = true → C i j) (hg : ∀ H i j, Rep G H (g i j) (g' i j)) : S2 G (rI C g) (fI C' g') := by
  intro Hf H x y d e s p q
  unfold fI
  split
  · split
    · rename_i i j hc
      exact fun Q k => ⟨i, j, p.int, q.int, hC i j hc, k _ (hg Hf i j)⟩
    · trivial
  · trivial
theorem s_I0 {G : Gi} {g : Int → Int → V} {g' : Int → Int → D} (hg : ∀ H i j, Rep G H (g i j) (g' i j)) : S2 G (rI0 g) (fI0 g') := by
  intro Hf H x y d e s p q
  unfold fI0
  split
  · rename_i i j
    exact fun Q k => ⟨i, j, p.int, q.int, k _ (hg Hf i j)⟩
  · trivial
noncomputable def cMul (i j : Int) : Bool := cdec (((-(2 ^ 64) < i ∧ i < 2 ^ 64) ∨ (-(2 ^ 64) < j ∧ j < 2 ^ 64)) ∨ i.natAbs.log2 + j.natAbs.log2 < 1000000)
noncomputable def cDiv (_ j : Int) : Bool := cdec (0 < j ∧ j.natAbs.log2 < 9000)
noncomputable def cPow (i j : Int) : Bool := cdec (0 ≤ j ∧ j ≤ 1000000 ∧ i.natAbs < 2 ^ 64)
noncomputable def dMul : D → D → RR := fI cMul fun i j => .int (i * j)
noncomputable def dSub : D → D → RR := fI0 fun i j => .int (i - j)
noncomputable def dDiv : D → D → RR := fI cDiv fun i j => .int (i / j)
noncomputable def dMod : D → D → RR := fI (fun _ j => cdec (0 < j)) fun i j => .int (i % j)
noncomputable def dPow : D → D → RR := fI cPow fun i j => .int (i ^ j.toNat)
noncomputable def dShl : D → D → RR := fI cPow fun i j => .int (i * 2 ^ j.toNat)
noncomputable def dShr : D → D → RR := fI (fun _ j => cdec (0 ≤ j)) fun i j => .int (i / 2 ^ j.toNat)
noncomputable def dAnd : D → D → RR := fI0 fun i j => .int (Builtin.bitAnd i j)
noncomputable def dOr : D → D → RR := fI0 fun i j => .int (Builtin.bitOr i j)
noncomputable def dXor : D → D → RR := fI0 fun i j => .int (Builtin.bitXor i j)
theorem s_mul {G : Gi} : S2 G (fun x y H Q => rI CMul (fun i j => .int (i * j)) x y H Q ∨ rI CMulW (fun i j => .int (i * j)) x y H Q) (fI cMul fun i j => .int (i * j)) := by
  intro Hf H x y d e s p q
  unfold fI
  split
  · split
    · rename_i i j hc
      intro Q k
      unfold cMul at hc
      replace hc := of_cdec hc
      rcases hc with hc | hc
      · exact .inl ⟨i, j, p.int, q.int, hc, k _ .int⟩
      · exact .inr ⟨i, j, p.int, q.int, hc, k _ .int⟩
    · trivial
  · trivial
theorem se_mul {a b : Expr} {pos : Pos} {ma mb : Sm} (ha : SE P a ma) (hb : SE P b mb) : SE P (.BinOp a .Mult b pos) (m2 dMul ma mb) :=
  se_op (fun _ _ => op_mul.or op_mulW) s_mul ha hb
theorem se_sub {a b : Expr} {pos : Pos} {ma mb : Sm} (ha : SE P a ma) (hb : SE P b mb) : SE P (.BinOp a .Sub b pos) (m2 dSub ma mb) :=
  se_op (fun _ _ => op_sub) (s_I0 fun _ _ _ => .int) ha hb
theorem se_fdiv {a b : Expr} {pos : Pos} {ma mb : Sm} (ha : SE P a ma) (hb : SE P b mb) : SE P (.BinOp a .FloorDiv b pos) (m2 dDiv ma mb) :=
  se_op (fun _ _ => op_fdivW) (s_I (fun i j h => by
    exact of_cdec h) fun _ _ _ => .int) ha hb
theorem se_mod {a b : Expr} {pos : Pos} {ma mb : Sm} (ha : SE P a ma) (hb : SE P b mb) : SE P (.BinOp a .Mod b pos) (m2 dMod ma mb) :=
  se_op (fun _ _ => op_mod) (s_I (fun i j h => of_cdec h) fun _ _ _ => .int) ha hb
theorem cPow_ok {i j : Int} (h : cPow i j = true) : CPow i j := by
  exact of_cdec h
theorem se_pow {a b : Expr} {pos : Pos} {ma mb : Sm} (ha : SE P a ma) (hb : SE P b mb) : SE P (.BinOp a .Pow b pos) (m2 dPow ma mb) :=
  se_op (fun _ _ => op_pow) (s_I (fun i j h => cPow_ok h) fun _ _ _ => .int) ha hb
theorem se_shl {a b : Expr} {pos : Pos} {ma mb : Sm} (ha : SE P a ma) (hb : SE P b mb) : SE P (.BinOp a .LShift b pos) (m2 dShl ma mb) :=
  se_op (fun _ _ => op_shl) (s_I (fun i j h => cPow_ok h) fun _ _ _ => .int) ha hb
theorem se_shr {a b : Expr} {pos : Pos} {ma mb : Sm} (ha : SE P a ma) (hb : SE P b mb) : SE P (.BinOp a .RShift b pos) (m2 dShr ma mb) :=
  se_op (fun _ _ => op_shr) (s_I (fun i j h => of_cdec h) fun _ _ _ => .int) ha hb
theorem se_band {a b : Expr} {pos : Pos} {ma mb : Sm} (ha : SE P a ma) (hb : SE P b mb) : SE P (.BinOp a .BitAnd b pos) (m2 dAnd ma mb) :=
  se_op (fun _ _ => op_and) (s_I0 fun _ _ _ => .int) ha hb
theorem se_bor {a b : Expr} {pos : Pos} {ma mb : Sm} (ha : SE P a ma) (hb : SE P b mb) : SE P (.BinOp a .BitOr b pos) (m2 dOr ma mb) :=
  se_op (fun _ _ => op_or) (s_I0 fun _ _ _ => .int) ha hb
noncomputable def fC (g : Int → Int → Bool) (h : Str → Str → Bool) (d e : D) : RR := match d, e with
  | .int i, .int j => .sh (.bl (g i j))
  | .str a, .str b => .sh (.bl (h a b))
  | _, _ => .no
noncomputable def dLt : D → D → RR := fC (fun i j => cdec (i < j)) fun a b => cdec (a.cps.toList < b.cps.toList)
noncomputable def dLe : D → D → RR := fC (fun i j => cdec (i ≤ j)) fun a b => !cdec (b.cps.toList < a.cps.toList)
noncomputable def dGt : D → D → RR := fC (fun i j => cdec (j < i)) fun a b => cdec (b.cps.toList < a.cps.toList)
noncomputable def dGe : D → D → RR := fC (fun i j => cdec (j ≤ i)) fun a b => !cdec (a.cps.toList < b.cps.toList)
noncomputable def rC (g : Int → Int → Bool) (h : Str → Str → Bool) : R2 := fun x y H Q => rI0 (fun i j => .bl (g i j)) x y H Q ∨ ∃ i j, x = .str i ∧ y = .str j ∧ Q (.bl (h i j)) H
theorem s_C {G : Gi} {g : Int → Int → Bool} {h : Str → Str → Bool} : S2 G (rC g h) (fC g h) := by
  intro Hf H x y d e s p q
  unfold fC
  split
  · exact fun Q k => .inl ⟨_, _, p.int, q.int, k _ .bl⟩
  · exact fun Q k => .inr ⟨_, _, p.str, q.str, k _ .bl⟩
  · trivial
theorem op_ltA {X : Cx} : OpR X (compareOp .Lt) (rC (fun i j => cdec (i < j)) fun a b => cdec (a.cps.toList < b.cps.toList)) := by simp only [cdec_eq]; exact op_lt.or op_lt_str
theorem op_leA {X : Cx} : OpR X (compareOp .LtE) (rC (fun i j => cdec (i ≤ j)) fun a b => !cdec (b.cps.toList < a.cps.toList)) := by simp only [cdec_eq]; exact op_le.or op_le_str
theorem op_gtA {X : Cx} : OpR X (compareOp .Gt) (rC (fun i j => cdec (j < i)) fun a b => cdec (b.cps.toList < a.cps.toList)) := by simp only [cdec_eq]; exact op_gt.or op_gt_str
theorem op_geA {X : Cx} : OpR X (compareOp .GtE) (rC (fun i j => cdec (j ≤ i)) fun a b => !cdec (a.cps.toList < b.cps.toList)) := by simp only [cdec_eq]; exact op_ge.or op_ge_str
noncomputable def dNeg : D → RR
  | .int i => .sh (.int (-i))
  | _ => .no
theorem s_neg {G : Gi} : S1 G (rU fun i => .int (-i)) dNeg := by
  intro Hf H x d s p
  unfold dNeg
  split
  · exact fun Q k => ⟨_, p.int, k _ .int⟩
  · trivial
theorem se_neg {a : Expr} {pos : Pos} {ma : Sm} (ha : SE P a ma) : SE P (.UnaryOp .USub a pos) (m1 dNeg ma) := se_un (fun _ _ => un_neg) s_neg ha
end
end VM

/-! VMM: comparisons, places, calls of what is built in -/
namespace VM
open PySem PySem.Spec PyProof.Rows L2

/-! ### data as the kit's data -/
mutual
noncomputable def D.py : D → Option PyData
  | .non => some .none
  | .bl b => some (.bool b)
  | .int i => some (.int i)
  | .str z => some (.str z)
  | .tup xs => (D.pys xs).map .tuple
  | .frt xs => (D.pys xs).map .tuple
  | .lst xs => (D.pys xs).map .list
  | .frl xs => (D.pys xs).map .list
  | _ => none
noncomputable def D.pys : List D → Option (List PyData)
  | [] => some []
  | x :: r => match D.py x, D.pys r with
    | some a, some as => some (a :: as)
    | _, _ => none
end
theorem dpAll_of {K : PySem.W.Frag} {H : Hp} : ∀ {vs : List V} {ds : List D} {ps : List PyData}, vs.length = ds.length → (∀ (i : Nat) v d, vs[i]? = some v → ds[i]? = some d → ∀ p, D.py d = some p → Dp K H v p) → D.pys ds = some ps → DpAll K H vs ps
  | [], [], ps, _, _, e => by unfold D.pys at e; cases e; exact .nil
  | [], _ :: _, _, l, _, _ => by simp at l
  | _ :: _, [], _, l, _, _ => by simp at l
  | v :: vs, d :: ds, ps, l, h, e => by
    unfold D.pys at e
    cases e1 : D.py d with
    | none => rw [e1] at e; cases e
    | some a =>
      cases e2 : D.pys ds with
      | none => rw [e1, e2] at e; cases e
      | some as =>
        rw [e1, e2] at e; cases e
        exact .cons (h 0 v d rfl rfl a e1) (dpAll_of (by simpa using l) (fun i w x h1 h2 => h (i + 1) w x (by simpa using h1) (by simpa using h2)) e2)
theorem Rep.dp {G : Gi} {Hf H : Hp} (s : Same Hf H) {v : V} {d : D} (r : Rep G Hf v d) : ∀ p, D.py d = some p → Dp G.K H v p := by
  induction r with
  | non => intro p e; unfold D.py at e; cases e; exact .non
  | bl => intro p e; unfold D.py at e; cases e; exact .bl _
  | int => intro p e; unfold D.py at e; cases e; exact .int _
  | str => intro p e; unfold D.py at e; cases e; exact .str _
  | tup h l _ ih =>
    intro p e; unfold D.py at e
    obtain ⟨ps, e1, e2⟩ := Option.map_eq_some_iff.mp e
    subst e2
    exact .tup (.inl (.inl (s _ _ h))) (dpAll_of l ih e1)
  | frt h l _ ih =>
    intro p e; unfold D.py at e
    obtain ⟨ps, e1, e2⟩ := Option.map_eq_some_iff.mp e
    subst e2
    exact .tup (SqT.mono s h) (dpAll_of l ih e1)
  | lst h l _ ih =>
    intro p e; unfold D.py at e
    obtain ⟨ps, e1, e2⟩ := Option.map_eq_some_iff.mp e
    subst e2
    exact .lst (.inl (.inl (s _ _ h))) (dpAll_of l ih e1)
  | frl h l _ ih =>
    intro p e; unfold D.py at e
    obtain ⟨ps, e1, e2⟩ := Option.map_eq_some_iff.mp e
    subst e2
    exact .lst (SqL.mono s h) (dpAll_of l ih e1)
  | dic => intro p e; unfold D.py at e; cases e
  | dit => intro p e; unfold D.py at e; cases e
  | ins => intro p e; unfold D.py at e; cases e
  | fn => intro p e; unfold D.py at e; cases e
  | ty => intro p e; unfold D.py at e; cases e
  | cls => intro p e; unfold D.py at e; cases e
  | exc => intro p e; unfold D.py at e; cases e
  | clo => intro p e; unfold D.py at e; cases e
theorem PRep.dp {G : Gi} {Hf H : Hp} (s : Same Hf H) {v : V} {d : D} (r : PRep G Hf H v d) {p : PyData} (e : D.py d = some p) : Dp G.K H v p := by
  rcases r with r | ⟨a, o, rfl, ha, t⟩
  · exact r.dp s p e
  · cases d with
    | lst ds =>
      obtain ⟨vs, rfl, rr⟩ := t
      unfold D.py at e
      obtain ⟨ps, e1, e2⟩ := Option.map_eq_some_iff.mp e
      subst e2
      exact .lst (.inl (.inl ha)) (dpAll_of rr.len (fun i v d h1 h2 => (rr.at' i v d h1 h2).dp s) e1)
    | dic => unfold D.py at e; cases e
    | dit => unfold D.py at e; cases e
    | ins => unfold D.py at e; cases e
    | _ => exact t.elim
noncomputable def dEqv (neg : Bool) (d e : D) : RR := match D.py d, D.py e with
  | some p, some q => if hid (SeqAt.shaped p && SeqAt.shaped q) then .sh (.bl (hid (if neg then !PyData.eqv p q else PyData.eqv p q))) else .no
  | _, _ => .no
noncomputable abbrev dEq := dEqv false
noncomputable abbrev dNe := dEqv true
theorem s_eq {G : Gi} : S2 G (rEqD G.K) dEq := by
  intro Hf H x y d e s p q
  show RRok G Hf H _ (dEqv _ d e)
  unfold dEqv
  split
  · rename_i a b h1 h2
    split
    · rename_i hs
      rw [hid_eq, Bool.and_eq_true] at hs
      simp only [hid_eq]
      exact fun Q k => ⟨a, b, p.dp s h1, q.dp s h2, hs.1, hs.2, k _ .bl⟩
    · trivial
  · trivial
theorem s_ne {G : Gi} : S2 G (rNeD G.K) dNe := by
  intro Hf H x y d e s p q
  show RRok G Hf H _ (dEqv _ d e)
  unfold dEqv
  split
  · rename_i a b h1 h2
    split
    · rename_i hs
      rw [hid_eq, Bool.and_eq_true] at hs
      simp only [hid_eq]
      exact fun Q k => ⟨a, b, p.dp s h1, q.dp s h2, hs.1, hs.2, k _ .bl⟩
    · trivial
  · trivial
noncomputable def dInL (neg : Bool) (d e : D) : RR := match D.py d, D.py e with
  | some p, some (.list qs) => if hid (SeqAt.shaped p && SeqAt.shaped (.list qs)) then .sh (.bl (hid (if neg then !(qs.any fun z => PyData.eqv z p) else qs.any fun z => PyData.eqv z p))) else .no
  | _, _ => .no
theorem s_in {G : Gi} : S2 G (rInD G.K) (dInL false) := by
  intro Hf H x y d e s p q
  unfold dInL
  split
  · rename_i a b h1 h2
    split
    · rename_i hs
      rw [hid_eq, Bool.and_eq_true] at hs
      simp only [hid_eq]
      exact fun Q k => ⟨a, b, p.dp s h1, q.dp s h2, hs.1, hs.2, k _ .bl⟩
    · trivial
  · trivial
/-! ### sequences -/
noncomputable def listOf : D → Option (List D)
  | .lst xs => some xs
  | .frl xs => some xs
  | _ => none
noncomputable def tupOf : D → Option (List D)
  | .tup xs => some xs
  | .frt xs => some xs
  | _ => none
theorem PRep.list {G : Gi} {Hf H : Hp} (s : Same Hf H) {v : V} {d : D} {ds : List D} (r : PRep G Hf H v d) (e : listOf d = some ds) : ∃ a xs, v = .ref a ∧ SqL G.K H a xs ∧ Reps G Hf xs ds := by
  rcases r with r | ⟨a, o, rfl, ha, t⟩
  · cases r with
    | lst h l r => cases e; exact ⟨_, _, rfl, .inl (.inl (s _ _ h)), l, r⟩
    | frl h l r => cases e; exact ⟨_, _, rfl, SqL.mono s h, l, r⟩
    | _ => cases e
  · cases d with
    | lst ds => obtain ⟨vs, rfl, rr⟩ := t; cases e; exact ⟨_, _, rfl, .inl (.inl ha), rr⟩
    | frl _ => exact t.elim
    | _ => cases e
theorem PRep.tupl {G : Gi} {Hf H : Hp} (s : Same Hf H) {v : V} {d : D} {ds : List D} (r : PRep G Hf H v d) (e : tupOf d = some ds) : ∃ a xs, v = .ref a ∧ SqT G.K H a xs ∧ Reps G Hf xs ds := by
  rcases r with r | ⟨a, o, rfl, ha, t⟩
  · cases r with
    | tup h l r => cases e; exact ⟨_, _, rfl, .inl (.inl (s _ _ h)), l, r⟩
    | frt h l r => cases e; exact ⟨_, _, rfl, SqT.mono s h, l, r⟩
    | _ => cases e
  · cases d with
    | tup _ => exact t.elim
    | frt _ => exact t.elim
    | _ => cases e
theorem Reps.atI {G : Gi} {H : Hp} {vs : List V} {ds : List D} (r : Reps G H vs ds) {i : Int} {d : D} (h : atI ds i = some d) : ∃ v, atI vs i = some v ∧ Rep G H v d := by
  unfold L2.atI at h ⊢
  rw [r.len]
  cases e : ixN ds.length i with
  | none => rw [e] at h; cases h
  | some j =>
    rw [e] at h
    obtain ⟨v, h1, h2⟩ := r.get (show ds[j]? = some d from h)
    exact ⟨v, h1, h2⟩
noncomputable def dIx (d e : D) : RR := match e with
  | .int i => match listOf d with
    | some xs => match atI xs i with
      | some x => .sh x
      | none => .no
    | none => match tupOf d with
      | some xs => match atI xs i with
        | some x => .sh x
        | none => .no
      | none => match d with
        | .str z => if z.length ≤ sizeLine then match atI z.cps.toList i with
            | some c => .sh (.str ⟨#[c]⟩)
            | none => .no
          else .no
        | _ => .no
  | _ => .no
theorem s_ix {G : Gi} : S2 G (rIx G.K) dIx := by
  intro Hf H x y d e s p q
  unfold dIx
  split
  · rename_i i
    split
    · rename_i xs h
      obtain ⟨a, vs, rfl, h1, r⟩ := p.list s h
      split
      · rename_i w hw
        obtain ⟨v, h2, h3⟩ := r.atI hw
        exact fun Q k => .inl ⟨a, vs, i, v, rfl, q.int, h1, h2, k v h3⟩
      · trivial
    · split
      · rename_i xs h
        obtain ⟨a, vs, rfl, h1, r⟩ := p.tupl s h
        split
        · rename_i w hw
          obtain ⟨v, h2, h3⟩ := r.atI hw
          exact fun Q k => .inr (.inl ⟨a, vs, i, v, rfl, q.int, h1, h2, k v h3⟩)
        · trivial
      · split
        · rename_i z _ _
          split
          · rename_i hz
            split
            · rename_i c hc
              exact fun Q k => .inr (.inr ⟨z, i, c, p.str, q.int, hz, hc, k _ .str⟩)
            · trivial
          · trivial
        · trivial
  · trivial
noncomputable def dAdd (d e : D) : RR := match d, e with
  | .int i, .int j => .sh (.int (i + j))
  | .str a, .str b => if a.length + b.length ≤ sizeLine then .sh (.str (a ++ b)) else .no
  | .lst xs, .lst ys => if xs.length + ys.length ≤ sizeLine then .ow (.lst (xs ++ ys)) else .no
  | .tup xs, .tup ys => if xs.length + ys.length ≤ sizeLine then match xs, ys with
      | [], _ => .sh (.tup ys)
      | _, [] => .sh (.tup xs)
      | _, _ => .tp (xs ++ ys)
    else .no
  | _, _ => .no
noncomputable def rAddA (K : PySem.W.Frag) : R2 := fun x y H Q => (∃ i j, x = .int i ∧ y = .int j ∧ Q (.int (i + j)) H) ∨ (∃ i j, x = .str i ∧ y = .str j ∧ i.length + j.length ≤ sizeLine ∧ Q (.str (i ++ j)) H) ∨ rCat x y H Q ∨ rCatA K x y H Q
theorem op_addA {X : Cx} : OpR X (binaryOp .Add) (rAddA X.K) := op_add.or (op_add_str.or (op_cat.or op_catA))
theorem PRep.lstS {G : Gi} {Hf H : Hp} (s : Same Hf H) {v : V} {ds : List D} (r : PRep G Hf H v (.lst ds)) : ∃ a xs, v = .ref a ∧ H a = some (.lst xs) ∧ Reps G Hf xs ds := by
  rcases r with r | ⟨a, o, rfl, ha, t⟩
  · cases r with
    | lst h l r => exact ⟨_, _, rfl, s _ _ h, l, r⟩
  · obtain ⟨vs, rfl, rr⟩ := t; exact ⟨_, _, rfl, ha, rr⟩
theorem s_add {G : Gi} : S2 G (rAddA G.K) dAdd := by
  intro Hf H x y d e s p q
  unfold dAdd
  split
  · exact fun Q k => .inl ⟨_, _, p.int, q.int, k _ .int⟩
  · split
    · rename_i hz
      exact fun Q k => .inr (.inl ⟨_, _, p.str, q.str, hz, k _ .str⟩)
    · trivial
  · rename_i xs ys
    split
    · rename_i hz
      obtain ⟨a, us, rfl, h1, r1⟩ := p.lstS s
      obtain ⟨b, ws, rfl, h2, r2⟩ := q.lstS s
      exact fun Q k => .inr (.inr (.inl ⟨a, b, us, ws, rfl, rfl, h1, h2, by rw [r1.len, r2.len]; exact hz, fun l hl => k l _ hl ⟨_, rfl, r1.append r2⟩⟩))
    · trivial
  · rename_i xs ys
    split
    · rename_i hz
      obtain ⟨a, us, rfl, h1, r1⟩ := p.tupl s (ds := xs) rfl
      obtain ⟨b, ws, rfl, h2, r2⟩ := q.tupl s (ds := ys) rfl
      have pa : Rep G Hf (.ref a) (.tup xs) := by
        rcases p with p | ⟨_, _, _, _, t⟩
        · exact p
        · exact t.elim
      have qa : Rep G Hf (.ref b) (.tup ys) := by
        rcases q with q | ⟨_, _, _, _, t⟩
        · exact q
        · exact t.elim
      have l1 := r1.len
      have l2 := r2.len
      split
      · refine fun Q k => .inr (.inr (.inr ⟨a, b, us, ws, rfl, rfl, h1, h2, by rw [l1, l2]; exact hz, fun _ => k _ qa, fun h => absurd (List.eq_nil_of_length_eq_zero (by simpa using l1)) h, fun h => absurd (List.eq_nil_of_length_eq_zero (by simpa using l1)) h⟩))
      · rename_i hx
        have hu : us ≠ [] := fun z => by
          subst z
          exact hx (List.eq_nil_of_length_eq_zero (by simpa using l1.symm))
        refine fun Q k => .inr (.inr (.inr ⟨a, b, us, ws, rfl, rfl, h1, h2, by rw [l1, l2]; exact hz, fun h => absurd h hu, fun _ _ => k _ pa, fun _ h => absurd (List.eq_nil_of_length_eq_zero (by simpa using l2)) h⟩))
      · rename_i hx hy
        have hu : us ≠ [] := fun z => by
          subst z
          exact hx (List.eq_nil_of_length_eq_zero (by simpa using l1.symm))
        have hw : ws ≠ [] := fun z => by
          subst z
          exact hy (List.eq_nil_of_length_eq_zero (by simpa using l2.symm))
        exact fun Q k => .inr (.inr (.inr ⟨a, b, us, ws, rfl, rfl, h1, h2, by rw [l1, l2]; exact hz, fun h => absurd h hu, fun _ h => absurd h hw, fun _ _ l hl => k l _ hl (r1.append r2)⟩))
    · trivial
  · trivial

/-! ### calls -/
noncomputable def dLen : D → RR
  | .str z => if z.length ≤ sizeLine then .sh (.int z.length) else .no
  | .lst xs => .sh (.int xs.length)
  | .frl xs => .sh (.int xs.length)
  | .tup xs => .sh (.int xs.length)
  | .frt xs => .sh (.int xs.length)
  | _ => .no
noncomputable def rLenA (K : PySem.W.Frag) : List V → Hp → VK → Prop := fun xs H Q => (∃ p ys, xs = [.ref p] ∧ (SqL K H p ys ∨ SqT K H p ys) ∧ Q (.int ys.length) H) ∨ ∃ z, xs = [.str z] ∧ z.length ≤ sizeLine ∧ Q (.int z.length) H
theorem call_lenA {X : Cx} : CallR X (.builtin "len") (rLenA X.K) := call_len_seq.or call_len_str
theorem PReps.inv1 {G : Gi} {Hf H : Hp} {vs : List V} {d : D} (p : PReps G Hf H vs [d]) : ∃ v, vs = [v] ∧ PRep G Hf H v d := by
  cases p with
  | cons h t => cases t; exact ⟨_, rfl, h⟩
theorem PReps.inv2 {G : Gi} {Hf H : Hp} {vs : List V} {d e : D} (p : PReps G Hf H vs [d, e]) : ∃ v w, vs = [v, w] ∧ PRep G Hf H v d ∧ PRep G Hf H w e := by
  cases p with
  | cons h t =>
    cases t with
    | cons h2 t2 => cases t2; exact ⟨_, _, rfl, h, h2⟩
theorem n_len {G : Gi} : SN G (rLenA G.K) (f1 dLen) := by
  intro Hf H vs ds s p
  match ds, p with
  | [d], p =>
    obtain ⟨v, rfl, h⟩ := p.inv1
    show RRok G Hf H _ (dLen d)
    cases d with
    | str z =>
      show RRok G Hf H _ (if z.length ≤ sizeLine then .sh (.int z.length) else .no)
      split
      · rename_i hz; exact fun Q k => .inr ⟨z, by rw [h.str], hz, k _ .int⟩
      · trivial
    | lst xs => obtain ⟨a, us, rfl, h1, r⟩ := h.list s (ds := xs) rfl; exact fun Q k => .inl ⟨a, us, rfl, .inl h1, k _ (by rw [r.len]; exact .int)⟩
    | frl xs => obtain ⟨a, us, rfl, h1, r⟩ := h.list s (ds := xs) rfl; exact fun Q k => .inl ⟨a, us, rfl, .inl h1, k _ (by rw [r.len]; exact .int)⟩
    | tup xs => obtain ⟨a, us, rfl, h1, r⟩ := h.tupl s (ds := xs) rfl; exact fun Q k => .inl ⟨a, us, rfl, .inr h1, k _ (by rw [r.len]; exact .int)⟩
    | frt xs => obtain ⟨a, us, rfl, h1, r⟩ := h.tupl s (ds := xs) rfl; exact fun Q k => .inl ⟨a, us, rfl, .inr h1, k _ (by rw [r.len]; exact .int)⟩
    | _ => trivial
  | [], p => trivial
  | _ :: _ :: _, p => trivial
noncomputable def dInt : D → RR
  | .int i => .sh (.int i)
  | .bl b => .sh (.int (if b then 1 else 0))
  | _ => .no
theorem n_int {G : Gi} : SN G (fun xs H Q => (∃ i, xs = [.int i] ∧ Q (.int i) H) ∨ ∃ k, xs = [.bl k] ∧ Q (.int (if k then 1 else 0)) H) (f1 dInt) := by
  intro Hf H vs ds s p
  match ds, p with
  | [d], p =>
    obtain ⟨v, rfl, h⟩ := p.inv1
    show RRok G Hf H _ (dInt d)
    cases d with
    | int i => exact fun Q k => .inl ⟨i, by rw [h.int], k _ .int⟩
    | bl b => exact fun Q k => .inr ⟨b, by rw [h.bl], k _ .int⟩
    | _ => trivial
  | [], p => trivial
  | _ :: _ :: _, p => trivial
noncomputable def dMax : D → D → RR := fI0 fun i j => .int (if j > i then j else i)
noncomputable def dMin : D → D → RR := fI0 fun i j => .int (if j < i then j else i)
theorem n_I2 {G : Gi} {g : Int → Int → Int} : SN G (fun xs H Q => ∃ i j, xs = [.int i, .int j] ∧ Q (.int (g i j)) H) (f2 (fI0 fun i j => .int (g i j))) := by
  intro Hf H vs ds s p
  match ds, p with
  | [d, e], p =>
    obtain ⟨v, w, rfl, h, h2⟩ := p.inv2
    show RRok G Hf H _ (fI0 _ d e)
    unfold fI0
    split
    · exact fun Q k => ⟨_, _, by rw [h.int, h2.int], k _ .int⟩
    · trivial
  | [], p => trivial
  | [_], p => trivial
  | _ :: _ :: _ :: _, p => trivial
noncomputable def tyOf : D → Option String
  | .non => some "NoneType"
  | .bl _ => some "bool"
  | .int _ => some "int"
  | .str _ => some "str"
  | .lst _ => some "list"
  | .tup _ => some "tuple"
  | .dic _ => some "dict"
  | _ => none
noncomputable def dIsi (d e : D) : RR := match tyOf d, e with
  | some a, .ty b => match kitB a b with
    | some r => .sh (.bl r)
    | none => .no
  | _, _ => .no
theorem PRep.ty {G : Gi} {Hf H : Hp} {v : V} {T : String} (h : PRep G Hf H v (.ty T)) : v = .ty T := by
  rcases h with h | ⟨p, o, _, _, t⟩
  · cases h; rfl
  · exact t.elim
theorem PRep.tyx {G : Gi} {Hf H : Hp} (s : Same Hf H) {v : V} {d : D} {T : String} (h : PRep G Hf H v d) (e : tyOf d = some T) : TyX G.K H v (.type T) := by
  rcases h with h | ⟨p, o, rfl, hp, t⟩
  · cases h with
    | non => cases e; exact .base .non
    | bl => cases e; exact .base (.bl _)
    | int => cases e; exact .base (.int _)
    | str => cases e; exact .base (.str _)
    | lst h => cases e; exact .base (.lst (s _ _ h))
    | tup h => cases e; exact .base (.tup (s _ _ h))
    | dic h =>
      cases e
      rcases h with h | ⟨o, h⟩
      · exact .base (.dK (s _ _ h))
      · exact .fDict (s _ _ h)
    | _ => cases e
  · cases d with
    | lst ds => obtain ⟨vs, rfl, _⟩ := t; cases e; exact .base (.lst hp)
    | dic ds => obtain ⟨vs, rfl, _⟩ := t; cases e; exact .base (.dK hp)
    | _ => first | exact t.elim | cases e
theorem n_isi {G : Gi} : SN G (rIsi G.K) (f2 dIsi) := by
  intro Hf H vs ds s p
  match ds, p with
  | [d, e], p =>
    obtain ⟨v, w, rfl, h, h2⟩ := p.inv2
    show RRok G Hf H _ (dIsi d e)
    unfold dIsi
    split
    · rename_i a b h1
      split
      · rename_i r hr
        cases h2.ty
        exact fun Q k => ⟨v, .ty b, .type a, .type b, r, rfl, .ty b, h.tyx s h1, kit_ty hr, k _ .bl⟩
      · trivial
    · trivial
  | [], p => trivial
  | [_], p => trivial
  | _ :: _ :: _ :: _, p => trivial
noncomputable def dList (d : D) : RR := match listOf d with
  | some xs => .ow (.lst xs)
  | none => match tupOf d with
    | some xs => .ow (.lst xs)
    | none => .no
noncomputable def dTuple (d : D) : RR := match listOf d with
  | some xs => .tp xs
  | none => match d with
    | .tup xs => .sh (.tup xs)
    | .frt xs => .sh (.frt xs)
    | _ => .no
section
variable {P : Pl} {N : List Str} {sc : Scope} {mg : Str → Option Value}
theorem se_add {a b : Expr} {pos : Pos} {ma mb : Sm} (hK : ∀ X, P.M X → X.K = P.G.K) (ha : SE P a ma) (hb : SE P b mb) : SE P (.BinOp a .Add b pos) (m2 dAdd ma mb) :=
  se_op (fun X hX => (hK X hX) ▸ op_addA) s_add ha hb
theorem se_eq (fr : Fra P N sc mg) {a b : Expr} {pos : Pos} {ma mb : Sm} (ha : SE P a ma) (hb : SE P b mb) (hm : behindInMarks .Eq b = false) : SE P (.Compare a [.Eq] [b] pos) (m2 dEq ma mb) :=
  se_cmpR (fun X hX => (fr.K X hX) ▸ op_eqD (by have := fr.hu X hX; omega)) s_eq ha hb hm
theorem se_gt {a b : Expr} {pos : Pos} {ma mb : Sm} (ha : SE P a ma) (hb : SE P b mb) (hm : behindInMarks .Gt b = false) : SE P (.Compare a [.Gt] [b] pos) (m2 dGt ma mb) := se_cmpR (fun _ _ => op_gtA) s_C ha hb hm
theorem se_ge {a b : Expr} {pos : Pos} {ma mb : Sm} (ha : SE P a ma) (hb : SE P b mb) (hm : behindInMarks .GtE b = false) : SE P (.Compare a [.GtE] [b] pos) (m2 dGe ma mb) := se_cmpR (fun _ _ => op_geA) s_C ha hb hm
theorem se_ix (fr : Fra P N sc mg) {a b : Expr} {pos : Pos} {ma mb : Sm} (ha : SE P a ma) (hb : SE P b mb) (hs : PlainIx b) : SE P (.Subscript a b pos) (m2 dIx ma mb) :=
  let ⟨_, p, e⟩ := ha; let ⟨_, q, g⟩ := hb; ⟨_, fun X hX => (fr.K X hX) ▸ pe_ix ix_seq (p X hX) (q X hX) hs, ev_2 (by rw [show P.G.K = P.G.K from rfl]; exact s_ix) e g⟩
theorem se_callB {x : Str} {id : String} {r : List V → Hp → VK → Prop} {f : List D → RR} {e : Expr} {es : List Expr} {p pos : Pos} {l : Lm} (fr : Fra P N sc mg) (hc : ∀ X, P.M X → CallR X (.builtin id) r) (hf : SN P.G r f) (hg : sc.names.lookup x = some .globalImplicit) (hm : mg x = none)
    (hv : bootBuiltins x = some (.builtin id)) (hl : SL P (e :: es) l) (hs : (e :: es).all notStar = true) (hn : x ≠ "__name__" := by decide) (hd : (x == ("__debug__" : Str)) = false := by decide) : SE P (.Call (.Name x p) (e :: es) [] pos) (mN f l) := by
  obtain ⟨ts, q, g⟩ := hl
  have hs2 := hs
  rw [List.all_cons, Bool.and_eq_true] at hs2
  exact ⟨_, fun X hX => pe_callB (hc X hX) (fr.gl hg X hX) (fr.bm hm X hX) hv (pa_of (q X hX) hs) hn hd (star_ok hs2.1) (star_any hs2.2), ev_n hf g⟩
theorem se_callTy {x : Str} {T : String} {r : List V → Hp → VK → Prop} {f : List D → RR} {e : Expr} {es : List Expr} {p pos : Pos} {l : Lm} (fr : Fra P N sc mg) (hc : ∀ X, P.M X → CallR X (.type T) r) (hf : SN P.G r f) (hg : sc.names.lookup x = some .globalImplicit) (hm : mg x = none)
    (hv : bootBuiltins x = some (.type T)) (hl : SL P (e :: es) l) (hs : (e :: es).all notStar = true) (hn : x ≠ "__name__" := by decide) (hd : (x == ("__debug__" : Str)) = false := by decide) : SE P (.Call (.Name x p) (e :: es) [] pos) (mN f l) := by
  obtain ⟨ts, q, g⟩ := hl
  have hs2 := hs
  rw [List.all_cons, Bool.and_eq_true] at hs2
  exact ⟨_, fun X hX => pe_callTy (hc X hX) (fr.gl hg X hX) (fr.bm hm X hX) hv (pa_of (q X hX) hs) hn hd (star_ok hs2.1) (star_any hs2.2), ev_n hf g⟩
end
end VM

/-! VMN: what changes a variable's thing; comprehensions as expressions and statements -/
namespace VM
open PySem PySem.Spec PyProof.Rows L2

section
variable {P : Pl} {n : Nat} {IO : En} {H0 Hf H : Hp} {σ tv : L2.St} {env te : Env} {N : List Str} {sc : Scope} {mg : Str → Option Value}
theorem St0.slot_set {i : Nat} {s : Slot} {d' : D} {p : Addr} {o' : HO} (S : St0 P n IO H0 Hf σ tv env te H) (hs : env[i]? = some (some s)) (hm : s.m.mut = true) (hp : σ[i]? = some (some (V.ref p))) (t : TopO P.G Hf o' d') :
    St0 P n IO H0 Hf σ tv (env.set i (some ⟨s.m, d'⟩)) te (upd H p o') := by
  have le := S.le
  have ls := S.ls
  have hi : i < env.length := lt_of_get hs
  have h := S.sr.change (i := i) (s := s) (by rw [List.getElem?_append_left hi]; exact hs) hm (by rw [List.getElem?_append_left (by omega)]; exact hp) t
  refine ⟨by simpa using le, ls, fun j s' hs' k => ?_, ?_⟩
  · by_cases hj : i = j
    · subst hj
      rw [List.getElem?_set_self hi] at hs'
      cases hs'
      exact S.na i s hs k
    · rw [List.getElem?_set_ne hj] at hs'
      exact S.na j s' hs' k
  · rw [← List.set_append_left _ _ hi]
    exact h
theorem St0.slot_own {i : Nat} {s : Slot} (S : St0 P n IO H0 Hf σ tv env te H) (hs : env[i]? = some (some s)) (hm : s.m.mut = true) : ∃ p o, σ[i]? = some (some (V.ref p)) ∧ H p = some o ∧ TopO P.G Hf o s.d := by
  have le := S.le
  have ls := S.ls
  have hi : i < env.length := lt_of_get hs
  obtain ⟨m, d⟩ := s
  cases m with
  | sh => cases hm
  | al j => cases hm
  | fr => cases hm
  | ow =>
    obtain ⟨p, o, e1, _, _, e4, t⟩ := S.sr.own i d (by rw [List.getElem?_append_left hi]; exact hs)
    rw [List.getElem?_append_left (by omega)] at e1
    exact ⟨p, o, e1, e4, t⟩
  | io =>
    obtain ⟨p, o, e1, _, _, e4, t⟩ := S.sr.inout i d (by rw [List.getElem?_append_left hi]; exact hs)
    rw [List.getElem?_append_left (by omega)] at e1
    exact ⟨p, o, e1, e4, t⟩

theorem St0.slot_own' {i : Nat} {s : Slot} (S : St0 P n IO H0 Hf σ tv env te H) (hs : env[i]? = some (some s)) (hm : s.m.mut = true) : ∃ p o, σ[i]? = some (some (V.ref p)) ∧ Hf p = none ∧ H p = some o ∧ TopO P.G Hf o s.d := by
  have le := S.le
  have ls := S.ls
  have hi : i < env.length := lt_of_get hs
  obtain ⟨m, d⟩ := s
  cases m with
  | sh => cases hm
  | al j => cases hm
  | fr => cases hm
  | ow =>
    obtain ⟨p, o, e1, e2, _, e4, t⟩ := S.sr.own i d (by rw [List.getElem?_append_left hi]; exact hs)
    rw [List.getElem?_append_left (by omega)] at e1
    exact ⟨p, o, e1, e2, e4, t⟩
  | io =>
    obtain ⟨p, o, e1, e2, _, e4, t⟩ := S.sr.inout i d (by rw [List.getElem?_append_left hi]; exact hs)
    rw [List.getElem?_append_left (by omega)] at e1
    exact ⟨p, o, e1, e2, e4, t⟩
/-! ### methods of a variable -/
noncomputable def kindOf (T : String) (e : Env) (i : Nat) : Bool := match e[i]? with
  | some (some s) => s.m.mut && (match s.d with
    | .lst _ => T == "list"
    | .dic _ => T == "dict"
    | .dit _ => T == "dict"
    | _ => false)
  | _ => false
noncomputable def mMeth (T : String) (i : Nat) (f : D → List D → Option (D × D)) (l : Lm) : Sm := fun e => if kindOf T e i then match l e with
    | .ok ss e1 => match shs ss with
      | some ds => match e1[i]? with
        | some (some s) => if s.m.mut then match f s.d ds with
            | some (d', r) => .ok ⟨.sh, r⟩ (e1.set i (some ⟨s.m, d'⟩))
            | none => .no
          else .no
        | _ => .no
      | none => .no
    | .ex c d e1 => .ex c d e1
    | .no => .no
  else .no
noncomputable def MutF (G : Gi) (r : V → List V → Hp → VK → Prop) (f : D → List D → Option (D × D)) : Prop := ∀ Hf H p o d d' x vs ds, Same Hf H → Hf p = none → H p = some o → TopO G Hf o d → Reps G Hf vs ds → f d ds = some (d', x) → ∃ o' v, TopO G Hf o' d' ∧ Rep G Hf v x ∧ ∀ Q : VK, Q v (upd H p o') → r (.ref p) vs H Q
theorem ev_meth {T : String} {r : V → List V → Hp → VK → Prop} {f : D → List D → Option (D × D)} {i : Nat} {t : TA} {l : Lm} (hf : MutF P.G r f) (hl : EvL P t l) : Ev P (tBM P.G.K T r (tVar i) t) (mMeth T i f l) := by
  intro n IO H0 Hf σ tv env te H S
  have h1 := hl n IO H0 Hf σ tv env te H S
  unfold mMeth
  by_cases hk : kindOf T env i = true
  · rw [if_pos hk]
    have start : ∃ p, σ[i]? = some (some (V.ref p)) ∧ tyV P.G.K T (V.ref p) H := by
      unfold kindOf at hk
      cases hs : env[i]? with
      | none => rw [hs] at hk; cases hk
      | some o =>
        cases o with
        | none => rw [hs] at hk; cases hk
        | some s =>
          rw [hs] at hk
          dsimp only at hk
          rw [Bool.and_eq_true] at hk
          obtain ⟨p, o, e1, e2, t⟩ := S.slot_own hs hk.1
          refine ⟨p, e1, ?_⟩
          have h2 := hk.2
          cases hd : s.d with
          | lst ds =>
            rw [hd] at h2 t
            obtain ⟨vs, rfl, _⟩ := t
            exact .inl ⟨by simpa using h2, vs, .inl (.inl e2)⟩
          | dic ds =>
            rw [hd] at h2 t
            obtain ⟨vs, rfl, _⟩ := t
            exact .inr (.inr (.inl ⟨by simpa using h2, .inl ⟨vs, e2⟩⟩))
          | dit ds =>
            rw [hd] at h2 t
            obtain ⟨vs, rfl, _⟩ := t
            exact .inr (.inr (.inl ⟨by simpa using h2, .inr ⟨vs, e2⟩⟩))
          | _ => rw [hd] at h2; cases h2
    obtain ⟨p, hp, ty⟩ := start
    cases el : l env with
    | no => trivial
    | ex c d e1 => rw [el] at h1; exact fun w Q => ⟨_, hp, ty, h1 w _⟩
    | ok ss e1 =>
      rw [el] at h1
      dsimp only
      cases es : shs ss with
      | none => trivial
      | some ds =>
        dsimp only
        cases ei : e1[i]? with
        | none => trivial
        | some o =>
          cases o with
          | none => trivial
          | some s =>
            dsimp only
            by_cases hm : s.m.mut = true
            · rw [if_pos hm]
              cases ef : f s.d ds with
              | none => trivial
              | some q =>
                obtain ⟨d', x⟩ := q
                refine fun Q k => ⟨_, hp, ty, h1 _ fun vs Hf1 H1 s1 l1 S1 => ?_⟩
                have r := S1.all_sh S.l2 l1 es
                have S2 : St0 P n IO H0 Hf1 σ tv e1 te H1 := St0.pops ss.length (by simp [l1]) (by simp) S1
                obtain ⟨p', o, e1', e0, e2, t⟩ := S2.slot_own' ei hm
                rw [hp] at e1'
                cases e1'
                obtain ⟨o', v, t', rv, g⟩ := hf Hf1 H1 p o s.d d' x vs ds S2.sr.sub e0 e2 t r ef
                exact g Q (k v Hf1 _ s1 ((S2.slot_set ei hm hp t').push_sh rv))
            · rw [if_neg hm]; trivial
  · rw [if_neg hk]; trivial
theorem se_meth {x : Str} {name : Str} {i : Nat} {T id : String} {r : V → List V → Hp → VK → Prop} {f : D → List D → Option (D × D)} {e : Expr} {es : List Expr} {p apos cpos : Pos} {l : Lm} (fr : Fra P N sc mg) (pa : PlainAttrs T) (slot : PySem.Slot T name id) (hty : typeOf (.builtin id) = pure (.type "method_descriptor"))
    (hm : ∀ X, P.M X → MtM X id r) (hf : MutF P.G r f) (hN : N[i]? = some x) (hv : Vis sc x) (hl : SL P (e :: es) l) (hs : (e :: es).all notStar = true) (hline : (apos.endLine == cpos.line) = true) (hbase : ∀ env, attributeBase (.Name x p) name env (eval (.Name x p) env) = eval (.Name x p) env)
    (hfew : ∀ env, ((backTo cpos (starEach (e :: es) env)).all (fun x => !x.1) && (backToKw cpos (keywordEach [] env)).all (fun x => x.1.isSome)
      && decide ((e :: es).length + ([] : List Keyword).length + (if ([] : List Keyword).isEmpty then 0 else 1) < 30)) = true)
    (hd : (x == ("__debug__" : Str)) = false := by decide) (hc : (x == ("__classdict__" : Str)) = false := by decide) : SE P (.Call (.Attribute (.Name x p) name apos) (e :: es) [] cpos) (mMeth T i f l) := by
  obtain ⟨ts, q, g⟩ := hl
  have hs2 := hs
  rw [List.all_cons, Bool.and_eq_true] at hs2
  exact ⟨_, fun X hX => (fr.K X hX) ▸ pe_bm pa slot hty (hm X hX) (pe_var (by rw [fr.hN X hX]; exact hN) (by rw [fr.hsc X hX]; exact hv) hd hc) (pa_of (q X hX) hs) (hbase _) (hfew _) hline (star_ok hs2.1) (star_any hs2.2), ev_meth hf g⟩
noncomputable def fAppend : D → List D → Option (D × D)
  | .lst xs, [d] => if xs.length < sizeLine then some (.lst (xs ++ [d]), .non) else none
  | _, _ => none
theorem f_append {G : Gi} : MutF G rAppend fAppend := by
  intro Hf H p o d d' x vs ds s hn hp t r e
  unfold fAppend at e
  split at e
  · rename_i xs y
    split at e
    · rename_i hz
      cases e
      obtain ⟨us, rfl, ru⟩ := t
      match vs, r with
      | [v], r => exact ⟨_, .non, ⟨us ++ [v], rfl, ru.append r⟩, .non, fun Q q => ⟨p, us, v, rfl, rfl, hp, by rw [ru.len]; exact hz, q⟩⟩
      | [], r => exact absurd r.len (by simp)
      | _ :: _ :: _, r => exact absurd r.len (by simp)
    · cases e
  · cases e
noncomputable def fClear : D → List D → Option (D × D)
  | .lst _, [] => some (.lst [], .non)
  | _, _ => none
noncomputable def fReverse : D → List D → Option (D × D)
  | .lst xs, [] => some (.lst xs.reverse, .non)
  | _, _ => none
theorem Reps.reverse {G : Gi} {H : Hp} {vs : List V} {ds : List D} (r : Reps G H vs ds) : Reps G H vs.reverse ds.reverse := by
  refine ⟨by simp [r.len], fun i v d h1 h2 => ?_⟩
  have hi : i < vs.length := by have := lt_of_get h1; simpa using this
  rw [List.getElem?_reverse hi] at h1
  rw [List.getElem?_reverse (by rw [← r.len]; exact hi), ← r.len] at h2
  exact r.at' _ v d h1 h2
/-! ### x += e, ints -/
noncomputable def xAdd (i : Nat) (m : Sm) : Sx := ⟨fun e => match e[i]? with
  | some (some ⟨.sh, .int a⟩) => match m e with
    | .ok ⟨.sh, .int b⟩ e1 => if free e1 i then .nx (e1.set i (sh (.int (a + b)))) else .no
    | .ex c d e1 => .ex c d e1
    | _ => .no
  | _ => .no, [i]⟩
/-! ### x[i] = e -/
section
variable {κ α : Type} [DecidableEq κ]
noncomputable def putG (kvs : List (κ × α)) (k : κ) (v : α) : List (κ × α) := if (kvs.any fun kv => decide (kv.1 = k)) = true then kvs.map (fun kv => if kv.1 = k then (kv.1, v) else kv) else kvs ++ [(k, v)]
noncomputable def valG (kvs : List (κ × α)) (k : κ) : Option α := (kvs.find? fun kv => decide (kv.1 = k)).map (·.2)
end
noncomputable def keyO : D → Option Key
  | .int i => some (.inl i)
  | .str z => some (.inr z)
  | _ => none
noncomputable def keysO : List D → Option (List Key)
  | [] => some []
  | d :: r => match keyO d, keysO r with
    | some k, some ks => some (k :: ks)
    | _, _ => none
theorem keysO_reps {G : Gi} {H : Hp} : ∀ {ds : List D} {vs : List V} {ks : List Key}, Reps G H vs ds → keysO ds = some ks → vs = ks.map kV
  | [], vs, ks, r, e => by
    cases e
    exact List.eq_nil_of_length_eq_zero r.len
  | d :: ds, vs, ks, r, e => by
    match vs, r with
    | [], r => exact absurd r.len (by simp)
    | v :: vs, r =>
      unfold keysO at e
      split at e
      · rename_i k ks' h1 h2
        cases e
        obtain ⟨r1, r2⟩ := r.inv
        rw [keysO_reps r2 h2]
        cases d with
        | int i => cases h1; cases r1; rfl
        | str z => cases h1; cases r1; rfl
        | _ => cases h1
      · cases e
noncomputable def putD : D → D → D → Option D
  | .dit kvs, .tup ks, v => match keysO ks with
    | some k => if kvs.length < sizeLine then some (.dit (putG kvs k v)) else none
    | none => none
  | .lst xs, .int k, v => match ixN xs.length k with
    | some j => some (.lst (xs.set j v))
    | none => none
  | .dic kvs, .int k, v => if kvs.length < sizeLine then some (.dic (putG kvs (.inl k) v)) else none
  | .dic kvs, .str k, v => if kvs.length < sizeLine then some (.dic (putG kvs (.inr k) v)) else none
  | _, _, _ => none
noncomputable def xPut (i : Nat) (mi m : Sm) : Sx := ⟨fun e => match mF m e with
  | .ok s e1 => match e1[i]? with
    | some (some _) => match mF mi e1 with
      | .ok k e2 => match e2[i]? with
        | some (some t) => if t.m.mut then match putD t.d k.d s.d with
            | some d' => .nx (e2.set i (some ⟨t.m, d'⟩))
            | none => .no
          else .no
        | _ => .no
      | .ex c d e2 => .ex c d e2
      | .no => .no
    | _ => .no
  | .ex c d e1 => .ex c d e1
  | .no => .no, []⟩
noncomputable def rPutA : TSet := fun o i v H Q => rSetL o i v H Q ∨ rSetD o i v H Q
theorem pset_or {X : Cx} {t u : TSet} (h : PSet X t) (g : PSet X u) : PSet X (fun o i v H Q => t o i v H Q ∨ u o i v H Q) := by
  intro pins s σ H o i v ov iv w Q I r1 r2 r3 q
  rcases q with q | q
  · exact h pins s σ H o i v ov iv w Q I r1 r2 r3 q
  · exact g pins s σ H o i v ov iv w Q I r1 r2 r3 q
theorem keys_any {κ : Type} [DecidableEq κ] {k : κ} {α β : Type} : ∀ {kvs : List (κ × α)} {kds : List (κ × β)}, kvs.map (·.1) = kds.map (·.1) → (kvs.any fun kv => decide (kv.1 = k)) = (kds.any fun kv => decide (kv.1 = k))
  | [], [], _ => rfl
  | [], _ :: _, e => by simp at e
  | _ :: _, [], e => by simp at e
  | (k1, v1) :: kvs, (k2, d1) :: kds, e => by
    simp only [List.map_cons, List.cons.injEq] at e
    obtain ⟨rfl, e⟩ := e
    rw [List.any_cons, List.any_cons, keys_any e]
theorem reps_map {G : Gi} {H : Hp} {κ : Type} [DecidableEq κ] {k : κ} {v : V} {d : D} (rv : Rep G H v d) : ∀ {kvs : List (κ × V)} {kds : List (κ × D)}, kvs.map (·.1) = kds.map (·.1) → Reps G H (kvs.map (·.2)) (kds.map (·.2)) →
    (kvs.map (fun kv => if kv.1 = k then (kv.1, v) else kv)).map (·.1) = (kds.map (fun kv => if kv.1 = k then (kv.1, d) else kv)).map (·.1) ∧ Reps G H ((kvs.map (fun kv => if kv.1 = k then (kv.1, v) else kv)).map (·.2)) ((kds.map (fun kv => if kv.1 = k then (kv.1, d) else kv)).map (·.2))
  | [], [], _, _ => ⟨rfl, .nil⟩
  | [], _ :: _, e, _ => by simp at e
  | _ :: _, [], e, _ => by simp at e
  | (k1, v1) :: kvs, (k2, d1) :: kds, e, r => by
    simp only [List.map_cons, List.cons.injEq] at e
    obtain ⟨rfl, e⟩ := e
    obtain ⟨r1, r2⟩ := Reps.inv (v := v1) (d := d1) r
    obtain ⟨h1, h2⟩ := reps_map (k := k) rv e r2
    simp only [List.map_cons]
    by_cases hk : k1 = k
    · rw [if_pos hk, if_pos hk]
      exact ⟨by rw [h1], .cons rv h2⟩
    · rw [if_neg hk, if_neg hk]
      exact ⟨by rw [h1], .cons r1 h2⟩
theorem reps_put {G : Gi} {H : Hp} {κ : Type} [DecidableEq κ] {k : κ} {v : V} {d : D} {kvs : List (κ × V)} {kds : List (κ × D)} (rv : Rep G H v d) (e : kvs.map (·.1) = kds.map (·.1)) (r : Reps G H (kvs.map (·.2)) (kds.map (·.2))) :
    (putK kvs k v).map (·.1) = (putG kds k d).map (·.1) ∧ Reps G H ((putK kvs k v).map (·.2)) ((putG kds k d).map (·.2)) := by
  unfold putK putG
  rw [keys_any e]
  split
  · exact reps_map rv e r
  · simp only [List.map_append, List.map_cons, List.map_nil]
    exact ⟨by rw [e], r.append (.cons rv .nil)⟩
theorem put_ok {G : Gi} {Hf H : Hp} {p : Addr} {o : HO} {d k v d' : D} {kv vv : V} (s : Same Hf H) (hp : H p = some o) (t : TopO G Hf o d) (rk : Rep G Hf kv k) (rv : Rep G Hf vv v) (e : putD d k v = some d') : ∃ o', TopO G Hf o' d' ∧ ∀ Q : Hp → Prop, Q (upd H p o') → rPutA (.ref p) kv vv H Q := by
  unfold putD at e
  split at e
  · rename_i kds ks
    split at e
    · rename_i k hk
      split at e
      · rename_i hz
        cases e
        obtain ⟨kvs, rfl, l, r⟩ := t
        cases rk with
        | tup hb hl hr =>
          rename_i b us
          have eu := keysO_reps ⟨hl, hr⟩ hk
          subst eu
          obtain ⟨h1, h2⟩ := reps_put (k := k) rv l r
          exact ⟨_, ⟨_, rfl, h1, h2⟩, fun Q q => .inr ⟨p, _, rfl, .inr ⟨kvs, k, b, hp, rfl, s _ _ hb, by have := congrArg List.length l; simp at this; omega, rfl⟩, q⟩⟩
      · cases e
    · cases e
  · rename_i xs i
    split at e
    · rename_i j hj
      cases e
      obtain ⟨us, rfl, ru⟩ := t
      cases rk
      exact ⟨_, ⟨us.set j vv, rfl, ru.set j rv⟩, fun Q q => .inl ⟨p, us, i, j, rfl, rfl, hp, by rw [ru.len]; exact hj, q⟩⟩
    · cases e
  · rename_i kds i
    split at e
    · rename_i hz
      cases e
      obtain ⟨kvs, rfl, l, r⟩ := t
      cases rk
      obtain ⟨h1, h2⟩ := reps_put (k := (.inl i : Key)) rv l r
      exact ⟨_, ⟨_, rfl, h1, h2⟩, fun Q q => .inr ⟨p, _, rfl, .inl ⟨kvs, .inl i, hp, rfl, by have := congrArg List.length l; simp at this; omega, rfl⟩, q⟩⟩
    · cases e
  · rename_i kds i
    split at e
    · rename_i hz
      cases e
      obtain ⟨kvs, rfl, l, r⟩ := t
      cases rk
      obtain ⟨h1, h2⟩ := reps_put (k := (.inr i : Key)) rv l r
      exact ⟨_, ⟨_, rfl, h1, h2⟩, fun Q q => .inr ⟨p, _, rfl, .inl ⟨kvs, .inr i, hp, rfl, by have := congrArg List.length l; simp at this; omega, rfl⟩, q⟩⟩
    · cases e
  · cases e
theorem St0.slot_any {i : Nat} {s : Slot} (S : St0 P n IO H0 Hf σ tv env te H) (hs : env[i]? = some (some s)) : ∃ v, σ[i]? = some (some v) := by
  obtain ⟨m, d⟩ := s
  cases m with
  | sh => obtain ⟨v, e, _⟩ := S.slot_sh hs; exact ⟨v, e⟩
  | ow => obtain ⟨p, o, e, _⟩ := S.slot_own hs rfl; exact ⟨_, e⟩
  | io => obtain ⟨p, o, e, _⟩ := S.slot_own hs rfl; exact ⟨_, e⟩
  | al j => exact absurd rfl (S.na i _ hs j)
  | fr =>
    have hi := lt_of_get hs
    obtain ⟨Ls, w⟩ := S.sr.fre
    obtain ⟨v, e, _⟩ := w.own i d (by rw [List.getElem?_append_left hi]; exact hs)
    rw [List.getElem?_append_left (by rw [S.ls, ← S.le]; exact hi)] at e
    exact ⟨v, e⟩
theorem evs_put {i : Nat} {t ti : TE} {m mi : Sm} (f : Ev P t m) (g : Ev P ti mi) : EvS P (tAsg t (gSub (tVar i) ti rPutA)) (xPut i mi m) := by
  refine ⟨fun e s e' h => ?_, fun n IO H0 Hf σ tv env te H S nt => ?_⟩
  · unfold xPut at h
    dsimp only at h
    split at h
    · split at h
      · split at h
        · split at h
          · split at h
            · split at h <;> cases h
            · cases h
          · cases h
        · cases h
        · cases h
      · cases h
    · cases h
    · cases h
  have h1 := ev_F f n IO H0 Hf σ tv env te H S
  unfold xPut
  dsimp only
  cases em : mF m env with
  | no => trivial
  | ex c d e1 => rw [em] at h1; exact fun w D => h1 (fun cv dx Hf1 H1 s1 S1 x => w cv dx σ Hf1 H1 s1 AsgOk.refl S1 x) _
  | ok s e1 =>
    rw [em] at h1
    have es := mF_ok em
    dsimp only
    cases e0 : e1[i]? with
    | none => trivial
    | some o0 =>
      cases o0 with
      | none => trivial
      | some t0 =>
        dsimp only
        cases ek : mF mi e1 with
        | no => trivial
        | ex c d e2 =>
          refine fun w D => h1 _ fun v Hf1 H1 s1 S1 => ?_
          obtain ⟨x, hx⟩ := S1.slot_any e0
          have h2 := ev_F g n IO H0 Hf1 σ _ e1 _ H1 S1
          rw [ek] at h2
          exact ⟨x, hx, h2 (fun cv dx Hf2 H2 s2 S2 y => w cv dx σ Hf2 H2 (s1.trans s2) AsgOk.refl S2.pop y) _⟩
        | ok k e2 =>
          have esk := mF_ok ek
          dsimp only
          cases ei : e2[i]? with
          | none => trivial
          | some o =>
            cases o with
            | none => trivial
            | some t =>
              dsimp only
              by_cases hm : t.m.mut = true
              · rw [if_pos hm]
                cases ep : putD t.d k.d s.d with
                | none => trivial
                | some d' =>
                  refine fun D q => h1 _ fun v Hf1 H1 s1 S1 => ?_
                  obtain ⟨x, hx⟩ := S1.slot_any e0
                  have h2 := ev_F g n IO H0 Hf1 σ _ e1 _ H1 S1
                  rw [ek] at h2
                  refine ⟨x, hx, h2 _ fun kv Hf2 H2 s2 S2 => ?_⟩
                  rw [es, esk] at S2
                  have rk := S2.held (by have := S1.l2; simpa using this)
                  have rv := S2.pop.held S.l2
                  have S3 := S2.pop.pop
                  obtain ⟨p, o, e1', e2', t'⟩ := S3.slot_own ei hm
                  rw [hx] at e1'
                  cases e1'
                  obtain ⟨o', t'', hq⟩ := put_ok S3.sr.sub e2' t' rk rv ep
                  exact hq _ (q σ Hf2 _ (s1.trans s2) AsgOk.refl (S3.slot_set ei hm hx t''))
              · rw [if_neg hm]; trivial
theorem ss_put (fr : Fra P N sc mg) {i : Nat} {x : Str} {ei e : Expr} {p pos pos' : Pos} {m mi : Sm} (h : SE P e m) (hi : SE P ei mi) (hN : N[i]? = some x) (hv : Vis sc x) (hs : ∀ X, P.M X → swapsWithSole [.Subscript (.Name x p) ei pos'] e pos.line X.env = pure false) (hw : ∀ X, P.M X → swappedStores [.Subscript (.Name x p) ei pos'] e X.env = pure none)
    (h1 : ∀ env, (assignEach [.Subscript (.Name x p) ei pos'] env).map (·.2) = [assign (.Subscript (.Name x p) ei pos') env])
    (ha : ∀ env v, assign (.Subscript (.Name x p) ei pos') env v = (do
      let ov ← holding [v] (eval (.Name x p) env)
      let iv ← holding [v, ov] (eval ei env)
      standAt pos'
      holding [v, ov, iv] (setItem ov iv v)
      release [v, ov, iv] []))
    (hd : (x == ("__debug__" : Str)) = false := by decide) (hc : (x == ("__classdict__" : Str)) = false := by decide) : SS P (.Assign [.Subscript (.Name x p) ei pos'] e pos) (xPut i mi m) :=
  let ⟨_, pe, fe⟩ := h; let ⟨_, pi, fi⟩ := hi
  ⟨_, fun X hX => ps_asg (pe X hX) (pg_sub (pe_var (by rw [fr.hN X hX]; exact hN) (by rw [fr.hsc X hX]; exact hv) hd hc) (pi X hX) (pset_or set_list (set_dict (by have := fr.hu X hX; omega))) (ha _)) (hs X hX) (hw X hX) (h1 _), evs_put fe fi⟩

/-! ### d[k] -/
noncomputable def keyOf : D → Option Key
  | .int i => some (.inl i)
  | .str z => some (.inr z)
  | _ => none
noncomputable def getD (d k : D) : RR := match d, keyOf k with
  | .dic kvs, some key => match valG kvs key with
    | some v => .sh v
    | none => .no
  | _, _ => .no
noncomputable def rGetD : R2 := fun x y H Q => ∃ a v, x = .ref a ∧ DGet H a y (some v) ∧ Q v H
theorem keys_val {G : Gi} {H : Hp} {κ : Type} [DecidableEq κ] {k : κ} : ∀ {kvs : List (κ × V)} {kds : List (κ × D)}, kvs.map (·.1) = kds.map (·.1) → Reps G H (kvs.map (·.2)) (kds.map (·.2)) → ∀ d, valG kds k = some d → ∃ v, valV kvs k = some v ∧ Rep G H v d
  | [], [], _, _, d, h => by cases h
  | [], _ :: _, e, _, _, _ => by simp at e
  | _ :: _, [], e, _, _, _ => by simp at e
  | (k1, v1) :: kvs, (k2, d1) :: kds, e, r, d, h => by
    simp only [List.map_cons, List.cons.injEq] at e
    obtain ⟨rfl, e⟩ := e
    obtain ⟨r1, r2⟩ := Reps.inv (v := v1) (d := d1) r
    by_cases hk : k1 = k
    · rw [valV_pos hk]
      have : valG ((k1, d1) :: kds) k = some d1 := by simp [valG, List.find?_cons, hk]
      rw [this] at h
      cases h
      exact ⟨v1, rfl, r1⟩
    · rw [valV_neg hk]
      have : valG ((k1, d1) :: kds) k = valG kds k := by simp [valG, List.find?_cons, hk]
      rw [this] at h
      exact keys_val e r2 d h
theorem PRep.dict {G : Gi} {Hf H : Hp} (s : Same Hf H) {v : V} {kds : List (Key × D)} (r : PRep G Hf H v (.dic kds)) : ∃ a kvs, v = .ref a ∧ Rd H a (.dK kvs) ∧ kvs.map (·.1) = kds.map (·.1) ∧ Reps G Hf (kvs.map (·.2)) (kds.map (·.2)) := by
  rcases r with r | ⟨a, o, rfl, ha, t⟩
  · cases r with
    | dic h l r =>
      rename_i p kvs
      refine ⟨p, kvs, rfl, Rd.mono s h, l, by simpa using congrArg List.length l, fun i v d h1 h2 => ?_⟩
      rw [List.getElem?_map] at h1 h2
      obtain ⟨a, ha, rfl⟩ := Option.map_eq_some_iff.mp h1
      obtain ⟨b, hb, rfl⟩ := Option.map_eq_some_iff.mp h2
      exact r i a b ha hb
  · obtain ⟨kvs, rfl, l, rr⟩ := t; exact ⟨a, kvs, rfl, .inl ha, l, rr⟩
theorem PRep.key {G : Gi} {Hf H : Hp} {v : V} {d : D} {k : Key} (r : PRep G Hf H v d) (e : keyOf d = some k) : v = kV k := by
  cases d with
  | int i => cases e; exact r.int
  | str z => cases e; exact r.str
  | _ => cases e
theorem s_get {G : Gi} : S2 G rGetD getD := by
  intro Hf H x y d e s p q
  unfold getD
  split
  · rename_i kds key hk
    split
    · rename_i w hw
      obtain ⟨a, kvs, rfl, h1, l, r⟩ := p.dict s
      obtain ⟨v, h2, h3⟩ := keys_val l r w hw
      exact fun Q k => ⟨a, v, rfl, .inl ⟨kvs, key, h1, q.key hk, h2.symm⟩, k v h3⟩
    · trivial
  · trivial
theorem se_get (fr : Fra P N sc mg) {a b : Expr} {pos : Pos} {ma mb : Sm} (ha : SE P a ma) (hb : SE P b mb) (hs : NoSl b) : SE P (.Subscript a b pos) (m2 getD ma mb) :=
  let ⟨_, p, e⟩ := ha; let ⟨_, q, g⟩ := hb; ⟨_, fun X hX => pe_dget (by have := fr.hu X hX; omega) (p X hX) (q X hX) hs, ev_2 (r := rGetD) s_get e g⟩
end
end VM

/-! VMO: comprehensions and dict displays as rules -/
namespace VM
open PySem PySem.Spec PyProof.Rows L2

section
variable {P : Pl} {n : Nat} {IO : En} {H0 Hf H : Hp} {σ tv : L2.St} {env te : Env} {N : List Str} {sc : Scope} {mg : Str → Option Value}
noncomputable def tmYes : Tm := fun e => .ok true e
noncomputable def SIfs (P : Pl) (ifs : List Expr) (m : Tm) : Prop := ∃ t, (∀ X, P.M X → PTs X ifs t) ∧ EvT P t m
theorem sifs_nil : SIfs P [] tmYes := ⟨_, fun _ _ => pts_nil, fun n IO H0 Hf σ tv env te H S Q q => q Hf H (Same.refl _) S⟩
theorem sifs_one {c : Expr} {m : Tm} (h : ST P c m) : SIfs P [c] m := let ⟨_, p, f⟩ := h; ⟨_, fun X hX => pts_one (p X hX), f⟩
theorem blk_mem {scope : Scope} {X : Cx} (h : P.M X) (s : Shared) (H : Hp) (C : Addr) (cl : List (Str × Addr)) (fp : List Addr) : (P.blk scope).M (X.blk s H scope (compEnvC scope cl C X.env) fp) := ⟨X, s, H, C, cl, fp, h, rfl⟩
theorem se_lc (fr : Fra P N sc mg) {elt tg iter : Expr} {ifs : List Expr} {scope : Scope} {pos : Pos} (own : List (Str × Nat)) {im : Im} {f : Tgt} {c : Tm} {m : Sm} (hi : SI P tg iter im) (ok : blkC N sc scope own = true)
    (hg : SG (P.blk scope) tg f) (hc : SIfs (P.blk scope) ifs c) (he : SE (P.blk scope) elt m) (hs : ∀ env x, foldedSetIterable iter env x = pure x) : SE P (.ListComp elt [⟨tg, iter, ifs, 0⟩] scope pos) (mLc im f c m (own.map (·.2))) := by
  obtain ⟨wi, p1, e1⟩ := hi
  obtain ⟨g, p2, e2⟩ := hg
  obtain ⟨tt, p3, e3⟩ := hc
  obtain ⟨t, p4, e4⟩ := he
  refine ⟨_, fun X hX => pe_lc (fr.calm X hX) (by rw [fr.hN X hX]; exact fr.nd) (p1 X hX) (by rw [fr.hN X hX, fr.hsc X hX]; exact blkOk_by ok) (fun s H C cl fp => p2 _ (blk_mem hX s H C cl fp)) (fun s H C cl fp => p3 _ (blk_mem hX s H C cl fp)) (fun s H C cl fp => p4 _ (blk_mem hX s H C cl fp)) (hs _), ev_lc e1 e2 e3 e4⟩
theorem ss_lc (fr : Fra P N sc mg) {i : Nat} {y : Str} {py : Pos} {elt tg iter : Expr} {ifs : List Expr} {scope : Scope} {pos spos : Pos} (own : List (Str × Nat)) {im : Im} {f : Tgt} {c : Tm} {m : Sm} (hi : SI P tg iter im) (ok : blkC N sc scope own = true)
    (hg : SG (P.blk scope) tg f) (hc : SIfs (P.blk scope) ifs c) (he : SE (P.blk scope) elt m) (hs : ∀ env x, foldedSetIterable iter env x = pure x) (hk : sc.kind = .function) (hy : N[i]? = some y) (hyl : sc.names.lookup y = some .local)
    (hl : (py.line == pos.line) = true) (hno : (scope.names.any fun (n, k) => n == y && (k == .local || k == .cell)) = false) (hls : (pos.line == spos.line) = true) :
    SS P (.Assign [.Name y py] (.ListComp elt [⟨tg, iter, ifs, 0⟩] scope pos) spos) (xAsg (mLc im f c m (own.map (·.2))) (gN i)) := by
  obtain ⟨wi, p1, e1⟩ := hi
  obtain ⟨g, p2, e2⟩ := hg
  obtain ⟨tt, p3, e3⟩ := hc
  obtain ⟨t, p4, e4⟩ := he
  refine ⟨_, fun X hX => ps_setLc (fr.calm X hX) (by rw [fr.hN X hX]; exact fr.nd) (by rw [fr.hN X hX]; exact hy) (by rw [fr.hsc X hX]; exact hyl) (sw_true (by rw [fr.hsc X hX]; exact hk) (by rw [fr.hsc X hX]; exact hyl) hl hno)
    (p1 X hX) (by rw [fr.hN X hX, fr.hsc X hX]; exact blkOk_by ok) (fun s H C cl fp => p2 _ (blk_mem hX s H C cl fp)) (fun s H C cl fp => p3 _ (blk_mem hX s H C cl fp)) (fun s H C cl fp => p4 _ (blk_mem hX s H C cl fp)) (hs _), evs_asg (ev_lc e1 e2 e3 e4) evg_n⟩

/-! ### dict displays -/
noncomputable def flatP : List (TE × TE) → List TE
  | [] => []
  | (a, b) :: r => a :: b :: flatP r
noncomputable def pairV : List V → List (V × V)
  | x :: y :: r => (x, y) :: pairV r
  | _ => []
theorem pairs_flat : ∀ (trs : List (TE × TE)) (σ : L2.St) (H : Hp) (Q : List (V × V) → Hp → Prop), tPairs trs σ H Q = tAll (flatP trs) σ H fun vs H' => Q (pairV vs) H'
  | [], σ, H, Q => rfl
  | (a, b) :: r, σ, H, Q => by
    show (a σ H fun x H1 => b σ H1 fun y H2 => tPairs r σ H2 fun ps H3 => Q ((x, y) :: ps) H3) = a σ H fun x H1 => b σ H1 fun y H2 => tAll (flatP r) σ H2 fun xs H3 => Q (pairV (x :: y :: xs)) H3
    congr 1
    funext x H1
    congr 1
    funext y H2
    exact pairs_flat r σ H2 _
noncomputable def SD (P : Pl) (pos : Pos) (keys : List (Option Expr)) (values : List Expr) (l : Lm) : Prop := ∃ trs, (∀ X, P.M X → PPs X pos keys values trs) ∧ EvL P (tAll (flatP trs)) l
theorem sd_nil {pos : Pos} : SD P pos [] [] lNil := ⟨[], fun _ _ => pps_nil, evl_nil⟩
theorem sd_cons {pos : Pos} {k v : Expr} {ks : List (Option Expr)} {vs : List Expr} {mk mv : Sm} {l : Lm} (hk : SE P k mk) (hv : SE P v mv) (h : SD P pos ks vs l) : SD P pos (some k :: ks) (v :: vs) (lCons (mF mk) (lCons (mF mv) l)) := by
  obtain ⟨tk, p1, e1⟩ := hk
  obtain ⟨tv, p2, e2⟩ := hv
  obtain ⟨trs, p3, e3⟩ := h
  exact ⟨(tk, tv) :: trs, fun X hX => pps_cons (p1 X hX) (p2 X hX) (p3 X hX), evl_cons (ev_F e1) (evl_cons (ev_F e2) e3)⟩
noncomputable def pairD : List D → Option (List (Key × D))
  | [] => some []
  | k :: v :: r => match keyOf k, pairD r with
    | some key, some kds => some ((key, v) :: kds)
    | _, _ => none
  | _ => none
noncomputable def mergeG (kvs more : List (Key × D)) : List (Key × D) := more.foldl (fun acc kv => putG acc kv.1 kv.2) kvs
noncomputable def mDisp (l : Lm) : Sm := fun e => match l e with
  | .ok ss e1 => match shs ss with
    | some ds => match pairD ds with
      | some kds => if kds.length ≤ 15 then .ok ⟨.ow, .dic (mergeG [] kds)⟩ e1 else .no
      | none => .no
    | none => .no
  | .ex c d e1 => .ex c d e1
  | .no => .no
theorem pair_reps {G : Gi} {H : Hp} : ∀ {ds : List D} {vs : List V} {kds : List (Key × D)}, Reps G H vs ds → pairD ds = some kds → ∃ kvs : List (Key × V), pairV vs = kvs.map (fun kv => (kV kv.1, kv.2)) ∧ kvs.map (·.1) = kds.map (·.1) ∧ Reps G H (kvs.map (·.2)) (kds.map (·.2)) ∧ kvs.length = kds.length
  | [], vs, kds, r, e => by
    cases e
    match vs, r with
    | [], r => exact ⟨[], rfl, rfl, .nil, rfl⟩
    | _ :: _, r => exact absurd r.len (by simp)
  | [_], vs, kds, r, e => by cases e
  | k :: v :: ds, vs, kds, r, e => by
    match vs, r with
    | [], r => exact absurd r.len (by simp)
    | [_], r => exact absurd r.len (by simp)
    | x :: y :: vs, r =>
      unfold pairD at e
      split at e
      · rename_i key kds' hk hr
        cases e
        obtain ⟨r1, r2⟩ := r.inv
        obtain ⟨r3, r4⟩ := r2.inv
        obtain ⟨kvs, e1, e2, e3, e4⟩ := pair_reps r4 hr
        have ex : x = kV key := PRep.key (.inl r1 : PRep G H H x k) hk
        exact ⟨(key, y) :: kvs, by rw [ex]; show (kV key, y) :: pairV vs = _; rw [e1]; rfl, by simp [e2], .cons r3 e3, by simp [e4]⟩
      · cases e
theorem merge_reps {G : Gi} {H : Hp} : ∀ {more : List (Key × V)} {moreD : List (Key × D)} {kvs : List (Key × V)} {kds : List (Key × D)}, more.map (·.1) = moreD.map (·.1) → Reps G H (more.map (·.2)) (moreD.map (·.2)) → kvs.map (·.1) = kds.map (·.1) → Reps G H (kvs.map (·.2)) (kds.map (·.2)) →
    (mergeK kvs more).map (·.1) = (mergeG kds moreD).map (·.1) ∧ Reps G H ((mergeK kvs more).map (·.2)) ((mergeG kds moreD).map (·.2))
  | [], [], _, _, _, _, e, r => ⟨e, r⟩
  | [], _ :: _, _, _, e, _, _, _ => by simp at e
  | _ :: _, [], _, _, e, _, _, _ => by simp at e
  | (k1, v1) :: more, (k2, d1) :: moreD, kvs, kds, e, r, e', r' => by
    simp only [List.map_cons, List.cons.injEq] at e
    obtain ⟨rfl, e⟩ := e
    obtain ⟨r1, r2⟩ := Reps.inv (v := v1) (d := d1) r
    obtain ⟨h1, h2⟩ := reps_put (k := k1) r1 e' r'
    exact merge_reps (kvs := putK kvs k1 v1) (kds := putG kds k1 d1) e r2 h1 h2
theorem ev_disp {trs : List (TE × TE)} {l : Lm} (f : EvL P (tAll (flatP trs)) l) : Ev P (tDisp trs) (mDisp l) := by
  intro n IO H0 Hf σ tv env te H S
  have push : ∀ p, H p = none → St0 P n IO H0 Hf σ (tv ++ [some (V.ref p)]) env (te ++ [ow (.dic [])]) (upd H p (.dK [])) := fun p hp => S.push_ow hp ⟨[], rfl, rfl, .nil⟩
  unfold mDisp
  cases el : l env with
  | no => trivial
  | ex c d e1 =>
    refine fun w Q p hp => ?_
    have h1 := f n IO H0 Hf σ _ env _ _ (push p hp)
    rw [el] at h1
    rw [pairs_flat]
    exact h1 (fun cv dx Hf' H' s' S' x => w cv dx Hf' H' s' S'.pop x) _
  | ok ss e1 =>
    dsimp only
    cases es : shs ss with
    | none => trivial
    | some ds =>
      dsimp only
      cases ep : pairD ds with
      | none => trivial
      | some kds =>
        dsimp only
        by_cases hz : kds.length ≤ 15
        · rw [if_pos hz]
          refine fun Q q p hp => ?_
          have S0 := push p hp
          have h1 := f n IO H0 Hf σ _ env _ _ S0
          rw [el] at h1
          rw [pairs_flat]
          refine h1 _ fun vs Hf1 H1 s1 l1 S1 => ?_
          have r := S1.all_sh S0.l2 l1 es
          have S2 : St0 P n IO H0 Hf1 σ (tv ++ [some (V.ref p)]) e1 (te ++ [ow (.dic [])]) H1 := St0.pops ss.length (by simp [l1]) (by simp) S1
          obtain ⟨kvs, e2, e3, e4, e5⟩ := pair_reps r ep
          obtain ⟨h2, h3⟩ := merge_reps (kvs := []) (kds := []) e3 e4 rfl .nil
          have l2 := S.l2
          obtain ⟨p', o, g1, _, _, g2, t⟩ := S2.sr.own (n + te.length) (.dic []) (by
            rw [List.getElem?_append_right (by rw [S2.le]; omega), S2.le, Nat.add_sub_cancel_left]; exact get_last)
          have epp : V.ref p = V.ref p' := by
            rw [List.getElem?_append_right (by rw [S2.ls]; omega), S2.ls, Nat.add_sub_cancel_left, ← l2] at g1
            rw [get_last] at g1
            exact Option.some.inj (Option.some.inj g1)
          cases epp
          obtain ⟨kvs0, rfl, k1, _⟩ := t
          have k2 : kvs0 = [] := by
            cases kvs0 with
            | nil => rfl
            | cons _ _ => simp at k1
          subst k2
          refine ⟨g2, kvs, e2, by omega, q _ Hf1 _ s1 ?_⟩
          have S3 := (S2.blank).grown (d' := .dic (mergeG [] kds)) (o := .dK (mergeK [] kvs)) ⟨_, rfl, h2, h3⟩
          exact S3.pop
        · rw [if_neg hz]; trivial
theorem se_disp {pos : Pos} {keys : List (Option Expr)} {values : List Expr} {l : Lm} (h : SD P pos keys values l) (hall : keys.all (·.isSome) = true) (hl : keys.length = values.length) (h0 : keys ≠ []) (h15 : keys.length ≤ 15) : SE P (.Dict keys values pos) (mDisp l) :=
  let ⟨_, p, f⟩ := h; ⟨_, fun X hX => pe_disp (p X hX) hall hl h0 h15, ev_disp f⟩
end
end VM

/-! VMP: a def keeps its word -/
namespace VM
open PySem PySem.Spec PyProof.Rows L2

noncomputable def env0 (io : List Bool) (ds : List D) (n : Nat) : Env := (List.range n).map fun i => match io[i]?, ds[i]? with
  | some true, some d => some ⟨.io, d⟩
  | some false, some d => some ⟨.sh, d⟩
  | _, _ => none
noncomputable def outsAt (e : Env) : List Bool → List D → Nat → Option (List D)
  | [], [], _ => some []
  | true :: bs, _ :: ds, i => match e[i]? with
    | some (some ⟨.io, d⟩) => match outsAt e bs ds (i + 1) with
      | some r => some (d :: r)
      | none => none
    | _ => none
  | false :: bs, d :: ds, i => match outsAt e bs ds (i + 1) with
    | some r => some (d :: r)
    | none => none
  | _, _, _ => none
noncomputable def bodyF (io : List Bool) (m : Sx) (n : Nat) (ds : List D) : FA := match m.run (env0 io ds n) with
  | .nx e => match outsAt e io ds 0 with
    | some o => .ok false .non o
    | none => .no
  | .rt ⟨.sh, d⟩ e => match outsAt e io ds 0 with
    | some o => .ok false d o
    | none => .no
  | .rt ⟨.ow, d⟩ e => match outsAt e io ds 0 with
    | some o => .ok true d o
    | none => .no
  | .rt ⟨.fr, d⟩ e => match outsAt e io ds 0 with
    | some o => .okf d o
    | none => .no
  | .ex c d e => match outsAt e io ds 0 with
    | some o => .ex c d o
    | none => .no
  | _ => .no
theorem outsAt_get {e : Env} : ∀ {io : List Bool} {ds o : List D} {j : Nat}, outsAt e io ds j = some o → o.length = io.length ∧ ∀ (i : Nat) d, io[i]? = some true → o[i]? = some d → e[j + i]? = some (some ⟨.io, d⟩)
  | [], [], o, j, h => by cases h; exact ⟨rfl, fun i d h => by simp at h⟩
  | [], _ :: _, o, j, h => by cases h
  | true :: _, [], o, j, h => by cases h
  | false :: _, [], o, j, h => by cases h
  | true :: bs, d0 :: ds, o, j, h => by
    unfold outsAt at h
    split at h
    · rename_i d he
      split at h
      · rename_i r hr
        cases h
        obtain ⟨h1, h2⟩ := outsAt_get hr
        refine ⟨by simp [h1], fun i d' hi ho => ?_⟩
        cases i with
        | zero => simp at ho; subst ho; exact he
        | succ i =>
          have := h2 i d' (by simpa using hi) (by simpa using ho)
          rwa [Nat.add_assoc, Nat.add_comm 1 i] at this
      · cases h
    · cases h
  | false :: bs, d0 :: ds, o, j, h => by
    unfold outsAt at h
    split at h
    · rename_i r hr
      cases h
      obtain ⟨h1, h2⟩ := outsAt_get hr
      refine ⟨by simp [h1], fun i d' hi ho => ?_⟩
      cases i with
      | zero => simp at hi
      | succ i =>
        have := h2 i d' (by simpa using hi) (by simpa using ho)
        rwa [Nat.add_assoc, Nat.add_comm 1 i] at this
    · cases h
theorem env0_get {io : List Bool} {ds : List D} {n i : Nat} {s : Slot} (h : (env0 io ds n)[i]? = some (some s)) : i < n ∧ ds[i]? = some s.d ∧ ((io[i]? = some true ∧ s.m = .io) ∨ (io[i]? = some false ∧ s.m = .sh)) := by
  have hi : i < n := by have := lt_of_get h; simpa [env0] using this
  unfold env0 at h
  rw [List.getElem?_map, List.getElem?_range hi] at h
  refine ⟨hi, ?_⟩
  simp only [Option.map_some, Option.some.injEq] at h
  split at h
  · rename_i d h1 h2; cases h; exact ⟨h2, .inl ⟨h1, rfl⟩⟩
  · rename_i d h1 h2; cases h; exact ⟨h2, .inr ⟨h1, rfl⟩⟩
  · cases h
theorem start_st {P : Pl} {N : List Str} {io : List Bool} {Hf H : Hp} {vs : List V} {ds : List D} (s : Same Hf H) (a : ArgsR P.G io Hf H vs ds) (hn : io.length ≤ N.length) : St0 P N.length ⟨IOs P.G io vs, Hf⟩ H Hf (L2.start N vs) [] (env0 io ds N.length) [] H := by
  have ls : (L2.start N vs).length = N.length := by unfold L2.start; rw [List.length_append, List.length_map, List.length_replicate, a.lv]; omega
  have le : (env0 io ds N.length).length = N.length := by unfold env0; simp
  have sv : ∀ {i : Nat}, i < io.length → (L2.start N vs)[i]? = (vs[i]?).map some := fun {i} hi => by
    unfold L2.start
    rw [List.getElem?_append_left (by rw [List.length_map, a.lv]; exact hi), List.getElem?_map]
  have iol : ∀ {i : Nat} {b : Bool}, io[i]? = some b → i < io.length := fun h => lt_of_get h
  have val : ∀ {i : Nat}, i < io.length → ∃ v, vs[i]? = some v := fun {i} hi => ⟨_, List.getElem?_eq_getElem (by rw [a.lv]; exact hi)⟩
  refine ⟨le, ls, fun i s hs k e => ?_, ?_⟩
  · obtain ⟨_, _, ⟨_, h⟩ | ⟨_, h⟩⟩ := env0_get hs <;> (rw [h] at e; cases e)
  rw [List.append_nil, List.append_nil]
  refine ⟨s, fun b o e _ => e, ⟨fun b e => e, a.tab, fun q hq => ⟨.inr ⟨q, hq, rfl⟩, a.tnf q hq, fun z => by obtain ⟨ps, h1, _⟩ := a.tab q hq; rw [z] at h1; cases h1⟩⟩, fun b o e => .inr (.inl e), by rw [ls, le], fun i d hs => ?_, fun i d hs => ?_, fun i d hs => ?_, fun i j d hs => ?_, fun i j x y v ne hx hy mx my h1 h2 => ?_, .none' fun i d hs => ?_⟩
  · obtain ⟨hi, hd, ⟨_, h⟩ | ⟨hio, _⟩⟩ := env0_get hs
    · cases h
    · obtain ⟨v, hv⟩ := val (iol hio)
      exact ⟨v, by rw [sv (iol hio), hv]; rfl, a.shr i v d hio hv hd⟩
  · obtain ⟨hi, hd, ⟨_, h⟩ | ⟨_, h⟩⟩ := env0_get hs <;> cases h
  · obtain ⟨hi, hd, ⟨hio, _⟩ | ⟨_, h⟩⟩ := env0_get hs
    · obtain ⟨v, hv⟩ := val (iol hio)
      obtain ⟨p, o, rfl, h1, h2, t⟩ := a.inout i v d hio hv hd
      exact ⟨p, o, by rw [sv (iol hio), hv]; rfl, h1, .inl ⟨i, hio, hv⟩, h2, t⟩
    · cases h
  · obtain ⟨hi, hd, ⟨_, h⟩ | ⟨_, h⟩⟩ := env0_get hs <;> cases h
  · obtain ⟨_, _, ⟨i1, _⟩ | ⟨_, h⟩⟩ := env0_get hx
    · obtain ⟨_, _, ⟨i2, _⟩ | ⟨_, h⟩⟩ := env0_get hy
      · obtain ⟨u, hu⟩ := val (iol i1)
        obtain ⟨w, hw⟩ := val (iol i2)
        rw [sv (iol i1), hu] at h1
        rw [sv (iol i2), hw] at h2
        cases h1; cases h2
        exact a.sep i j _ ne i1 i2 hu hw
      · rw [h] at my; cases my
    · rw [h] at mx; cases mx
  · obtain ⟨hi, hd, ⟨_, h⟩ | ⟨_, h⟩⟩ := env0_get hs <;> cases h
theorem end_st {P : Pl} {N : List Str} {io : List Bool} {Hf H Hf' H' : Hp} {vs : List V} {ds outs : List D} {σ' tv : L2.St} {e te : Env} {asg : List Nat} (lv : vs.length = io.length) (sf : Same Hf Hf') (a : AsgOk asg (L2.start N vs) σ') (S : St0 P N.length ⟨IOs P.G io vs, Hf⟩ H Hf' σ' tv e te H')
    (ha : ∀ i, io[i]? = some true → i ∉ asg) (ho : outsAt e io ds 0 = some outs) : Post P.G io vs Hf H Hf' H' ∧ Outs P.G io vs Hf' H' outs := by
  obtain ⟨h1, h2⟩ := outsAt_get ho
  refine ⟨⟨sf, S.sr.sub, S.sr.keep, ⟨S.sr.grow.ls, S.sr.grow.tab⟩, S.sr.nf⟩, by rw [h1, lv], fun i p d hio hv hd => ?_⟩
  have he := h2 i d hio hd
  rw [Nat.zero_add] at he
  obtain ⟨p', o, e1, e2, t⟩ := S.slot_own he (by rfl)
  have hi : i < vs.length := lt_of_get hv
  have : (L2.start N vs)[i]? = some (some (V.ref p)) := by
    unfold L2.start
    rw [List.getElem?_append_left (by rw [List.length_map]; exact hi), List.getElem?_map, hv]; rfl
  rw [a.2 i (ha i hio), this] at e1
  cases e1
  exact ⟨o, e2, t⟩
theorem okG {pr : Program} {w : World} {K : PySem.W.Frag} {mg : Str → Option Value} {base : Heap} {x qual : Str} {st : Stmt} {f : Addr} {fd : FuncData} {N ps : List Str} {k : Nat} {sp : Sp} (F : Fun K x qual st f fd) (S : FnScope N ps (defScope st)) (ln : ∀ vs H Q W, sp vs H Q W → vs.length = ps.length)
    (hbody : ∀ (cd : Value) (A : Around) (fr : List PySem.Env) (s : Shared) (H : Hp) (vs : List V) (Q : VK) (W : XK), cd = fd.code → RoomG k (A.deeper (envOfC qual (defScope st) s.heap.objs.size f cd)) → sp vs H Q W →
      ∃ t, PSs (cxOf (L2.CX pr w) pr w K mg base N qual (defScope st) f cd A fr s H W) (defBody st) t ∧ t { nx := fun _ H1 => Q .non H1, rt := Q } (L2.start N vs) H) : FnOkG pr w K mg base (L2.CX pr w) (k + 1) f fd ps sp := by
  obtain ⟨oc, od, kV, doc, pm, an, cd, ct, osl, rfl, lk, hc⟩ := F.ex
  refine ⟨ln, fun A fr s H as us vs Q W hr z bd rv hsp => ?_⟩
  have keep : ∀ b o, base.get? b = some o → s.heap.get? b = some o := fun b o e => (z.bs b o e).1
  have inK : K.In s.heap := z.mod.kin.keeps keep
  have par : ∀ y ∈ ps.zip us, (defScope st).names.lookup y.1 = some .local ∨ ((defScope st).names.lookup y.1 = some .cell ∧ ((cellsFrom (s.heap.objs.size + 1) (defScope st).names []).lookup y.1).isSome = true) := fun ⟨n, v⟩ hy =>
    (S.par n (List.of_mem_zip hy).1).elim .inl fun c => .inr ⟨c, PySem.W.cellsFrom_some _ _ _ (.inl c)⟩
  refine codeAny_call_function hr.rm.depth (inK _ _ lk) rfl S.co S.gen rfl (PySem.W.codeRec_of inK hc) (bd _ _ _ _ (wpAny_newFunctionEnv_cells S.kind par fun env he s1 y => ?_))
  subst he
  obtain ⟨t, pt, q⟩ := hbody cd A fr s H vs Q W rfl (hr.deep _) hsp
  have I : Inv (cxOf (L2.CX pr w) pr w K mg base N qual (defScope st) f cd A fr s H W) [] (L2.start N vs) H s1 := inv_start S hr.rm.hd z (ln _ _ _ _ hsp) rv y
  refine ⟨(z.mod.nolimit.keeps keep).keeps y.toInCall.keep, codeAny_func (wpAny_mono (pt.run [] s1 (L2.start N vs) H _ I q) (fun r s2 h => ?_) fun _ _ h => h)⟩
  match r, h with
  | .ret u, h =>
    obtain ⟨v, σ1, H1, J, r1, q1⟩ := h
    exact ⟨v, H1, J.os, J.bare, J.base, J.hok, r1, q1⟩
  | .next, h =>
    obtain ⟨σ1, H1, J, q1⟩ := h
    exact ⟨V.non, H1, J.os, J.bare, J.base, J.hok, rfl, q1⟩
  | .brk, h => obtain ⟨_, _, _, q1⟩ := h; exact q1.elim
  | .cont, h => obtain ⟨_, _, _, q1⟩ := h; exact q1.elim
end VM

/-! VMQ: words for the printed proofs -/
namespace VM
open PySem PySem.Spec PyProof.Rows L2

section
variable {P : Pl} {N : List Str} {sc : Scope} {mg : Str → Option Value}
theorem ev_T {t : TE} {m : Sm} (f : Ev P t m) : Ev P t (mT m) := by
  intro n IO H0 Hf σ tv env te H S
  have h1 := f n IO H0 Hf σ tv env te H S
  have h2 := ev_F f n IO H0 Hf σ tv env te H S
  unfold mT
  unfold mF at h2
  cases em : m env with
  | no => trivial
  | ex c d e1 => rw [em] at h1; exact h1
  | ok s e1 =>
    obtain ⟨k, d⟩ := s
    rw [em] at h1 h2
    cases k with
    | ow => exact h2
    | sh => exact h1
    | io => exact h1
    | al j => exact h1
    | fr => exact h1
theorem se_T {e : Expr} {m : Sm} (h : SE P e m) : SE P e (mT m) := let ⟨_, p, f⟩ := h; ⟨_, p, ev_T f⟩
theorem se_and (fr : Fra P N sc mg) {a b : Expr} {rest : List Expr} {pos : Pos} {ma mb : Sm} (ha : SE P a ma) (hb : SE P (.BoolOp .And (b :: rest) pos) mb) : SE P (.BoolOp .And (a :: b :: rest) pos) (mAnd ma mb) :=
  let ⟨_, p, f⟩ := ha; let ⟨_, q, g⟩ := hb; ⟨_, fun X hX => (fr.K X hX) ▸ pe_andT (p X hX) (q X hX), ev_and rfl f g⟩
theorem se_one {op : PySem.BoolOp} {a : Expr} {pos : Pos} {m : Sm} (h : SE P a m) : SE P (.BoolOp op [a] pos) m := let ⟨_, p, f⟩ := h; ⟨_, fun X hX => pe_one (p X hX), f⟩
theorem se_not (fr : Fra P N sc mg) {a : Expr} {pos : Pos} {ma : Sm} (ha : SE P a ma) : SE P (.UnaryOp .Not a pos) (mNot ma) :=
  let ⟨_, p, f⟩ := ha; ⟨_, fun X hX => (fr.K X hX) ▸ pe_notT (p X hX), ev_not rfl f⟩
theorem st_eq (fr : Fra P N sc mg) {a b : Expr} {pos : Pos} {ma mb : Sm} (ha : SE P a ma) (hb : SE P b mb) (hm : behindInMarks .Eq b = false) : ST P (.Compare a [.Eq] [b] pos) (mBl (m2 dEq ma mb)) :=
  st_cmpR (fun X hX => (fr.K X hX) ▸ op_eqD (by have := fr.hu X hX; omega)) s_eq ha hb hm
theorem st_ne (fr : Fra P N sc mg) {a b : Expr} {pos : Pos} {ma mb : Sm} (ha : SE P a ma) (hb : SE P b mb) (hm : behindInMarks .NotEq b = false) : ST P (.Compare a [.NotEq] [b] pos) (mBl (m2 dNe ma mb)) :=
  st_cmpR (fun X hX => (fr.K X hX) ▸ op_neD (by have := fr.hu X hX; omega)) s_ne ha hb hm
theorem st_lt {a b : Expr} {pos : Pos} {ma mb : Sm} (ha : SE P a ma) (hb : SE P b mb) (hm : behindInMarks .Lt b = false) : ST P (.Compare a [.Lt] [b] pos) (mBl (m2 dLt ma mb)) := st_cmpR (fun _ _ => op_ltA) s_C ha hb hm
theorem st_gt {a b : Expr} {pos : Pos} {ma mb : Sm} (ha : SE P a ma) (hb : SE P b mb) (hm : behindInMarks .Gt b = false) : ST P (.Compare a [.Gt] [b] pos) (mBl (m2 dGt ma mb)) := st_cmpR (fun _ _ => op_gtA) s_C ha hb hm
theorem Fra.call (fr : Fra P N sc mg) {x : Str} {fs : FS} {p pos : Pos} {e : Expr} {es : List Expr} {l : Lm} (hF : FnFact P x fs) (hg : sc.names.lookup x = some .globalImplicit) (hl : SL P (e :: es) l) (hs : (e :: es).all notStar = true) (hdb : (x == ("__debug__" : Str)) = false := by decide) :
    SE P (.Call (.Name x p) (e :: es) [] pos) (mCall fs l) := se_call hF (fr.gl hg) fr.tk hl hs hdb
theorem Fra.len (fr : Fra P N sc mg) {e : Expr} {p pos : Pos} {m : Sm} (hg : sc.names.lookup ("len" : Str) = some .globalImplicit) (hm : mg ("len" : Str) = none) (h : SE P e m) (hs : [e].all notStar = true) : SE P (.Call (.Name "len" p) [e] [] pos) (m1 dLen m) :=
  se_callB fr (fun X hX => (fr.K X hX) ▸ call_lenA) n_len hg hm boot_len (sl_cons h sl_nil) hs
theorem Fra.isi (fr : Fra P N sc mg) {a b : Expr} {p pos : Pos} {m k : Sm} (hg : sc.names.lookup ("isinstance" : Str) = some .globalImplicit) (hm : mg ("isinstance" : Str) = none) (h : SE P a m) (g : SE P b k) (hs : [a, b].all notStar = true) : SE P (.Call (.Name "isinstance" p) [a, b] [] pos) (m2 dIsi m k) :=
  se_callB fr (fun X hX => (fr.K X hX) ▸ call_isi) n_isi hg hm boot_isinstance (sl_cons h (sl_cons g sl_nil)) hs
theorem Fra.max2 (fr : Fra P N sc mg) {a b : Expr} {p pos : Pos} {m k : Sm} (hg : sc.names.lookup ("max" : Str) = some .globalImplicit) (hm : mg ("max" : Str) = none) (h : SE P a m) (g : SE P b k) (hs : [a, b].all notStar = true) : SE P (.Call (.Name "max" p) [a, b] [] pos) (m2 dMax m k) :=
  se_callB fr (fun X hX => call_max2 (fr.calm X hX)) (n_I2 (g := fun i j => if j > i then j else i)) hg hm boot_max (sl_cons h (sl_cons g sl_nil)) hs
theorem Fra.min2 (fr : Fra P N sc mg) {a b : Expr} {p pos : Pos} {m k : Sm} (hg : sc.names.lookup ("min" : Str) = some .globalImplicit) (hm : mg ("min" : Str) = none) (h : SE P a m) (g : SE P b k) (hs : [a, b].all notStar = true) : SE P (.Call (.Name "min" p) [a, b] [] pos) (m2 dMin m k) :=
  se_callB fr (fun X hX => call_min2 (fr.calm X hX)) (n_I2 (g := fun i j => if j < i then j else i)) hg hm boot_min (sl_cons h (sl_cons g sl_nil)) hs
theorem Fra.int1 (fr : Fra P N sc mg) {e : Expr} {p pos : Pos} {m : Sm} (hg : sc.names.lookup ("int" : Str) = some .globalImplicit) (hm : mg ("int" : Str) = none) (h : SE P e m) (hs : [e].all notStar = true) : SE P (.Call (.Name "int" p) [e] [] pos) (m1 dInt m) :=
  se_callTy fr (fun X hX => call_int1) n_int hg hm PyProof.Rows.boot_int (sl_cons h sl_nil) hs
theorem Fra.append (fr : Fra P N sc mg) {x : Str} {i : Nat} {e : Expr} {p apos cpos : Pos} {m : Sm} (hN : N[i]? = some x) (hv : Vis sc x) (h : SE P e m) (hs : [e].all notStar = true) (hline : (apos.endLine == cpos.line) = true) (hbase : ∀ env, attributeBase (.Name x p) "append" env (eval (.Name x p) env) = eval (.Name x p) env)
    (hfew : ∀ env, ((backTo cpos (starEach [e] env)).all (fun x => !x.1) && (backToKw cpos (keywordEach [] env)).all (fun x => x.1.isSome)
      && decide ([e].length + ([] : List Keyword).length + (if ([] : List Keyword).isEmpty then 0 else 1) < 30)) = true)
    (hd : (x == ("__debug__" : Str)) = false := by decide) (hc : (x == ("__classdict__" : Str)) = false := by decide) : SE P (.Call (.Attribute (.Name x p) "append" apos) [e] [] cpos) (mMeth "list" i fAppend (lCons (mF m) lNil)) :=
  se_meth fr PySem.F.plainAttrs_list PySem.F.slot_list_append PySem.F.type_list_append (fun _ _ => mt_append) f_append hN hv (sl_cons (se_F h) sl_nil) hs hline hbase hfew hd hc
theorem Fra.rng1 (fr : Fra P N sc mg) {tg a : Expr} {p pos : Pos} {l : Lm} (hg : sc.names.lookup ("range" : Str) = some .globalImplicit) (hm : mg ("range" : Str) = none) (h : SL P [a] l) (hs : [a].all notStar = true) : SI P tg (.Call (.Name "range" p) [a] [] pos) (iInts rng1 l) :=
  si_rng1 (fr.gl hg) (fr.bm hm) h hs
theorem Fra.rng3 (fr : Fra P N sc mg) {tg a b c : Expr} {p pos : Pos} {l : Lm} (hg : sc.names.lookup ("range" : Str) = some .globalImplicit) (hm : mg ("range" : Str) = none) (h : SL P [a, b, c] l) (hs : [a, b, c].all notStar = true) : SI P tg (.Call (.Name "range" p) [a, b, c] [] pos) (iInts rng3 l) :=
  si_rng3 (fr.gl hg) (fr.bm hm) h hs
end
end VM

/-! VMR: list(reversed(range(n))) -/
namespace PySem
open PyProof.Rows
end PySem
namespace VM
open PySem PySem.Spec PyProof.Rows L2
noncomputable def asgOk (io : List Bool) (asg : List Nat) : Bool := (List.range io.length).all fun i => !(io[i]? == some true && asg.contains i)
theorem asgOk_ok {io : List Bool} {asg : List Nat} (h : asgOk io asg = true) : ∀ i, io[i]? = some true → i ∉ asg := fun i hi ha => by
  have := List.all_eq_true.mp h i (List.mem_range.mpr (lt_of_get hi))
  rw [hi] at this
  simp at this
  exact this ha
section
variable {P : Pl} {N : List Str} {sc : Scope} {mg : Str → Option Value}
end
end VM

/-! VMS: words for the plain laws -/
namespace VM
open PySem PySem.Spec PyProof.Rows L2

theorem xSeq_nx {a b : Sx} {e e1 : Env} (h : a.run e = .nx e1) : (xSeq a b).run e = b.run e1 := by
  show (match a.run e with | .nx e1 => b.run e1 | r => r) = _
  rw [h]
theorem xSeq_rt {a b : Sx} {e e1 : Env} {s : Slot} (h : a.run e = .rt s e1) : (xSeq a b).run e = .rt s e1 := by
  show (match a.run e with | .nx e1 => b.run e1 | r => r) = _
  rw [h]
/-! ### calls -/
/-! ### ints -/
theorem dEq_int (i j : Int) : dEq (.int i) (.int j) = .sh (.bl (cdec (i = j))) := by
  show (if hid true then RR.sh (.bl (hid (if false = true then !(i == j) else i == j))) else .no) = _
  simp only [hid_eq, if_true, cdec_eq]
  by_cases h : i = j
  · subst h; simp
  · simp [h]
theorem nat_or_and : ∀ (n a b : Nat), a ≤ n → (a ||| b) + (a &&& b) = a + b
  | 0, a, b, h => by
    have : a = 0 := by omega
    subst this; simp
  | n + 1, a, b, h => by
    by_cases h0 : a = 0
    · subst h0; simp
    have ih := nat_or_and n (a / 2) (b / 2) (by omega)
    have e1 : (a ||| b) / 2 = a / 2 ||| b / 2 := Nat.or_div_two
    have e2 : (a &&& b) / 2 = a / 2 &&& b / 2 := Nat.and_div_two
    have m1 : (a ||| b) % 2 = a % 2 ||| b % 2 := by have := Nat.or_mod_two_pow (a := a) (b := b) (n := 1); simpa using this
    have m2 : (a &&& b) % 2 = a % 2 &&& b % 2 := by have := Nat.and_mod_two_pow (a := a) (b := b) (n := 1); simpa using this
    have c : (a % 2 ||| b % 2) + (a % 2 &&& b % 2) = a % 2 + b % 2 := by
      have ha : a % 2 = 0 ∨ a % 2 = 1 := by omega
      have hb : b % 2 = 0 ∨ b % 2 = 1 := by omega
      rcases ha with ha | ha <;> rcases hb with hb | hb <;> rw [ha, hb] <;> rfl
    omega
theorem bAnd_nat (a b : Nat) : Builtin.bitAnd (a : Int) (b : Int) = ((a &&& b : Nat) : Int) := PySem.W.os_band a b
theorem bOr_nat (a b : Nat) : Builtin.bitOr (a : Int) (b : Int) = ((a ||| b : Nat) : Int) := by
  have h := bitOr_and (a : Int) (b : Int)
  have h2 := nat_or_and a a b (Nat.le_refl _)
  rw [bAnd_nat] at h
  omega
noncomputable abbrev nD (n : Nat) : D := .int (n : Int)
/-! ### ints -/
theorem cDiv_ok {i j : Int} (h : 0 < j) (h2 : j < 2 ^ 200) : cDiv i j = true := by
  refine cdec_t ⟨h, ?_⟩
  have h0 : j.natAbs ≠ 0 := by omega
  have : j.natAbs < 2 ^ 200 := by
    have : ((2 : Int) ^ 200) = ((2 ^ 200 : Nat) : Int) := by norm_cast
    omega
  have := (Nat.log2_lt h0).mpr this
  omega
theorem cMul_l {i j : Int} (h : -(2 ^ 64) < i) (h2 : i < 2 ^ 64) : cMul i j = true := cdec_t (.inl (.inl ⟨h, h2⟩))
theorem cMul_r {i j : Int} (h : -(2 ^ 64) < j) (h2 : j < 2 ^ 64) : cMul i j = true := cdec_t (.inl (.inr ⟨h, h2⟩))
theorem cPow_of {i j : Int} (h1 : 0 ≤ j) (h2 : j ≤ 1000000) (h3 : i.natAbs < 2 ^ 64) : cPow i j = true := cdec_t ⟨h1, h2, h3⟩
theorem small62_of {i : Int} (h : -1000000 ≤ i) (h2 : i ≤ 1000000) : small62 i = true := cdec_t (by omega)
theorem small62_nat {n : Nat} (h : n ≤ 1000000) : small62 (n : Int) = true := small62_of (by omega) (by omega)
theorem rng1_nat {n : Nat} (h : n ≤ 1000000) : rng1 [(n : Int)] = some (upto 0 n) := by
  unfold rng1
  simp only [small62_nat h, if_true, Int.toNat_natCast]
theorem iInts_g {f : List Int → Option (List D)} {l : Lm} {e e1 : VM.Env} {ss : List Slot} {is : List Int} {ds : List D} (h : l e = .ok ss e1) (hi : intsOf ss = some is) (hf : f is = some ds) : iInts f l e = .ok ds e1 none := by
  unfold iInts
  rw [h]
  dsimp only
  rw [hi]
  dsimp only
  rw [hf]
theorem rng3_down {a : Nat} (h : a ≤ 1000000) : rng3 [(a : Int), -1, -1] = some (downto a (a + 1)) := by
  unfold rng3
  have h1 : small62 (a : Int) = true := small62_nat h
  have h2 : small62 (-1) = true := small62_of (by omega) (by omega)
  simp only [h1, h2, Bool.and_self, and_self, if_true]
  rw [show ((a : Int) - -1).toNat = a + 1 by omega]
/-! ### the law's source -/
noncomputable def srcD (n s t : Int) : D := .dic [(.inr "number", .int n), (.inr "seed", .int s), (.inr "turn", .int t)]
theorem key_ns : ("number" : Str) ≠ ("seed" : Str) := by decide +kernel
theorem key_nt : ("number" : Str) ≠ ("turn" : Str) := by decide +kernel
theorem key_st : ("seed" : Str) ≠ ("turn" : Str) := by decide +kernel
theorem get_n {n s t : Int} : getD (srcD n s t) (.str "number") = .sh (.int n) := by
  simp [getD, srcD, keyOf, valG, List.find?_cons]
theorem get_s {n s t : Int} : getD (srcD n s t) (.str "seed") = .sh (.int s) := by
  simp [getD, srcD, keyOf, valG, List.find?_cons, key_ns]
theorem get_t {n s t : Int} : getD (srcD n s t) (.str "turn") = .sh (.int t) := by
  simp [getD, srcD, keyOf, valG, List.find?_cons, key_nt, key_st]
theorem put_n {n s t x : Int} : putD (srcD n s t) (.str "number") (.int x) = some (srcD x s t) := by
  have h : 3 < sizeLine := by decide
  simp [putD, srcD, putG, key_ns, Ne.symm key_ns, key_nt, Ne.symm key_nt, h]
theorem put_t {n s t x : Int} : putD (srcD n s t) (.str "turn") (.int x) = some (srcD n s x) := by
  have h : 3 < sizeLine := by decide
  simp [putD, srcD, putG, key_nt, key_st, h]
theorem dIx_nat {xs : List D} {r : Nat} {d : D} (h : xs[r]? = some d) : dIx (.lst xs) (nD r) = .sh d := by
  have ha : L2.atI xs (r : Int) = some d := by
    unfold L2.atI L2.ixN
    rw [if_pos (by omega), if_pos (by have := lt_of_get h; omega)]
    simpa using h
  show (match L2.atI xs (r : Int) with | some x => RR.sh x | none => .no) = _
  rw [ha]
theorem dIx_frl {xs : List D} {r : Nat} {d : D} (h : xs[r]? = some d) : dIx (.frl xs) (nD r) = .sh d := by
  have ha : L2.atI xs (r : Int) = some d := by
    unfold L2.atI L2.ixN
    rw [if_pos (by omega), if_pos (by have := lt_of_get h; omega)]
    simpa using h
  show (match L2.atI xs (r : Int) with | some x => RR.sh x | none => .no) = _
  rw [ha]
theorem upto_map (n : Nat) : upto 0 n = (List.range n).map nD := by
  unfold upto
  apply List.map_congr_left
  intro k _
  show D.int (0 + (k : Int)) = D.int (k : Int)
  rw [Int.zero_add]
end VM

/-! VMT: chains of comparisons, texts -/
namespace VM
open PySem PySem.Spec PyProof.Rows L2

noncomputable def mChain (f f' : D → D → RR) (a b c : Sm) : Sm := fun e => match a e with
  | .ok s1 e1 => match b e1 with
    | .ok s2 e2 => match deref e2 s1, deref e2 s2 with
      | some d1, some d2 => match f d1 d2 with
        | .sh (.bl false) => .ok ⟨.sh, .bl false⟩ e2
        | .sh (.bl true) => match c e2 with
          | .ok s3 e3 => match deref e3 s2, deref e3 s3 with
            | some d2, some d3 => (f' d2 d3).ans e3
            | _, _ => .no
          | .ex c d e3 => .ex c d e3
          | .no => .no
        | _ => .no
      | _, _ => .no
    | .ex c d e2 => .ex c d e2
    | .no => .no
  | .ex c d e1 => .ex c d e1
  | .no => .no
section
variable {P : Pl} {N : List Str} {sc : Scope} {mg : Str → Option Value}
theorem ev_chain {r r' : R2} {f f' : D → D → RR} {ta tb tc : TE} {a b c : Sm} (hf : S2 P.G r f) (hf' : S2 P.G r' f') (fa : Ev P ta a) (fb : Ev P tb b) (fc : Ev P tc c) : Ev P (tChain r r' ta tb tc) (mChain f f' a b c) := by
  intro n IO H0 Hf σ tv env te H S
  have h1 := fa n IO H0 Hf σ tv env te H S
  unfold mChain
  cases ea : a env with
  | no => trivial
  | ex c d e1 => rw [ea] at h1; exact fun w Q => h1 w _
  | ok s1 e1 =>
    rw [ea] at h1
    dsimp only
    cases eb : b e1 with
    | no => trivial
    | ex c d e2 =>
      refine fun w Q => h1 _ fun v Hf1 H1 u1 S1 => ?_
      have h2 := fb n IO H0 Hf1 σ _ e1 _ H1 S1
      rw [eb] at h2
      exact h2 (fun cv dx Hf2 H2 u2 S2 x => w cv dx Hf2 H2 (u1.trans u2) S2.pop x) _
    | ok s2 e2 =>
      dsimp only
      cases ed1 : deref e2 s1 with
      | none => trivial
      | some d1 =>
        cases ed2 : deref e2 s2 with
        | none => trivial
        | some d2 =>
          dsimp only
          have two : ∀ (Q : VK) (k : Bool), f d1 d2 = .sh (.bl k) → (∀ x y Hf2 H2, Same Hf Hf2 → St0 P n IO H0 Hf2 σ ((tv ++ [some x]) ++ [some y]) e2 ((te ++ [some s1]) ++ [some s2]) H2 → (if k = true then tc σ H2 fun w' H4 => r' y w' H4 Q else Q (.bl false) H2)) → tChain r r' ta tb tc σ H Q := fun Q k hk q => by
            refine h1 _ fun x Hf1 H1 u1 S1 => ?_
            have h2 := fb n IO H0 Hf1 σ _ e1 _ H1 S1
            rw [eb] at h2
            refine h2 _ fun y Hf2 H2 u2 T2 => ?_
            have px : PRep P.G Hf2 H2 x d1 := T2.prep (i := tv.length) (by rw [List.getElem?_append_left (by simp)]; exact get_last) (by rw [S.l2, List.getElem?_append_left (by simp)]; exact get_last) ed1
            have py : PRep P.G Hf2 H2 y d2 := T2.last (by have := S.l2; simp [this]) ed2
            have h3 := hf Hf2 H2 x y d1 d2 T2.sr.sub px py
            rw [hk] at h3
            refine h3 _ fun z rz => ?_
            cases rz
            exact ⟨k, rfl, q x y Hf2 H2 (u1.trans u2) T2⟩
          cases hk : f d1 d2 with
          | ow d => trivial
          | tp d => trivial
          | no => trivial
          | sh d =>
            cases d with
            | bl k =>
              cases k with
              | false => exact fun Q q => two Q false hk fun x y Hf2 H2 u T2 => iteF (q _ Hf2 H2 u (T2.pop.pop.push_sh .bl))
              | true =>
                dsimp only
                cases ec : c e2 with
                | no => trivial
                | ex c d e3 =>
                  refine fun w Q => two Q true hk fun x y Hf2 H2 u T2 => iteT ?_
                  have h4 := fc n IO H0 Hf2 σ _ e2 _ H2 T2
                  rw [ec] at h4
                  exact h4 (fun cv dx Hf3 H3 u3 T3 x => w cv dx Hf3 H3 (u.trans u3) T3.pop.pop x) _
                | ok s3 e3 =>
                  dsimp only
                  cases ed2' : deref e3 s2 with
                  | none => trivial
                  | some d2' =>
                    cases ed3 : deref e3 s3 with
                    | none => trivial
                    | some d3 =>
                      dsimp only
                      cases er : (f' d2' d3).ans e3 with
                      | no => trivial
                      | ex c d e4 => exact absurd er RR.ans_ex
                      | ok s e4 =>
                        refine fun Q q => two Q true hk fun x y Hf2 H2 u T2 => iteT ?_
                        have h4 := fc n IO H0 Hf2 σ _ e2 _ H2 T2
                        rw [ec] at h4
                        refine h4 _ fun w Hf3 H3 u3 T3 => ?_
                        have l2 := S.l2
                        have py : PRep P.G Hf3 H3 y d2' := T3.prep (i := tv.length + 1) (by rw [List.getElem?_append_left (by simp), show tv.length + 1 = (tv ++ [some x]).length by simp]; exact get_last) (by rw [l2, List.getElem?_append_left (by simp), show te.length + 1 = (te ++ [some s1]).length by simp]; exact get_last) ed2'
                        have pw : PRep P.G Hf3 H3 w d3 := T3.last (by simp [l2]) ed3
                        have h5 := (T3.pop.pop.pop).rr (hf' Hf3 H3 y w d2' d3 T3.sr.sub py pw)
                        rw [er] at h5
                        exact h5 Q fun v Hf4 H4 u4 T4 => q v Hf4 H4 ((u.trans u3).trans u4) T4
            | _ => trivial
theorem st_chain {op op' : CmpOp} {r r' : R2} {f f' : D → D → RR} {a b c : Expr} {pos : Pos} {ma mb mc : Sm} (ho : ∀ X, P.M X → OpR X (compareOp op) r) (ho' : ∀ X, P.M X → OpR X (compareOp op') r') (hf : S2 P.G r f) (hf' : S2 P.G r' f') (ha : SE P a ma) (hb : SE P b mb) (hc : SE P c mc) (hm : lastMarks [op, op'] [b, c] = false) :
    ST P (.Compare a [op, op'] [b, c] pos) (mBl (mChain f f' ma mb mc)) :=
  let ⟨_, p, e⟩ := ha; let ⟨_, q, g⟩ := hb; let ⟨_, u, v⟩ := hc; ⟨_, fun X hX => pt_chain (ho X hX) (ho' X hX) (p X hX) (q X hX) (u X hX) hm, evT_bl (ev_chain hf hf' e g v)⟩

/-! ### a sign in a text -/
noncomputable def dInS (neg : Bool) : D → D → RR
  | .str x, .str z => if x.cps.size = 1 then .sh (.bl (if neg then !decide (x.cps[0]! ∈ z.cps.toList) else decide (x.cps[0]! ∈ z.cps.toList))) else .no
  | _, _ => .no
theorem one_sign {x : Str} (h : x.cps.size = 1) : x = ⟨#[x.cps[0]!]⟩ := by
  obtain ⟨a⟩ := x
  simp only at h ⊢
  obtain ⟨l⟩ := a
  match l, h with
  | [c], _ => rfl
theorem s_inS {G : Gi} : S2 G (fun x y H Q => ∃ (c : Nat) (z : Str), x = .str ⟨#[c]⟩ ∧ y = .str z ∧ Q (.bl (decide (c ∈ z.cps.toList))) H) (dInS false) := by
  intro Hf H x y d e s p q
  unfold dInS
  split
  · split
    · rename_i x' z hx
      exact fun Q k => ⟨x'.cps[0]!, z, by rw [p.str]; exact congrArg V.str (one_sign hx), q.str, k _ .bl⟩
    · trivial
  · trivial
theorem se_inS {a b : Expr} {pos : Pos} {ma mb : Sm} (ha : SE P a ma) (hb : SE P b mb) (hm : behindInMarks .In b = false) : SE P (.Compare a [.In] [b] pos) (m2 (dInS false) ma mb) := se_cmpR (fun _ _ => op_in_sign) s_inS ha hb hm
/-! ### all, any -/
noncomputable def bls : List D → Option (List Bool)
  | [] => some []
  | .bl b :: r => match bls r with
    | some bs => some (b :: bs)
    | none => none
  | _ => none
noncomputable def dAll (d : D) : RR := match listOf d with
  | some xs => match bls xs with
    | some bs => .sh (.bl (bs.all id))
    | none => .no
  | none => .no
theorem bls_reps {G : Gi} {H : Hp} : ∀ {xs : List D} {bs : List Bool} {vs : List V}, bls xs = some bs → Reps G H vs xs → vs = bs.map V.bl
  | [], bs, vs, e, r => by
    cases e
    exact List.eq_nil_of_length_eq_zero r.len
  | d :: xs, bs, vs, e, r => by
    cases d with
    | bl b =>
      unfold bls at e
      cases er : bls xs with
      | none => rw [er] at e; cases e
      | some bs' =>
        rw [er] at e; cases e
        match vs, r with
        | [], r => exact absurd r.len (by simp)
        | v :: vs, r =>
          obtain ⟨r1, r2⟩ := r.inv
          cases r1
          rw [bls_reps er r2]
          rfl
    | _ => unfold bls at e; cases e
theorem n_all {G : Gi} : SN G (rAll G.K) (f1 dAll) := by
  intro Hf H vs ds s p
  match ds, p with
  | [d], p =>
    obtain ⟨v, rfl, h⟩ := p.inv1
    show RRok G Hf H _ (dAll d)
    unfold dAll
    split
    · rename_i xs e
      obtain ⟨a, us, rfl, h1, r⟩ := h.list s e
      split
      · rename_i bs hb
        rw [bls_reps hb r] at h1
        exact fun Q k => ⟨a, bs, rfl, h1, k _ .bl⟩
      · trivial
    · trivial
  | [], p => trivial
  | _ :: _ :: _, p => trivial
theorem boot_all_ : bootBuiltins "all" = some (.builtin "all") := by decide +kernel
theorem Fra.all1 (fr : Fra P N sc mg) {e : Expr} {p pos : Pos} {m : Sm} (hg : sc.names.lookup ("all" : Str) = some .globalImplicit) (hm : mg ("all" : Str) = none) (h : SE P e m) (hs : [e].all notStar = true) : SE P (.Call (.Name "all" p) [e] [] pos) (m1 dAll m) :=
  se_callB fr (fun X hX => (fr.K X hX) ▸ cr_all (fr.calm X hX)) n_all hg hm boot_all_ (sl_cons h sl_nil) hs
end
end VM

/-! VMU: methods of texts -/
namespace VM
open PySem PySem.Spec PyProof.Rows L2

noncomputable def mTM (f : Str → List D → RR) (o : Sm) (l : Lm) : Sm := fun e => match o e with
  | .ok ⟨.sh, .str z⟩ e1 => match l e1 with
    | .ok ss e2 => match derefs e2 ss with
      | some ds => (f z ds).ans e2
      | none => .no
    | .ex c d e2 => .ex c d e2
    | .no => .no
  | .ex c d e1 => .ex c d e1
  | _ => .no
noncomputable def SNT (G : Gi) (r : V → List V → Hp → VK → Prop) (f : Str → List D → RR) : Prop := ∀ Hf H z vs ds, Same Hf H → PReps G Hf H vs ds → RRok G Hf H (r (.str z) vs H) (f z ds)
section
variable {P : Pl} {N : List Str} {sc : Scope} {mg : Str → Option Value}
theorem ev_tm {K : PySem.W.Frag} {r : V → List V → Hp → VK → Prop} {f : Str → List D → RR} {to : TE} {t : TA} {o : Sm} {l : Lm} (hf : SNT P.G r f) (fo : Ev P to o) (fl : EvL P t l) : Ev P (tBM K "str" r to t) (mTM f o l) := by
  intro n IO H0 Hf σ tv env te H S
  have h1 := fo n IO H0 Hf σ tv env te H S
  unfold mTM
  cases eo : o env with
  | no => trivial
  | ex c d e1 => rw [eo] at h1; exact fun w Q => h1 w _
  | ok s e1 =>
    rw [eo] at h1
    obtain ⟨m, d⟩ := s
    cases m with
    | sh =>
      cases d with
      | str z =>
        dsimp only
        cases el : l e1 with
        | no => trivial
        | ex c d e2 =>
          refine fun w Q => h1 _ fun v Hf1 H1 s1 S1 => ?_
          have rv := S1.held S.l2
          cases rv
          have h2 := fl n IO H0 Hf1 σ _ e1 _ H1 S1
          rw [el] at h2
          exact ⟨rfl, h2 (fun cv dx Hf2 H2 s2 S2 x => w cv dx Hf2 H2 (s1.trans s2) S2.pop x) _⟩
        | ok ss e2 =>
          dsimp only
          cases ed : derefs e2 ss with
          | none => trivial
          | some ds =>
            dsimp only
            cases er : (f z ds).ans e2 with
            | no => trivial
            | ex c d e3 => exact absurd er RR.ans_ex
            | ok s e3 =>
              refine fun Q q => h1 _ fun v Hf1 H1 s1 S1 => ?_
              have rv := S1.held S.l2
              cases rv
              have h2 := fl n IO H0 Hf1 σ _ e1 _ H1 S1
              rw [el] at h2
              refine ⟨rfl, h2 _ fun vs Hf2 H2 s2 l2 S2 => ?_⟩
              have pr : PReps P.G Hf2 H2 vs ds := S2.preps (k := (tv ++ [some (V.str z)]).length) (fun i v hv => ?_) (fun i v hv => ?_) l2 ed
              · have S3 : St0 P n IO H0 Hf2 σ (tv ++ [some (V.str z)]) e2 (te ++ [sh (.str z)]) H2 := St0.pops ss.length (by simp [l2]) (by simp) S2
                have h3 := S3.pop.rr (hf Hf2 H2 z vs ds S2.sr.sub pr)
                rw [er] at h3
                exact h3 Q fun v Hf3 H3 s3 S4 => q v Hf3 H3 ((s1.trans s2).trans s3) S4
              · rw [List.getElem?_append_right (by omega), Nat.add_sub_cancel_left, List.getElem?_map, hv]; rfl
              · have e : (tv ++ [some (V.str z)]).length = (te ++ [sh (.str z)]).length := S1.l2
                rw [e, List.getElem?_append_right (Nat.le_add_right _ _), Nat.add_sub_cancel_left, List.getElem?_map, hv]; rfl
      | _ => trivial
    | _ => trivial
theorem se_tm {name : Str} {id : String} {r : V → List V → Hp → VK → Prop} {f : Str → List D → RR} {o e : Expr} {es : List Expr} {apos cpos : Pos} {mo : Sm} {l : Lm} (fr : Fra P N sc mg) (slot : PySem.Slot "str" name id) (hty : typeOf (.builtin id) = pure (.type "method_descriptor"))
    (hm : ∀ X, P.M X → MtR X id r) (hf : SNT P.G r f) (ho : SE P o mo) (hl : SL P (e :: es) l) (hs : (e :: es).all notStar = true) (hline : (apos.endLine == cpos.line) = true) (hbase : ∀ env, attributeBase o name env (eval o env) = eval o env)
    (hfew : ∀ env, ((backTo cpos (starEach (e :: es) env)).all (fun x => !x.1) && (backToKw cpos (keywordEach [] env)).all (fun x => x.1.isSome)
      && decide ((e :: es).length + ([] : List Keyword).length + (if ([] : List Keyword).isEmpty then 0 else 1) < 30)) = true) : SE P (.Call (.Attribute o name apos) (e :: es) [] cpos) (mTM f mo l) := by
  obtain ⟨ts, q, g⟩ := hl
  obtain ⟨t, p, fo⟩ := ho
  have hs2 := hs
  rw [List.all_cons, Bool.and_eq_true] at hs2
  exact ⟨_, fun X hX => (fr.K X hX) ▸ pe_bm PySem.F.plainAttrs_str slot hty (hm X hX) (p X hX) (pa_of (q X hX) hs) (hbase _) (hfew _) hline (star_ok hs2.1) (star_any hs2.2), ev_tm (K := P.G.K) hf fo g⟩
noncomputable def strsD : List D → Option (List Str)
  | [] => some []
  | .str z :: r => match strsD r with
    | some zs => some (z :: zs)
    | none => none
  | _ => none
theorem strs_reps {G : Gi} {H : Hp} : ∀ {xs : List D} {zs : List Str} {vs : List V}, strsD xs = some zs → Reps G H vs xs → vs = zs.map V.str
  | [], zs, vs, e, r => by
    cases e
    exact List.eq_nil_of_length_eq_zero r.len
  | d :: xs, zs, vs, e, r => by
    cases d with
    | str z =>
      unfold strsD at e
      cases er : strsD xs with
      | none => rw [er] at e; cases e
      | some zs' =>
        rw [er] at e; cases e
        match vs, r with
        | [], r => exact absurd r.len (by simp)
        | v :: vs, r =>
          obtain ⟨r1, r2⟩ := r.inv
          cases r1
          rw [strs_reps er r2]
          rfl
    | _ => unfold strsD at e; cases e
noncomputable def seqOf (d : D) : Option (List D) := match listOf d with
  | some xs => some xs
  | none => tupOf d
noncomputable def fJoin (z : Str) : List D → RR
  | [d] => match seqOf d with
    | some xs => match strsD xs with
      | some ys => if (ys.map (·.length)).sum + ys.length * z.length ≤ 16777216 then .sh (.str (Txt.join z ys)) else .no
      | none => .no
    | none => .no
  | _ => .no
theorem PRep.seqs {G : Gi} {Hf H : Hp} (s : Same Hf H) {v : V} {d : D} {ds : List D} (r : PRep G Hf H v d) (e : seqOf d = some ds) : ∃ a xs, v = .ref a ∧ (SqL G.K H a xs ∨ SqT G.K H a xs) ∧ Reps G Hf xs ds := by
  unfold seqOf at e
  split at e
  · rename_i xs hx
    cases e
    obtain ⟨a, us, h1, h2, h3⟩ := r.list s hx
    exact ⟨a, us, h1, .inl h2, h3⟩
  · obtain ⟨a, us, h1, h2, h3⟩ := r.tupl s e
    exact ⟨a, us, h1, .inr h2, h3⟩
theorem t_join {K : PySem.W.Frag} {G : Gi} (hK : G.K = K) : SNT G (fun x xs H Q => ∃ a p, ∃ ys : List Str, x = .str a ∧ xs = [.ref p] ∧ (SqL K H p (ys.map V.str) ∨ SqT K H p (ys.map V.str)) ∧ (ys.map (·.length)).sum + ys.length * a.length ≤ 16777216 ∧ Q (.str (Txt.join a ys)) H) fJoin := by
  subst hK
  intro Hf H z vs ds s p
  match ds, p with
  | [d], p =>
    obtain ⟨v, rfl, h⟩ := p.inv1
    unfold fJoin
    dsimp only
    cases e1 : seqOf d with
    | none => trivial
    | some xs =>
      obtain ⟨a, us, rfl, h1, r⟩ := h.seqs s e1
      dsimp only
      cases e2 : strsD xs with
      | none => trivial
      | some ys =>
        rw [strs_reps e2 r] at h1
        dsimp only
        split
        · rename_i hz
          exact fun Q k => ⟨z, a, ys, rfl, rfl, h1, hz, k _ .str⟩
        · trivial
  | [], p => trivial
  | _ :: _ :: _, p => trivial
theorem Fra.join (fr : Fra P N sc mg) {o e : Expr} {apos cpos : Pos} {mo m : Sm} (ho : SE P o mo) (h : SE P e m) (hs : [e].all notStar = true) (hline : (apos.endLine == cpos.line) = true) (hbase : ∀ env, attributeBase o "join" env (eval o env) = eval o env)
    (hfew : ∀ env, ((backTo cpos (starEach [e] env)).all (fun x => !x.1) && (backToKw cpos (keywordEach [] env)).all (fun x => x.1.isSome)
      && decide ([e].length + ([] : List Keyword).length + (if ([] : List Keyword).isEmpty then 0 else 1) < 30)) = true) : SE P (.Call (.Attribute o "join" apos) [e] [] cpos) (mTM fJoin mo (lCons m lNil)) :=
  se_tm fr PySem.F.slot_str_join PySem.F.type_str_join (fun X hX => (fr.K X hX) ▸ mt_join) (t_join rfl) ho (sl_cons h sl_nil) hs hline hbase hfew
end
end VM

/-! VMV: instances are made -/
namespace VM
open PySem PySem.Spec PyProof.Rows L2

section
variable {X : Cx} {CX : CXT} {k : Nat} {f C : Addr} {fd : FuncData} {ps : List Str} {sp : Sp} {E : L2.St → XK} {x m : Str} {p pos apos : Pos} {e o : Expr} {es : List Expr} {t : TA} {ta : TE}
noncomputable def tMakeS (C : Addr) (sp : Sp) (E : L2.St → XK) (t : TA) : TE := fun σ H Q => t σ H fun vs H1 => ∀ x dx, H1 x = none → H1 dx = none → dx ≠ x →
  sp (.ref x :: vs) (upd (upd H1 dx (.own x)) x (.ins C dx [])) (fun v H2 => v = .non ∧ Q (.ref x) H2) (E σ)
theorem run_makeS {pins : List (Addr × Obj)} {σ : L2.St} {H : Hp} {s : Shared} {Q : VK} {us : List Value} {vs : List V} (M : Mk X.K C f) (F : FnOkG X.prog X.w X.K X.mg X.base CX k f fd ps sp) (hr : RoomG (k + 1) X.A) (hb : Binds X.K fd ps [])
    (hx : PassesAt CX X σ (E σ)) (I : Inv X pins σ H s) (r : Vals vs us)
    (h : ∀ x dx, H x = none → H dx = none → dx ≠ x → sp (.ref x :: vs) (upd (upd H dx (.own x)) x (.ins C dx [])) (fun v H2 => v = .non ∧ Q (.ref x) H2) (E σ)) :
    wpAny (model X.prog X.w) X.A (call (.ref C) us) (EP X pins σ Q) X.xe s := by
  have hq := h (s.heap.objs.size + 1) s.heap.objs.size (I.hok.fresh (Nat.le_succ _)) (I.hok.fresh (Nat.le_refl _)) (Nat.ne_of_lt (Nat.lt_succ_self _))
  have I2 := Inv.made (C := C) I
  have r2 : Vals (V.ref (s.heap.objs.size + 1) :: vs) (Value.ref (s.heap.objs.size + 1) :: us) := .cons rfl r
  have hl : ((Value.ref (s.heap.objs.size + 1) :: us) ++ []).length = ps.length := by
    have e := r2.length
    rw [F.len _ _ _ _ hq] at e
    rw [List.append_nil]
    exact e.symm
  have hb2 := hb _ (Value.ref (s.heap.objs.size + 1) :: us) I2.kIn hl
  rw [List.append_nil] at hb2
  refine wpAny_call (make_map (f := f) I.kIn M.makes M.init (beq_iff_eq.mp M.fn) (codeAny_mono (F.run _ X.stack _ _ ⟨Value.ref (s.heap.objs.size + 1) :: us, []⟩ (Value.ref (s.heap.objs.size + 1) :: us) _ _ (E σ) (hr.make C us [])
    (I2.env0.make C us []) hb2 r2 hq) fun r s' hq' => ?_))
  cases r with
  | error e => exact hx pins _ _ e s' I2 hq'
  | ok fl =>
    cases fl with
    | ret u =>
      obtain ⟨v, H', I3, rv, ev, q3⟩ := I2.after hq'
      subst ev
      exact ⟨rv, ⟨V.ref (s.heap.objs.size + 1), H', I3, rfl, q3⟩⟩
    | next => exact False.elim hq'
    | brk => exact False.elim hq'
    | cont => exact False.elim hq'
theorem pe_makeS (M : Mk X.K C f) (F : FnOkG X.prog X.w X.K X.mg X.base CX k f fd ps sp) (hr : RoomG (k + 1) X.A) (hg : Gl X x) (hm : X.mg x = some (.ref C)) (hb : Binds X.K fd ps []) (hx : ∀ σ, PassesAt CX X σ (E σ))
    (ha : PA X (e :: es) t) (hdb : (x == ("__debug__" : Str)) = false) (he : starEach (e :: es) X.env = (false, eval e X.env) :: starEach es X.env) (hpl : (backTo pos (starEach es X.env)).any (·.1) = false) :
    PE X (.Call (.Name x p) (e :: es) [] pos) (tMakeS C sp E t) := by
  refine ⟨fun pins s σ H Q I h => ?_⟩
  refine wpAny_Call_Name_kw (ld_glob I hg hm ?_ hdb)
  refine PySem.W.callWith_K (h₀ := X.base) I.ok.mod.kin M.kp (thn (ha.run pos pins s σ H _ I h) fun us s1 ⟨vs, H1, I1, r, q⟩ => ⟨I1.kIn, ?_⟩) he hpl
  exact run_makeS M F hr hb (hx σ) I1 r q
end
noncomputable def mMake (c : Str) (fs : FS) (l : Lm) : Sm := fun e => match l e with
  | .ok ss e1 => match shs ss with
    | some ds => if fs.io = true :: ds.map (fun _ => false) then match fs.F (.ins c [] :: ds) with
        | .ok false .non (d' :: _) => .ok ⟨.ow, d'⟩ e1
        | .ex c' d _ => .ex c' d e1
        | _ => .no
      else .no
    | none => .no
  | .ex c' d e1 => .ex c' d e1
  | .no => .no
section
variable {P : Pl} {n : Nat} {IO : En} {H0 Hf H : Hp} {σ tv : L2.St} {env te : Env} {N : List Str} {sc : Scope} {mg : Str → Option Value}
theorem St0.more (S : St0 P n IO H0 Hf σ tv env te H) {p : Addr} {o : HO} (hp : H p = none) : St0 P n IO H0 Hf σ tv env te (upd H p o) := ⟨S.le, S.ls, S.na, S.sr.more hp⟩
theorem St0.after1 {io : List Bool} {a : Addr} {vs : List V} {Hg H' : Hp} {d d' : D} {o : HO} (S : St0 P n IO H0 Hf σ (tv ++ [some (V.ref a)]) env (te ++ [ow d]) H) (p : Post P.G io (V.ref a :: vs) Hf H Hg H') (hio : ∀ b, IOs P.G io (V.ref a :: vs) b → b = a ∨ ∃ q ∈ P.G.T, q.1 = b) (h1' : H' a = some o) (t : TopO P.G Hg o d') :
    St0 P n IO H0 Hg σ (tv ++ [some (V.ref a)]) env (te ++ [ow d']) H' := by
  have le := S.le
  have ls := S.ls
  have l2 : tv.length = te.length := by have := S.l2; simpa using this
  have ix : (env ++ (te ++ [ow d]))[n + te.length]? = some (ow d) := by
    rw [List.getElem?_append_right (by omega), le, Nat.add_sub_cancel_left]; exact get_last
  have iv : (σ ++ (tv ++ [some (V.ref a)]))[n + te.length]? = some (some (V.ref a)) := by
    rw [List.getElem?_append_right (by omega), ls, Nat.add_sub_cancel_left, ← l2]; exact get_last
  have ix' : (env ++ (te ++ [ow d']))[n + te.length]? = some (ow d') := by
    rw [List.getElem?_append_right (by omega), le, Nat.add_sub_cancel_left]; exact get_last
  have hne : ∀ (k : Nat) (s : Slot) q, (env ++ (te ++ [ow d]))[k]? = some (some s) → s.m.mut = true → (σ ++ (tv ++ [some (V.ref a)]))[k]? = some (some (V.ref q)) → Hf q = none ∧ ∃ o, H q = some o ∧ TopO P.G Hf o s.d := fun k s q h1 h2 h3 => by
    obtain ⟨a1, o1, a2, a3, _⟩ := SR.mutAt (R := S.sr) h1 h2 h3
    exact ⟨a1, o1, a2, a3⟩
  refine ⟨le, ls, S.na, SR.after S.sr (fun q => q = a ∨ ∃ q' ∈ P.G.T, q'.1 = q) (by simp) p.sf p.sub (fun b x hb => ?_) (fun b x hb hn => p.keep b x hb fun z => hn (hio b z)) p.grow p.nf (fun q hq => ?_) (fun k s q h1 h2 h3 => ?_) (fun k => ?_)⟩
  · rcases p.nf b x hb with h | h | h
    · exact .inl (S.sr.grow b h)
    · exact S.sr.nf b x h
    · exact .inr (.inr h)
  · rcases hq with hq | hq
    · subst hq
      exact .inl ⟨n + te.length, ⟨.ow, d⟩, ix, rfl, iv⟩
    · exact .inr hq
  · obtain ⟨z1, o2, z2, z3⟩ := hne k s q h1 h2 h3
    cases hq : Hg q with
    | none => rfl
    | some x =>
      rcases p.nf q x hq with h | h | h
      · rw [z2] at h; cases h
      · rw [z1] at h; cases h
      · have hs := p.sub q _ hq
        by_cases hqa : q = a
        · subst hqa
          rw [h1'] at hs
          cases hs
          exact absurd t.mut h.nm
        · have := p.keep q o2 z2 fun z => (hio q z).elim hqa fun ⟨q', h1, h2⟩ => S.sr.grow.ntab z2 z3.mut q' h1 h2
          rw [hs] at this
          cases this
          exact absurd z3.mut h.nm
  · by_cases hk : k = n + te.length
    · subst hk
      exact .inr ⟨.ow, d, d', a, o, ix, rfl, ix', iv, h1', t⟩
    · refine .inl ⟨?_, fun s q k1 k2 k3 hq => ?_⟩
      · have same : ∀ A : Option Slot, (env ++ (te ++ [A]))[k]? = (env ++ te)[k]? := fun A => by
          rw [← List.append_assoc]
          by_cases h0 : k < (env ++ te).length
          · rw [List.getElem?_append_left h0]
          · have hl : (env ++ te).length = n + te.length := by rw [List.length_append, le]
            rw [List.getElem?_eq_none (by rw [List.length_append, hl, List.length_singleton]; omega), List.getElem?_eq_none (by omega)]
        rw [same, same]
      · rcases hq with hq | ⟨q', hq1, hq2⟩
        case inr =>
          obtain ⟨_, o2, z2, z3⟩ := hne k s q k1 k2 k3
          exact S.sr.grow.ntab z2 z3.mut q' hq1 hq2
        subst hq
        exact S.sr.sep k (n + te.length) s ⟨.ow, d⟩ (V.ref q) hk k1 ix k2 rfl k3 iv
theorem ev_make {C : Addr} {c : Str} {fs : FS} {t : TA} {l : Lm} (hc : P.G.cls c = some C) (fl : EvL P t l) : Ev P (tMakeS C (spOf P.exc P.G fs) (WE P.W) t) (mMake c fs l) := by
  intro n IO H0 Hf σ tv env te H S
  have h1 := fl n IO H0 Hf σ tv env te H S
  unfold mMake
  cases el : l env with
  | no => trivial
  | ex c' d e1 => rw [el] at h1; exact fun w Q => h1 w _
  | ok ss e1 =>
    rw [el] at h1
    dsimp only
    cases es : shs ss with
    | none => trivial
    | some ds =>
      dsimp only
      by_cases hio : fs.io = true :: ds.map (fun _ => false)
      · rw [if_pos hio]
        have go : ∀ (Q : VK) (R : Prop), (∀ vs Hf1 H1, Same Hf Hf1 → St0 P n IO H0 Hf1 σ tv e1 te H1 → Reps P.G Hf1 vs ds → ∀ x dx, H1 x = none → H1 dx = none → dx ≠ x → spOf P.exc P.G fs (.ref x :: vs) (upd (upd H1 dx (.own x)) x (.ins C dx [])) (fun v H2 => v = .non ∧ Q (.ref x) H2) (WE P.W σ)) → tMakeS C (spOf P.exc P.G fs) (WE P.W) t σ H Q := fun Q R q => by
          refine h1 _ fun vs Hf1 H1 s1 l1 S1 x dx hx hdx ne => ?_
          have r := S1.all_sh S.l2 l1 es
          have S2 : St0 P n IO H0 Hf1 σ tv e1 te H1 := St0.pops ss.length (by simp [l1]) (by simp) S1
          exact q vs Hf1 H1 s1 S2 r x dx hx hdx ne
        -- what the call gets
        have args : ∀ {Hf1 H1 vs x dx}, St0 P n IO H0 Hf1 σ tv e1 te H1 → Reps P.G Hf1 vs ds → H1 x = none → H1 dx = none → dx ≠ x →
            St0 P n IO H0 Hf1 σ (tv ++ [some (V.ref x)]) e1 (te ++ [ow (.ins c [])]) (upd (upd H1 dx (.own x)) x (.ins C dx [])) ∧ Same Hf1 (upd (upd H1 dx (.own x)) x (.ins C dx [])) ∧ ArgsR P.G fs.io Hf1 (upd (upd H1 dx (.own x)) x (.ins C dx [])) (.ref x :: vs) (.ins c [] :: ds) ∧ (∀ b, IOs P.G fs.io (.ref x :: vs) b → b = x ∨ ∃ q ∈ P.G.T, q.1 = b) := by
          intro Hf1 H1 vs x dx S1 r hx hdx ne
          have hx' : upd H1 dx (.own x) x = none := by rw [upd_ne (Ne.symm ne)]; exact hx
          have S2 := (S1.more (o := .own x) hdx).push_ow (d := .ins c []) (o := .ins C dx []) hx' ⟨C, dx, [], rfl, hc, rfl, .nil⟩
          have hf := (S1.sr.fresh hx).1
          refine ⟨S2, S2.sr.sub, ⟨S2.sr.grow.tab, S2.sr.tnf, by rw [hio]; simp [r.len], by rw [hio]; simp, fun i v d g1 g2 g3 => ?_, fun i v d g1 g2 g3 => ?_, fun i j v nij g1 g2 g3 g4 => ?_⟩, fun b hb => ?_⟩
          · rw [hio] at g1
            cases i with
            | zero => simp at g1
            | succ i => exact r.at' i v d (by simpa using g2) (by simpa using g3)
          · rw [hio] at g1
            cases i with
            | zero =>
              simp at g2 g3
              subst g2; subst g3
              exact ⟨x, _, rfl, hf, upd_same, C, dx, [], rfl, hc, rfl, .nil⟩
            | succ i =>
              rw [List.getElem?_cons_succ, List.getElem?_map] at g1
              cases hd : ds[i]? with
              | none => rw [hd] at g1; cases g1
              | some _ => rw [hd] at g1; cases g1
          · rw [hio] at g1 g2
            have z : ∀ i : Nat, (true :: ds.map (fun _ => false))[i]? = some true → i = 0 := fun i g => by
              cases i with
              | zero => rfl
              | succ i =>
                rw [List.getElem?_cons_succ, List.getElem?_map] at g
                cases hd : ds[i]? with
                | none => rw [hd] at g; cases g
                | some _ => rw [hd] at g; cases g
            exact nij ((z i g1).trans (z j g2).symm)
          · rcases hb with ⟨i, g1, g2⟩ | hb
            case inr => exact .inr hb
            refine .inl ?_
            rw [hio] at g1
            cases i with
            | zero => simp at g2; exact g2.symm
            | succ i =>
              rw [List.getElem?_cons_succ, List.getElem?_map] at g1
              cases hd : ds[i]? with
              | none => rw [hd] at g1; cases g1
              | some _ => rw [hd] at g1; cases g1
        cases ef : fs.F (.ins c [] :: ds) with
        | no => trivial
        | ex c' d outs =>
          dsimp only
          refine fun w Q => go Q True fun vs Hf1 H1 s1 S1 r x dx hx hdx ne => ?_
          obtain ⟨S2, sb, ar, one⟩ := args S1 r hx hdx ne
          refine ⟨Hf1, _, sb, ar, ?_⟩
          rw [ef]
          intro cv dy Hf' H' p xr o
          have hl : outs.length = vs.length + 1 := by have := o.1; simpa using this
          match outs, hl, o with
          | d0 :: outs', _, o =>
            obtain ⟨o', g1, g2⟩ := o.2 0 x d0 (by rw [hio]; rfl) rfl rfl
            obtain ⟨C', f', dd, v', x1, x2, x3, x4, x5⟩ := xr
            refine w cv dy Hf' H' (s1.trans p.sf) (S2.after1 p one g1 g2).pop ⟨C', f', dd, v', x1, x2, x3, ⟨x4.1, S1.sr.grow _ ?_⟩, x5⟩
            have z := x4.2
            by_cases e1 : dd = x
            · subst e1; rw [upd_same] at z; cases z
            · rw [upd_ne e1] at z
              by_cases e2 : dd = dx
              · subst e2; rw [upd_same] at z; cases z
              · rw [upd_ne e2] at z; exact z
        | okf d outs => trivial
        | ok own d outs =>
          cases own with
          | true => trivial
          | false =>
            cases d with
            | non =>
              cases outs with
              | nil => trivial
              | cons d' outs =>
                dsimp only
                refine fun Q q => go Q True fun vs Hf1 H1 s1 S1 r x dx hx hdx ne => ?_
                obtain ⟨S2, sb, ar, one⟩ := args S1 r hx hdx ne
                refine ⟨Hf1, _, sb, ar, ?_⟩
                rw [ef]
                intro v Hf' H' p vr o
                have vr' : Rep P.G Hf' v .non := vr
                cases vr'
                obtain ⟨o', g1, g2⟩ := o.2 0 x d' (by rw [hio]; rfl) rfl rfl
                exact ⟨rfl, q _ Hf' H' (s1.trans p.sf) (S2.after1 p one g1 g2)⟩
            | _ => trivial
      · rw [if_neg hio]; trivial
end
end VM

/-! VMW: fields, methods, classes by name -/
namespace VM
open PySem PySem.Spec PyProof.Rows L2

noncomputable def FieldsOk (G : Gi) (FT : List (Str × Str)) : Prop := ∀ c f C, (c, f) ∈ FT → G.cls c = some C → Cls G.K C ∧ NoAttr G.K C f
noncomputable def dFld (FT : List (Str × Str)) (f : Str) : D → RR
  | .ins c fds => if (c, f) ∈ FT then match fds.lookup f with
      | some d => .sh d
      | none => .no
    else .no
  | _ => .no
theorem PRep.inst {G : Gi} {Hf H : Hp} (s : Same Hf H) {v : V} {c : Str} {fds : List (Str × D)} (r : PRep G Hf H v (.ins c fds)) : ∃ a C dx fs, v = .ref a ∧ H a = some (.ins C dx fs) ∧ G.cls c = some C ∧ fs.map (·.1) = fds.map (·.1) ∧ Reps G Hf (fs.map (·.2)) (fds.map (·.2)) := by
  rcases r with r | ⟨a, o, rfl, ha, t⟩
  · cases r with
    | ins h hc l r =>
      rename_i a C dx fs
      refine ⟨a, C, dx, fs, rfl, s _ _ h, hc, l, by simpa using congrArg List.length l, fun i v d h1 h2 => ?_⟩
      rw [List.getElem?_map] at h1 h2
      obtain ⟨x, hx, rfl⟩ := Option.map_eq_some_iff.mp h1
      obtain ⟨y, hy, rfl⟩ := Option.map_eq_some_iff.mp h2
      exact r i x y hx hy
  · obtain ⟨C, dx, fs, rfl, hc, l, rr⟩ := t
    exact ⟨a, C, dx, fs, rfl, ha, hc, l, rr⟩
theorem lookup_reps {G : Gi} {H : Hp} {f : Str} : ∀ {fs : List (Str × V)} {fds : List (Str × D)} {d : D}, fs.map (·.1) = fds.map (·.1) → Reps G H (fs.map (·.2)) (fds.map (·.2)) → fds.lookup f = some d → ∃ v, fs.lookup f = some v ∧ Rep G H v d
  | [], [], d, _, _, h => by cases h
  | [], _ :: _, _, e, _, _ => by simp at e
  | _ :: _, [], _, e, _, _ => by simp at e
  | (k1, v1) :: fs, (k2, d1) :: fds, d, e, r, h => by
    simp only [List.map_cons, List.cons.injEq] at e
    obtain ⟨rfl, e⟩ := e
    obtain ⟨r1, r2⟩ := Reps.inv (v := v1) (d := d1) r
    rw [List.lookup_cons] at h ⊢
    cases hb : f == k1 with
    | true => rw [hb] at h; cases h; exact ⟨v1, rfl, r1⟩
    | false => rw [hb] at h; exact lookup_reps e r2 h
theorem lookup_none {f : Str} {α β : Type} : ∀ {fs : List (Str × α)} {fds : List (Str × β)}, fs.map (·.1) = fds.map (·.1) → fds.lookup f = none → fs.lookup f = none
  | [], [], _, h => rfl
  | [], _ :: _, e, _ => by simp at e
  | _ :: _, [], e, _ => by simp at e
  | (k1, v1) :: fs, (k2, d1) :: fds, e, h => by
    simp only [List.map_cons, List.cons.injEq] at e
    obtain ⟨rfl, e⟩ := e
    rw [List.lookup_cons] at h ⊢
    cases hb : f == k1 with
    | true => rw [hb] at h; cases h
    | false => rw [hb] at h; exact lookup_none e h
noncomputable def rFld (K : PySem.W.Frag) (f : Str) : V → Hp → VK → Prop := fun x H Q => ∃ a C dx fs v, x = .ref a ∧ H a = some (.ins C dx fs) ∧ Cls K C ∧ NoAttr K C f ∧ fs.lookup f = some v ∧ Q v H
theorem s_fld {G : Gi} {FT : List (Str × Str)} {f : Str} (hF : FieldsOk G FT) : S1 G (rFld G.K f) (dFld FT f) := by
  intro Hf H x d s p
  unfold dFld
  split
  · rename_i c fds
    split
    · rename_i hm
      split
      · rename_i d' hl
        obtain ⟨a, C, dx, fs, rfl, h1, hc, l, r⟩ := p.inst s
        obtain ⟨v, h2, h3⟩ := lookup_reps l r hl
        obtain ⟨k1, k2⟩ := hF c f C hm hc
        exact fun Q k => ⟨a, C, dx, fs, v, rfl, h1, k1, k2, h2, k v h3⟩
      · trivial
    · trivial
  · trivial
section
variable {P : Pl} {N : List Str} {sc : Scope} {mg : Str → Option Value}
theorem se_fld (fr : Fra P N sc mg) {FT : List (Str × Str)} (hF : FieldsOk P.G FT) {e : Expr} {f : Str} {pos : Pos} {m : Sm} (h : SE P e m) (hb : ∀ env, attributeBase e f env (eval e env) = eval e env) : SE P (.Attribute e f pos) (m1 (dFld FT f) m) :=
  let ⟨_, p, g⟩ := h; ⟨_, fun X hX => (fr.K X hX) ▸ pe_fld (p X hX) (hb _), ev_1 (s_fld hF) g⟩
/-! ### self.f = e -/
noncomputable def putFD (f : Str) (d : D) : List (Str × D) → List (Str × D)
  | [] => [(f, d)]
  | (g, x) :: r => if g = f then (g, d) :: r else (g, x) :: putFD f d r
theorem putF_reps {G : Gi} {H : Hp} {f : Str} {v : V} {d : D} (rv : Rep G H v d) : ∀ {fs : List (Str × V)} {fds : List (Str × D)}, fs.map (·.1) = fds.map (·.1) → Reps G H (fs.map (·.2)) (fds.map (·.2)) → (putF f v fs).map (·.1) = (putFD f d fds).map (·.1) ∧ Reps G H ((putF f v fs).map (·.2)) ((putFD f d fds).map (·.2))
  | [], [], _, _ => ⟨rfl, .cons rv .nil⟩
  | [], _ :: _, e, _ => by simp at e
  | _ :: _, [], e, _ => by simp at e
  | (k1, v1) :: fs, (k2, d1) :: fds, e, r => by
    simp only [List.map_cons, List.cons.injEq] at e
    obtain ⟨rfl, e⟩ := e
    obtain ⟨r1, r2⟩ := Reps.inv (v := v1) (d := d1) r
    unfold putF putFD
    by_cases hk : k1 = f
    · rw [if_pos hk, if_pos hk]
      exact ⟨by simp [e], .cons rv r2⟩
    · rw [if_neg hk, if_neg hk]
      obtain ⟨h1, h2⟩ := putF_reps (f := f) rv e r2
      exact ⟨by simp [h1], .cons r1 h2⟩
noncomputable def xFld (FT : List (Str × Str)) (i : Nat) (f : Str) (m : Sm) : Sx := ⟨fun e => match mF m e with
  | .ok s e1 => match e1[i]? with
    | some (some ⟨md, .ins c fds⟩) => if md.mut = true ∧ (c, f) ∈ FT ∧ fds.length < 1000 then .nx (e1.set i (some ⟨md, .ins c (putFD f s.d fds)⟩)) else .no
    | _ => .no
  | .ex c d e1 => .ex c d e1
  | .no => .no, []⟩
theorem evs_fld {FT : List (Str × Str)} {i : Nat} {f : Str} {t : TE} {m : Sm} (hF : FieldsOk P.G FT) (g : Ev P t m) : EvS P (sFld P.G.K (tVar i) t f) (xFld FT i f m) := by
  refine ⟨fun e s e' h => ?_, fun n IO H0 Hf σ tv env te H S nt => ?_⟩
  · unfold xFld at h
    dsimp only at h
    split at h
    · split at h
      · split at h <;> cases h
      · cases h
    · cases h
    · cases h
  have h1 := ev_F g n IO H0 Hf σ tv env te H S
  unfold xFld
  dsimp only
  cases em : mF m env with
  | no => trivial
  | ex c d e1 => rw [em] at h1; exact fun w D => h1 (fun cv dx Hf1 H1 s1 S1 x => w cv dx σ Hf1 H1 s1 AsgOk.refl S1 x) _
  | ok s e1 =>
    rw [em] at h1
    have es := mF_ok em
    dsimp only
    split
    · rename_i md c fds hs
      split
      · rename_i hc
        obtain ⟨hm, hft, hz⟩ := hc
        refine fun D q => h1 _ fun v Hf1 H1 s1 S1 => ?_
        rw [es] at S1
        have rv := S1.held S.l2
        have S2 := S1.pop
        obtain ⟨p, o, g1, g2, t⟩ := S2.slot_own hs hm
        obtain ⟨C, dx, fs, rfl, hc, l, r⟩ := t
        obtain ⟨k1, k2⟩ := hF c f C hft hc
        obtain ⟨l', r'⟩ := putF_reps (f := f) rv l r
        refine ⟨_, g1, p, C, dx, fs, rfl, g2, k1, k2, by have := congrArg List.length l; simp at this; omega, q σ Hf1 _ s1 AsgOk.refl (S2.slot_set hs hm g1 ⟨C, dx, _, rfl, hc, l', r'⟩)⟩
      · trivial
    · trivial
theorem ss_fld (fr : Fra P N sc mg) {FT : List (Str × Str)} (hF : FieldsOk P.G FT) {i : Nat} {x f : Str} {e : Expr} {p pos pos' : Pos} {m : Sm} (h : SE P e m) (hN : N[i]? = some x) (hv : Vis sc x) (hs : ∀ X, P.M X → swapsWith e (some (.Attribute (.Name x p) f pos')) pos.line X.env = pure false)
    (hd : (x == ("__debug__" : Str)) = false := by decide) (hc : (x == ("__classdict__" : Str)) = false := by decide) : SS P (.Assign [.Attribute (.Name x p) f pos'] e pos) (xFld FT i f m) :=
  let ⟨_, q, g⟩ := h; ⟨_, fun X hX => (fr.K X hX) ▸ ps_fld (pe_var (by rw [fr.hN X hX]; exact hN) (by rw [fr.hsc X hX]; exact hv) hd hc) (q X hX) (hs X hX), evs_fld hF g⟩
/-! ### C(..) -/
noncomputable def MkFact (P : Pl) (c : Str) (fs : FS) : Prop := ∃ C, P.G.cls c = some C ∧ ∀ X, P.M X → ∃ f fd ps k, Mk X.K C f ∧ FnOkG X.prog X.w X.K X.mg X.base (L2.CX X.prog X.w) k f fd ps (spOf P.exc P.G fs) ∧ RoomG (k + 1) X.A ∧ X.mg c = some (.ref C) ∧ Binds X.K fd ps []
theorem Fra.make (fr : Fra P N sc mg) {c : Str} {fs : FS} {p pos : Pos} {e : Expr} {es : List Expr} {l : Lm} (hM : MkFact P c fs) (hg : sc.names.lookup c = some .globalImplicit) (hl : SL P (e :: es) l) (hs : (e :: es).all notStar = true) (hdb : (c == ("__debug__" : Str)) = false := by decide) :
    SE P (.Call (.Name c p) (e :: es) [] pos) (mMake c fs l) := by
  obtain ⟨C, hC, g⟩ := hM
  obtain ⟨ts, q, fl⟩ := hl
  have hs2 := hs
  rw [List.all_cons, Bool.and_eq_true] at hs2
  refine ⟨_, fun X hX => ?_, ev_make hC fl⟩
  obtain ⟨f, fd, ps, k, M, F, hr, hm, hb⟩ := g X hX
  exact pe_makeS M F hr (fr.gl hg X hX) hm hb (fun σ => passAt (fr.tk X hX) σ) (pa_of (q X hX) hs) hdb (star_ok hs2.1) (star_any hs2.2)
end
end VM

/-! VMX: methods of own classes, found by the receiver's class -/
namespace VM
open PySem PySem.Spec PyProof.Rows L2

section
variable {X : Cx} {CX : CXT} {k : Nat} {f C : Addr} {fd : FuncData} {ps : List Str} {sp : Sp} {E : L2.St → XK} {x m : Str} {p pos apos : Pos} {e o : Expr} {es : List Expr} {t : TA} {ta : TE} {R : Addr → Sp → Prop} {pl : Sem Bool}
noncomputable def tMethP (R : Addr → Sp → Prop) (m : Str) (E : L2.St → XK) (ta : TE) (t : TA) : TE := fun σ H Q => ta σ H fun x H1 => ∃ a C dx fs sp, x = .ref a ∧ H1 a = some (.ins C dx fs) ∧ fs.lookup m = none ∧ R C sp ∧ t σ H1 fun vs H2 => sp (x :: vs) H2 Q (E σ)
noncomputable def MethX (X : Cx) (m : Str) (C : Addr) (sp : Sp) : Prop := ∃ f fd ps k, Cls X.K C ∧ Meth X.K C m f ∧ FnOkG X.prog X.w X.K X.mg X.base (L2.CX X.prog X.w) k f fd ps sp ∧ RoomG k X.A ∧ Binds X.K fd ps []
theorem run_methP {pins : List (Addr × Obj)} {σ : L2.St} {H : Hp} {s : Shared} {Q : VK} {us : List Value} {vs : List V} (F : FnOkG X.prog X.w X.K X.mg X.base CX k f fd ps sp) (hr : RoomG k X.A) (hb : Binds X.K fd ps [])
    (hx : PassesAt CX X σ (E σ)) (I : Inv X pins σ H s) (r : Vals vs us) (h : sp vs H Q (E σ)) : wpAny (model X.prog X.w) X.A (call (.ref f) us) (EP X pins σ Q) X.xe s := by
  have hl : (us ++ []).length = ps.length := by
    have e := r.length
    rw [F.len _ _ _ _ h] at e
    rw [List.append_nil]
    exact e.symm
  have hb2 := hb s us I.kIn hl
  rw [List.append_nil] at hb2
  refine wpAny_call (codeAny_mono (F.run X.A X.stack s H ⟨us, []⟩ us vs Q (E σ) hr I.env0 hb2 r h) fun r s' hq => ?_)
  cases r with
  | error e => exact hx pins _ _ e s' I hq
  | ok fl =>
    cases fl with
    | ret u => exact I.after hq
    | next => exact False.elim hq
    | brk => exact False.elim hq
    | cont => exact False.elim hq
theorem pe_methP0 (he : PE X o ta) (hR : ∀ C sp, R C sp → MethX X m C sp) (hx : ∀ σ, PassesAt (L2.CX X.prog X.w) X σ (E σ))
    (ht : eval (.Call (.Attribute o m apos) [] [] pos) X.env = (do
      let ov ← eval o X.env
      standAt apos.atName
      let (f, first) ← holding [ov] (getMethod ov m pl)
      callWith pos f first (backTo pos (starEach [] X.env)) (backToKw pos (keywordEach [] X.env)))) :
    PE X (.Call (.Attribute o m apos) [] [] pos) (tMethP R m E ta tNil) := by
  refine ⟨fun pins s σ H Q I h => ?_⟩
  refine PySem.W.methodCall_KW (pl := pl) (thn (he.run pins s σ H _ I h) fun u s1 ⟨x, H1, I1, rx, a, C, dx, fs, sp, ex, ea, l, rr, q⟩ => ?_) ht
  subst ex
  obtain rfl : u = Value.ref a := rx
  obtain ⟨f, fd, ps, k, c, hm, F, hr, hb⟩ := hR C sp rr
  refine getmeth_ok I1 ea c hm l ?_
  exact PySem.W.callWith_K0 (first := [.ref a]) I1.kIn hm.kp (run_methP (us := [.ref a]) (vs := [.ref a]) F hr hb (hx σ) I1 (.cons rfl .nil) q)
end
noncomputable def mMethC (MT : List (Str × FS)) (m : Str) (o : Sm) (l : Lm) : Sm := fun e => match o e with
  | .ok s e1 => match deref e1 s with
    | some (.ins c fds) => match MT.lookup c with
      | some fs => match fds.lookup m with
        | none => match l e1 with
          | .ok ss e2 => callS fs (s :: ss) e2
          | .ex c d e2 => .ex c d e2
          | .no => .no
        | some _ => .no
      | none => .no
    | _ => .no
  | .ex c d e1 => .ex c d e1
  | .no => .no
section
variable {P : Pl} {n : Nat} {IO : En} {H0 Hf H : Hp} {σ tv : L2.St} {env te : Env} {N : List Str} {sc : Scope} {mg : Str → Option Value}
noncomputable def RMeth (P : Pl) (m : Str) : Addr → Sp → Prop := fun C sp => ∀ X, P.M X → MethX X m C sp
noncomputable def MethFact (P : Pl) (m : Str) (MT : List (Str × FS)) : Prop := ∀ c fs, MT.lookup c = some fs → ∀ C, P.G.cls c = some C → RMeth P m C (spOf P.exc P.G fs)
theorem ev_methC {m : Str} {MT : List (Str × FS)} {ta : TE} {t : TA} {o : Sm} {l : Lm} (hM : MethFact P m MT) (fo : Ev P ta o) (fl : EvL P t l) : Ev P (tMethP (RMeth P m) m (WE P.W) ta t) (mMethC MT m o l) := by
  intro n IO H0 Hf σ tv env te H S
  have h1 := fo n IO H0 Hf σ tv env te H S
  unfold mMethC
  cases eo : o env with
  | no => trivial
  | ex c d e1 => rw [eo] at h1; exact fun w Q => h1 w _
  | ok s e1 =>
    rw [eo] at h1
    dsimp only
    cases ed : deref e1 s with
    | none => trivial
    | some d =>
      cases d with
      | ins c fds =>
        dsimp only
        cases em : MT.lookup c with
        | none => trivial
        | some fs =>
          dsimp only
          cases ef : fds.lookup m with
          | some _ => trivial
          | none =>
            dsimp only
            have recv : ∀ {v Hf1 H1}, Same Hf Hf1 → St0 P n IO H0 Hf1 σ (tv ++ [some v]) e1 (te ++ [some s]) H1 → ∃ a C dx fs', v = .ref a ∧ H1 a = some (.ins C dx fs') ∧ fs'.lookup m = none ∧ RMeth P m C (spOf P.exc P.G fs) := fun {v Hf1 H1} s1 S1 => by
              have l2 : tv.length = te.length := by have := S1.l2; simpa using this
              have p := S1.prep (i := te.length) (v := v) (s := s) (d := .ins c fds) (by rw [← l2]; exact get_last) get_last ed
              obtain ⟨a, C, dx, fs', e1, e2, hc, hl, _⟩ := p.inst S1.sr.sub
              exact ⟨a, C, dx, fs', e1, e2, lookup_none hl ef, hM c fs em C hc⟩
            cases el : l e1 with
            | no => trivial
            | ex c' d' e2 =>
              dsimp only
              refine fun w Q => h1 _ fun v Hf1 H1 s1 S1 => ?_
              obtain ⟨a, C, dx, fs', x1, x2, x3, x4⟩ := recv s1 S1
              refine ⟨a, C, dx, fs', _, x1, x2, x3, x4, ?_⟩
              have h2 := fl n IO H0 Hf1 σ _ e1 _ H1 S1
              rw [el] at h2
              exact h2 (fun cv dx Hf2 H2 s2 S2 x => w cv dx Hf2 H2 (s1.trans s2) S2.pop x) _
            | ok ss e2 =>
              dsimp only
              have fin : ∀ {v Hf1 H1 vs Hf2 H2}, Same Hf Hf1 → St0 P n IO H0 Hf1 σ (tv ++ [some v]) e1 (te ++ [some s]) H1 → St0 P n IO H0 Hf2 σ ((tv ++ [some v]) ++ vs.map some) e2 ((te ++ [some s]) ++ ss.map some) H2 → vs.length = ss.length → St0 P n IO H0 Hf2 σ (tv ++ (v :: vs).map some) e2 (te ++ (s :: ss).map some) H2 := fun _ _ S2 _ => by simpa using S2
              cases ec : callS fs (s :: ss) e2 with
              | no => trivial
              | ok s' e3 =>
                refine fun Q q => h1 _ fun v Hf1 H1 s1 S1 => ?_
                obtain ⟨a, C, dx, fs', x1, x2, x3, x4⟩ := recv s1 S1
                refine ⟨a, C, dx, fs', _, x1, x2, x3, x4, ?_⟩
                have h2 := fl n IO H0 Hf1 σ _ e1 _ H1 S1
                rw [el] at h2
                refine h2 _ fun vs Hf2 H2 s2 l2 S2 => ?_
                have h3 := callS_ok (fs := fs) (fin s1 S1 S2 l2) S.l2 (by simp [l2]) Q
                rw [ec] at h3
                exact h3 fun v Hf3 H3 s3 S3 => q v Hf3 H3 ((s1.trans s2).trans s3) S3
              | ex c' d' e3 =>
                refine fun w Q => h1 _ fun v Hf1 H1 s1 S1 => ?_
                obtain ⟨a, C, dx, fs', x1, x2, x3, x4⟩ := recv s1 S1
                refine ⟨a, C, dx, fs', _, x1, x2, x3, x4, ?_⟩
                have h2 := fl n IO H0 Hf1 σ _ e1 _ H1 S1
                rw [el] at h2
                refine h2 _ fun vs Hf2 H2 s2 l2 S2 => ?_
                have h3 := callS_ok (fs := fs) (fin s1 S1 S2 l2) S.l2 (by simp [l2]) Q
                rw [ec] at h3
                exact h3 fun cv dx Hf3 H3 s3 S3 => w cv dx Hf3 H3 ((s1.trans s2).trans s3) S3
      | _ => trivial
theorem Fra.meth0 (fr : Fra P N sc mg) {m : Str} {MT : List (Str × FS)} {o : Expr} {apos pos : Pos} {mo : Sm} (hM : MethFact P m MT) (ho : SE P o mo)
    (ht : ∀ env, ∃ pl : Sem Bool, eval (.Call (.Attribute o m apos) [] [] pos) env = (do
      let ov ← eval o env
      standAt apos.atName
      let (f, first) ← holding [ov] (getMethod ov m pl)
      callWith pos f first (backTo pos (starEach [] env)) (backToKw pos (keywordEach [] env)))) :
    SE P (.Call (.Attribute o m apos) [] [] pos) (mMethC MT m mo lNil) := by
  obtain ⟨to, p, fo⟩ := ho
  refine ⟨_, fun X hX => ?_, ev_methC hM fo evl_nil⟩
  obtain ⟨pl, ht⟩ := ht X.env
  exact pe_methP0 (pl := pl) (p X hX) (fun C sp h => h X hX) (fun σ => passAt (fr.tk X hX) σ) ht
end
end VM

/-! VMY: isinstance with own classes -/
namespace VM
open PySem PySem.Spec PyProof.Rows L2

inductive TG where
  | ty (s : String) | own (c : Str)
  deriving DecidableEq
noncomputable def TG.val (G : Gi) : TG → Option Value
  | .ty s => some (.type s)
  | .own c => (G.cls c).map fun C => .ref C
noncomputable def tagOf (d : D) : Option TG := match d with
  | .ins c _ => some (.own c)
  | d => (tyOf d).map .ty
noncomputable def clsOf : D → Option TG
  | .ty s => some (.ty s)
  | .cls c => some (.own c)
  | _ => none
structure IsiOk (G : Gi) (IT : List ((TG × TG) × Bool)) : Prop where
  thing : ∀ c b r, ((.own c, b), r) ∈ IT → ∀ C, G.cls c = some C → Cls G.K C ∧ PySem.W.findIn G.K (.ref C) "__class__" = some (some (.builtin "object.__class__")) ∧ PySem.W.mroIn G.K C (.type "object") = some true
  gs : PySem.W.specialIn G.K (.builtin "object.__class__") "__get__" = some (some (.builtin "getset_descriptor.__get__"))
  tk : PySem.W.takesIn G.K (.builtin "object.__class__") = some true
  ans : ∀ a b r, ((a, b), r) ∈ IT → ∀ t u, a.val G = some t → b.val G = some u → PySem.W.kitOne G.K t u = some r
noncomputable def isiAns (IT : List ((TG × TG) × Bool)) (a b : TG) : Option Bool := match a, b with
  | .ty x, .ty y => kitB x y
  | a, b => IT.lookup (a, b)
noncomputable def dIsiC (IT : List ((TG × TG) × Bool)) (d e : D) : RR := match tagOf d, clsOf e with
  | some a, some b => match isiAns IT a b with
    | some r => .sh (.bl r)
    | none => .no
  | _, _ => .no
theorem PRep.clsv {G : Gi} {Hf H : Hp} {w : V} {e : D} {b : TG} (h : PRep G Hf H w e) (hb : clsOf e = some b) : ∃ u, ClsV w u ∧ b.val G = some u := by
  cases e with
  | ty T => cases hb; cases h.ty; exact ⟨.type T, .ty T, rfl⟩
  | cls c =>
    cases hb
    rcases h with h | ⟨p, o, _, _, t⟩
    · cases h with
      | cls hc => exact ⟨_, .own _, by simp [TG.val, hc]⟩
    · exact t.elim
  | _ => cases hb
theorem PRep.tagx {G : Gi} {IT : List ((TG × TG) × Bool)} (hI : IsiOk G IT) {Hf H : Hp} (s : Same Hf H) {v : V} {d : D} {a : TG} (h : PRep G Hf H v d) (ha : tagOf d = some a) (hk : ∀ c, a = .own c → ∃ b r, ((.own c, b), r) ∈ IT) :
    ∃ t, TyX G.K H v t ∧ a.val G = some t := by
  cases d with
  | ins c fds =>
    cases ha
    obtain ⟨p, C, dx, fs, rfl, h1, hc, _⟩ := h.inst s
    obtain ⟨b, r, hm⟩ := hk c rfl
    obtain ⟨k1, k2, k3⟩ := hI.thing c b r hm C hc
    exact ⟨.ref C, .base (.ins h1 k1 k2 hI.gs hI.tk k3), by simp [TG.val, hc]⟩
  | _ =>
    unfold tagOf at ha
    obtain ⟨T, hT, rfl⟩ := Option.map_eq_some_iff.mp ha
    exact ⟨.type T, h.tyx s hT, rfl⟩
theorem lookup_mem {α β : Type} [BEq α] [LawfulBEq α] {a : α} {b : β} : ∀ {l : List (α × β)}, l.lookup a = some b → (a, b) ∈ l
  | [], h => by cases h
  | (x, y) :: l, h => by
    rw [List.lookup_cons] at h
    cases hx : a == x with
    | true => rw [hx] at h; cases h; rw [beq_iff_eq.mp hx]; exact List.mem_cons_self
    | false => rw [hx] at h; exact List.mem_cons_of_mem _ (lookup_mem h)
theorem isi_kit {G : Gi} {IT : List ((TG × TG) × Bool)} (hI : IsiOk G IT) {a b : TG} {r : Bool} {t u : Value} (h : isiAns IT a b = some r) (ha : a.val G = some t) (hb : b.val G = some u) : PySem.W.kitOne G.K t u = some r ∧ (∀ c, a = .own c → ((TG.own c, b), r) ∈ IT) := by
  unfold isiAns at h
  split at h
  · cases ha; cases hb
    exact ⟨kit_ty h, fun c e => by cases e⟩
  · have m := lookup_mem h
    exact ⟨hI.ans _ _ _ m _ _ ha hb, fun c e => by subst e; exact m⟩
theorem isi_own {IT : List ((TG × TG) × Bool)} {a b : TG} {r : Bool} (h : isiAns IT a b = some r) (c : Str) (e : a = .own c) : ((TG.own c, b), r) ∈ IT := by
  subst e
  exact lookup_mem h
theorem n_isiC {G : Gi} {IT : List ((TG × TG) × Bool)} (hI : IsiOk G IT) : SN G (rIsi G.K) (f2 (dIsiC IT)) := by
  intro Hf H vs ds s p
  match ds, p with
  | [d, e], p =>
    obtain ⟨v, w, rfl, h, h2⟩ := p.inv2
    show RRok G Hf H _ (dIsiC IT d e)
    unfold dIsiC
    split
    · rename_i a b h1 h3
      split
      · rename_i r hr
        obtain ⟨t, ty, hv⟩ := h.tagx hI s h1 fun c e => ⟨b, r, isi_own hr c e⟩
        obtain ⟨u, hu, hw⟩ := h2.clsv h3
        exact fun Q k => ⟨v, w, t, u, r, rfl, hu, ty, (isi_kit hI hr hv hw).1, k _ .bl⟩
      · trivial
    · trivial
  | [], p => trivial
  | [_], p => trivial
  | _ :: _ :: _ :: _, p => trivial
section
variable {P : Pl} {N : List Str} {sc : Scope} {mg : Str → Option Value}
theorem Fra.isiC (fr : Fra P N sc mg) {IT : List ((TG × TG) × Bool)} (hI : IsiOk P.G IT) {a b : Expr} {p pos : Pos} {m k : Sm} (hg : sc.names.lookup ("isinstance" : Str) = some .globalImplicit) (hm : mg ("isinstance" : Str) = none) (h : SE P a m) (g : SE P b k) (hs : [a, b].all notStar = true) :
    SE P (.Call (.Name "isinstance" p) [a, b] [] pos) (m2 (dIsiC IT) m k) :=
  se_callB fr (fun X hX => (fr.K X hX) ▸ call_isi) (n_isiC hI) hg hm boot_isinstance (sl_cons h (sl_cons g sl_nil)) hs
theorem Fra.cn (fr : Fra P N sc mg) {x : Str} {C : Addr} {pos : Pos} (hC : P.G.cls x = some C) (h : sc.names.lookup x = some .globalImplicit) (hm : mg x = some (.ref C)) (hd : (x == ("__debug__" : Str)) = false := by decide) : SE P (.Name x pos) (mC (.cls x)) :=
  se_c (fun X hX => pe_glob (fr.gl h X hX) (fr.bm hm X hX) (show RelV (.ref C) (.ref C) from rfl) hd) fun _ => .cls hC
end
end VM

/-! VMZ: a def keeps the promise of its own mirror, the facts of all it calls taken from the frame -/
namespace VM
open PySem PySem.Spec PyProof.Rows L2

noncomputable def TopX (P : Pl) : Prop := ∀ X, P.M X → X.stack = X.env :: X.outer ∧ X.env.frame = some X.env.locals
noncomputable def CodX (P : Pl) (cd : Value) (q : Str) : Prop := ∀ X, P.M X → X.env.code = cd ∧ X.env.qual = q
theorem fn_okX {prog : Program} {w : World} {K : PySem.W.Frag} {mg : Str → Option Value} {base : Heap} {exc : Str → Option (Addr × Str)} {G : Gi} {x qual : Str} {st : Stmt} {f : Addr} {fd : FuncData} {N ps : List Str} {k : Nat} (hG : G.K = K) (fs : FS) (m : Sx)
    (F : Fun K x qual st f fd) (S : FnScope N ps (defScope st)) (hps : fs.io.length = ps.length)
    (hbody : ∀ P : Pl, P.G = G → P.exc = exc → Fra P N (defScope st) mg → (∀ y X, P.M X → X.fn y = true) → (∀ X, P.M X → X.prog = prog ∧ X.w = w ∧ X.K = K ∧ X.mg = mg ∧ X.base = base ∧ RoomG k X.A) → TopX P → CodX P fd.code (qual ++ ".<locals>.") → SSs P (defBody st) m)
    (hF : ∀ ds, ds.length = fs.io.length → fs.F ds = .no ∨ fs.F ds = bodyF fs.io m N.length ds) (ha : ∀ i, fs.io[i]? = some true → i ∉ m.asg) : FnOkG prog w K mg base (L2.CX prog w) (k + 1) f fd ps (spOf exc G fs) := by
  have hnl : ps.length ≤ N.length := by
    have := congrArg List.length S.pre
    rw [List.length_take] at this
    omega
  refine okG F S (fun vs H Q E h => ?_) fun cdv A outer s H vs Q E hcd hr h => ?_
  · obtain ⟨Hf, ds, _, a, _⟩ := h
    rw [a.lv, hps]
  · obtain ⟨Hf, ds, sf, a, h⟩ := h
    rcases hF ds a.ld with e | e
    · rw [e] at h; exact h.elim
    rw [e] at h
    have fra : Fra ⟨fun X => X = cxOf (L2.CX prog w) prog w K mg base N qual (defScope st) f cdv A outer s H E, G, fun cv dx _ H => E cv dx H, exc⟩ N (defScope st) mg := by
      refine ⟨fun X e => by subst e; rfl, fun X e => by subst e; rfl, fun X e => by subst e; exact hG.symm, fun X e => by subst e; rfl, fun X e => by subst e; rfl, fun X e => by subst e; exact takes_of rfl rfl rfl rfl, fun X e => by subst e; exact passes_of rfl, fun X e => by subst e; have := hr.rm.un; show _ + 65 < _; unfold cxOf; dsimp only; omega, fun X e => by subst e; exact hr.gd, S.nd⟩
    obtain ⟨t, ht, _, hm⟩ := hbody _ rfl rfl fra (fun y X e => by subst e; rfl) (fun X e => by subst e; exact ⟨rfl, rfl, rfl, rfl, rfl, hr⟩) (fun X e => by subst e; exact ⟨rfl, rfl⟩) fun X e => by subst e; exact ⟨hcd, rfl⟩
    refine ⟨t, ht _ rfl, ?_⟩
    have h2 := hm N.length ⟨IOs G fs.io vs, Hf⟩ H Hf (L2.start N vs) [] (env0 fs.io ds N.length) [] H (start_st sf a (by rw [hps]; exact hnl)) (fun i s h => by simp at h)
    unfold bodyF at h
    cases er : m.run (env0 fs.io ds N.length) with
    | nx e1 =>
      rw [er] at h h2
      dsimp only at h
      cases eo : outsAt e1 fs.io ds 0 with
      | none => rw [eo] at h; exact h.elim
      | some outs =>
        rw [eo] at h
        refine h2 _ fun σ' Hf' H' s' a' S' => ?_
        obtain ⟨p, o⟩ := end_st a.lv s' a' S' ha eo
        exact h .non Hf' H' p .non o
    | rt s1 e1 =>
      obtain ⟨md, d⟩ := s1
      rw [er] at h h2
      cases md with
      | sh =>
        dsimp only at h
        cases eo : outsAt e1 fs.io ds 0 with
        | none => rw [eo] at h; exact h.elim
        | some outs =>
          rw [eo] at h
          refine h2 _ fun v σ' Hf' H' s' a' S' => ?_
          obtain ⟨p, o⟩ := end_st a.lv s' a' S' ha eo
          exact h v Hf' H' p (S'.held rfl) o
      | ow =>
        dsimp only at h
        cases eo : outsAt e1 fs.io ds 0 with
        | none => rw [eo] at h; exact h.elim
        | some outs =>
          rw [eo] at h
          refine h2 _ fun v σ' Hf' H' s' a' S' => ?_
          obtain ⟨p, o⟩ := end_st a.lv s' a' S' ha eo
          refine h v Hf' H' p ?_ o
          obtain ⟨q, o2, g1, g2, g3, g4, t2⟩ := S'.sr.own N.length d (by rw [List.getElem?_append_right (by rw [S'.le]; omega), S'.le, Nat.sub_self]; rfl)
          rw [List.getElem?_append_right (by rw [S'.ls]; omega), S'.ls, Nat.sub_self] at g1
          have : v = .ref q := Option.some.inj (Option.some.inj g1)
          subst this
          exact ⟨q, o2, rfl, g2, g3, g4, t2⟩
      | io => exact h.elim
      | al _ => exact h.elim
      | fr =>
        dsimp only at h
        cases eo : outsAt e1 fs.io ds 0 with
        | none => rw [eo] at h; exact h.elim
        | some outs =>
          rw [eo] at h
          refine h2 _ fun v σ' Hf' H' s' a' S' => ?_
          obtain ⟨p, o⟩ := end_st a.lv s' a' S' ha eo
          refine h v Hf' H' p ?_ o
          obtain ⟨Ls, w⟩ := S'.sr.fre
          obtain ⟨u, g1, ou⟩ := w.own N.length d (by rw [List.getElem?_append_right (by rw [S'.le]; omega), S'.le, Nat.sub_self]; rfl)
          rw [List.getElem?_append_right (by rw [S'.ls]; omega), S'.ls, Nat.sub_self] at g1
          have : v = u := Option.some.inj (Option.some.inj g1)
          subst this
          exact ⟨_, ou, w.nd _, fun a ha => w.out _ a ha⟩
    | ex c d e1 =>
      rw [er] at h h2
      dsimp only at h
      cases eo : outsAt e1 fs.io ds 0 with
      | none => rw [eo] at h; exact h.elim
      | some outs =>
        rw [eo] at h
        refine h2 (fun cv dx σ' Hf' H' s' a' S' xr => ?_) _
        obtain ⟨p, o⟩ := end_st a.lv s' a' S' ha eo
        exact h cv dx Hf' H' p xr o
    | bk e1 => rw [er] at h; exact h.elim
    | ct e1 => rw [er] at h; exact h.elim
    | no => rw [er] at h; exact h.elim
section
variable {P : Pl} {prog : Program} {w : World} {K : PySem.W.Frag} {mg : Str → Option Value} {base : Heap} {k j : Nat} {f C : Addr} {fd : FuncData} {ps : List Str} {fs : FS} {x c m : Str}
noncomputable def AtX (P : Pl) (prog : Program) (w : World) (K : PySem.W.Frag) (mg : Str → Option Value) (base : Heap) (k : Nat) : Prop := ∀ X, P.M X → X.prog = prog ∧ X.w = w ∧ X.K = K ∧ X.mg = mg ∧ X.base = base ∧ RoomG k X.A
theorem AtX.fn (A : AtX P prog w K mg base k) (F : FnOkG prog w K mg base (L2.CX prog w) j f fd ps (spOf P.exc P.G fs)) (hj : j ≤ k) (hm : mg x = some (.ref f)) (hk : PySem.W.keepIn K (.ref f) = true) (hb : Binds K fd ps []) : FnFact P x fs := fun X hX => by
  obtain ⟨rfl, rfl, rfl, rfl, rfl, hr⟩ := A X hX
  exact ⟨f, fd, ps, j, F, hr.mono hj, hm, hk, hb⟩
theorem AtX.mk (A : AtX P prog w K mg base k) (hC : P.G.cls c = some C) (M : Mk K C f) (F : FnOkG prog w K mg base (L2.CX prog w) j f fd ps (spOf P.exc P.G fs)) (hj : j + 1 ≤ k) (hm : mg c = some (.ref C)) (hb : Binds K fd ps []) : MkFact P c fs := ⟨C, hC, fun X hX => by
  obtain ⟨rfl, rfl, rfl, rfl, rfl, hr⟩ := A X hX
  exact ⟨f, fd, ps, j, M, F, hr.mono hj, hm, hb⟩⟩
theorem AtX.meth (A : AtX P prog w K mg base k) (hc : Cls K C) (hm : Meth K C m f) (F : FnOkG prog w K mg base (L2.CX prog w) j f fd ps (spOf P.exc P.G fs)) (hj : j ≤ k) (hb : Binds K fd ps []) : RMeth P m C (spOf P.exc P.G fs) := fun X hX => by
  obtain ⟨rfl, rfl, rfl, rfl, rfl, hr⟩ := A X hX
  exact ⟨f, fd, ps, j, hc, hm, F, hr.mono hj, hb⟩
end
theorem MethFact.nil {P : Pl} {m : Str} : MethFact P m [] := fun c fs h => by cases h
theorem MethFact.cons {P : Pl} {m c : Str} {C : Addr} {fs : FS} {MT : List (Str × FS)} (hC : P.G.cls c = some C) (h : RMeth P m C (spOf P.exc P.G fs)) (t : MethFact P m MT) : MethFact P m ((c, fs) :: MT) := fun c' fs' e C' hC' => by
  rw [List.lookup_cons] at e
  cases hb : c' == c with
  | true =>
    rw [hb] at e
    cases e
    have := beq_iff_eq.mp hb
    subst this
    rw [hC] at hC'
    cases hC'
    exact h
  | false => rw [hb] at e; exact t c' fs' e C' hC'
end VM

/-! VNA: a, b = .. -/
namespace VM
open PySem PySem.Spec PyProof.Rows L2
section
variable {P : Pl} {N : List Str} {sc : Scope} {mg : Str → Option Value}
end
end VM

/-! VNB: zip, enumerate -/
namespace VM
open PySem PySem.Spec PyProof.Rows L2
section
variable {P : Pl} {n : Nat} {IO : En} {H0 Hf H : Hp} {σ tv : L2.St} {env te : Env} {N : List Str} {sc : Scope} {mg : Str → Option Value}
noncomputable def zipD (xs ys : List D) : List D := List.zipWith (fun x y => .tup [x, y]) xs ys
noncomputable def enumD (xs : List D) : List D := (List.range xs.length).zipWith (fun (i : Nat) x => .tup [.int i, x]) xs
noncomputable def lists : List Slot → Option (List (List D))
  | [] => some []
  | ⟨.sh, d⟩ :: r => match listOf d, lists r with
    | some xs, some ys => some (xs :: ys)
    | _, _ => none
  | _ => none
noncomputable def iZip (l : Lm) : Im := fun e => match l e with
  | .ok ss e1 => match lists ss with
    | some [xs, ys] => .ok (zipD xs ys) e1 none
    | _ => .no
  | .ex c d e1 => .ex c d e1
  | .no => .no
noncomputable def iEnumD (l : Lm) : Im := fun e => match l e with
  | .ok ss e1 => match lists ss with
    | some [xs] => .ok (enumD xs) e1 none
    | _ => .no
  | .ex c d e1 => .ex c d e1
  | .no => .no
end
end VM

/-! VNC: list(reversed(a list)) -/
namespace PySem
open PyProof.Rows
theorem vm_list_rev {prog : Program} {w : World} {A : Around} {E : Value → Shared → Prop} {s : Shared} {it l : Addr} {items : Array Value} {Q : Value → Shared → Prop} (hh : A.handled = none) (hit : s.heap.IsRevIter it l ((items.size : Int) - 1)) (hl : s.heap.IsList l items) (hne : l ≠ it) (hn : items.size ≤ sizeLine)
    (hQ : ∀ (h' : Heap) (tk : Nat) (acc : Array Value) (c' : Nat), (∀ b o, b ≠ it → s.heap.get? b = some o → h'.get? b = some o) → h'.get? s.heap.objs.size = some { cls := .type "list", dict := none, data := .seq acc c', slots := #[] } → ItemsOf (fun i v => items[items.size - 1 - i]? = some v) acc items.size → Q (.ref s.heap.objs.size) { s with heap := h', toks := tk }) :
    wpAny (model prog w) A (call (.type "list") [.ref it]) Q E s := by
  have W := (Walks.listRev (prog := prog) (w := w) (A := A.in1.in1) hh it l hne items).toS
  obtain ⟨oi, hoi, _⟩ := id hit
  obtain ⟨ol, hol, _⟩ := id hl
  have hSi : s.heap.objs.size ≠ it := Nat.ne_of_gt (Heap.lt_size hoi)
  have hSl : s.heap.objs.size ≠ l := Nat.ne_of_gt (Heap.lt_size hol)
  have hSf : s.heap.objs.size ∉ [it, l] := by simp only [List.mem_cons, List.not_mem_nil, or_false, not_or]; exact ⟨hSi, hSl⟩
  refine callType_codes (Q₁ := fun obj s₁ => obj = .ref s.heap.objs.size ∧ s₁ = { s with heap := s.heap.push { cls := .type "list", data := .seq #[] } }) F.called_list (F.typeCall_list_1 _) F.entry_list_init
    (code_list_new _ ⟨rfl, rfl⟩) fun obj s₁ h₁ => ?_
  obtain ⟨rfl, rfl⟩ := h₁
  have hS : (s.heap.push { cls := .type "list", data := .seq #[] }).get? s.heap.objs.size = some { cls := .type "list", data := .seq #[] } := Heap.get?_push_size _ rfl
  refine ⟨⟨_, hS, rfl⟩, F.args_list_init_2 _ _, ?_⟩
  show wpAny _ A.in1.in1 (do let old ← Builtin.List.listItems (.ref s.heap.objs.size); Builtin.List.listUpdate (.ref s.heap.objs.size) (fun _ => #[]); letGo old.toList.reverse; Builtin.List.listExtendWith (.ref s.heap.objs.size) (.ref it) .none) _ _ _
  refine wpAny_bind ?_
  unfold Builtin.List.listItems
  refine wpAny_bind (wpAny_seqItems hS rfl (wpAny_pure ?_))
  show wpAny _ A.in1.in1 (updateSeq s.heap.objs.size (fun _ => #[]) >>= fun _ => letGo (#[] : Array Value).toList.reverse >>= fun _ => Builtin.List.listExtendWith (.ref s.heap.objs.size) (.ref it) .none) _ _ _
  refine wpAny_bind (wpAny_updateSeq hS rfl ?_)
  have hS₂ := Heap.get?_update_self (Obj.mapSeq (fun _ => (#[] : Array Value))) hS rfl
  have oth : ∀ b o, b ≠ s.heap.objs.size → (s.heap.push { cls := .type "list", data := .seq #[] }).get? b = some o → ((s.heap.push { cls := .type "list", data := .seq #[] }).update s.heap.objs.size (Obj.mapSeq (fun _ => (#[] : Array Value)))).get? b = some o :=
    fun b o hb e => (Heap.get?_update_other _ _ (Ne.symm hb)).trans e
  refine wpAny_bind (wpAny_letGo ?_)
  have keep : ∀ b o, s.heap.get? b = some o → ((s.heap.push { cls := .type "list", data := .seq #[] }).update s.heap.objs.size (Obj.mapSeq (fun _ => (#[] : Array Value)))).get? b = some o := fun b o e => oth b o (Nat.ne_of_lt (Heap.lt_size e)) (Heap.get?_push_of_some _ e)
  generalize hH : (s.heap.push { cls := .type "list", data := .seq #[] }).update s.heap.objs.size (Obj.mapSeq (fun _ => (#[] : Array Value))) = H1 at *
  have hit1 : H1.IsRevIter it l ((items.size : Int) - 1) := hit.at fun o e => keep _ _ e
  have hl1 : H1.IsList l items := hl.at fun o e => keep _ _ e
  have hT : ({ s with heap := H1 } : Shared).TypeIs (.ref it) "list_reverseiterator" := Heap.IsRevIter.typeIs (s := { s with heap := H1 }) hit1
  have h1 : Builtin.List.listSameRef (.ref s.heap.objs.size) (.ref it) = false := by simp [Builtin.List.listSameRef, hSi]
  unfold Builtin.List.listExtendWith
  refine wpAny_bind (wpAny_typeOf hT ?_)
  rw [if_neg (by rw [h1]; decide)]
  refine wpAny_bind (wpAny_pyIter_revIter (s := { s with heap := H1 }) hit1 ?_)
  refine wpAny_bind (wpAny_holding ?_)
  unfold Builtin.List.listLengthHint
  refine wpAny_bind (wpAny_specialOf hT RT.nolen_lri ?_)
  show wpAny _ _ (specialOf (Value.ref it) (Str.ofString "__length_hint__") >>= _) _ _ _
  refine wpAny_bind (wpAny_specialOf hT RT.hint_lri ?_)
  generalize hid : ("list_reverseiterator.__length_hint__" : String) = id0
  wp_delta
  rw [show splitId id0 = some ("list_reverseiterator", "__length_hint__") from by subst hid; decide +kernel]
  subst hid
  refine wpAny_bind (wpAny_isInstance (b := true) hT (by rw [isSubtype_type]; kernel_rfl) ?_)
  refine wpAny_pure ?_
  rw [if_neg (by decide)]
  have e0 : ((items.size : Nat) : Int) - 1 - ((0 : Nat) : Int) = (items.size : Int) - 1 := by omega
  refine wpAny_pure ⟨plainId_quiet F.plain_extend_loop _, codeAny_extend_loopS W hn _ hSf _ items.size 0 _ _ _ rfl (Nat.zero_le _) ⟨Nat.zero_le _, by rw [e0]; exact hit1, hl1⟩ hS₂ (ItemsOf.nil _) fun s' acc' c' hm hS' hacc => ?_⟩
  refine ⟨rfl, ?_⟩
  have es : s' = { s with heap := s'.heap, toks := s'.toks } := by
    obtain ⟨g1, g2, g3, g4, g5⟩ := hm
    obtain ⟨hp, g, d, tk, os⟩ := s'
    simp only at g2 g3 g4
    rw [g2, g3, g4]
  rw [es]
  refine hQ s'.heap s'.toks acc' c' (fun b o hb e => hm.heap b o (fun hmem => ?_) (keep b o e)) hS' hacc
  rcases List.mem_cons.mp hmem with e' | hmem
  · exact absurd (Heap.lt_size e) (by rw [e']; exact Nat.lt_irrefl _)
  · exact hb (List.mem_singleton.mp hmem)
end PySem
namespace VM
open PySem PySem.Spec PyProof.Rows L2
section
variable {P : Pl} {N : List Str} {sc : Scope} {mg : Str → Option Value}
noncomputable def dRevList (d : D) : RR := match listOf d with
  | some xs => if xs.length ≤ 1000 then .ow (.lst xs.reverse) else .no
  | none => .no
noncomputable def rRevL (K : PySem.W.Frag) : V → Hp → VK → Prop := fun x H Q => ∃ a xs, x = .ref a ∧ SqL K H a xs ∧ xs.length ≤ 1000 ∧ ∀ l, H l = none → Q (.ref l) (upd H l (.lst xs.reverse))
theorem s_revL {G : Gi} : S1 G (rRevL G.K) dRevList := by
  intro Hf H x d s r
  unfold dRevList
  cases e : listOf d with
  | none => trivial
  | some xs =>
    obtain ⟨a, vs, rfl, h, rr⟩ := r.list s e
    dsimp only
    split
    · rename_i hl
      refine fun Q q => ⟨a, vs, rfl, h, by rw [rr.len]; exact hl, fun l hn => q l _ hn ⟨_, rfl, ⟨by simp [rr.len], fun i v d h1 h2 => ?_⟩⟩⟩
      have hi : i < vs.length := by have := lt_of_get h1; simpa using this
      rw [List.getElem?_reverse hi] at h1
      rw [List.getElem?_reverse (by rw [← rr.len]; exact hi), ← rr.len] at h2
      exact rr.at' _ _ _ h1 h2
    · trivial
theorem Fra.revList (fr : Fra P N sc mg) {e : Expr} {p pos p2 pos2 : Pos} {m : Sm} (hg : sc.names.lookup ("list" : Str) = some .globalImplicit) (hm : mg ("list" : Str) = none) (hg2 : sc.names.lookup ("reversed" : Str) = some .globalImplicit) (hm2 : mg ("reversed" : Str) = none)
    (h : SE P e m) (hs : [e].all notStar = true) :
    SE P (.Call (.Name "list" p) [.Call (.Name "reversed" p2) [e] [] pos2] [] pos) (m1 dRevList m) := by
  obtain ⟨t, q, f⟩ := h
  have n1 : notStar e = true := by simpa using hs
  refine ⟨tUn (rRevL P.G.K) t, fun X hX => ?_, ev_1 s_revL f⟩
  refine ⟨fun pins s σ H Q I h => ?_⟩
  rw [← fr.K X hX] at h
  refine Call_ (ld_blt I (fr.gl hg X hX) (fr.bm hm X hX) PyProof.Rows.boot_list (PyProof.Rows.callWith_type1 (args_cons (Call_ (ld_blt I (fr.gl hg2 X hX) (fr.bm hm2 X hX) PyProof.Rows.boot_reversed (PyProof.Rows.callWith_type1 (args_cons (thn ((q X hX).run pins s σ H _ I h) fun u s1 hx => args_nil ?_) (star_ok n1)) (star_ok n1) rfl))) (star_ok rfl)) (star_ok rfl) rfl))
  obtain ⟨v, H1, I1, rv, a, xs, rfl, hq, hl, k⟩ := hx
  cases rv
  obtain ⟨its, rv, p1, _⟩ := I1.list hq
  have hsz : its.length = xs.length := rv.length.symm
  refine call_reversed_list p1.isList (args_nil ?_)
  have hlt : a < s1.heap.objs.size := p1.lt
  have hit : (s1.heap.push (revObj a ((its.toArray.size : Int) - 1))).IsRevIter s1.heap.objs.size a ((its.toArray.size : Int) - 1) := ⟨_, Heap.get?_push_size _ rfl, rfl, rfl⟩
  refine vm_list_rev (s := { s1 with heap := s1.heap.push (revObj a ((its.toArray.size : Int) - 1)) }) (I1.ok.hd (fr.calm X hX)) hit (p1.isList.push _) (Nat.ne_of_lt hlt) (by simp; rw [hsz]; exact Nat.le_of_lt (small1000 hl)) fun h' tk acc c' hk hS hi => ?_
  have hsz2 : its.toArray.size = its.length := by simp
  have ea : acc.toList = its.reverse := by
    apply List.ext_getElem?
    intro i
    by_cases hi2 : i < its.length
    · rw [List.getElem?_reverse hi2]
      have hz : i < acc.size := by rw [hi.1, hsz2]; exact hi2
      have := hi.2 i acc[i] (Array.getElem?_eq_getElem hz)
      rw [hsz2] at this
      rw [Array.getElem?_toList, Array.getElem?_eq_getElem hz]
      simpa using this.symm
    · rw [List.getElem?_eq_none (by rw [Array.length_toList, hi.1, hsz2]; omega), List.getElem?_eq_none (by simp; omega)]
  have vs : Vals xs.reverse acc.toList := by rw [ea]; exact rv.reverse
  refine ⟨.ref _, upd H1 (s1.heap.push (revObj a ((its.toArray.size : Int) - 1))).objs.size (.lst xs.reverse), I1.laid (t' := tk) (fun c o e => hk c o (Nat.ne_of_lt (Heap.lt_size e)) (Heap.get?_push_of_some _ e)) (by rw [Heap.size_push]; exact Nat.le_succ _) (show ObjOk X.prog X.w _ _ _ (.lst _) from ⟨?_, acc.toList, c', vs, ?_⟩), rfl, k _ (I1.hok.fresh (by rw [Heap.size_push]; exact Nat.le_succ _))⟩
  · rw [List.length_reverse]
    exact Nat.le_of_lt (small1000 (by omega))
  · rw [Array.toArray_toList]; exact hS
end
end VM

/-! VND: words for the printed end -/
namespace VM
open PySem PySem.Spec PyProof.Rows L2
theorem FieldsOk.nil {G : Gi} : FieldsOk G [] := fun c f C h => by cases h
theorem FieldsOk.cons {G : Gi} {c f : Str} {C : Addr} {FT : List (Str × Str)} (hC : G.cls c = some C) (h1 : Cls G.K C) (h2 : NoAttr G.K C f) (t : FieldsOk G FT) : FieldsOk G ((c, f) :: FT) := fun c' f' C' h hc => by
  rcases List.mem_cons.mp h with h | h
  · cases h
    rw [hC] at hc
    cases hc
    exact ⟨h1, h2⟩
  · exact t c' f' C' h hc
noncomputable def ThOk (G : Gi) (C : Addr) : Prop := Cls G.K C ∧ PySem.W.findIn G.K (.ref C) "__class__" = some (some (.builtin "object.__class__")) ∧ PySem.W.mroIn G.K C (.type "object") = some true
structure IsiP (G : Gi) (IT : List ((TG × TG) × Bool)) : Prop where
  thing : ∀ c b r, ((.own c, b), r) ∈ IT → ∀ C, G.cls c = some C → ThOk G C
  ans : ∀ a b r, ((a, b), r) ∈ IT → ∀ t u, a.val G = some t → b.val G = some u → PySem.W.kitOne G.K t u = some r
theorem IsiP.nil {G : Gi} : IsiP G [] := ⟨fun c b r h => by (cases h), fun c b r h => by cases h⟩
theorem IsiP.cons {G : Gi} {c : Str} {b : TG} {r : Bool} {C : Addr} {u : Value} {IT : List ((TG × TG) × Bool)} (hC : G.cls c = some C) (hb : b.val G = some u) (h1 : ThOk G C) (h2 : PySem.W.kitOne G.K (.ref C) u = some r) (t : IsiP G IT) : IsiP G (((.own c, b), r) :: IT) := ⟨fun c' b' r' h C' hc => by
    rcases List.mem_cons.mp h with h | h
    · cases h
      rw [hC] at hc
      cases hc
      exact h1
    · exact t.thing c' b' r' h C' hc, fun a' b' r' h t' u' ha hb' => by
    rcases List.mem_cons.mp h with h | h
    · cases h
      have ha' : (G.cls c).map (fun C => Value.ref C) = some t' := ha
      rw [hC] at ha'
      cases ha'
      rw [hb] at hb'
      cases hb'
      exact h2
    · exact t.ans a' b' r' h t' u' ha hb'⟩
theorem IsiP.consT {G : Gi} {s : String} {b : TG} {r : Bool} {u : Value} {IT : List ((TG × TG) × Bool)} (hb : b.val G = some u) (h2 : PySem.W.kitOne G.K (.type s) u = some r) (t : IsiP G IT) : IsiP G (((.ty s, b), r) :: IT) := ⟨fun c' b' r' h C' hc => by
    rcases List.mem_cons.mp h with h | h
    · cases h
    · exact t.thing c' b' r' h C' hc, fun a' b' r' h t' u' ha hb' => by
    rcases List.mem_cons.mp h with h | h
    · cases h
      cases ha
      rw [hb] at hb'
      cases hb'
      exact h2
    · exact t.ans a' b' r' h t' u' ha hb'⟩
theorem IsiP.ok {G : Gi} {IT : List ((TG × TG) × Bool)} (h : IsiP G IT) (gs : PySem.W.specialIn G.K (.builtin "object.__class__") "__get__" = some (some (.builtin "getset_descriptor.__get__"))) (tk : PySem.W.takesIn G.K (.builtin "object.__class__") = some true) : IsiOk G IT := ⟨h.thing, gs, tk, h.ans⟩
theorem fld_has {FT : List (Str × Str)} {c f : Str} {fds : List (Str × D)} {d : D} (h : (c, f) ∈ FT) (hl : fds.lookup f = some d) : dFld FT f (.ins c fds) = .sh d := by
  show (if (c, f) ∈ FT then match fds.lookup f with | some d => RR.sh d | none => .no else .no) = _
  rw [if_pos h, hl]
end VM

/-! VNE: reckoning with the mirrors -/
namespace VM
open PySem PySem.Spec PyProof.Rows L2
theorem run_skip (e : Env) : xSkip.run e = .nx e := rfl
theorem run_break (e : Env) : xBreak.run e = .bk e := rfl
theorem run_cont (e : Env) : xCont.run e = .ct e := rfl
theorem run_seq (a b : Sx) (e : Env) : (xSeq a b).run e = (match a.run e with | .nx e1 => b.run e1 | r => r) := rfl
theorem run_expr (m : Sm) (e : Env) : (xExpr m).run e = (match m e with | .ok _ e1 => SA.nx e1 | .ex c d e1 => .ex c d e1 | .no => .no) := rfl
theorem run_ret (m : Sm) (e : Env) : (xRet m).run e = (match m e with
  | .ok ⟨.sh, d⟩ e1 => SA.rt ⟨.sh, d⟩ e1
  | .ok ⟨.ow, d⟩ e1 => .rt ⟨.ow, d⟩ e1
  | .ok ⟨.fr, d⟩ e1 => .rt ⟨.fr, d⟩ e1
  | .ok ⟨.al j, _⟩ e1 => (match e1[j]? with
    | some (some ⟨.ow, d⟩) => .rt ⟨.ow, d⟩ (e1.set j none)
    | some (some ⟨.sh, d⟩) => .rt ⟨.sh, d⟩ e1
    | _ => .no)
  | .ok ⟨.io, _⟩ _ => .no
  | .ex c d e1 => .ex c d e1
  | .no => .no) := rfl
theorem run_retN (e : Env) : xRetN.run e = .rt ⟨.sh, .non⟩ e := rfl
theorem run_asg (m : Sm) (g : Tgt) (e : Env) : (xAsg m g).run e = (match mE m e with | .ok s e1 => (match g.run s e1 with | some e2 => SA.nx e2 | none => .no) | .ex c d e1 => .ex c d e1 | .no => .no) := rfl
theorem run_if (c : Tm) (a b : Sx) (e : Env) : (xIf c a b).run e = (match c e with | .ok true e1 => a.run e1 | .ok false e1 => b.run e1 | .ex c d e1 => .ex c d e1 | .no => .no) := rfl
theorem run_for (i : Im) (g : Tgt) (b : Sx) (e : Env) : (xFor i g b).run e = (match i e with | .ok ds e1 k => if chkA k (g.asg ++ b.asg) then forD k g b ds e1 else SA.no | .ex c d e1 => .ex c d e1 | .no => .no) := rfl
theorem run_put (i : Nat) (mi m : Sm) (e : Env) : (xPut i mi m).run e = (match mF m e with
  | .ok s e1 => (match e1[i]? with
    | some (some _) => (match mF mi e1 with
      | .ok k e2 => (match e2[i]? with
        | some (some t) => if t.m.mut then (match putD t.d k.d s.d with
            | some d' => SA.nx (e2.set i (some ⟨t.m, d'⟩))
            | none => .no)
          else .no
        | _ => .no)
      | .ex c d e2 => .ex c d e2
      | .no => .no)
    | _ => .no)
  | .ex c d e1 => .ex c d e1
  | .no => .no) := rfl
theorem run_fld (FT : List (Str × Str)) (i : Nat) (f : Str) (m : Sm) (e : Env) : (xFld FT i f m).run e = (match mF m e with
  | .ok s e1 => (match e1[i]? with
    | some (some ⟨md, .ins c fds⟩) => if md.mut = true ∧ (c, f) ∈ FT ∧ fds.length < 1000 then SA.nx (e1.set i (some ⟨md, .ins c (putFD f s.d fds)⟩)) else .no
    | _ => .no)
  | .ex c d e1 => .ex c d e1
  | .no => .no) := rfl
theorem gN_run (i : Nat) (s : Slot) (e : Env) : (gN i).run s e = if free e i then some (e.set i (some s)) else none := rfl
theorem gT_run (is : List Nat) (s : Slot) (e : Env) : (gT is).run s e = (match s.m with
  | .sh => (match s.d with | .tup ds => setAll is ds e | .lst ds => setAll is ds e | _ => none)
  | _ => none) := rfl
theorem ok_int (i j : Int) : dAdd (.int i) (.int j) = .sh (.int (i + j)) := rfl
theorem dSub_i (i j : Int) : dSub (.int i) (.int j) = .sh (.int (i - j)) := rfl
theorem dMul_i (i j : Int) (h : cMul i j = true) : dMul (.int i) (.int j) = .sh (.int (i * j)) := if_pos h
theorem dDiv_i (i j : Int) (h : cDiv i j = true) : dDiv (.int i) (.int j) = .sh (.int (i / j)) := if_pos h
theorem dMod_i (i j : Int) (h : 0 < j) : dMod (.int i) (.int j) = .sh (.int (i % j)) := if_pos (cdec_t h)
theorem dPow_i (i j : Int) (h : cPow i j = true) : dPow (.int i) (.int j) = .sh (.int (i ^ j.toNat)) := if_pos h
theorem dShl_i (i j : Int) (h : cPow i j = true) : dShl (.int i) (.int j) = .sh (.int (i * 2 ^ j.toNat)) := if_pos h
theorem dShr_i (i j : Int) (h : 0 ≤ j) : dShr (.int i) (.int j) = .sh (.int (i / 2 ^ j.toNat)) := if_pos (cdec_t h)
theorem dAnd_i (i j : Int) : dAnd (.int i) (.int j) = .sh (.int (Builtin.bitAnd i j)) := rfl
theorem dOr_i (i j : Int) : dOr (.int i) (.int j) = .sh (.int (Builtin.bitOr i j)) := rfl
theorem dXor_i (i j : Int) : dXor (.int i) (.int j) = .sh (.int (Builtin.bitXor i j)) := rfl
theorem dLt_i (i j : Int) : dLt (.int i) (.int j) = .sh (.bl (cdec (i < j))) := rfl
theorem dLe_i (i j : Int) : dLe (.int i) (.int j) = .sh (.bl (cdec (i ≤ j))) := rfl
theorem dGt_i (i j : Int) : dGt (.int i) (.int j) = .sh (.bl (cdec (j < i))) := rfl
theorem dGe_i (i j : Int) : dGe (.int i) (.int j) = .sh (.bl (cdec (j ≤ i))) := rfl
end VM
namespace VM
end VM

/-! VNF: loops and comprehensions, reckoned -/
namespace VM
open PySem PySem.Spec PyProof.Rows L2
theorem wipe_idem {vs : List Nat} {e : Env} : wipeE vs (wipeE vs e) = wipeE vs e := by
  apply List.ext_getElem?
  intro i
  have h : ∀ o : Option (Option Slot), (wipeE vs (wipeE vs e))[i]? = o → (wipeE vs e)[i]? = o := by
    intro o ho
    by_cases hi : i < e.length
    · have l1 : i < (wipeE vs (wipeE vs e)).length := by rw [wipeE_length, wipeE_length]; exact hi
      have l2 : i < (wipeE vs e).length := by rw [wipeE_length]; exact hi
      rw [List.getElem?_eq_getElem l1] at ho
      rw [List.getElem?_eq_getElem l2]
      subst ho
      congr 1
      cases h1 : (wipeE vs (wipeE vs e))[i] with
      | some s =>
        have := wipeE_get.mp (show (wipeE vs (wipeE vs e))[i]? = some (some s) by rw [List.getElem?_eq_getElem l1, h1])
        have := this.2
        rw [List.getElem?_eq_getElem l2] at this
        exact Option.some.inj this
      | none =>
        cases h2 : (wipeE vs e)[i] with
        | none => rfl
        | some s =>
          have g : (wipeE vs e)[i]? = some (some s) := by rw [List.getElem?_eq_getElem l2, h2]
          have := wipeE_get.mpr ⟨(wipeE_get.mp g).1, g⟩
          rw [List.getElem?_eq_getElem l1, h1] at this
          cases this
    · rw [List.getElem?_eq_none (by rw [wipeE_length, wipeE_length]; omega)] at ho
      rw [List.getElem?_eq_none (by rw [wipeE_length]; omega)]
      exact ho
  exact (h _ rfl).symm
theorem same_refl (e : Env) : sameDef e e = true := by
  unfold sameDef
  rw [List.all_eq_true]
  intro i _
  cases h : e[i]? with
  | none => rfl
  | some o => cases o with
    | none => rfl
    | some s => rfl
noncomputable def accL {α σ : Type} (p : σ → α → Bool) (f : σ → α → D) (nx : σ → α → σ) : σ → List α → List D × σ
  | s, [] => ([], s)
  | s, x :: r => if p s x then (f s x :: (accL p f nx (nx s x) r).1, (accL p f nx (nx s x) r).2) else accL p f nx (nx s x) r
theorem lcD_st {α σ : Type} {k : Chk} {enc : α → D} {p : σ → α → Bool} {f : σ → α → D} {nx : σ → α → σ} {g : Tgt} {c : Tm} {m : Sm} {vs : List Nat} (st : σ → Env) (hk : ∀ s, chkE k (wipeE vs (st s)) = true) : ∀ (l : List α) (acc : List D) (s : σ), acc.length + l.length ≤ 1000 →
    (∀ s, ∀ x ∈ l, ∃ e1 e2, g.run ⟨.sh, enc x⟩ (wipeE vs (st s)) = some e1 ∧ c e1 = .ok (p s x) e2 ∧ (p s x = false → wipeE vs e2 = wipeE vs (st (nx s x))) ∧ (p s x = true → ∃ e3, mF m e2 = .ok ⟨.sh, f s x⟩ e3 ∧ wipeE vs e3 = wipeE vs (st (nx s x)))) →
    lcD k g c m vs (l.map enc) acc (wipeE vs (st s)) = .ok ⟨.ow, .lst (acc ++ (accL p f nx s l).1)⟩ (wipeE vs (st (accL p f nx s l).2))
  | [], acc, s, _, _ => by simp [lcD, accL, hk]
  | x :: r, acc, s, hl, h => by
    obtain ⟨e1, e2, h1, h2, h3, h4⟩ := h s x List.mem_cons_self
    rw [List.map_cons, lcD, if_pos (hk s), wipe_idem, h1]
    dsimp only
    rw [h2]
    have hr := fun s y (hy : y ∈ r) => h s y (List.mem_cons_of_mem _ hy)
    cases hp : p s x with
    | false =>
      dsimp only
      rw [h3 hp, lcD_st st hk r acc (nx s x) (by simp at hl; omega) hr, accL, hp]
      simp
    | true =>
      dsimp only
      obtain ⟨e3, h5, h6⟩ := h4 hp
      rw [h5]
      dsimp only
      rw [if_pos (by simp at hl; omega), h6, lcD_st st hk r _ (nx s x) (by simp at hl ⊢; omega) hr, accL, hp]
      simp
theorem mLc_st {α σ : Type} {k : Chk} {enc : α → D} {p : σ → α → Bool} {f : σ → α → D} {nx : σ → α → σ} {i : Im} {g : Tgt} {c : Tm} {m : Sm} {vs : List Nat} {e0 : Env} (st : σ → Env) {l : List α} {s : σ}
    (hi : i e0 = .ok (l.map enc) (st s) k) (hw : (canWipe vs (st s) && (g.asg.all fun j => decide (j ∈ vs)) && chkA k vs) = true) (hl : l.length ≤ 1000) (hk : ∀ s, chkE k (wipeE vs (st s)) = true)
    (hb : ∀ s', backE vs (st s) (wipeE vs (st s')) = st s') (hd : ∀ s', sameDef (st s) (st s') = true)
    (h : ∀ s, ∀ x ∈ l, ∃ e1 e2, g.run ⟨.sh, enc x⟩ (wipeE vs (st s)) = some e1 ∧ c e1 = .ok (p s x) e2 ∧ (p s x = false → wipeE vs e2 = wipeE vs (st (nx s x))) ∧ (p s x = true → ∃ e3, mF m e2 = .ok ⟨.sh, f s x⟩ e3 ∧ wipeE vs e3 = wipeE vs (st (nx s x)))) :
    mLc i g c m vs e0 = .ok ⟨.ow, .lst (accL p f nx s l).1⟩ (st (accL p f nx s l).2) := by
  unfold mLc
  rw [hi]
  dsimp only
  rw [if_pos hw, lcD_st st hk l [] s (by simpa using hl) h]
  dsimp only
  rw [hb, if_pos (hd _), List.nil_append]
theorem accL_pure {α : Type} (p : α → Bool) (f : α → D) : ∀ l : List α, (accL (σ := Unit) (fun _ x => p x) (fun _ x => f x) (fun s _ => s) () l).1 = (l.filter p).map f
  | [] => rfl
  | x :: r => by
    unfold accL
    rw [List.filter_cons]
    cases p x with
    | false => simp [accL_pure p f r]
    | true => simp [accL_pure p f r]
theorem mLc_pure {α : Type} {k : Chk} {enc : α → D} {p : α → Bool} {f : α → D} {i : Im} {g : Tgt} {c : Tm} {m : Sm} {vs : List Nat} {e e0 : Env} {l : List α}
    (hi : i e0 = .ok (l.map enc) e k) (hw : (canWipe vs e && (g.asg.all fun j => decide (j ∈ vs)) && chkA k vs) = true) (hl : l.length ≤ 1000) (hk : chkE k (wipeE vs e) = true) (hb : backE vs e (wipeE vs e) = e)
    (h : ∀ x ∈ l, ∃ e1, g.run ⟨.sh, enc x⟩ (wipeE vs e) = some e1 ∧ wipeE vs e1 = wipeE vs e ∧ c e1 = .ok (p x) e1 ∧ (p x = true → mF m e1 = .ok ⟨.sh, f x⟩ e1)) :
    mLc i g c m vs e0 = .ok ⟨.ow, .lst ((l.filter p).map f)⟩ e := by
  have := mLc_st (σ := Unit) (enc := enc) (p := fun _ x => p x) (f := fun _ x => f x) (nx := fun s _ => s) (fun _ => e) (s := ()) hi hw hl (fun _ => hk) (fun _ => hb) (fun _ => same_refl e) (fun _ x hx => by
    obtain ⟨e1, h1, h2, h3, h4⟩ := h x hx
    exact ⟨e1, e1, h1, h3, fun _ => h2, fun hp => ⟨e1, h4 hp, h2⟩⟩)
  rw [accL_pure] at this
  exact this
theorem mLc_map {α : Type} {k : Chk} {enc : α → D} {f : α → D} {i : Im} {g : Tgt} {m : Sm} {vs : List Nat} {e e0 : Env} {l : List α}
    (hi : i e0 = .ok (l.map enc) e k) (hw : (canWipe vs e && (g.asg.all fun j => decide (j ∈ vs)) && chkA k vs) = true) (hl : l.length ≤ 1000) (hk : chkE k (wipeE vs e) = true) (hb : backE vs e (wipeE vs e) = e)
    (h : ∀ x ∈ l, ∃ e1, g.run ⟨.sh, enc x⟩ (wipeE vs e) = some e1 ∧ wipeE vs e1 = wipeE vs e ∧ mF m e1 = .ok ⟨.sh, f x⟩ e1) :
    mLc i g tmYes m vs e0 = .ok ⟨.ow, .lst (l.map f)⟩ e := by
  have := mLc_pure (enc := enc) (p := fun _ => true) (f := f) (c := tmYes) hi hw hl hk hb (fun x hx => by
    obtain ⟨e1, h1, h2, h3⟩ := h x hx
    exact ⟨e1, h1, h2, rfl, fun _ => h3⟩)
  rwa [List.filter_eq_self.mpr (fun _ _ => rfl)] at this
noncomputable def lastS {α : Type} (enc : α → D) (l : List α) (y : Option Slot) : Option Slot := match l.getLast? with
  | some x => sh (enc x)
  | none => y
noncomputable def FreeO (y : Option Slot) : Prop := ∀ s, y = some s → s.m ≠ .io
theorem free_none : FreeO none := fun s h => by cases h
theorem free_sh (d : D) : FreeO (sh d) := fun s h => by cases h; simp
theorem free_ow (d : D) : FreeO (ow d) := fun s h => by cases h; simp
theorem dec_free {s : Slot} (h : FreeO (some s)) : decide (s.m ≠ .io) = true := decide_eq_true (h s rfl)
theorem lastS_cons {α : Type} (enc : α → D) (x : α) (r : List α) (y : Option Slot) : lastS enc (x :: r) y = lastS enc r (sh (enc x)) := by
  unfold lastS
  cases r with
  | nil => rfl
  | cons a r => rw [List.getLast?_cons_cons]; cases h : (a :: r).getLast? with
    | none => simp at h
    | some z => rfl
theorem for_fold {α σ : Type} {k : Chk} {enc : α → D} {g : Tgt} {b : Sx} (st : σ → Option Slot → Env) (step : σ → α → σ) (hk : ∀ s y, chkE k (st s y) = true) : ∀ (l : List α) (s : σ) (y : Option Slot), FreeO y →
    (∀ s y, FreeO y → ∀ x ∈ l, ∃ e1, g.run ⟨.sh, enc x⟩ (st s y) = some e1 ∧ (b.run e1 = .nx (st (step s x) (sh (enc x))) ∨ b.run e1 = .ct (st (step s x) (sh (enc x))))) →
    forD k g b (l.map enc) (st s y) = .nx (st (l.foldl step s) (lastS enc l y))
  | [], s, y, _, _ => by rw [List.map_nil, forD, if_pos (hk _ _)]; rfl
  | x :: r, s, y, hy, h => by
    obtain ⟨e1, h1, h2⟩ := h s y hy x List.mem_cons_self
    have ih := for_fold st step hk r (step s x) (sh (enc x)) (free_sh _) fun s y hy z hz => h s y hy z (List.mem_cons_of_mem _ hz)
    rw [List.map_cons, forD, if_pos (hk _ _), h1]
    dsimp only
    rw [lastS_cons, List.foldl_cons]
    rcases h2 with h2 | h2 <;> (rw [h2]; exact ih)
theorem xFor_fold {α σ : Type} {k : Chk} {i : Im} {enc : α → D} {g : Tgt} {b : Sx} {e0 : Env} (st : σ → Option Slot → Env) (step : σ → α → σ) {l : List α} {s : σ} {y : Option Slot} (hi : i e0 = .ok (l.map enc) (st s y) k) (ha : chkA k (g.asg ++ b.asg) = true) (hk : ∀ s y, chkE k (st s y) = true) (hy : FreeO y)
    (h : ∀ s y, FreeO y → ∀ x ∈ l, ∃ e1, g.run ⟨.sh, enc x⟩ (st s y) = some e1 ∧ (b.run e1 = .nx (st (step s x) (sh (enc x))) ∨ b.run e1 = .ct (st (step s x) (sh (enc x))))) :
    (xFor i g b).run e0 = .nx (st (l.foldl step s) (lastS enc l y)) := by
  unfold xFor
  dsimp only
  rw [hi]
  dsimp only
  rw [if_pos ha]
  exact for_fold st step hk l s y hy h
theorem for_find {α : Type} {k : Chk} {enc : α → D} {g : Tgt} {b : Sx} (st : Option Slot → Env) (p : α → Bool) (r : α → SA) (hk : ∀ y, chkE k (st y) = true) : ∀ (l : List α) (y : Option Slot), FreeO y →
    (∀ y, FreeO y → ∀ x ∈ l, ∃ e1, g.run ⟨.sh, enc x⟩ (st y) = some e1 ∧ (p x = true → b.run e1 = r x ∧ ((∃ s e, r x = .rt s e) ∨ ∃ c d e, r x = .ex c d e)) ∧ (p x = false → b.run e1 = .nx (st (sh (enc x))) ∨ b.run e1 = .ct (st (sh (enc x))))) →
    forD k g b (l.map enc) (st y) = (match l.find? p with | some x => r x | none => .nx (st (lastS enc l y)))
  | [], y, _, _ => by rw [List.map_nil, forD, if_pos (hk _)]; rfl
  | x :: l, y, hy, h => by
    obtain ⟨e1, h1, h2, h3⟩ := h y hy x List.mem_cons_self
    have ih := for_find st p r hk l (sh (enc x)) (free_sh _) fun y hy z hz => h y hy z (List.mem_cons_of_mem _ hz)
    rw [List.map_cons, forD, if_pos (hk _), h1]
    dsimp only
    rw [List.find?_cons]
    cases hp : p x with
    | true =>
      dsimp only
      obtain ⟨h4, h5⟩ := h2 hp
      rw [h4]
      rcases h5 with ⟨s, e, h5⟩ | ⟨c, d, e, h5⟩ <;> rw [h5]
    | false =>
      dsimp only
      rw [lastS_cons]
      rcases h3 hp with h3 | h3 <;> (rw [h3]; exact ih)
theorem xFor_find {α : Type} {k : Chk} {i : Im} {enc : α → D} {g : Tgt} {b : Sx} {e0 : Env} (st : Option Slot → Env) (p : α → Bool) (r : α → SA) {l : List α} {y : Option Slot} (hi : i e0 = .ok (l.map enc) (st y) k) (ha : chkA k (g.asg ++ b.asg) = true) (hk : ∀ y, chkE k (st y) = true) (hy : FreeO y)
    (h : ∀ y, FreeO y → ∀ x ∈ l, ∃ e1, g.run ⟨.sh, enc x⟩ (st y) = some e1 ∧ (p x = true → b.run e1 = r x ∧ ((∃ s e, r x = .rt s e) ∨ ∃ c d e, r x = .ex c d e)) ∧ (p x = false → b.run e1 = .nx (st (sh (enc x))) ∨ b.run e1 = .ct (st (sh (enc x))))) :
    (xFor i g b).run e0 = (match l.find? p with | some x => r x | none => .nx (st (lastS enc l y))) := by
  unfold xFor
  dsimp only
  rw [hi]
  dsimp only
  rw [if_pos ha]
  exact for_find st p r hk l y hy h
end VM

/-! VNG: small words for reckoning -/
namespace VM
open PySem PySem.Spec PyProof.Rows L2
theorem al_sh (j : Nat) : decide (M.sh = M.al j) = false := rfl
theorem al_ow (j : Nat) : decide (M.ow = M.al j) = false := rfl
theorem al_io (j : Nat) : decide (M.io = M.al j) = false := rfl
theorem al_al (i j : Nat) : decide (M.al i = M.al j) = decide (i = j) := by
  by_cases h : i = j
  · subst h; simp
  · rw [decide_eq_false h, decide_eq_false (fun z => h (by cases z; rfl))]
theorem tup_at {xs : List D} {r : Nat} {d : D} (h : xs[r]? = some d) : dIx (.tup xs) (nD r) = .sh d := by
  have hr : r < xs.length := lt_of_get h
  show (match atI xs (r : Int) with | some x => RR.sh x | none => .no) = _
  have : atI xs (r : Int) = some d := by
    have := dIx_nat h
    unfold dIx listOf at this
    dsimp only [nD] at this
    cases e : atI xs (r : Int) with
    | none => rw [e] at this; cases this
    | some x => rw [e] at this; cases this; rfl
  rw [this]
theorem dIx_t2_0 (a b : D) : dIx (.tup [a, b]) (.int 0) = .sh a := tup_at (r := 0) rfl
theorem dIx_t2_1 (a b : D) : dIx (.tup [a, b]) (.int 1) = .sh b := tup_at (r := 1) rfl
theorem dEq_i (i j : Int) : dEq (.int i) (.int j) = .sh (.bl (cdec (i = j))) := dEq_int i j
theorem dNe_of {d e : D} {b : Bool} (h : dEq d e = .sh (.bl b)) : dNe d e = .sh (.bl (!b)) := by
  unfold dEq at h
  unfold dNe
  unfold dEqv at h ⊢
  generalize D.py d = p at *
  generalize D.py e = q at *
  cases p with
  | none => simp at h
  | some p => cases q with
    | none => simp at h
    | some q =>
      simp only [hid_eq] at h ⊢
      by_cases hs : (SeqAt.shaped p && SeqAt.shaped q) = true
      · rw [if_pos hs] at h ⊢
        simp only [Bool.false_eq_true, if_false, RR.sh.injEq, D.bl.injEq] at h
        simp only [if_true, h]
      · rw [if_neg hs] at h; cases h
theorem dNe_i (i j : Int) : dNe (.int i) (.int j) = .sh (.bl (!cdec (i = j))) := dNe_of (dEq_int i j)
theorem dLen_lst (xs : List D) : dLen (.lst xs) = .sh (nD xs.length) := rfl
theorem dLen_frl (xs : List D) : dLen (.frl xs) = .sh (nD xs.length) := rfl
theorem dLen_tup (xs : List D) : dLen (.tup xs) = .sh (nD xs.length) := rfl
theorem dInt_bl (b : Bool) : dInt (.bl b) = .sh (.int (if b then 1 else 0)) := rfl
theorem dInt_i (i : Int) : dInt (.int i) = .sh (.int i) := rfl
theorem dMax_i (i j : Int) : dMax (.int i) (.int j) = .sh (.int (if j > i then j else i)) := rfl
theorem dMin_i (i j : Int) : dMin (.int i) (.int j) = .sh (.int (if j < i then j else i)) := rfl
theorem isi_i_int (i : Int) : dIsi (.int i) (.ty "int") = .sh (.bl true) := by
  show (match kitB "int" "int" with | some r => RR.sh (.bl r) | none => .no) = _
  rw [show kitB "int" "int" = some true by decide +kernel]
theorem isi_i_bool (i : Int) : dIsi (.int i) (.ty "bool") = .sh (.bl false) := by
  show (match kitB "int" "bool" with | some r => RR.sh (.bl r) | none => .no) = _
  rw [show kitB "int" "bool" = some false by decide +kernel]
/-! the law's source of numbers -/
structure Src where
  n : Int
  s : Int
  t : Int
noncomputable def srcS (q : Src) : D := srcD q.n q.s q.t
noncomputable def tkI (q : Src) (k : Int) : Int := if 0 < q.n then q.n % k else
  ((q.s + 7919 * (q.t + 1)) * 48271 % 2147483647 * ((q.s + 7919 * (q.t + 1)) * 48271 % 2147483647) % 2147483629 + (q.t + 1)) * ((q.s + 7919 * (q.t + 1)) * 48271 % 2147483647 * ((q.s + 7919 * (q.t + 1)) * 48271 % 2147483647) % 2147483629 + 3) % 2147483587 / 7 % k
noncomputable def nxS (q : Src) (k : Int) : Src := if 0 < q.n then ⟨q.n / k, q.s, q.t⟩ else ⟨q.n, q.s, q.t + 1⟩
theorem tkI_nn (q : Src) {k : Int} (hk : 0 < k) : 0 ≤ tkI q k := by
  unfold tkI
  split <;> exact Int.emod_nonneg _ (Int.ne_of_gt hk)
theorem tkI_lt (q : Src) {k : Int} (hk : 0 < k) : tkI q k < k := by
  unfold tkI
  split <;> exact Int.emod_lt_of_pos _ hk
theorem pu_src (q : Src) : D.kpu (srcS q) = true := rfl
end VM
namespace VM
open PySem PySem.Spec PyProof.Rows L2
theorem gN_ok {i : Nat} {s : Slot} {e : Env} {y : Option Slot} (h : e[i]? = some y) (hy : FreeO y) : (gN i).run s e = some (e.set i (some s)) := by
  have : free e i = true := by
    unfold free
    rw [h]
    cases y with
    | none => rfl
    | some t => exact dec_free hy
  exact if_pos this
theorem two_pow_I' (n : Nat) : (1 : Int) * 2 ^ ((n : Int)).toNat = ((2 ^ n : Nat) : Int) := by
  rw [Int.toNat_natCast, Int.one_mul]
  push_cast
  rfl
end VM
namespace VM
open PySem PySem.Spec PyProof.Rows L2
noncomputable def fin (io : List Bool) (ds : List D) (r : SA) : FA := match r with
  | .nx e => (match outsAt e io ds 0 with
    | some o => .ok false .non o
    | none => .no)
  | .rt ⟨.sh, d⟩ e => (match outsAt e io ds 0 with
    | some o => .ok false d o
    | none => .no)
  | .rt ⟨.ow, d⟩ e => (match outsAt e io ds 0 with
    | some o => .ok true d o
    | none => .no)
  | .rt ⟨.fr, d⟩ e => (match outsAt e io ds 0 with
    | some o => .okf d o
    | none => .no)
  | .ex c d e => (match outsAt e io ds 0 with
    | some o => .ex c d o
    | none => .no)
  | _ => .no
end VM
namespace VM
open PySem PySem.Spec PyProof.Rows L2
theorem fApp_ok (xs : List D) (d : D) (h : xs.length ≤ 1000) : fAppend (.lst xs) [d] = some (.lst (xs ++ [d]), .non) := if_pos (small1000 h)
theorem fClear_ok (xs : List D) : fClear (.lst xs) [] = some (.lst [], .non) := rfl
theorem fRev_ok (xs : List D) : fReverse (.lst xs) [] = some (.lst xs.reverse, .non) := rfl
theorem run_add (i : Nat) (m : Sm) (e : Env) : (xAdd i m).run e = (match e[i]? with
  | some (some ⟨.sh, .int a⟩) => (match m e with
    | .ok ⟨.sh, .int b⟩ e1 => if free e1 i then SA.nx (e1.set i (sh (.int (a + b)))) else .no
    | .ex c d e1 => .ex c d e1
    | _ => .no)
  | _ => .no) := rfl
theorem dList_l (xs : List D) : dList (.lst xs) = .ow (.lst xs) := rfl
theorem dRevL_l (xs : List D) (h : xs.length ≤ 1000) : dRevList (.lst xs) = .ow (.lst xs.reverse) := if_pos h
end VM
namespace VM
open PySem PySem.Spec PyProof.Rows L2
theorem for_nth {α : Type} {k : Chk} {enc : α → D} {g : Tgt} {b : Sx} (I : Nat → Env → Prop) (hk : ∀ j e, I j e → chkE k e = true) : ∀ (l : List α) (n : Nat) (e : Env), I n e → (∀ j x e, l[j]? = some x → I (n + j) e → ∃ e1 e2, g.run ⟨.sh, enc x⟩ e = some e1 ∧ (b.run e1 = .nx e2 ∨ b.run e1 = .ct e2) ∧ I (n + j + 1) e2) → ∃ e', forD k g b (l.map enc) e = .nx e' ∧ I (n + l.length) e'
  | [], n, e, h, _ => ⟨e, by rw [List.map_nil, forD, if_pos (hk _ _ h)], h⟩
  | x :: r, n, e, h, st => by
    obtain ⟨e1, e2, h1, h2, h3⟩ := st 0 x e rfl h
    obtain ⟨e', g1, g2⟩ := for_nth I hk r (n + 1) e2 h3 fun j y e hj hI => by
      have := st (j + 1) y e (by simpa using hj) (by rwa [show n + (j + 1) = n + 1 + j by omega])
      rwa [show n + (j + 1) = n + 1 + j by omega] at this
    refine ⟨e', ?_, by rwa [List.length_cons, show n + (r.length + 1) = n + 1 + r.length by omega]⟩
    rw [List.map_cons, forD, if_pos (hk _ _ h), h1]
    rcases h2 with h2 | h2 <;> (dsimp only; rw [h2]; exact g1)
theorem xFor_nth {α : Type} {k : Chk} {i : Im} {enc : α → D} {g : Tgt} {b : Sx} {e0 e : Env} {l : List α} (I : Nat → Env → Prop) (hi : i e0 = .ok (l.map enc) e k) (ha : chkA k (g.asg ++ b.asg) = true) (hk : ∀ j e, I j e → chkE k e = true) (h0 : I 0 e)
    (h : ∀ j x e, l[j]? = some x → I j e → ∃ e1 e2, g.run ⟨.sh, enc x⟩ e = some e1 ∧ (b.run e1 = .nx e2 ∨ b.run e1 = .ct e2) ∧ I (j + 1) e2) : ∃ e', (xFor i g b).run e0 = .nx e' ∧ I l.length e' := by
  obtain ⟨e', g1, g2⟩ := for_nth (k := k) (enc := enc) (g := g) (b := b) I hk l 0 e h0 fun j x e hj hI => by
    rw [Nat.zero_add] at hI ⊢
    exact h j x e hj hI
  rw [Nat.zero_add] at g2
  refine ⟨e', ?_, g2⟩
  unfold xFor
  dsimp only
  rw [hi]
  dsimp only
  rw [if_pos ha]
  exact g1
theorem range_at {n j x : Nat} (h : (List.range n)[j]? = some x) : x = j ∧ j < n := by
  have hj := lt_of_get h
  rw [List.length_range] at hj
  rw [List.getElem?_range hj] at h
  exact ⟨(Option.some.inj h).symm, hj⟩
end VM
namespace VM
open PySem PySem.Spec PyProof.Rows L2
theorem clean_t (d : D) : clean true d = d.kpu := rfl
theorem clean_f (d : D) : clean false d = d.pu := rfl
theorem kpu_lst (xs : List D) : D.kpu (.lst xs) = D.pus xs := rfl
theorem kpu_dic (xs : List (Key × D)) : D.kpu (.dic xs) = D.pus (xs.map (·.2)) := rfl
theorem kpu_dit (xs : List (List Key × D)) : D.kpu (.dit xs) = D.pus (xs.map (·.2)) := rfl
theorem kpu_ins (c : Str) (xs : List (Str × D)) : D.kpu (.ins c xs) = D.pus (xs.map (·.2)) := rfl
theorem pus_map {α : Type} {f : α → D} {l : List α} (h : ∀ x ∈ l, (f x).pu = true) : D.pus (l.map f) = true := by
  induction l with
  | nil => rfl
  | cons x r ih =>
    rw [List.map_cons, D.pus, h x List.mem_cons_self, ih fun y hy => h y (List.mem_cons_of_mem _ hy)]
    rfl
theorem dIsi_T {d : D} {t T : String} {b : Bool} (h : tyOf d = some t) (h2 : kitB t T = some b) : dIsi d (.ty T) = .sh (.bl b) := by
  unfold dIsi
  rw [h]
  dsimp only
  rw [h2]
end VM
namespace VM
open PySem PySem.Spec PyProof.Rows L2
noncomputable def ShO (y : Option Slot) : Prop := y = none ∨ ∃ d, y = sh d
theorem ShO.free {y : Option Slot} (h : ShO y) : FreeO y := by
  rcases h with rfl | ⟨d, rfl⟩
  · exact free_none
  · exact free_sh d
end VM
namespace VM
open PySem PySem.Spec PyProof.Rows L2
theorem dIx_l2_0 (a b : D) : dIx (.lst [a, b]) (.int 0) = .sh a := dIx_nat (r := 0) rfl
theorem dIx_l2_1 (a b : D) : dIx (.lst [a, b]) (.int 1) = .sh b := dIx_nat (r := 1) rfl
noncomputable def tkN (q : Src) (k : Int) : Nat := (tkI q k).toNat
theorem tkN_lt (q : Src) {k : Nat} (hk : 0 < k) : tkN q k < k := by
  have := tkI_lt q (k := (k : Int)) (by omega)
  have := tkI_nn q (k := (k : Int)) (by omega)
  unfold tkN
  omega
theorem tkI_N (q : Src) (k : Int) (hk : 0 < k) : tkI q k = (tkN q k : Int) := (Int.toNat_of_nonneg (tkI_nn q hk)).symm
end VM

/-! VNH: == and in, on data that stands for things of a type -/
namespace VM
open PySem PySem.Spec PyProof.Rows L2
structure EqEnc {α : Type} (enc : α → D) (dp : Nat) : Prop where
  py : ∀ x, ∃ p, D.py (enc x) = some p ∧ PyData.canLay0 p = true ∧ PyData.depth p ≤ dp
  eq : ∀ x y p q, D.py (enc x) = some p → D.py (enc y) = some q → (PyData.eqv p q = true ↔ x = y)
theorem EqEnc.shaped {α : Type} {enc : α → D} {dp : Nat} (E : EqEnc enc dp) (hd : dp ≤ 64) {x : α} {p : PyData} (h : D.py (enc x) = some p) : SeqAt.shaped p = true := by
  obtain ⟨p', h1, h2, h3⟩ := E.py x
  rw [h] at h1
  cases h1
  unfold SeqAt.shaped
  rw [h2, decide_eq_true (Nat.le_trans h3 hd)]
  rfl
theorem EqEnc.dEq {α : Type} {enc : α → D} {dp : Nat} (E : EqEnc enc dp) (x y : α) (hd : dp ≤ 64 := by decide) : dEq (enc x) (enc y) = .sh (.bl (cdec (x = y))) := by
  obtain ⟨p, h1, _, _⟩ := E.py x
  obtain ⟨q, g1, _, _⟩ := E.py y
  unfold VM.dEq dEqv
  rw [h1, g1]
  dsimp only
  rw [E.shaped hd h1, E.shaped hd g1]
  have := E.eq x y p q h1 g1
  rw [hid_eq, Bool.and_self, if_pos rfl, if_neg (by decide), hid_eq]
  congr 2
  by_cases h : x = y
  · rw [cdec_t h]; exact this.mpr h
  · rw [cdec_f h]
    cases hb : PyData.eqv p q with
    | false => rfl
    | true => exact absurd (this.mp hb) h
theorem EqEnc.dNe {α : Type} {enc : α → D} {dp : Nat} (E : EqEnc enc dp) (x y : α) (hd : dp ≤ 64 := by decide) : dNe (enc x) (enc y) = .sh (.bl (!cdec (x = y))) := dNe_of (E.dEq x y hd)
theorem EqEnc.pys {α : Type} {enc : α → D} {dp : Nat} (E : EqEnc enc dp) : ∀ l : List α, ∃ ps, D.pys (l.map enc) = some ps ∧ ps.length = l.length ∧ PyData.canLayAll0 ps = true ∧ PyData.depthAll ps ≤ dp ∧ (∀ (i : Nat) x, l[i]? = some x → ∃ p, ps[i]? = some p ∧ D.py (enc x) = some p)
  | [] => ⟨[], rfl, rfl, rfl, Nat.zero_le _, fun i x h => by simp at h⟩
  | x :: r => by
    obtain ⟨p, h1, h2, h3⟩ := E.py x
    obtain ⟨ps, g1, g0, g2, g3, g4⟩ := E.pys r
    refine ⟨p :: ps, ?_, by simp [g0], ?_, ?_, fun i y hi => ?_⟩
    · show (match D.py (enc x), D.pys (r.map enc) with | some a, some as => some (a :: as) | _, _ => none) = _
      rw [h1, g1]
    · show (PyData.canLay0 p && PyData.canLayAll0 ps) = true
      rw [h2, g2]; rfl
    · show max (PyData.depth p) (PyData.depthAll ps) ≤ dp
      omega
    · cases i with
      | zero => simp at hi; subst hi; exact ⟨p, rfl, h1⟩
      | succ i => exact g4 i y (by simpa using hi)
theorem EqEnc.all {α : Type} {enc : α → D} {dp : Nat} (E : EqEnc enc dp) : ∀ (l m : List α) (ps qs : List PyData), D.pys (l.map enc) = some ps → D.pys (m.map enc) = some qs → (PyData.eqvAll ps qs = true ↔ l = m)
  | [], [], ps, qs, h, g => by cases h; cases g; simp [PyData.eqvAll]
  | [], y :: m, ps, qs, h, g => by
    cases h
    obtain ⟨qs', g1, g2, _⟩ := E.pys (y :: m)
    rw [g] at g1; cases g1
    cases qs with
    | nil => simp at g2
    | cons q qs => simp [PyData.eqvAll]
  | x :: l, [], ps, qs, h, g => by
    cases g
    obtain ⟨ps', h1, h2, _⟩ := E.pys (x :: l)
    rw [h] at h1; cases h1
    cases ps with
    | nil => simp at h2
    | cons q qs => simp [PyData.eqvAll]
  | x :: l, y :: m, ps, qs, h, g => by
    obtain ⟨p, a1, _, _⟩ := E.py x
    obtain ⟨q, b1, _, _⟩ := E.py y
    obtain ⟨ps', a2, _⟩ := E.pys l
    obtain ⟨qs', b2, _⟩ := E.pys m
    have e1 : D.pys ((x :: l).map enc) = some (p :: ps') := by
      show (match D.py (enc x), D.pys (l.map enc) with | some a, some as => some (a :: as) | _, _ => none) = _
      rw [a1, a2]
    have e2 : D.pys ((y :: m).map enc) = some (q :: qs') := by
      show (match D.py (enc y), D.pys (m.map enc) with | some a, some as => some (a :: as) | _, _ => none) = _
      rw [b1, b2]
    rw [h] at e1; cases e1
    rw [g] at e2; cases e2
    have i1 := E.eq x y p q a1 b1
    have i2 := E.all l m ps' qs' a2 b2
    show (PyData.eqv p q && PyData.eqvAll ps' qs') = true ↔ _
    rw [Bool.and_eq_true, i1, i2, List.cons.injEq]
theorem enc_int : EqEnc D.int 1 := ⟨fun x => ⟨_, rfl, rfl, by simp [PyData.depth]⟩, fun x y p q h g => by
  cases h; cases g
  show (x == y) = true ↔ _
  simp⟩
theorem enc_nat : EqEnc nD 1 := ⟨fun x => ⟨_, rfl, rfl, by simp [PyData.depth]⟩, fun x y p q h g => by
  cases h; cases g
  show ((x : Int) == (y : Int)) = true ↔ _
  rw [beq_iff_eq]
  omega⟩
noncomputable abbrev Sg := { z : Str // PyData.strOk z = true }
theorem enc_str : EqEnc (fun z : Sg => D.str z.1) 1 := ⟨fun x => ⟨_, rfl, x.2, by simp [PyData.depth]⟩, fun x y p q h g => by
  cases h; cases g
  show (x.1 == y.1) = true ↔ _
  rw [beq_iff_eq]
  exact ⟨Subtype.ext, fun h => by rw [h]⟩⟩
theorem enc_bl : EqEnc D.bl 1 := ⟨fun x => ⟨_, rfl, rfl, by simp [PyData.depth]⟩, fun x y p q h g => by
  cases h; cases g
  show (x == y) = true ↔ _
  simp⟩
theorem enc_lst {α : Type} {enc : α → D} {dp : Nat} (E : EqEnc enc dp) : EqEnc (fun l : List α => D.lst (l.map enc)) (dp + 1) := ⟨fun l => by
    obtain ⟨ps, h1, _, h2, h3, _⟩ := E.pys l
    refine ⟨.list ps, ?_, h2, ?_⟩
    · show (D.pys (l.map enc)).map PyData.list = _
      rw [h1]; rfl
    · simp only [PyData.depth]; omega, fun x y p q h g => by
    obtain ⟨ps, h1, _⟩ := E.pys x
    obtain ⟨qs, g1, _⟩ := E.pys y
    have e1 : D.py (.lst (x.map enc)) = some (.list ps) := by
      show (D.pys (x.map enc)).map PyData.list = _
      rw [h1]; rfl
    have e2 : D.py (.lst (y.map enc)) = some (.list qs) := by
      show (D.pys (y.map enc)).map PyData.list = _
      rw [g1]; rfl
    rw [h] at e1; cases e1
    rw [g] at e2; cases e2
    exact E.all x y ps qs h1 g1⟩
theorem enc_tup {α : Type} {enc : α → D} {dp : Nat} (E : EqEnc enc dp) : EqEnc (fun l : List α => D.tup (l.map enc)) (dp + 1) := ⟨fun l => by
    obtain ⟨ps, h1, _, h2, h3, _⟩ := E.pys l
    refine ⟨.tuple ps, ?_, h2, ?_⟩
    · show (D.pys (l.map enc)).map PyData.tuple = _
      rw [h1]; rfl
    · simp only [PyData.depth]; omega, fun x y p q h g => by
    obtain ⟨ps, h1, _⟩ := E.pys x
    obtain ⟨qs, g1, _⟩ := E.pys y
    have e1 : D.py (.tup (x.map enc)) = some (.tuple ps) := by
      show (D.pys (x.map enc)).map PyData.tuple = _
      rw [h1]; rfl
    have e2 : D.py (.tup (y.map enc)) = some (.tuple qs) := by
      show (D.pys (y.map enc)).map PyData.tuple = _
      rw [g1]; rfl
    rw [h] at e1; cases e1
    rw [g] at e2; cases e2
    exact E.all x y ps qs h1 g1⟩
theorem enc_pair {α β : Type} {e1 : α → D} {e2 : β → D} {d1 d2 : Nat} (E : EqEnc e1 d1) (F : EqEnc e2 d2) : EqEnc (fun z : α × β => D.tup [e1 z.1, e2 z.2]) (max d1 d2 + 1) := by
  have key : ∀ z : α × β, ∃ p q, D.py (e1 z.1) = some p ∧ D.py (e2 z.2) = some q ∧ D.py (.tup [e1 z.1, e2 z.2]) = some (.tuple [p, q]) ∧ PyData.canLay0 (.tuple [p, q]) = true ∧ PyData.depth (.tuple [p, q]) ≤ max d1 d2 + 1 := fun z => by
    obtain ⟨p, h1, h2, h3⟩ := E.py z.1
    obtain ⟨q, g1, g2, g3⟩ := F.py z.2
    refine ⟨p, q, h1, g1, ?_, ?_, ?_⟩
    · show (match D.py (e1 z.1), (match D.py (e2 z.2), (some [] : Option (List PyData)) with | some a, some as => some (a :: as) | _, _ => none) with | some a, some as => some (a :: as) | _, _ => none).map PyData.tuple = _
      rw [h1, g1]; rfl
    · show (PyData.canLay0 p && (PyData.canLay0 q && true)) = true
      rw [h2, g2]; rfl
    · simp only [PyData.depth, PyData.depthAll]; omega
  refine ⟨fun z => by obtain ⟨p, q, _, _, h, h2, h3⟩ := key z; exact ⟨_, h, h2, h3⟩, fun z w p q h g => ?_⟩
  obtain ⟨p1, p2, a1, a2, a3, _⟩ := key z
  obtain ⟨q1, q2, b1, b2, b3, _⟩ := key w
  rw [h] at a3; cases a3
  rw [g] at b3; cases b3
  have i1 := E.eq z.1 w.1 p1 q1 a1 b1
  have i2 := F.eq z.2 w.2 p2 q2 a2 b2
  show (PyData.eqv p1 q1 && (PyData.eqv p2 q2 && true)) = true ↔ _
  rw [Bool.and_true, Bool.and_eq_true, i1, i2, Prod.ext_iff]
theorem EqEnc.inL {α : Type} {enc : α → D} {dp : Nat} (E : EqEnc enc dp) (neg : Bool) (x : α) (l : List α) (hd : dp ≤ 63 := by decide) : dInL neg (enc x) (.lst (l.map enc)) = .sh (.bl (if neg then !cdec (x ∈ l) else cdec (x ∈ l))) := by
  obtain ⟨p, h1, _, _⟩ := E.py x
  obtain ⟨ps, g1, g0, _, _, g4⟩ := E.pys l
  have e2 : D.py (.lst (l.map enc)) = some (.list ps) := by
    show (D.pys (l.map enc)).map PyData.list = _
    rw [g1]; rfl
  have hs : SeqAt.shaped (.list ps) = true := (enc_lst E).shaped (x := l) (by omega) e2
  have ha : (ps.any fun z => PyData.eqv z p) = cdec (x ∈ l) := by
    by_cases hx : x ∈ l
    · rw [cdec_t hx, List.any_eq_true]
      obtain ⟨i, hi⟩ := List.getElem?_of_mem hx
      obtain ⟨q, q1, q2⟩ := g4 i x hi
      exact ⟨q, List.mem_of_getElem? q1, (E.eq x x q p q2 h1).mpr rfl⟩
    · rw [cdec_f hx]
      apply Bool.eq_false_iff.mpr
      intro h
      obtain ⟨q, hq, hq2⟩ := List.any_eq_true.mp h
      obtain ⟨i, hi⟩ := List.getElem?_of_mem hq
      have hlt : i < l.length := by rw [← g0]; exact lt_of_get hi
      obtain ⟨q', q1, q2⟩ := g4 i l[i] (List.getElem?_eq_getElem hlt)
      rw [hi] at q1; cases q1
      have := (E.eq _ x _ p q2 h1).mp hq2
      exact hx (this ▸ List.getElem_mem hlt)
  unfold dInL
  rw [h1, e2]
  dsimp only
  rw [E.shaped (by omega) h1, hs, ha, hid_eq, Bool.and_self, if_pos rfl, hid_eq]
end VM

/-! VNI: the evaluators, applied -/
namespace VM
open PySem PySem.Spec PyProof.Rows L2
theorem a_mC (d : D) (e : Env) : mC d e = (.ok ⟨.sh, d⟩ e : Ans) := rfl
theorem a_mV (i : Nat) (e : Env) : mV i e = (match e[i]? with
    | some (some ⟨.sh, d⟩) => .ok ⟨.sh, d⟩ e
    | some (some ⟨.ow, _⟩) => .ok ⟨.al i, .non⟩ e
    | some (some ⟨.io, _⟩) => .ok ⟨.al i, .non⟩ e
    | _ => .no : Ans) := rfl
theorem a_lNil (e : Env) : lNil e = (.ok [] e : LAns) := rfl
theorem a_lCons (a : Sm) (r : Lm) (e : Env) : lCons a r e = (match a e with
    | .ok s e1 => match r e1 with
      | .ok ss e2 => .ok (s :: ss) e2
      | .ex c d e2 => .ex c d e2
      | .no => .no
    | .ex c d e1 => .ex c d e1
    | .no => .no : LAns) := rfl
theorem a_mN (f : List D → RR) (l : Lm) (e : Env) : mN f l e = (match l e with
    | .ok ss e1 => match derefs e1 ss with
      | some ds => (f ds).ans e1
      | none => .no
    | .ex c d e1 => .ex c d e1
    | .no => .no : Ans) := rfl
theorem a_mTru (m : Sm) (e : Env) : mTru m e = (match m e with
    | .ok s e1 => match deref e1 s with
      | some d => match tru d with
        | some b => .ok b e1
        | none => .no
      | none => .no
    | .ex c d e1 => .ex c d e1
    | .no => .no : TAns) := rfl
theorem a_mBl (m : Sm) (e : Env) : mBl m e = (match m e with
    | .ok s e1 => match deref e1 s with
      | some (.bl b) => .ok b e1
      | _ => .no
    | .ex c d e1 => .ex c d e1
    | .no => .no : TAns) := rfl
theorem a_mBV (m : Tm) (e : Env) : mBV m e = (match m e with
    | .ok b e1 => .ok ⟨.sh, .bl b⟩ e1
    | .ex c d e1 => .ex c d e1
    | .no => .no : Ans) := rfl
theorem a_tmAnd (a b : Tm) (e : Env) : tmAnd a b e = (match a e with
    | .ok true e1 => b e1
    | .ok false e1 => .ok false e1
    | .ex c d e1 => .ex c d e1
    | .no => .no : TAns) := rfl
theorem a_tmOr (a b : Tm) (e : Env) : tmOr a b e = (match a e with
    | .ok true e1 => .ok true e1
    | .ok false e1 => b e1
    | .ex c d e1 => .ex c d e1
    | .no => .no : TAns) := rfl
theorem a_tmNot (a : Tm) (e : Env) : tmNot a e = (match a e with
    | .ok b e1 => .ok (!b) e1
    | .ex c d e1 => .ex c d e1
    | .no => .no : TAns) := rfl
theorem a_tmYes (e : Env) : tmYes e = (.ok true e : TAns) := rfl
theorem a_mIf (c : Tm) (a b : Sm) (e : Env) : mIf c a b e = (match c e with
    | .ok true e1 => a e1
    | .ok false e1 => b e1
    | .ex c d e1 => .ex c d e1
    | .no => .no : Ans) := rfl
theorem a_mAnd (a b : Sm) (e : Env) : mAnd a b e = (match a e with
    | .ok s e1 => match deref e1 s with
      | some d => match tru d with
        | some true => b e1
        | some false => .ok s e1
        | none => .no
      | none => .no
    | .ex c d e1 => .ex c d e1
    | .no => .no : Ans) := rfl
theorem a_mOr (a b : Sm) (e : Env) : mOr a b e = (match a e with
    | .ok s e1 => match deref e1 s with
      | some d => match tru d with
        | some true => .ok s e1
        | some false => b e1
        | none => .no
      | none => .no
    | .ex c d e1 => .ex c d e1
    | .no => .no : Ans) := rfl
theorem a_mNot (a : Sm) (e : Env) : mNot a e = (match a e with
    | .ok s e1 => match deref e1 s with
      | some d => match tru d with
        | some b => .ok ⟨.sh, .bl (!b)⟩ e1
        | none => .no
      | none => .no
    | .ex c d e1 => .ex c d e1
    | .no => .no : Ans) := rfl
theorem a_mF (m : Sm) (e : Env) : mF m e = (match m e with
    | .ok ⟨.sh, d⟩ e1 => .ok ⟨.sh, d⟩ e1
    | .ok ⟨.ow, d⟩ e1 => .ok ⟨.sh, d⟩ e1
    | .ok ⟨.fr, d⟩ e1 => .ok ⟨.sh, d⟩ e1
    | .ok ⟨.io, d⟩ e1 => .no
    | .ok ⟨.al j, _⟩ e1 => match e1[j]? with
      | some (some ⟨.ow, d⟩) => .ok ⟨.sh, d⟩ (e1.set j (sh d))
      | some (some ⟨.sh, d⟩) => .ok ⟨.sh, d⟩ e1
      | _ => .no
    | .ex c d e1 => .ex c d e1
    | .no => .no : Ans) := rfl
theorem a_mE (m : Sm) (e : Env) : mE m e = (match m e with
    | .ok ⟨.ow, d⟩ e1 => .ok ⟨.ow, d⟩ e1
    | .ok ⟨.fr, d⟩ e1 => .ok ⟨.fr, d⟩ e1
    | _ => mF m e : Ans) := rfl
theorem a_mT (m : Sm) (e : Env) : mT m e = (match m e with
    | .ok ⟨.ow, d⟩ e1 => .ok ⟨.sh, d⟩ e1
    | r => r : Ans) := rfl
theorem a_mTup (l : Lm) (e : Env) : mTup l e = (match l e with
    | .ok ss e1 => match shs ss with
      | some ds => if ds.length ≤ 1000 then .ok ⟨.sh, .tup ds⟩ e1 else .no
      | none => .no
    | .ex c d e1 => .ex c d e1
    | .no => .no : Ans) := rfl
theorem a_mLst (l : Lm) (e : Env) : mLst l e = (match l e with
    | .ok ss e1 => match shs ss with
      | some ds => if ds.length ≤ 1000 then .ok ⟨.ow, .lst ds⟩ e1 else .no
      | none => .no
    | .ex c d e1 => .ex c d e1
    | .no => .no : Ans) := rfl
theorem a_mCall (fs : FS) (l : Lm) (e : Env) : mCall fs l e = (match l e with
    | .ok ss e1 => callS fs ss e1
    | .ex c d e1 => .ex c d e1
    | .no => .no : Ans) := rfl
theorem a_mMake (c : Str) (fs : FS) (l : Lm) (e : Env) : mMake c fs l e = (match l e with
    | .ok ss e1 => match shs ss with
      | some ds => if fs.io = true :: ds.map (fun _ => false) then match fs.F (.ins c [] :: ds) with
          | .ok false .non (d' :: _) => .ok ⟨.ow, d'⟩ e1
          | .ex c' d _ => .ex c' d e1
          | _ => .no
        else .no
      | none => .no
    | .ex c' d e1 => .ex c' d e1
    | .no => .no : Ans) := rfl
theorem a_mChain (f f' : D → D → RR) (a b c : Sm) (e : Env) : mChain f f' a b c e = (match a e with
    | .ok s1 e1 => match b e1 with
      | .ok s2 e2 => match deref e2 s1, deref e2 s2 with
        | some d1, some d2 => match f d1 d2 with
          | .sh (.bl false) => .ok ⟨.sh, .bl false⟩ e2
          | .sh (.bl true) => match c e2 with
            | .ok s3 e3 => match deref e3 s2, deref e3 s3 with
              | some d2, some d3 => (f' d2 d3).ans e3
              | _, _ => .no
            | .ex c d e3 => .ex c d e3
            | .no => .no
          | _ => .no
        | _, _ => .no
      | .ex c d e2 => .ex c d e2
      | .no => .no
    | .ex c d e1 => .ex c d e1
    | .no => .no : Ans) := rfl
theorem a_iVar (j : Nat) (e : Env) : iVar j e = (match e[j]? with
    | some (some ⟨.ow, .lst ds⟩) => .ok ds e (some (j, .lst ds))
    | some (some ⟨.io, .lst ds⟩) => .ok ds e (some (j, .lst ds))
    | _ => iSeq (mV j) e : IA) := rfl
theorem a_iSeq (m : Sm) (e : Env) : iSeq m e = (match mF m e with
    | .ok ⟨.sh, .lst xs⟩ e1 => .ok xs e1 none
    | .ok ⟨.sh, .frl xs⟩ e1 => .ok xs e1 none
    | .ok ⟨.sh, .tup xs⟩ e1 => .ok xs e1 none
    | .ok ⟨.sh, .frt xs⟩ e1 => .ok xs e1 none
    | .ok ⟨.sh, .str z⟩ e1 => .ok (signs z) e1 none
    | .ex c d e1 => .ex c d e1
    | _ => .no : IA) := rfl
theorem a_iInts (f : List Int → Option (List D)) (l : Lm) (e : Env) : iInts f l e = (match l e with
    | .ok ss e1 => match intsOf ss with
      | some is => match f is with
        | some ds => .ok ds e1 none
        | none => .no
      | none => .no
    | .ex c d e1 => .ex c d e1
    | .no => .no : IA) := rfl
theorem a_mMethC (MT : List (Str × FS)) (m : Str) (o : Sm) (l : Lm) (e : Env) : mMethC MT m o l e = (match o e with
    | .ok s e1 => match deref e1 s with
      | some (.ins c fds) => match MT.lookup c with
        | some fs => match fds.lookup m with
          | none => match l e1 with
            | .ok ss e2 => callS fs (s :: ss) e2
            | .ex c d e2 => .ex c d e2
            | .no => .no
          | some _ => .no
        | none => .no
      | _ => .no
    | .ex c d e1 => .ex c d e1
    | .no => .no : Ans) := rfl
theorem a_mMeth (T : String) (i : Nat) (f : D → List D → Option (D × D)) (l : Lm) (e : Env) : mMeth T i f l e = (if kindOf T e i then match l e with
      | .ok ss e1 => match shs ss with
        | some ds => match e1[i]? with
          | some (some s) => if s.m.mut then match f s.d ds with
              | some (d', r) => .ok ⟨.sh, r⟩ (e1.set i (some ⟨s.m, d'⟩))
              | none => .no
            else .no
          | _ => .no
        | none => .no
      | .ex c d e1 => .ex c d e1
      | .no => .no
    else .no : Ans) := rfl
theorem a_mDisp (l : Lm) (e : Env) : mDisp l e = (match l e with
    | .ok ss e1 => match shs ss with
      | some ds => match pairD ds with
        | some kds => if kds.length ≤ 15 then .ok ⟨.ow, .dic (mergeG [] kds)⟩ e1 else .no
        | none => .no
      | none => .no
    | .ex c d e1 => .ex c d e1
    | .no => .no : Ans) := rfl
theorem a_iZip (l : Lm) (e : Env) : iZip l e = (match l e with
    | .ok ss e1 => match lists ss with
      | some [xs, ys] => .ok (zipD xs ys) e1 none
      | _ => .no
    | .ex c d e1 => .ex c d e1
    | .no => .no : IA) := rfl
theorem a_iEnumD (l : Lm) (e : Env) : iEnumD l e = (match l e with
    | .ok ss e1 => match lists ss with
      | some [xs] => .ok (enumD xs) e1 none
      | _ => .no
    | .ex c d e1 => .ex c d e1
    | .no => .no : IA) := rfl
theorem a_mTM (f : Str → List D → RR) (o : Sm) (l : Lm) (e : Env) : mTM f o l e = (match o e with
    | .ok ⟨.sh, .str z⟩ e1 => match l e1 with
      | .ok ss e2 => match derefs e2 ss with
        | some ds => (f z ds).ans e2
        | none => .no
      | .ex c d e2 => .ex c d e2
      | .no => .no
    | .ex c d e1 => .ex c d e1
    | _ => .no : Ans) := rfl
theorem a_m1 (f : D → RR) (a : Sm) (e : Env) : m1 f a e = mN (f1 f) (lCons a lNil) e := rfl
theorem a_m2 (f : D → D → RR) (a b : Sm) (e : Env) : m2 f a b e = mN (f2 f) (lCons a (lCons b lNil)) e := rfl
theorem a_f1 (f : D → RR) (d : D) : f1 f [d] = f d := rfl
theorem a_f2 (f : D → D → RR) (d e : D) : f2 f [d, e] = f d e := rfl
theorem a_sh (e : Env) (d : D) : RR.ans e (.sh d) = .ok ⟨.sh, d⟩ e := rfl
theorem a_ow (e : Env) (d : D) : RR.ans e (.ow d) = .ok ⟨.ow, d⟩ e := rfl
theorem a_tp (e : Env) (ds : List D) : RR.ans e (.tp ds) = .ok ⟨.sh, .tup ds⟩ e := rfl
theorem a_no (e : Env) : RR.ans e .no = .no := rfl
end VM
namespace VM
open PySem PySem.Spec PyProof.Rows L2
theorem free_s (a : Option Slot) (l : Env) (i : Nat) : free (a :: l) (i + 1) = free l i := by
  unfold free
  rw [List.getElem?_cons_succ]
theorem free_n (l : Env) : free (none :: l) 0 = true := rfl
theorem free_h (d : D) (l : Env) : free (some ⟨.sh, d⟩ :: l) 0 = true := rfl
theorem free_o (d : D) (l : Env) : free (some ⟨.ow, d⟩ :: l) 0 = true := rfl
theorem free_v (y : Option Slot) (l : Env) (h : FreeO y) : free (y :: l) 0 = true := by
  cases y with
  | none => rfl
  | some s => exact dec_free h
end VM
namespace VM
theorem cdec_T : cdec True = true := cdec_t trivial
theorem cdec_F : cdec False = false := cdec_f id
end VM
namespace VM
open PySem PySem.Spec PyProof.Rows L2
noncomputable def clsAt (K : PySem.W.Frag) (c : Str) : Option Addr := match PySem.W.nsIn K mainGlobals c with
  | some (some (.ref a)) => some a
  | _ => none
theorem clsAt_of {K : PySem.W.Frag} {c : Str} {a : Addr} (h : PySem.W.nsIn K mainGlobals c = some (some (.ref a))) : clsAt K c = some a := by
  unfold clsAt
  rw [h]
end VM

/-! VNJ: slices, sums -/
namespace VM
open PySem PySem.Spec PyProof.Rows L2
section
variable {P : Pl} {N : List Str} {sc : Scope} {mg : Str → Option Value}
noncomputable def cutD {α : Type} (xs : List α) (lo hi : Option Int) : List α := (xs.drop (HT.sIx xs.length 0 lo)).take (HT.sIx xs.length xs.length hi - HT.sIx xs.length 0 lo)
theorem cut_reps {G : Gi} {H : Hp} {vs : List V} {ds : List D} (r : Reps G H vs ds) (lo hi : Option Int) : Reps G H (cutV vs lo hi) (cutD ds lo hi) := by
  unfold cutV cutD
  rw [r.len]
  exact (r.drop _).take _
noncomputable def sliceD (d : D) (lo hi : Option Int) : RR := match listOf d with
  | some xs => .ow (.lst (cutD xs lo hi))
  | none => match tupOf d with
    | some xs => if cdec (HT.sIx xs.length 0 lo = 0 ∧ HT.sIx xs.length xs.length hi = xs.length) then .sh d else .tp (cutD xs lo hi)
    | none => match d with
      | .str z => if cdec (z.length ≤ sizeLine) then .sh (.str (cutS z lo hi)) else .no
      | _ => .no
noncomputable def rSlice (K : PySem.W.Frag) : V → Option Int → Option Int → Hp → VK → Prop := fun x lo hi H Q => rSlL K x lo hi H Q ∨ rSlA K x lo hi H Q ∨ rSlS x lo hi H Q
theorem sl_all {X : Cx} : SlR X (rSlice X.K) := sl_list.or (sl_tupA.or sl_str)
theorem s_slice {G : Gi} {Hf H : Hp} {x : V} {d : D} (lo hi : Option Int) (s : Same Hf H) (r : PRep G Hf H x d) : RRok G Hf H (rSlice G.K x lo hi H) (sliceD d lo hi) := by
  unfold sliceD
  cases e : listOf d with
  | some xs =>
    obtain ⟨a, vs, rfl, h, rr⟩ := r.list s e
    exact fun Q q => .inl ⟨a, vs, rfl, h, fun p hp => q p _ hp ⟨_, rfl, cut_reps rr lo hi⟩⟩
  | none =>
    dsimp only
    cases e2 : tupOf d with
    | some xs =>
      obtain ⟨a, vs, rfl, h, rr⟩ := r.tupl s e2
      dsimp only
      have hr : Rep G Hf (.ref a) d := by
        rcases r with r | ⟨p, o, e0, hp, t⟩
        · exact r
        · cases d <;> first | (cases e2; done) | exact t.elim
      split
      · rename_i hc
        have hc := of_cdec hc
        refine fun Q q => .inr (.inl ⟨a, vs, rfl, h, fun _ => q _ hr, fun z => absurd (by rw [rr.len]; exact hc) z⟩)
      · rename_i hc
        refine fun Q q => .inr (.inl ⟨a, vs, rfl, h, fun z => absurd (cdec_t (by rw [← rr.len]; exact z)) hc, fun z p hp => q p _ hp (cut_reps rr lo hi)⟩)
    | none =>
      dsimp only
      cases d with
      | str z =>
        dsimp only
        split
        · rename_i hz
          exact fun Q q => .inr (.inr ⟨z, r.str, of_cdec hz, q _ .str⟩)
        · trivial
      | _ => trivial
noncomputable def fSl (lo hi : Bool) : List D → RR
  | [d] => if lo || hi then .no else sliceD d none none
  | [d, .int i] => if lo && !hi then sliceD d (some i) none else if hi && !lo then sliceD d none (some i) else .no
  | [d, .int i, .int j] => if lo && hi then sliceD d (some i) (some j) else .no
  | _ => .no
noncomputable def rSlLo (K : PySem.W.Frag) : List V → Hp → VK → Prop := fun vs H Q => ∃ x i, vs = [x, .int i] ∧ rSlice K x (some i) none H Q
noncomputable def rSlHi (K : PySem.W.Frag) : List V → Hp → VK → Prop := fun vs H Q => ∃ x i, vs = [x, .int i] ∧ rSlice K x none (some i) H Q
theorem PReps.one {G : Gi} {Hf H : Hp} {vs : List V} {d : D} (p : PReps G Hf H vs [d]) : ∃ v, vs = [v] ∧ PRep G Hf H v d := by
  cases p with | cons h t => cases t; exact ⟨_, rfl, h⟩
theorem PReps.two {G : Gi} {Hf H : Hp} {vs : List V} {d e : D} (p : PReps G Hf H vs [d, e]) : ∃ v w, vs = [v, w] ∧ PRep G Hf H v d ∧ PRep G Hf H w e := by
  cases p with | cons h t => obtain ⟨w, rfl, h2⟩ := PReps.one t; exact ⟨_, _, rfl, h, h2⟩
theorem RRok.imp {G : Gi} {Hf H : Hp} {T T' : VK → Prop} {r : RR} (h : RRok G Hf H T r) (i : ∀ Q, T Q → T' Q) : RRok G Hf H T' r := by
  cases r with
  | sh d => exact fun Q q => i _ (h Q q)
  | ow d => exact fun Q q => i _ (h Q q)
  | tp d => exact fun Q q => i _ (h Q q)
  | no => trivial
theorem n_slLo {G : Gi} : SN G (rSlLo G.K) (fSl true false) := by
  intro Hf H vs ds s p
  unfold fSl
  split
  · trivial
  · rename_i d i
    obtain ⟨v, w, rfl, h, h2⟩ := p.two
    cases h2.int
    exact (s_slice (some i) none s h).imp fun Q q => ⟨v, i, rfl, q⟩
  · trivial
  · trivial
theorem n_slHi {G : Gi} : SN G (rSlHi G.K) (fSl false true) := by
  intro Hf H vs ds s p
  unfold fSl
  split
  · trivial
  · rename_i d i
    obtain ⟨v, w, rfl, h, h2⟩ := p.two
    cases h2.int
    exact (s_slice none (some i) s h).imp fun Q q => ⟨v, i, rfl, q⟩
  · trivial
  · trivial
theorem Fra.sliceLo (fr : Fra P N sc mg) {a b : Expr} {p2 pos : Pos} {m k : Sm} (h : SE P a m) (g : SE P b k) : SE P (.Subscript a (.Slice (some b) none none p2) pos) (mN (fSl true false) (lCons m (lCons k lNil))) := by
  obtain ⟨t, p, f⟩ := h
  obtain ⟨u, p', f'⟩ := g
  refine ⟨_, fun X hX => ?_, ev_n (r := rSlLo P.G.K) n_slLo (evl_cons f (evl_cons f' evl_nil))⟩
  have q := pe_slice (p2 := p2) (pos := pos) (sl_all (X := X)) (p X hX) (po_some (p' X hX)) po_none
  have e : tSl (rSlice X.K) t (tPart u) tNoPart = fun σ H Q => tCons t (tCons u tNil) σ H fun vs H1 => rSlLo P.G.K vs H1 Q := by
    rw [fr.K X hX]
    funext σ H Q
    refine congrArg (t σ H) (funext fun x => funext fun H1 => congrArg (u σ H1) (funext fun y => funext fun H2 => propext ⟨fun ⟨i, e, z⟩ => ⟨x, i, by rw [e], z⟩, fun ⟨x', i, e, z⟩ => ?_⟩))
    cases e; exact ⟨i, rfl, z⟩
  rw [← e]; exact q
theorem Fra.sliceHi (fr : Fra P N sc mg) {a b : Expr} {p2 pos : Pos} {m k : Sm} (h : SE P a m) (g : SE P b k) : SE P (.Subscript a (.Slice none (some b) none p2) pos) (mN (fSl false true) (lCons m (lCons k lNil))) := by
  obtain ⟨t, p, f⟩ := h
  obtain ⟨u, p', f'⟩ := g
  refine ⟨_, fun X hX => ?_, ev_n (r := rSlHi P.G.K) n_slHi (evl_cons f (evl_cons f' evl_nil))⟩
  have q := pe_slice (p2 := p2) (pos := pos) (sl_all (X := X)) (p X hX) po_none (po_some (p' X hX))
  have e : tSl (rSlice X.K) t tNoPart (tPart u) = fun σ H Q => tCons t (tCons u tNil) σ H fun vs H1 => rSlHi P.G.K vs H1 Q := by
    rw [fr.K X hX]
    funext σ H Q
    refine congrArg (t σ H) (funext fun x => funext fun H1 => congrArg (u σ H1) (funext fun y => funext fun H2 => propext ⟨fun ⟨i, e, z⟩ => ⟨x, i, by rw [e], z⟩, fun ⟨x', i, e, z⟩ => ?_⟩))
    cases e; exact ⟨i, rfl, z⟩
  rw [← e]; exact q
end
end VM

/-! VNK: sorted(d), the keys of d being pairs of ints -/
namespace VM
open PySem PySem.Spec PyProof.Rows L2

end VM

/-! VNL: sorted(d) as a rule; list(range), len(set), sum, more of `in` -/
namespace VM
open PySem PySem.Spec PyProof.Rows L2
section
variable {P : Pl} {n : Nat} {IO : En} {H0 Hf H : Hp} {σ tv : L2.St} {env te : Env}
end
noncomputable def pD (p : Int × Int) : D := .tup [.int p.1, .int p.2]
noncomputable def sortP (l : List (Int × Int)) : List (Int × Int) := l.mergeSort fun x y => !SrtO.lexB y x
noncomputable def pairsK : List (List Key × D) → Option (List (Int × Int))
  | [] => some []
  | ([.inl i, .inl j], _) :: r => match pairsK r with
    | some ps => some ((i, j) :: ps)
    | none => none
  | _ => none
noncomputable def mSortT (l : Lm) : Sm := fun e => match l e with
  | .ok [s] e1 => match deref e1 s with
    | some (.dit kds) => match pairsK kds with
      | some ps => .ok ⟨.ow, .lst ((sortP ps).map pD)⟩ e1
      | none => .no
    | _ => .no
  | .ok _ _ => .no
  | .ex c d e1 => .ex c d e1
  | .no => .no
theorem PRep.ditt {G : Gi} {Hf H : Hp} (s : Same Hf H) {v : V} {kds : List (List Key × D)} (r : PRep G Hf H v (.dit kds)) : ∃ a kvs, v = .ref a ∧ Rd H a (.dT kvs) ∧ kvs.map (·.1) = kds.map (·.1) ∧ Reps G Hf (kvs.map (·.2)) (kds.map (·.2)) := by
  rcases r with r | ⟨a, o, rfl, ha, t⟩
  · cases r with
    | dit h l r =>
      rename_i p kvs
      refine ⟨p, kvs, rfl, Rd.mono s h, l, by simpa using congrArg List.length l, fun i v d h1 h2 => ?_⟩
      rw [List.getElem?_map] at h1 h2
      obtain ⟨a, ha, rfl⟩ := Option.map_eq_some_iff.mp h1
      obtain ⟨b, hb, rfl⟩ := Option.map_eq_some_iff.mp h2
      exact r i a b ha hb
  · obtain ⟨kvs, rfl, l, rr⟩ := t; exact ⟨a, kvs, rfl, .inl ha, l, rr⟩
section
variable {P : Pl} {N : List Str} {sc : Scope} {mg : Str → Option Value}
end
end VM

/-! VNM: alternatives; dicts: d[k], d.get(k), k in d; is None; list(d), dict(..), len(d) -/
namespace VM
open PySem PySem.Spec PyProof.Rows L2

/-! ### lookups -/
noncomputable def dLook (d k : D) : Option (Option D) := match d with
  | .dic kvs => match keyOf k with
    | some key => some (valG kvs key)
    | none => none
  | .dit kvs => match k with
    | .tup ks => match keysO ks with
      | some key => some (valG kvs key)
      | none => none
    | _ => none
  | _ => none
theorem keys_valN {G : Gi} {H : Hp} {κ : Type} [DecidableEq κ] {k : κ} : ∀ {kvs : List (κ × V)} {kds : List (κ × D)}, kvs.map (·.1) = kds.map (·.1) → valG kds k = none → valV kvs k = none
  | [], [], _, h => rfl
  | [], _ :: _, e, _ => by simp at e
  | _ :: _, [], e, _ => by simp at e
  | (k1, v1) :: kvs, (k2, d1) :: kds, e, h => by
    simp only [List.map_cons, List.cons.injEq] at e
    obtain ⟨rfl, e⟩ := e
    by_cases hk : k1 = k
    · have : valG ((k1, d1) :: kds) k = some d1 := by simp [valG, List.find?_cons, hk]
      rw [this] at h; cases h
    · rw [valV_neg hk]
      have : valG ((k1, d1) :: kds) k = valG kds k := by simp [valG, List.find?_cons, hk]
      rw [this] at h
      exact keys_valN (G := G) (H := H) e h
noncomputable def RO (G : Gi) (Hf : Hp) : Option V → Option D → Prop
  | none, none => True
  | some v, some d => Rep G Hf v d
  | _, _ => False
theorem val_ro {G : Gi} {H : Hp} {κ : Type} [DecidableEq κ] {k : κ} {kvs : List (κ × V)} {kds : List (κ × D)} (e : kvs.map (·.1) = kds.map (·.1)) (r : Reps G H (kvs.map (·.2)) (kds.map (·.2))) : RO G H (valV kvs k) (valG kds k) := by
  cases h : valG kds k with
  | none => rw [keys_valN (G := G) (H := H) e h]; trivial
  | some d =>
    obtain ⟨v, h1, h2⟩ := keys_val e r d h
    rw [h1]; exact h2
theorem look_ok {G : Gi} {Hf H : Hp} {x y : V} {d k : D} {o : Option D} (s : Same Hf H) (p : PRep G Hf H x d) (q : PRep G Hf H y k) (e : dLook d k = some o) : ∃ a ov, x = .ref a ∧ DGet H a y ov ∧ RO G Hf ov o := by
  unfold dLook at e
  split at e
  · rename_i kds
    split at e
    · rename_i key hk
      cases e
      obtain ⟨a, kvs, rfl, h1, l, r⟩ := p.dict s
      exact ⟨a, _, rfl, .inl ⟨kvs, key, h1, q.key hk, rfl⟩, val_ro l r⟩
    · cases e
  · rename_i kds
    split at e
    · rename_i ks
      split at e
      · rename_i key hk
        cases e
        obtain ⟨a, kvs, rfl, h1, l, r⟩ := p.ditt s
        rcases q with q | ⟨_, _, _, _, t⟩
        · cases q with
          | tup hb hl hr =>
            rename_i b us
            have eu := keysO_reps ⟨hl, hr⟩ hk
            subst eu
            exact ⟨a, _, rfl, .inr ⟨kvs, key, b, h1, rfl, s _ _ hb, rfl⟩, val_ro l r⟩
        · exact t.elim
      · cases e
    · cases e
  · cases e
noncomputable def dGi (d k : D) : RR := match dLook d k with
  | some (some v) => .sh v
  | some none => .no
  | none => dIx d k
noncomputable def dGet (d k : D) : RR := match dLook d k with
  | some (some v) => .sh v
  | _ => .no
theorem s_get2 {G : Gi} : S2 G rGetD dGet := by
  intro Hf H x y d e s p q
  unfold dGet
  split
  · rename_i w hw
    obtain ⟨a, ov, rfl, h1, h2⟩ := look_ok s p q hw
    cases ov with
    | none => exact h2.elim
    | some v => exact fun Q k => ⟨a, v, rfl, h1, k v h2⟩
  · trivial
noncomputable def mAlt (a b : Sm) : Sm := fun e => match a e with
  | .no => b e
  | r => r
theorem se_alt {P : Pl} {e : Expr} {a b : Sm} (h : SE P e a) (g : SE P e b) : SE P e (mAlt a b) := by
  obtain ⟨t, p, f⟩ := h
  obtain ⟨u, p', f'⟩ := g
  refine ⟨fun σ H Q => t σ H Q ∨ u σ H Q, fun X hX => ⟨fun pins s σ H Q I h => ?_⟩, fun n IO H0 Hf σ tv env te H S => ?_⟩
  · rcases h with h | h
    · exact (p X hX).run pins s σ H Q I h
    · exact (p' X hX).run pins s σ H Q I h
  · have h1 := f n IO H0 Hf σ tv env te H S
    have h2 := f' n IO H0 Hf σ tv env te H S
    unfold mAlt
    cases ea : a env with
    | ok s e1 => rw [ea] at h1; exact fun Q q => .inl (h1 Q q)
    | ex c d e1 => rw [ea] at h1; exact fun w Q => .inl (h1 w Q)
    | no =>
      dsimp only
      cases eb : b env with
      | ok s e1 => rw [eb] at h2; exact fun Q q => .inr (h2 Q q)
      | ex c d e1 => rw [eb] at h2; exact fun w Q => .inr (h2 w Q)
      | no => trivial
noncomputable def dAlt (f g : D → D → RR) (d e : D) : RR := match f d e with
  | .no => g d e
  | r => r
theorem m2_alt (f g : D → D → RR) (a b : Sm) : mAlt (m2 f a b) (m2 g a b) = m2 (dAlt f g) a b := by
  funext e
  unfold mAlt m2 mN
  cases el : lCons a (lCons b lNil) e with
  | no => rfl
  | ex c d e1 => rfl
  | ok ss e1 =>
    dsimp only
    cases ed : derefs e1 ss with
    | none => rfl
    | some ds =>
      dsimp only
      match ds with
      | [] => rfl
      | [_] => rfl
      | _ :: _ :: _ :: _ => rfl
      | [d, k] =>
        show (match (f d k).ans e1 with | .no => (g d k).ans e1 | r => r) = (dAlt f g d k).ans e1
        unfold dAlt
        cases f d k <;> rfl
theorem dGi_eq : dAlt dGet dIx = dGi := by
  funext d k
  unfold dAlt dGi dGet
  cases e : dLook d k with
  | none => rfl
  | some o => cases o with
    | none =>
      dsimp only
      unfold dLook at e
      split at e
      · unfold dIx; split <;> rfl
      · unfold dIx; split <;> rfl
      · cases e
    | some v => rfl
section
variable {P : Pl} {N : List Str} {sc : Scope} {mg : Str → Option Value}
theorem se_get2 (fr : Fra P N sc mg) {a b : Expr} {pos : Pos} {ma mb : Sm} (ha : SE P a ma) (hb : SE P b mb) (hs : NoSl b) : SE P (.Subscript a b pos) (m2 dGet ma mb) :=
  let ⟨_, p, e⟩ := ha; let ⟨_, q, g⟩ := hb; ⟨_, fun X hX => pe_dget (by have := fr.hu X hX; omega) (p X hX) (q X hX) hs, ev_2 (r := rGetD) s_get2 e g⟩
theorem se_sub2 (fr : Fra P N sc mg) {a b : Expr} {pos : Pos} {ma mb : Sm} (ha : SE P a ma) (hb : SE P b mb) (hs : NoSl b) (hs' : PlainIx b) : SE P (.Subscript a b pos) (m2 dGi ma mb) := by
  rw [← dGi_eq, ← m2_alt]
  exact se_alt (se_get2 fr ha hb hs) (se_ix fr ha hb hs')

/-! ### in -/
noncomputable def dInT (neg : Bool) (d e : D) : RR := match d, e with
  | .str z, .tup xs => match strsD xs with
    | some zs => .sh (.bl (if neg then !cdec (z ∈ zs) else cdec (z ∈ zs)))
    | none => .no
  | _, _ => .no
noncomputable def dInD (neg : Bool) (d e : D) : RR := match dLook e d with
  | some o => .sh (.bl (if neg then !o.isSome else o.isSome))
  | none => .no
noncomputable def dIn (neg : Bool) : D → D → RR := dAlt (dInD neg) (dAlt (dInT neg) (dInL neg))
theorem in_strs (z : Str) : ∀ zs : List Str, inV (.str z) (zs.map V.str) = decide (z ∈ zs)
  | [] => rfl
  | y :: zs => by
    have ih := in_strs z zs
    unfold inV at ih ⊢
    rw [List.map_cons, List.any_cons, ih]
    show ((y == z) || _) = _
    by_cases h : y = z
    · subst h; simp
    · have h2 : ¬ z = y := fun e => h e.symm
      simp [h, h2]
theorem flat_strs (zs : List Str) : (zs.map V.str).all flatV = true := by
  rw [List.all_map, List.all_eq_true]
  intro x _
  rfl
theorem s_inT {G : Gi} (neg : Bool) : S2 G (rIn G.K neg) (dInT neg) := by
  intro Hf H x y d e s p q
  unfold dInT
  split
  · rename_i z xs
    split
    · rename_i zs hz
      obtain ⟨a, us, rfl, h1, r⟩ := q.tupl s (ds := xs) rfl
      have hx := p.str
      subst hx
      rw [strs_reps hz r] at h1
      refine fun Q k => ⟨a, _, rfl, .inr h1, rfl, flat_strs zs, ?_⟩
      rw [in_strs, ← cdec_eq]
      exact k _ .bl
    · trivial
  · trivial
noncomputable def rInDc (neg : Bool) : R2 := fun y x H Q => ∃ a o, x = .ref a ∧ DGet H a y o ∧ Q (.bl (if neg then !o.isSome else o.isSome)) H
theorem op_inDc {X : Cx} (hu : X.A.units + 1 < cLine) : OpR X (compareOp .In) (rInDc false) := by
  intro pins s σ H x y v u Q I rx ry h
  obtain ⟨a, o, rfl, g, q⟩ := h
  cases ry
  exact d_in hu I g rx fun s' I' => ⟨.bl o.isSome, H, I', rfl, q⟩
theorem ro_some {G : Gi} {Hf : Hp} {ov : Option V} {o : Option D} (h : RO G Hf ov o) : ov.isSome = o.isSome := by
  cases ov <;> cases o <;> first | rfl | exact h.elim
theorem s_inDc {G : Gi} (neg : Bool) : S2 G (rInDc neg) (dInD neg) := by
  intro Hf H x y d e s p q
  unfold dInD
  split
  · rename_i o ho
    obtain ⟨a, ov, rfl, h1, h2⟩ := look_ok s q p ho
    rw [← ro_some h2]
    exact fun Q k => ⟨a, ov, rfl, h1, k _ .bl⟩
  · trivial
theorem S2.alt {G : Gi} {r r' : R2} {f g : D → D → RR} (h : S2 G r f) (h' : S2 G r' g) : S2 G (fun x y H Q => r x y H Q ∨ r' x y H Q) (dAlt f g) := by
  intro Hf H x y d e s p q
  unfold dAlt
  have h1 := h Hf H x y d e s p q
  have h2 := h' Hf H x y d e s p q
  split
  · exact h2.imp fun Q z => .inr z
  · exact h1.imp fun Q z => .inl z
theorem s_inA {G : Gi} : S2 G (fun x y H Q => rInDc false x y H Q ∨ (rIn G.K false x y H Q ∨ rInD G.K x y H Q)) (dIn false) := S2.alt (s_inDc false) (S2.alt (s_inT false) s_in)
theorem op_inA {X : Cx} (hu : X.A.units + 65 < cLine) : OpR X (compareOp .In) (fun x y H Q => rInDc false x y H Q ∨ (rIn X.K false x y H Q ∨ rInD X.K x y H Q)) := (op_inDc (by omega)).or (op_in_seq.or (op_inD hu))
theorem se_in (fr : Fra P N sc mg) {a b : Expr} {pos : Pos} {ma mb : Sm} (ha : SE P a ma) (hb : SE P b mb) (hm : behindInMarks .In b = false) : SE P (.Compare a [.In] [b] pos) (m2 (dIn false) ma mb) :=
  se_cmpR (fun X hX => (fr.K X hX) ▸ op_inA (fr.hu X hX)) s_inA ha hb hm
theorem st_in (fr : Fra P N sc mg) {a b : Expr} {pos : Pos} {ma mb : Sm} (ha : SE P a ma) (hb : SE P b mb) (hm : behindInMarks .In b = false) : ST P (.Compare a [.In] [b] pos) (mBl (m2 (dIn false) ma mb)) :=
  st_cmpR (fun X hX => (fr.K X hX) ▸ op_inA (fr.hu X hX)) s_inA ha hb hm
/-! ### is None -/
noncomputable def isN : D → Bool
  | .non => true
  | _ => false
noncomputable def dIs (neg : Bool) (d e : D) : RR := match e with
  | .non => .sh (.bl (if neg then !isN d else isN d))
  | _ => .no
theorem PRep.isN {G : Gi} {Hf H : Hp} {v : V} {d : D} (p : PRep G Hf H v d) : decide (v = .non) = isN d := by
  rcases p with p | ⟨a, o, rfl, _, t⟩
  · cases p <;> simp [VM.isN]
  · cases d <;> first | (exact t.elim) | simp [VM.isN]
theorem s_is {G : Gi} : S2 G (fun x y H Q => y = .non ∧ Q (.bl (decide (x = .non))) H) (dIs false) := by
  intro Hf H x y d e s p q
  unfold dIs
  split
  · exact fun Q k => ⟨q.non, by rw [p.isN]; exact k _ .bl⟩
  · trivial
theorem st_is {a b : Expr} {pos : Pos} {ma mb : Sm} (ha : SE P a ma) (hb : SE P b mb) (hm : behindInMarks .Is b = false) : ST P (.Compare a [.Is] [b] pos) (mBl (m2 (dIs false) ma mb)) := st_cmpR (fun _ _ => op_isN) s_is ha hb hm
end
end VM

/-! VNO: d.get(k), d.get(k, x); list(range(n)); len(set(l)); sum; list(d), dict(..), len(d) -/
namespace VM
open PySem PySem.Spec PyProof.Rows L2

noncomputable def mRM (c : D → Bool) (f : List D → RR) (o : Sm) (l : Lm) : Sm := fun e => match o e with
  | .ok s e1 => match deref e1 s with
    | some d => if c d then match l e1 with
        | .ok ss e2 => match derefs e2 (s :: ss) with
          | some ds => (f ds).ans e2
          | none => .no
        | .ex c d e2 => .ex c d e2
        | .no => .no
      else .no
    | none => .no
  | .ex c d e1 => .ex c d e1
  | .no => .no
theorem a_mRM (c : D → Bool) (f : List D → RR) (o : Sm) (l : Lm) (e : Env) : mRM c f o l e = (match o e with
  | .ok s e1 => match deref e1 s with
    | some d => if c d then match l e1 with
        | .ok ss e2 => match derefs e2 (s :: ss) with
          | some ds => (f ds).ans e2
          | none => .no
        | .ex c d e2 => .ex c d e2
        | .no => .no
      else .no
    | none => .no
  | .ex c d e1 => .ex c d e1
  | .no => .no : Ans) := rfl
section
variable {P : Pl} {N : List Str} {sc : Scope} {mg : Str → Option Value}
noncomputable def isFlat : D → Bool
  | .lst _ => false
  | .dic _ => false
  | .dit _ => false
  | .ins _ _ => false
  | _ => true
theorem PRep.flat {G : Gi} {Hf H : Hp} {v : V} {d : D} (p : PRep G Hf H v d) (h : isFlat d = true) : Rep G Hf v d := by
  rcases p with p | ⟨_, _, _, _, t⟩
  · exact p
  · cases d <;> first | (exact t.elim) | cases h
/-! ### list(d), dict(d), dict(pairs), len(d) -/
noncomputable def kD : Key → D
  | .inl i => .int i
  | .inr z => .str z
noncomputable def dAlt1 (f g : D → RR) (d : D) : RR := match f d with
  | .no => g d
  | r => r
noncomputable def dListK : D → RR
  | .dic kds => .ow (.lst (kds.map fun kd => kD kd.1))
  | _ => .no
noncomputable def dListA : D → RR := dAlt1 dListK dList
end
end VM

/-! VNP: more methods of a variable -/
namespace VM
open PySem PySem.Spec PyProof.Rows L2

section
variable {P : Pl} {N : List Str} {sc : Scope} {mg : Str → Option Value}
end
end VM

/-! VNQ: a dict in a field, filled where it stands: o.f = {} and for ..: o.f[k] = e -/
namespace VM
open PySem PySem.Spec PyProof.Rows L2

noncomputable def rawZ (p : Addr) : Str := ⟨#[p]⟩
structure GP where
  mv : Sm
  mC : Sm
  mkey : Sm
section
variable {P : Pl} {n : Nat} {IO : En} {H0 Hf H : Hp} {σ tv tv1 : L2.St} {env te te1 : Env} {N : List Str} {sc : Scope} {mg : Str → Option Value}
end
end VM

/-! VNR: the loop that fills, the end of it -/
namespace VM
open PySem PySem.Spec PyProof.Rows L2

section
variable {P : Pl} {n : Nat} {IO : En} {H0 Hf H : Hp} {σ tv tv1 : L2.St} {env te te1 : Env} {N : List Str} {sc : Scope} {mg : Str → Option Value}
end
end VM

/-! VNS: x = {'a': {}, 'b': {}} and for ..: x['a'][k] = e; x['b'][k] = e -/
namespace VM
open PySem PySem.Spec PyProof.Rows L2

section
variable {P : Pl} {n : Nat} {IO : En} {H0 Hf H : Hp} {σ tv tv1 : L2.St} {env te te1 : Env} {N : List Str} {sc : Scope} {mg : Str → Option Value}
end
end VM

/-! VNT: words for the plain part: texts as rows of signs, dicts, slices, sorted -/
namespace VM
open PySem PySem.Spec PyProof.Rows L2

/-! ### texts -/
noncomputable def tx (l : List Nat) : Str := ⟨l.toArray⟩
theorem tx_inj {a b : List Nat} (h : tx a = tx b) : a = b := by
  have := congrArg (fun z : Str => z.cps.toList) h
  simpa [tx] using this
theorem tx_app (a b : List Nat) : tx a ++ tx b = tx (a ++ b) := by
  show (⟨a.toArray ++ b.toArray⟩ : Str) = ⟨(a ++ b).toArray⟩
  simp
theorem tx_len (l : List Nat) : (tx l).length = l.length := by
  show l.toArray.size = _
  simp
theorem tx_cut (l : List Nat) (k : Nat) : cutS (tx l) none (some (k : Int)) = tx (l.take k) := by
  unfold cutS tx
  rw [HT.sIx_nat, HT.sIx_none]
  have h : (⟨l.toArray⟩ : Str).length = l.length := tx_len l
  rw [h, Nat.sub_zero, List.drop_zero]
  congr 2
  apply List.take_eq_take_iff.mpr
  simp only [List.size_toArray]
  omega
theorem sl_small {n : Nat} (h : n ≤ 1000) : n ≤ sizeLine := by rw [sizeLine_eq]; omega
theorem dIx_tx (l : List Nat) (i : Nat) (c : Nat) (h : l[i]? = some c) (hl : l.length ≤ 1000) : dIx (.str (tx l)) (.int i) = .sh (.str (tx [c])) := by
  have hlt : i < l.length := lt_of_get h
  have e : L2.atI l (i : Int) = some c := by
    unfold L2.atI
    have : ixN l.length (i : Int) = some i := by
      unfold ixN
      split
      · rename_i h0
        split
        · simp
        · omega
      · omega
    rw [this]
    exact h
  show (if (tx l).length ≤ sizeLine then (match L2.atI (tx l).cps.toList (i : Int) with | some c => RR.sh (.str ⟨#[c]⟩) | none => .no) else .no) = _
  rw [if_pos (by rw [tx_len]; exact sl_small hl)]
  have : (tx l).cps.toList = l := by simp [tx]
  rw [this, e]
  rfl
theorem dAdd_tx (a b : List Nat) (h : a.length + b.length ≤ 1000) : dAdd (.str (tx a)) (.str (tx b)) = .sh (.str (tx (a ++ b))) := by
  show (if (tx a).length + (tx b).length ≤ sizeLine then RR.sh (.str (tx a ++ tx b)) else .no) = _
  rw [tx_len, tx_len, if_pos (sl_small h), tx_app]
theorem fSl_hi_tx (l : List Nat) (k : Nat) (h : l.length ≤ 1000) : fSl false true [.str (tx l), .int k] = .sh (.str (tx (l.take k))) := by
  show sliceD (.str (tx l)) none (some (k : Int)) = _
  show (if cdec ((tx l).length ≤ sizeLine) then RR.sh (.str (cutS (tx l) none (some (k : Int)))) else .no) = _
  rw [cdec_t (by rw [tx_len]; exact sl_small h), tx_cut]
  rfl
theorem cutD_hi {α : Type} (xs : List α) (k : Nat) : cutD xs none (some (k : Int)) = xs.take k := by
  unfold cutD
  rw [HT.sIx_nat, HT.sIx_none, Nat.sub_zero, List.drop_zero]
  apply List.take_eq_take_iff.mpr
  omega
theorem cutD_lo {α : Type} (xs : List α) (k : Nat) : cutD xs (some (k : Int)) none = xs.drop k := by
  unfold cutD
  rw [HT.sIx_nat, HT.sIx_none]
  by_cases h : k ≤ xs.length
  · rw [Nat.min_eq_left h, List.take_of_length_le (by simp)]
  · rw [Nat.min_eq_right (by omega), List.drop_length, List.drop_eq_nil_of_le (by omega)]
    simp
theorem fSl_hi_lst (xs : List D) (k : Nat) : fSl false true [.lst xs, .int k] = .ow (.lst (xs.take k)) := by
  show sliceD (.lst xs) none (some (k : Int)) = _
  show RR.ow (.lst (cutD xs none (some (k : Int)))) = _
  rw [cutD_hi]
theorem fSl_lo_lst (xs : List D) (k : Nat) : fSl true false [.lst xs, .int k] = .ow (.lst (xs.drop k)) := by
  show sliceD (.lst xs) (some (k : Int)) none = _
  show RR.ow (.lst (cutD xs (some (k : Int)) none)) = _
  rw [cutD_lo]
/-! ### d[k], x[i] of what is known -/
theorem dGi_lst (xs : List D) (k : D) : dGi (.lst xs) k = dIx (.lst xs) k := rfl
theorem dGi_frl (xs : List D) (k : D) : dGi (.frl xs) k = dIx (.frl xs) k := rfl
theorem dGi_tup (xs : List D) (k : D) : dGi (.tup xs) k = dIx (.tup xs) k := rfl
theorem dGi_str (z : Str) (k : D) : dGi (.str z) k = dIx (.str z) k := rfl
/-! ### in -/
theorem dIn_lst (neg : Bool) (k : D) (xs : List D) : dIn neg k (.lst xs) = dInL neg k (.lst xs) := by
  unfold dIn dAlt
  cases k <;> rfl
theorem dIn_dic (neg : Bool) (z : Str) (kvs : List (Key × D)) : dIn neg (.str z) (.dic kvs) = .sh (.bl (if neg then !(valG kvs (.inr z)).isSome else (valG kvs (.inr z)).isSome)) := rfl
/-! ### list(..) -/
theorem dListA_lst (xs : List D) : dListA (.lst xs) = .ow (.lst xs) := rfl
theorem dListA_tup (xs : List D) : dListA (.tup xs) = .ow (.lst xs) := rfl
theorem dListA_dic (kds : List (Key × D)) : dListA (.dic kds) = .ow (.lst (kds.map fun kd => kD kd.1)) := rfl
theorem dTuple_lst (xs : List D) : dTuple (.lst xs) = .tp xs := rfl
theorem a_mSortT (l : Lm) (e : Env) : mSortT l e = (match l e with
  | .ok [s] e1 => match deref e1 s with
    | some (.dit kds) => match pairsK kds with
      | some ps => .ok ⟨.ow, .lst ((sortP ps).map pD)⟩ e1
      | none => .no
    | _ => .no
  | .ok _ _ => .no
  | .ex c d e1 => .ex c d e1
  | .no => .no : Ans) := rfl
/-! ### is None -/
theorem dIs_non (neg : Bool) : dIs neg .non .non = .sh (.bl (!neg)) := by cases neg <;> rfl
theorem dIs_lst (neg : Bool) (xs : List D) : dIs neg (.lst xs) .non = .sh (.bl neg) := by cases neg <;> rfl
theorem dIs_tup (neg : Bool) (xs : List D) : dIs neg (.tup xs) .non = .sh (.bl neg) := by cases neg <;> rfl
theorem dIs_int (neg : Bool) (i : Int) : dIs neg (.int i) .non = .sh (.bl neg) := by cases neg <;> rfl
/-! ### kinds -/
theorem isi_str (z : Str) : dIsi (.str z) (.ty "str") = .sh (.bl true) := dIsi_T rfl (by decide +kernel)
theorem isi_tup (xs : List D) : dIsi (.tup xs) (.ty "tuple") = .sh (.bl true) := dIsi_T rfl (by decide +kernel)
theorem isi_lst (xs : List D) : dIsi (.lst xs) (.ty "list") = .sh (.bl true) := dIsi_T rfl (by decide +kernel)
theorem iInts_R {l : Lm} {e e1 : VM.Env} {n : Nat} (h : l e = .ok [⟨.sh, nD n⟩] e1) (hn : n ≤ 1000000) : iInts rng1 l e = .ok ((List.range n).map nD) e1 none := by
  rw [← upto_map]
  exact iInts_g (is := [(n : Int)]) h rfl (rng1_nat hn)
/-! ### tests of which only the kind is known -/
noncomputable def TB (C : Tm) (e : Env) : Prop := ∃ b, C e = .ok b e
theorem TB.and {a b : Tm} {e : Env} (h : TB a e) (g : TB b e) : TB (tmAnd a b) e := by
  obtain ⟨x, hx⟩ := h
  obtain ⟨y, hy⟩ := g
  unfold TB tmAnd
  rw [hx]
  cases x
  · exact ⟨_, rfl⟩
  · exact ⟨_, hy⟩
end VM

/-! VNU: raise C(e); the contexts of a try's body and of its clause; what a clause says of the error it holds -/
namespace VM
open PySem PySem.Spec PyProof.Rows L2

section
variable {P : Pl} {N : List Str} {sc : Scope} {mg : Str → Option Value}
/-! ### a try's body -/
noncomputable def Pl.tr (P : Pl) (W : WX) : Pl := ⟨fun X' => ∃ X pn xe, P.M X ∧ X' = X.tr pn xe ∧ Takes X' W ∧ PassesOwn (model X.prog X.w) X.A X.env xe, P.G, W, P.exc⟩
theorem Fra.tr (fr : Fra P N sc mg) (W : WX) : Fra (P.tr W) N sc mg where
  hN := fun X' ⟨X, pn, xe, h, e, _, _⟩ => by subst e; exact fr.hN X h
  hsc := fun X' ⟨X, pn, xe, h, e, _, _⟩ => by subst e; exact fr.hsc X h
  K := fun X' ⟨X, pn, xe, h, e, _, _⟩ => by subst e; exact fr.K X h
  hmg := fun X' ⟨X, pn, xe, h, e, _, _⟩ => by subst e; exact fr.hmg X h
  calm := fun X' ⟨X, pn, xe, h, e, _, _⟩ => by subst e; exact fr.calm X h
  tk := fun X' ⟨X, pn, xe, h, e, t, _⟩ => t
  pass := fun X' ⟨X, pn, xe, h, e, _, p⟩ => by subst e; exact p
  hu := fun X' ⟨X, pn, xe, h, e, _, _⟩ => by subst e; exact fr.hu X h
  gd := fun X' ⟨X, pn, xe, h, e, _, _⟩ => by subst e; exact fr.gd X h
  nd := fr.nd
/-! ### raise C(e) -/
noncomputable def spEx (C : Addr) (f : Str) : Sp := fun vs H Q _ => ∃ (a : Addr) (y : V), vs = [.ref a, y] ∧ H a = some (exo a C none) ∧
  ∀ dx, H dx = none → dx ≠ a → Q .non (upd (upd H dx (exd dx [(f, y)])) a (exo a C (some dx)))
noncomputable def RzFact (P : Pl) (c : Str) : Prop := ∃ (C : Addr) (f : Str), P.exc c = some (C, f) ∧ ∀ X, P.M X → ∃ fI fd ps k, OexC X.K C ∧ PySem.W.findIn X.K (.ref C) "__init__" = some (some (.ref fI)) ∧
  PySem.W.typeIn X.K (.ref fI) = some (.type "function") ∧ FnOk X.prog X.w X.K X.mg X.base (L2.CX X.prog X.w) k fI fd ps (spEx C f) ∧ Room (k + 1) X.A ∧ X.mg c = some (.ref C) ∧ Binds X.K fd ps []
noncomputable def xRaise (c : Str) (m : Sm) : Sx := ⟨fun e => match mF m e with
  | .ok s e1 => .ex c s.d e1
  | .ex c' d e1 => .ex c' d e1
  | .no => .no, []⟩
theorem evs_raise {C : Addr} {c f : Str} {t : TE} {m : Sm} (hC : P.exc c = some (C, f)) (g : Ev P t m) :
    EvS P (fun _ σ H => tMkO C (spEx C f) [] (tCons t tNil) σ H fun cls d H' => P.W cls d σ H') (xRaise c m) := by
  refine ⟨fun e s e' h => ?_, fun n IO H0 Hf σ tv env te H S nt => ?_⟩
  · unfold xRaise at h
    dsimp only at h
    split at h <;> cases h
  have h1 := ev_F g n IO H0 Hf σ tv env te H S
  unfold xRaise
  dsimp only
  cases em : mF m env with
  | no => trivial
  | ex c' d e1 => rw [em] at h1; exact fun w D => h1 (fun cv dx Hf1 H1 s1 S1 x => w cv dx σ Hf1 H1 s1 AsgOk.refl S1 x) _
  | ok s e1 =>
    rw [em] at h1
    have es := mF_ok em
    refine fun w D => h1 _ fun v Hf1 H1 s1 S1 => ?_
    rw [es] at S1
    have rv := S1.held S.l2
    have S2 := S1.pop
    refine ⟨by show (1 : Nat) ≤ 1000; omega, fun a ha => ⟨a, v, rfl, upd_same, fun dx hdx ne => ?_⟩⟩
    have h0 : H1 dx = none := by rw [upd_ne ne] at hdx; exact hdx
    refine ⟨rfl, dx, [(f, v)], upd_same, by rw [upd_ne ne, upd_same], h0, ?_⟩
    have eH : upd (del (upd (upd (upd H1 a (exo a C none)) dx (exd dx [(f, v)])) a (exo a C (some dx))) a) dx (.xd [(f, v)]) = upd H1 dx (.xd [(f, v)]) := by
      funext b
      by_cases hb : b = dx
      · subst hb; rw [upd_same, upd_same]
      · rw [upd_ne hb, upd_ne hb]
        by_cases hba : b = a
        · subst hba; rw [del_same, ha]
        · rw [del_ne hba, upd_ne hba, upd_ne hb, upd_ne hba]
    rw [eH]
    exact w (.ref C) (some dx) σ Hf1 _ s1 AsgOk.refl (S2.more h0) ⟨C, f, dx, v, hC, rfl, rfl, ⟨upd_same, S2.sr.grow _ h0⟩, rv⟩
theorem ss_raise (fr : Fra P N sc mg) {c : Str} {e : Expr} {p pos pos' : Pos} {m : Sm} (hR : RzFact P c) (hg : sc.names.lookup c = some .globalImplicit) (h : SE P e m) (hs : [e].all notStar = true) (hdb : (c == ("__debug__" : Str)) = false := by decide) :
    SS P (.Raise (some (.Call (.Name c p) [e] [] pos)) none pos') (xRaise c m) := by
  obtain ⟨C, f, hC, g⟩ := hR
  obtain ⟨t, q, fe⟩ := h
  rw [List.all_cons, Bool.and_eq_true] at hs
  refine ⟨_, fun X hX => ?_, evs_raise hC fe⟩
  obtain ⟨fI, fd, ps, k, T, iC, tI, F, hr, hm, hb⟩ := g X hX
  exact ps_raise (fr.calm X hX) (fr.tk X hX) (pmk_oex T iC tI F hr hb .nil passL (fr.gl hg X hX) hm (pa_of (.cons (q X hX) .nil) (by rw [List.all_cons, hs.1]; rfl)) hdb (star_ok hs.1) (star_any (by rfl)))
end
end VM

/-! VNV: what a clause says of the error that it holds -/
namespace VM
open PySem PySem.Spec PyProof.Rows L2

inductive Ext : Hp → Hp → Prop
  | refl {H : Hp} : Ext H H
  | more {H H' : Hp} {p : Addr} {o : HO} (h : Ext H H') (hp : H' p = none) : Ext H (upd H' p o)
theorem Ext.trans {H H' H2 : Hp} (a : Ext H H') (b : Ext H' H2) : Ext H H2 := by
  induction b with
  | refl => exact a
  | more h hp ih => exact .more ih hp
section
variable {P : Pl} {N : List Str} {sc : Scope} {mg : Str → Option Value} {n : Nat} {IO : En} {H0 Hf H H' : Hp} {σ tv : L2.St} {env te : Env}
theorem St0.any (S : St0 P n IO H0 Hf σ tv env te H) (nt : NoAl te) {i : Nat} (hi : env[i]? = some none) (x : Option V) : St0 P n IO H0 Hf (σ.set i x) tv env te H := by
  refine ⟨S.le, by rw [List.length_set]; exact S.ls, S.na, ?_⟩
  have hil := lt_of_get hi
  refine S.sr.select id (by rw [List.length_append, List.length_set, ← List.length_append]; exact S.sr.len) (fun a b _ _ _ _ h => h) (fun j s hs => ⟨hs, ?_⟩) (fun j s hs k => ?_)
  · have hj : i ≠ j := fun z => by
      subst z
      rw [List.getElem?_append_left hil, hi] at hs
      cases hs
    by_cases hl : j < σ.length
    · rw [List.getElem?_append_left (by rw [List.length_set]; exact hl), List.getElem?_set_ne hj]
      show _ = (σ ++ tv)[j]?
      rw [List.getElem?_append_left hl]
    · rw [List.getElem?_append_right (by rw [List.length_set]; omega), List.length_set]
      show _ = (σ ++ tv)[j]?
      rw [List.getElem?_append_right (by omega)]
  · by_cases hl : j < env.length
    · rw [List.getElem?_append_left hl] at hs; exact S.na j s hs k
    · rw [List.getElem?_append_right (by omega)] at hs; exact nt _ s hs k
theorem SR.fixd {G : Gi} (R : SR n G IO H0 Hf σ env H) {p : Addr} {fs : List (Str × V)} (hp : H p = some (.xd fs)) (h0 : H0 p = none) : Same Hf (upd Hf p (.xd fs)) ∧ SR n G IO H0 (upd Hf p (.xd fs)) σ env H := by
  have s : Same Hf (upd Hf p (.xd fs)) := fun b x e => by
    by_cases hb : b = p
    · subst hb; rw [upd_same, ← R.sub b x e, hp]
    · rw [upd_ne hb]; exact e
  have nx : ∀ {q : Addr} {o : HO} {d : D}, H q = some o → TopO G Hf o d → q ≠ p := fun {q o d} e t z => by
    subst z
    rw [hp] at e; cases e
    exact t.mut
  refine ⟨s, fun b x e => ?_, R.keep, R.grow, fun b x e => ?_, R.len, fun i d h => ?_, fun i d h => ?_, fun i d h => ?_, R.ali, R.sep, R.fre.heap s fun a o e m f0 _ _ => ⟨e, by rw [upd_ne (fun z => by subst z; rw [hp] at e; cases e; exact m)]; exact f0⟩⟩
  · by_cases hb : b = p
    · subst hb; rw [upd_same] at e; cases e; exact hp
    · rw [upd_ne hb] at e; exact R.sub b x e
  · by_cases hb : b = p
    · subst hb; exact .inl h0
    · rw [upd_ne hb] at e; exact R.nf b x e
  · obtain ⟨v, e, r⟩ := R.shr i d h
    exact ⟨v, e, r.mono s⟩
  · obtain ⟨q, x, e, a, b, c, t⟩ := R.own i d h
    exact ⟨q, x, e, by rw [upd_ne (nx c t)]; exact a, b, c, t.mono s⟩
  · obtain ⟨q, x, e, a, b, c, t⟩ := R.inout i d h
    exact ⟨q, x, e, by rw [upd_ne (nx c t)]; exact a, b, c, t.mono s⟩
theorem St0.fixd (S : St0 P n IO H0 Hf σ tv env te H) {p : Addr} {fs : List (Str × V)} (hp : H p = some (.xd fs)) (h0 : H0 p = none) : Same Hf (upd Hf p (.xd fs)) ∧ St0 P n IO H0 (upd Hf p (.xd fs)) σ tv env te H :=
  let ⟨s, R⟩ := S.sr.fixd hp h0; ⟨s, S.le, S.ls, S.na, R⟩

/-! ### the clause's contexts -/
noncomputable def Pl.su (P : Pl) (a : Addr) (cls : Value) (d : Option Addr) : Pl := ⟨fun X' => ∃ X oe pn, P.M X ∧ X' = X.suite a ((a, oe) :: pn) ∧ Zc cls d oe ∧ (∃ vs, oe.data = .fields vs), P.G, fun _ _ _ _ => False, P.exc⟩
noncomputable def SuV (P : Pl) (i : Nat) (e : Expr) (E : Str → D → Option D) : Prop := ∀ (c f : Str) (C : Addr), P.exc c = some (C, f) → ∀ (d r : D), E c d = some r → ∀ (a dd : Addr), ∃ t : TE, (∀ X, (P.su a (.ref C) (some dd)).M X → PE X e t) ∧
  ∀ (σ : L2.St) (Hf H : Hp) (v : V) (Q : VK), Same Hf H → σ[i]? = some (some (.ref a)) → Hf dd = some (.xd [(f, v)]) → Rep P.G Hf v d → (∀ w H', Ext H H' → Rep P.G Hf w r → Q w H') → t σ H Q
noncomputable def ExFld (P : Pl) (FE : List (Str × Str)) : Prop := ∀ c g, FE.lookup c = some g → ∀ C f, P.exc c = some (C, f) → f = g ∧ XfC P.G.K C ∧ PySem.W.findIn P.G.K (.ref C) g = some none
noncomputable def NamC (mg : Str → Option Value) (y : Str) (w : V) (u : Value) : Prop := (∃ U : Addr, w = .ref U ∧ u = .ref U ∧ mg y = some (.ref U)) ∨ (∃ T : String, w = .ty T ∧ u = .type T ∧ mg y = none ∧ bootBuiltins y = some (.type T) ∧ y ≠ "__name__")
structure ExIs (P : Pl) (mg : Str → Option Value) (CE : List ((Str × Str) × Bool)) : Prop where
  ok : ∀ c y b, CE.lookup (c, y) = some b → ∀ C f, P.exc c = some (C, f) → ExcC P.G.K C ∧ (PySem.W.clsIn P.G.K C).isSome = true ∧ ∃ w u, NamC mg y w u ∧ PySem.W.kitOne P.G.K (.ref C) u = some b ∧ PySem.W.exmOne P.G.K (.ref C) u = some b
/-! ### several things, displays -/
inductive SuVs (P : Pl) (i : Nat) : List Expr → List (Str → D → Option D) → Prop
  | nil : SuVs P i [] []
  | cons {e es E Es} : SuV P i e E → SuVs P i es Es → SuVs P i (e :: es) (E :: Es)
end
end VM

/-! VNW: a clause's statements; try with one clause that names its error -/
namespace VM
open PySem PySem.Spec PyProof.Rows L2

section
variable {P : Pl} {N : List Str} {sc : Scope} {mg : Str → Option Value} {n : Nat} {IO : En} {H0 Hf H H' : Hp} {σ tv : L2.St} {env te : Env}
structure Su where
  run : Str → D → Env → Option Env
  asg : List Nat
noncomputable def EvSJ (P : Pl) (i : Nat) (a dd : Addr) (f : Str) (d : D) (t : TS) (asg : List Nat) (r : Env → Option Env) : Prop := ∀ n IO H0 Hf σ tv env te H v, St0 P n IO H0 Hf σ tv env te H → NoAl te → σ[i]? = some (some (.ref a)) → Hf dd = some (.xd [(f, v)]) → Rep P.G Hf v d → match r env with
  | some e => ∀ D : Ends, (∀ σ' Hf' H', Same Hf Hf' → AsgOk asg σ σ' → St0 P n IO H0 Hf' σ' tv e te H' → D.nx σ' H') → t D σ H
  | none => True
noncomputable def SuS (P : Pl) (i : Nat) (sts : List Stmt) (S : Su) : Prop := ∀ (c f : Str) (C : Addr), P.exc c = some (C, f) → ∀ (d : D) (a dd : Addr), ∃ t : TS, (∀ X, (P.su a (.ref C) (some dd)).M X → PSs X sts t) ∧ EvSJ P i a dd f d t S.asg (S.run c d)
end
end VM

/-! VNX: an error class whose __init__ hands a text to HeapError's and keeps the one field -/
namespace VM
open PySem PySem.Spec PyProof.Rows L2

noncomputable def HeC (K : PySem.W.Frag) (mg : Str → Option Value) : Prop := ∃ B : Addr, mg "HeapError" = some (.ref B) ∧ PySem.W.specialIn K (.ref B) "__getattribute__" = some (some (.builtin "type.__getattribute__")) ∧
  PySem.W.readsIn K B (.type "type") = true ∧ PySem.W.findCls K (.ref B) (.type "type") "__init__" = some (.val (.builtin "ValueError.__init__"))
section
variable {X : Cx} {e : Expr} {es : List Expr} {ta : TA} {p1 p2 pos : Pos}
theorem pe_heinit (h : HeC X.K X.mg) (hg : Gl X "HeapError") (ha : PA X (e :: es) ta)
    (hc : ∃ pl : Sem Bool, eval (.Call (.Attribute (.Name "HeapError" p1) "__init__" p2) (e :: es) [] pos) X.env = (do
      let ov ← eval (.Name "HeapError" p1) X.env
      standAt p2.atName
      let (f, first) ← holding [ov] (getMethod ov "__init__" pl)
      callWith pos f first (backTo pos (starEach (e :: es) X.env)) (backToKw pos (keywordEach [] X.env))))
    (he : starEach (e :: es) X.env = (false, eval e X.env) :: starEach es X.env) (hpl : (backTo pos (starEach es X.env)).any (·.1) = false) :
    PE X (.Call (.Attribute (.Name "HeapError" p1) "__init__" p2) (e :: es) [] pos) (tVeI X.K ta) := by
  obtain ⟨B, hm, h1, h2, h3⟩ := h
  obtain ⟨pl, hc⟩ := hc
  refine ⟨fun pins s σ H Q I h => ?_⟩
  refine PySem.W.methodCall_KW (ld_glob I hg hm (PySem.W.method_cls I.kIn h1 (PySem.W.cls_value I.kIn h2 h3 (by decide +kernel) ?_)) (by decide)) hc
  show wpAny _ _ (callWith pos (Value.builtin "ValueError.__init__") [] (backTo pos (starEach (e :: es) X.env)) []) _ _ _
  refine PyProof.Rows.callWith_method1 (thn (ha.run pos pins _ σ H _ (I.tok _) h) fun us s1 ⟨vs, H1, I1, r1, a, C, ws, ev, hl, T, ea, q⟩ => ?_) he hpl
  subst ev
  cases r1 with
  | @cons _ u0 _ ur ra rw' =>
    obtain rfl : u0 = Value.ref a := ra
    have hlen : ur.length ≤ sizeLine := by
      rw [← Paired.length rw', sizeLine_eq]
      omega
    exact oinit_ok T I1 ea hlen fun s' J => ⟨.non, H1, J, rfl, q⟩
end

theorem exInit_ok {prog : Program} {w : World} {K : PySem.W.Frag} {mg : Str → Option Value} {base : Heap} {qual z fl pn : Str} {st : Stmt} {fI C : Addr} {fd : FuncData} {k kk : Nat} {p1 p2 p3 p4 p5 p6 p7 p8 p9 p10 : Pos}
    (hT : OexC K C) (hno : PySem.W.findIn K (.ref C) fl = some none) (hH : HeC K mg) {x : Str} (F : Fun K x qual st fI fd) (S : FnScope ["self", pn] ["self", pn] (defScope st))
    (hb : defBody st = [.Expr (.Call (.Attribute (.Name "HeapError" p1) "__init__" p2) [.Name "self" p3, .Constant (.str z) kk p4] [] p5) p6, .Assign [.Attribute (.Name "self" p7) fl p8] (.Name pn p9) p10])
    (hg : (defScope st).names.lookup ("HeapError" : Str) = some .globalImplicit) (hs : (defScope st).names.lookup ("self" : Str) = some .local) (hp : (defScope st).names.lookup pn = some .local)
    (hd : (pn == ("__debug__" : Str)) = false) (hcd : (pn == ("__classdict__" : Str)) = false)
    (hev : ∀ env, ∃ pl : Sem Bool, eval (.Call (.Attribute (.Name "HeapError" p1) "__init__" p2) [.Name "self" p3, .Constant (.str z) kk p4] [] p5) env = (do
      let ov ← eval (.Name "HeapError" p1) env
      standAt p2.atName
      let (f, first) ← holding [ov] (getMethod ov "__init__" pl)
      callWith p5 f first (backTo p5 (starEach [.Name "self" p3, .Constant (.str z) kk p4] env)) (backToKw p5 (keywordEach [] env)))) :
    FnOk prog w K mg base (L2.CX prog w) (k + 1) fI fd ["self", pn] (spEx C fl) := by
  refine F.okX S (fun vs H Q E ⟨a, y, e, _⟩ => by rw [e]; rfl) fun cdv A outer s H vs Q E hr h => ?_
  obtain ⟨a, y, rfl, ha, q⟩ := h
  rw [hb]
  have v0 : PE (cxOf (L2.CX prog w) prog w K mg base ["self", pn] qual (defScope st) fI cdv A outer s H E) (.Name "self" p3) (tVar 0) := pe_var rfl (.inl hs)
  have v0' : PE (cxOf (L2.CX prog w) prog w K mg base ["self", pn] qual (defScope st) fI cdv A outer s H E) (.Name "self" p7) (tVar 0) := pe_var rfl (.inl hs)
  have v1 : PE (cxOf (L2.CX prog w) prog w K mg base ["self", pn] qual (defScope st) fI cdv A outer s H E) (.Name pn p9) (tVar 1) := pe_var rfl (.inl hp) hd hcd
  refine ⟨_, pss_cons (ps_expr (pe_heinit hH hg (pa_of (.cons v0 (.cons pe_str .nil)) (by rfl)) (hev _) (by rfl) (by rfl))) (pss_cons (ps_ost v0' v1) pss_nil), ?_⟩
  refine ⟨.ref a, rfl, ?_⟩
  refine ⟨a, C, [.str z], rfl, by simp, hT, ha, ?_⟩
  refine ⟨y, rfl, .ref a, rfl, a, C, rfl, hT, hno, .inl ⟨ha, fun dx hdx ne => q dx hdx ne⟩⟩
/-! ### the errors of a text, by their fields -/
noncomputable def excOf (FE : List (Str × Str)) (K : PySem.W.Frag) : Str → Option (Addr × Str) := fun c => (FE.lookup c).bind fun f => (clsAt K c).map fun C => (C, f)
theorem excOf_at {FE : List (Str × Str)} {K : PySem.W.Frag} {c f : Str} {C : Addr} (h : FE.lookup c = some f) (hC : clsAt K c = some C) : excOf FE K c = some (C, f) := by
  unfold excOf
  rw [h, hC]
  rfl
theorem excOf_inv {FE : List (Str × Str)} {K : PySem.W.Frag} {c f : Str} {C : Addr} (h : excOf FE K c = some (C, f)) : FE.lookup c = some f ∧ clsAt K c = some C := by
  unfold excOf at h
  cases e1 : FE.lookup c with
  | none => rw [e1] at h; cases h
  | some g =>
    cases e2 : clsAt K c with
    | none => rw [e1, e2] at h; cases h
    | some D => rw [e1, e2] at h; cases h; exact ⟨rfl, rfl⟩
theorem ExFld.of {P : Pl} {FE : List (Str × Str)} {K : PySem.W.Frag} (hG : P.G.K = K) (he : P.exc = excOf FE K) (h : ∀ p ∈ FE, ∃ C, clsAt K p.1 = some C ∧ XfC K C ∧ PySem.W.findIn K (.ref C) p.2 = some none) : ExFld P FE := by
  subst hG
  intro c g hl C f hC
  rw [he] at hC
  obtain ⟨h1, h2⟩ := excOf_inv hC
  rw [hl] at h1
  cases h1
  obtain ⟨C', h3, h4, h5⟩ := h (c, g) (lookup_mem hl)
  rw [h2] at h3
  cases h3
  exact ⟨rfl, h4, h5⟩
theorem ExIs.of {P : Pl} {mg : Str → Option Value} {FE : List (Str × Str)} {CE : List ((Str × Str) × Bool)} {K : PySem.W.Frag} (hG : P.G.K = K) (he : P.exc = excOf FE K)
    (h : ∀ p ∈ CE, ∃ C, clsAt K p.1.1 = some C ∧ ExcC K C ∧ (PySem.W.clsIn K C).isSome = true ∧ ∃ w u, NamC mg p.1.2 w u ∧ PySem.W.kitOne K (.ref C) u = some p.2 ∧ PySem.W.exmOne K (.ref C) u = some p.2) : ExIs P mg CE := by
  subst hG
  refine ⟨fun c y b hl C f hC => ?_⟩
  rw [he] at hC
  obtain ⟨C', h3, h4⟩ := h ((c, y), b) (lookup_mem hl)
  rw [(excOf_inv hC).2] at h3
  cases h3
  exact h4
theorem clsIn_exc {K : PySem.W.Frag} {C N : Addr} {nm q : Str} {bs bm : List Value} {hd : Bool} {sn : List Str} {sub : List Value} {ab : Bool} {col : Option Bool} {dd : Option Addr} {k0 k1 k2 k3 k5 : Option Value} {nid : String} (h : K.lookup C = some (excClassObj nm q C N bs bm hd sn sub ab col dd k0 k1 k2 k3 k5 nid)) : (PySem.W.clsIn K C).isSome = true := by
  unfold PySem.W.clsIn
  rw [h] <;> rfl
theorem AtX.rz {P : Pl} {prog : Program} {w : World} {K : PySem.W.Frag} {mg : Str → Option Value} {base : Heap} {k j : Nat} {fI C : Addr} {fd : FuncData} {ps : List Str} {c f : Str} (A : AtX P prog w K mg base k) (hC : P.exc c = some (C, f)) (T : OexC K C) (iC : PySem.W.findIn K (.ref C) "__init__" = some (some (.ref fI)))
    (tI : PySem.W.typeIn K (.ref fI) = some (.type "function")) (F : FnOk prog w K mg base (L2.CX prog w) j fI fd ps (spEx C f)) (hj : j + 1 ≤ k) (hm : mg c = some (.ref C)) (hb : Binds K fd ps []) : RzFact P c := ⟨C, f, hC, fun X hX => by
  obtain ⟨rfl, rfl, rfl, rfl, rfl, hr⟩ := A X hX
  exact ⟨fI, fd, ps, j, T, iC, tI, F, hr.rm.mono hj, hm, hb⟩⟩
end VM

/-! VNY: repr of data that hold data -/
namespace VM
open PySem PySem.Spec PyProof.Rows L2

section
variable {G : Gi} {prog : Program} {w : World} {h : Heap}
noncomputable def CallSh (prog : Program) (w : World) (h : Heap) (u : Value) (p : PyData) : Prop := p.shown.length ≤ sizeLine → ∀ (A : Around) (E : Value → Shared → Prop) (s : Shared) (Q : Value → Shared → Prop), A.guards = some [] → A.units + (p.depth + 2) < cLine →
  (∀ b o, h.get? b = some o → s.heap.get? b = some o) → (∀ h' t tk, (∀ b o, s.heap.get? b = some o → h'.get? b = some o) → Q (.str p.shown t) { s with heap := h', toks := tk }) → wpAny (model prog w) A (call (.builtin "repr") [u]) Q E s
noncomputable def ShU (prog : Program) (w : World) (h : Heap) (u : Value) (p : PyData) : Prop := (∃ as, Reads h u p as) ∧ (∃ bs, ReadAtMost h p.depth bs ∧ ReprK prog w bs h p.depth u p.shown) ∧ CallSh prog w h u p
noncomputable def ShAll (prog : Program) (w : World) (h : Heap) (us : List Value) (ps : List PyData) : Prop := (∃ as, ReadsAll h us ps as) ∧ ∃ bs, ReadAtMost h (PyData.depthAll ps) bs ∧ ReprAllK prog w bs h (PyData.depthAll ps) us (PyData.shownAll ps)
theorem ShAll.nil : ShAll prog w h [] [] := ⟨⟨_, .nil⟩, [], (fun _ m => nomatch m), by simp only [PyData.shownAll]; exact .nil⟩
theorem ShAll.cons {u : Value} {us : List Value} {p : PyData} {ps : List PyData} (a : ShU prog w h u p) (b : ShAll prog w h us ps) : ShAll prog w h (u :: us) (p :: ps) := by
  obtain ⟨⟨as, r⟩, ⟨b1, m1, k1⟩, _⟩ := a
  obtain ⟨⟨bs, rs⟩, b2, m2, k2⟩ := b
  have e1 : p.depth ≤ PyData.depthAll (p :: ps) := by simp only [PyData.depthAll]; exact Nat.le_max_left _ _
  have e2 : PyData.depthAll ps ≤ PyData.depthAll (p :: ps) := by simp only [PyData.depthAll]; exact Nat.le_max_right _ _
  refine ⟨⟨_, .cons r rs⟩, b1 ++ b2, (m1.mono e1).append (m2.mono e2), ?_⟩
  simp only [PyData.shownAll]
  exact .cons ((k1.more fun c hc => List.mem_append_left _ hc).level_le e1) (k2.more_le (fun c hc => List.mem_append_right _ hc) e2)
theorem ShU.list {a : Addr} {o : Obj} {us : List Value} {n : Nat} {ps : List PyData} (h1 : h.get? a = some o) (h2 : o.cls = .type "list") (h3 : o.data = .seq us.toArray n) (s : ShAll prog w h us ps) : ShU prog w h (.ref a) (.list ps) := by
  obtain ⟨⟨as, r⟩, bs, mb, k⟩ := s
  have rd : Reads h (.ref a) (.list ps) _ := .list h1 h2 h3 r
  have na : a ∉ bs := not_mem_of_deeper rd (by simp only [PyData.depth]; omega) mb
  refine ⟨⟨_, rd⟩, ⟨a :: bs, .cons rd (by simp only [PyData.depth]; omega) mb, ?_⟩, fun z A E s Q hg hu hk q => ?_⟩
  rotate_left
  · simp only [PyData.depth] at hu
    simp only [PyData.shown] at q z
    refine call_repr_slot (by omega) ⟨o, hk _ _ h1, h2⟩ F.slot_list_repr.toG ?_
    cases us with
    | nil =>
      cases r
      simp only [PyData.shownAll, listText_nil] at q
      exact call_list_repr_empty ⟨o, hk _ _ h1, h2⟩ (hk _ _ h1) h3 ⟨_, _, rfl, q s.heap _ _ fun _ _ e => e⟩
    | cons y ys =>
      exact call_list_reprK h1 h2 h3 na (by simpa using k.length_eq) (fun i z e => k.item i z (by simpa using e)) hg (fun b _ => Clear.nil b) (by show A.units + 1 + _ < _; omega) hk (fun h' t tk kk => ⟨_, _, rfl, q h' t tk kk⟩) z
  simp only [PyData.depth, PyData.shown]
  cases us with
  | nil =>
    cases r
    simp only [PyData.shownAll, listText_nil]
    exact .listEmpty h1 h2 h3
  | cons y ys => exact .list h1 h2 h3 na (by simpa using k.length_eq) fun i z e => k.item i z (by simpa using e)
theorem ShU.tuple {a : Addr} {o : Obj} {us : List Value} {n : Nat} {ps : List PyData} (h1 : h.get? a = some o) (h2 : o.cls = .type "tuple") (h3 : o.data = .seq us.toArray n) (s : ShAll prog w h us ps) : ShU prog w h (.ref a) (.tuple ps) := by
  obtain ⟨⟨as, r⟩, bs, mb, k⟩ := s
  have rd : Reads h (.ref a) (.tuple ps) _ := .tuple h1 h2 h3 r
  have na : a ∉ bs := not_mem_of_deeper rd (by simp only [PyData.depth]; omega) mb
  refine ⟨⟨_, rd⟩, ⟨a :: bs, .cons rd (by simp only [PyData.depth]; omega) mb, ?_⟩, fun z A E s Q hg hu hk q => ?_⟩
  · simp only [PyData.depth, PyData.shown]
    exact .tuple h1 h2 h3 na k
  · simp only [PyData.depth] at hu
    simp only [PyData.shown] at q z
    exact call_repr_slot (by omega) ⟨o, hk _ _ h1, h2⟩ F.slot_tuple_repr (call_tuple_reprK h1 h2 h3 na k hg (fun b _ => Clear.nil b) (by show A.units + 1 + _ < _; omega) hk (fun h' t tk kk => ⟨_, _, rfl, q h' t tk kk⟩) z)
theorem ShU.dict {a : Addr} {o : Obj} {es : Array DictEntry} {n : Nat} {kps : List (PyData × PyData)} (h1 : h.get? a = some o) (h2 : o.cls = .type "dict") (h3 : o.data = .dict es n) (hs : (a == sysModules) = false)
    (sk : ShAll prog w h (es.toList.map (·.key)) (kps.map (·.1))) (sv : ShAll prog w h (es.toList.map (·.val)) (kps.map (·.2))) : ShU prog w h (.ref a) (.dict kps) := by
  obtain ⟨⟨as, r⟩, b1, m1, k1⟩ := sk
  obtain ⟨⟨bs, rs⟩, b2, m2, k2⟩ := sv
  have rd : Reads h (.ref a) (.dict kps) _ := .dict h1 h2 h3 r rs
  have l1 := PyData.depthAll_keys_le kps
  have l2 := PyData.depthAll_vals_le kps
  have mb : ReadAtMost h (PyData.depthKv kps) (b1 ++ b2) := (m1.mono l1).append (m2.mono l2)
  have na : a ∉ b1 ++ b2 := not_mem_of_deeper rd (by simp only [PyData.depth]; omega) mb
  refine ⟨⟨_, rd⟩, ⟨a :: (b1 ++ b2), .cons rd (by simp only [PyData.depth]; omega) mb, ?_⟩, fun z A E s Q hg hu hk q => ?_⟩
  rotate_left
  · simp only [PyData.depth] at hu
    simp only [PyData.shown, PyData.shownKv_eq] at q z
    exact call_repr_slot (by omega) ⟨o, hk _ _ h1, h2⟩ F.slot_dict_repr (call_dict_reprK h1 h2 h3 hs na (.of_two es.toList _ _ (k1.more_le (fun c hc => List.mem_append_left _ hc) l1) (k2.more_le (fun c hc => List.mem_append_right _ hc) l2)) hg (fun b _ => Clear.nil b)
      (by show A.units + 1 + _ < _; omega) hk (fun h' t tk kk => ⟨_, _, rfl, q h' t tk kk⟩) z)
  simp only [PyData.depth, PyData.shown, PyData.shownKv_eq]
  exact .dict h1 h2 h3 hs na (.of_two es.toList _ _ (k1.more_le (fun c hc => List.mem_append_left _ hc) l1) (k2.more_le (fun c hc => List.mem_append_right _ hc) l2))
noncomputable def OkP (p : PyData) : Prop := p.showable = true ∧ p.shown.length ≤ sizeLine
noncomputable def OkA (ps : List PyData) : Prop := PyData.showableAll ps = true ∧ ∀ t ∈ PyData.shownAll ps, t.length ≤ sizeLine
theorem OkA.cons {p : PyData} {ps : List PyData} (k : OkA (p :: ps)) : OkP p ∧ OkA ps := by
  obtain ⟨a, b⟩ := k
  have a' : p.showable = true ∧ PyData.showableAll ps = true := by simpa [PyData.showableAll] using a
  simp only [PyData.shownAll, List.mem_cons, forall_eq_or_imp] at b
  exact ⟨⟨a'.1, b.1⟩, a'.2, b.2⟩
theorem OkP.list {ps : List PyData} (k : OkP (.list ps)) : OkA ps := ⟨by simpa [PyData.showable] using k.1, fun t m => Nat.le_trans (listText_mem_le m) (by simpa only [PyData.shown] using k.2)⟩
theorem OkP.tuple {ps : List PyData} (k : OkP (.tuple ps)) : OkA ps := ⟨by simpa [PyData.showable] using k.1, fun t m => Nat.le_trans (tupleText_mem_le m) (by simpa only [PyData.shown] using k.2)⟩
theorem OkP.dict {kps : List (PyData × PyData)} (k : OkP (.dict kps)) : OkA (kps.map (·.1)) ∧ OkA (kps.map (·.2)) := by
  obtain ⟨a, b⟩ := k
  obtain ⟨a1, a2⟩ := PyData.showableKv_split kps (by simpa [PyData.showable] using a)
  have b : (dictText (PyData.shownKv kps)).length ≤ sizeLine := by simpa only [PyData.shown] using b
  exact ⟨⟨a1, fun t m => let ⟨q, hq, l⟩ := PyData.shownKv_key_le kps t m; Nat.le_trans l (Nat.le_trans (dictText_mem_le hq) b)⟩,
    a2, fun t m => let ⟨q, hq, l⟩ := PyData.shownKv_val_le kps t m; Nat.le_trans l (Nat.le_trans (dictText_mem_le hq) b)⟩
variable {H Hf : Hp}
end
end VM

/-! VNZ: the rule of repr; the law's call, where no repr is under way -/
namespace VM
open PySem PySem.Spec PyProof.Rows L2

section
variable {P : Pl} {N : List Str} {sc : Scope} {mg : Str → Option Value}
end

section
variable {P : Pl}
end
theorem run_raise (c : Str) (m : Sm) (e : Env) : (xRaise c m).run e = (match mF m e with
  | .ok s e1 => SA.ex c s.d e1
  | .ex c' d e1 => .ex c' d e1
  | .no => .no) := rfl
end VM

/-! VOA: a dict's keys walked: the dict is locked while the statement runs -/
namespace VM
open PySem PySem.Spec PyProof.Rows L2
open Classical in
noncomputable def lk (p : Addr) (u x : HO) (H : Hp) : Hp := if H p = some u then upd H p x else H
class DictO (u : HO) : Prop where
  is : (∃ kvs : List (Key × V), u = .dK kvs) ∨ ∃ kvs : List (List Key × V), u = .dT kvs
instance {kvs : List (Key × V)} : DictO (.dK kvs) := ⟨.inl ⟨_, rfl⟩⟩
instance {kvs : List (List Key × V)} : DictO (.dT kvs) := ⟨.inr ⟨_, rfl⟩⟩
noncomputable def NoDc (o : HO) : Prop := (∀ kvs : List (Key × V), o ≠ .dK kvs) ∧ ∀ kvs : List (List Key × V), o ≠ .dT kvs
theorem DictO.ne {u o : HO} [h : DictO u] (n : NoDc o) : o ≠ u := fun e => by
  rcases h.is with ⟨_, z⟩ | ⟨_, z⟩ <;> subst z
  · exact n.1 _ e
  · exact n.2 _ e
theorem DictO.no {u o : HO} [h : DictO u] (n : NoDc o) (e : some u = some o) : False := DictO.ne n (Option.some.inj e).symm
theorem DictO.mut {u : HO} [h : DictO u] : Mut (some u) := by
  rcases h.is with ⟨_, z⟩ | ⟨_, z⟩ <;> subst z <;> trivial
section
variable {p : Addr} {u : HO} [hD : DictO u] {od : Obj} {H : Hp}
theorem lk_at {u x : HO} (h : H p = some u) : lk p u x H p = some x := by unfold lk; rw [if_pos h, upd_same]
theorem lk_ne {u x : HO} {b : Addr} (h : b ≠ p) : lk p u x H b = H b := by
  unfold lk
  by_cases e : H p = some u
  · rw [if_pos e, upd_ne h]
  · rw [if_neg e]
theorem lk_no {u x : HO} (h : H p ≠ some u) : lk p u x H = H := by unfold lk; rw [if_neg h]
theorem lk_nn {u x : HO} {b : Addr} : lk p u x H b = none ↔ H b = none := by
  by_cases hb : b = p
  · subst hb
    by_cases e : H b = some u
    · rw [lk_at e, e]; simp
    · rw [lk_no e]
  · rw [lk_ne hb]
theorem lk_o {o : HO} {q : Addr} (h : H q = some o) (hn : NoDc o) : lk p u (.frz od u) H q = some o := by
  by_cases hq : q = p
  · subst hq
    rw [lk_no (fun e => by rw [h] at e; exact DictO.ne hn (Option.some.inj e))]; exact h
  · rw [lk_ne hq]; exact h
theorem rd_lk {q : Addr} {o : HO} (h : Rd H q o) : Rd (lk p u (.frz od u) H) q o := by
  rcases h with h | ⟨z, h⟩
  · by_cases hq : q = p
    · subst hq
      by_cases e : H q = some u
      · rw [h] at e; obtain rfl := Option.some.inj e
        exact .inr ⟨od, lk_at h⟩
      · exact .inl (by rw [lk_no e]; exact h)
    · exact .inl (by rw [lk_ne hq]; exact h)
  · exact .inr ⟨z, lk_o h ⟨(fun _ e => nomatch e), (fun _ e => nomatch e)⟩⟩
variable {G : Gi}
theorem Rep.lk {v : V} {d : D} (h : Rep G H v d) : Rep G (lk p u (.frz od u) H) v d := by
  induction h with
  | non => exact .non
  | bl => exact .bl
  | int => exact .int
  | str => exact .str
  | tup h l _ ih => exact .tup (lk_o h ⟨(fun _ e => nomatch e), (fun _ e => nomatch e)⟩) l ih
  | frt h l _ ih => exact .frt (h.elim (fun h => .inl (rd_lk h)) .inr) l ih
  | lst h l _ ih => exact .lst (lk_o h ⟨(fun _ e => nomatch e), (fun _ e => nomatch e)⟩) l ih
  | frl h l _ ih => exact .frl (h.elim (fun h => .inl (rd_lk h)) .inr) l ih
  | dic h l _ ih => exact .dic (rd_lk h) l ih
  | dit h l _ ih => exact .dit (rd_lk h) l ih
  | ins h hc l _ ih => exact .ins (lk_o h ⟨(fun _ e => nomatch e), (fun _ e => nomatch e)⟩) hc l ih
  | fn h => exact .fn h
  | ty => exact .ty
  | cls h => exact .cls h
  | exc h hp hd hu hc _ ih => exact .exc (lk_o h ⟨(fun _ e => nomatch e), (fun _ e => nomatch e)⟩) hp (lk_o hd (by rcases hu with rfl | rfl <;> exact ⟨(fun _ e => nomatch e), (fun _ e => nomatch e)⟩)) hu hc ih
  | clo h0 hn h hc hcl lv l hv _ ih => exact .clo h0 hn (lk_o h ⟨(fun _ e => by unfold FnOb at e; cases e), (fun _ e => by unfold FnOb at e; cases e)⟩) (lk_o hc ⟨(fun _ e => by unfold LamX.CodeO at e; cases e), (fun _ e => by unfold LamX.CodeO at e; cases e)⟩) hcl lv l (fun i c v h1 h2 => lk_o (hv i c v h1 h2) ⟨(fun _ e => by unfold CellO at e; cases e), (fun _ e => by unfold CellO at e; cases e)⟩) ih
theorem Reps.lk {vs : List V} {ds : List D} (r : Reps G H vs ds) : Reps G (lk p u (.frz od u) H) vs ds := ⟨r.len, fun i v d h1 h2 => (r.at' i v d h1 h2).lk⟩
theorem TopO.by {Hf Hf' : Hp} {o : HO} {d : D} (s : ∀ vs ds, Reps G Hf vs ds → Reps G Hf' vs ds) (h : TopO G Hf o d) : TopO G Hf' o d := by
  cases d with
  | lst ds => obtain ⟨vs, e, r⟩ := h; exact ⟨vs, e, s _ _ r⟩
  | dic kds => obtain ⟨vs, e, l, r⟩ := h; exact ⟨vs, e, l, s _ _ r⟩
  | dit kds => obtain ⟨vs, e, l, r⟩ := h; exact ⟨vs, e, l, s _ _ r⟩
  | ins c fds => obtain ⟨C, dx, fs, e, hc, l, r⟩ := h; exact ⟨C, dx, fs, e, hc, l, s _ _ r⟩
  | non => exact h.elim
  | bl b => exact h.elim
  | int b => exact h.elim
  | str b => exact h.elim
  | tup b => exact h.elim
  | frl b => exact h.elim
  | frt b => exact h.elim
  | fn b => exact h.elim
  | ty b => exact h.elim
  | cls b => exact h.elim
  | exc b c e => exact h.elim
theorem FrOk.by' {G : Gi} {H0 H0' Hf Hf' : Hp} {σ : L2.St} {env : Env} {H H' : Hp} (h : FrOk G H0 Hf σ env H) (s : ∀ v d, Rep G Hf v d → Rep G Hf' v d) (t : ∀ p vs, Hf p = some (.tup vs) → Hf' p = some (.tup vs))
    (kp : ∀ a o, H a = some o → Mut (some o) → Hf a = none → H0 a = none → H' a = some o ∧ Hf' a = none ∧ H0' a = none) : FrOk G H0' Hf' σ env H' := by
  obtain ⟨Ls, w⟩ := h
  have k : ∀ i a, a ∈ Ls i → ∀ o, H a = some o → H' a = some o ∧ Hf' a = none ∧ H0' a = none := fun i a ha o ho => by
    obtain ⟨o', e, m⟩ := w.at' ha
    rw [ho] at e; cases e
    exact kp a o ho m (w.out i a ha).1 (w.out i a ha).2
  refine ⟨Ls, ⟨fun i d hd => ?_, w.nd, fun i a ha => ?_, w.dis, w.sep, w.cov⟩⟩
  · obtain ⟨v, e, o⟩ := w.own i d hd
    exact ⟨v, e, o.by' s t fun a ha x hx => (k i a ha x hx).1⟩
  · obtain ⟨o', e, m⟩ := w.at' ha
    exact (k i a ha o' e).2
variable {n : Nat} {IO : En} {H0 Hf : Hp} {σ : L2.St} {env : Env}
theorem SR.lk (R : SR n G IO H0 Hf σ env H) (hp : Hf p = some u) :
    SR n G ⟨IO.io, VM.lk p u (.frz od u) IO.f0⟩ (VM.lk p u (.frz od u) H0) (VM.lk p u (.frz od u) Hf) σ env (VM.lk p u (.frz od u) H) := by
  have hH := R.sub _ _ hp
  refine ⟨fun b o e => ?_, fun b o e nio => ?_, ⟨fun b e => ?_, tabs_by R.grow.tab fun b o e k => lk_o e (by rcases k with ⟨_, k⟩ | ⟨_, k⟩ <;> (subst k; exact ⟨(fun _ h => nomatch h), (fun _ h => nomatch h)⟩)), fun q hq => let ⟨a, b, c⟩ := R.grow.co q hq; ⟨a, lk_nn.mpr b, fun z => c (lk_nn.mp z)⟩⟩, fun b o e => ?_, R.len, fun i d h => ?_, fun i d h => ?_, fun i d h => ?_, R.ali, R.sep, R.fre.by' (fun _ _ r => r.lk) (fun q vs e => by rw [lk_ne (fun z => by subst z; rw [hp] at e; exact DictO.no (o := .tup vs) ⟨(fun _ h => nomatch h), (fun _ h => nomatch h)⟩ e)]; exact e) fun a o e m f0 h0 => by
    have hq : a ≠ p := fun z => by rw [z, hp] at f0; cases f0
    exact ⟨by rw [lk_ne hq]; exact e, lk_nn.mpr f0, lk_nn.mpr h0⟩⟩
  · by_cases hb : b = p
    · subst hb; rw [lk_at hp] at e; rw [lk_at hH]; exact e
    · rw [lk_ne hb] at e ⊢; exact R.sub b o e
  · by_cases hb : b = p
    · subst hb
      by_cases z : H0 b = some u
      · rw [lk_at z] at e; rw [lk_at hH]; exact e
      · rw [lk_no z] at e
        have := R.keep b o e nio
        rw [hH] at this; cases this
        exact absurd e z
    · rw [lk_ne hb] at e ⊢; exact R.keep b o e nio
  · exact lk_nn.mpr (R.grow b (lk_nn.mp e))
  · by_cases hb : b = p
    · subst hb
      rw [lk_at hp] at e; cases e
      rcases R.nf b _ hp with z | z | z
      · exact .inl (lk_nn.mpr z)
      · exact .inr (.inl (lk_at z))
      · exact absurd DictO.mut z.nm
    · rw [lk_ne hb] at e
      rcases R.nf b o e with z | z | z
      · exact .inl (lk_nn.mpr z)
      · exact .inr (.inl (by show VM.lk _ _ _ IO.f0 b = _; rw [lk_ne hb]; exact z))
      · exact .inr (.inr z)
  · obtain ⟨v, e, r⟩ := R.shr i d h
    exact ⟨v, e, r.lk⟩
  · obtain ⟨q, o, e, a, b, c, t⟩ := R.own i d h
    have hq : q ≠ p := fun z => by rw [z, hp] at a; cases a
    exact ⟨q, o, e, lk_nn.mpr a, lk_nn.mpr b, by rw [lk_ne hq]; exact c, t.by fun _ _ r => r.lk⟩
  · obtain ⟨q, o, e, a, b, c, t⟩ := R.inout i d h
    have hq : q ≠ p := fun z => by rw [z, hp] at a; cases a
    exact ⟨q, o, e, lk_nn.mpr a, b, by rw [lk_ne hq]; exact c, t.by fun _ _ r => r.lk⟩
end
section
variable {P : Pl} {n : Nat} {IO : En} {H0 Hf H : Hp} {σ tv : L2.St} {env te : Env}
theorem OutS.imp {asg : List Nat} {T T' : Ends → Prop} (h : ∀ D, T D → T' D) : ∀ {r : SA}, OutS P n IO H0 Hf σ tv te asg T r → OutS P n IO H0 Hf σ tv te asg T' r
  | .nx e, o => fun D q => h D (o D q)
  | .bk e, o => fun D q => h D (o D q)
  | .ct e, o => fun D q => h D (o D q)
  | .rt s e, o => fun D q => h D (o D q)
  | .ex c d e, o => fun w D => h D (o w D)
  | .no, o => trivial
theorem St0.lk {p : Addr} {u : HO} [hD : DictO u] (od : Obj) (S : St0 P n IO H0 Hf σ tv env te H) (hp : Hf p = some u) :
    St0 P n ⟨IO.io, VM.lk p u (.frz od u) IO.f0⟩ (VM.lk p u (.frz od u) H0) (VM.lk p u (.frz od u) Hf) σ tv env te (VM.lk p u (.frz od u) H) :=
  ⟨S.le, S.ls, S.na, S.sr.lk hp⟩
variable {N : List Str} {sc : Scope} {mg : Str → Option Value}
end
end VM

/-! VOB: tests of several parts in a clause; an error's class under a class of the language -/
namespace VM
open PySem PySem.Spec PyProof.Rows L2
section
variable {P : Pl}
end
end VM

/-! VOC: a list times a number; l.count(x), l.index(x) -/
namespace VM
open PySem PySem.Spec PyProof.Rows L2
section
variable {P : Pl} {N : List Str} {sc : Scope} {mg : Str → Option Value}
end
end VM

/-! VOD: sorted(l) of a list of texts; len(set(l)) of a list of texts -/
namespace VM
open PySem PySem.Spec PyProof.Rows L2
theorem reps_strs {G : Gi} {H : Hp} : ∀ ss : List Str, Reps G H (ss.map V.str) (ss.map D.str)
  | [] => .nil
  | s :: ss => .cons .str (reps_strs ss)
section
variable {prog : Program} {w : World} {A : Around} {R : Result → Shared → Prop} {I : Addr} {fp wr : List Addr} {G : Array GenState → Array GenState → Prop} {n : Nat} {P : Nat → Value → Prop} {St : Nat → Shared → Prop}
end
section
variable {prog : Program} {w : World} {A : Around} {E : Value → Shared → Prop} {s : Shared}
end
section
variable {P : Pl} {N : List Str} {sc : Scope} {mg : Str → Option Value}
end
end VM

/-! VOE: d == {} -/
namespace VM
open PySem PySem.Spec PyProof.Rows L2
section
variable {P : Pl} {N : List Str} {sc : Scope} {mg : Str → Option Value}
end
end VM

/-! VOF: sorted(d.items()), the keys of d being texts -/
namespace VM
open PySem PySem.Spec PyProof.Rows L2
section
variable {prog : Program} {w : World} {A : Around} {s : Shared}
end
section
variable {X : Cx} {e : Expr} {te : TE} {p apos cpos pos : Pos}
end
end VM

/-! VOG: sorted(d.items()) as a rule; max(l), min(l) of a list of ints -/
namespace VM
open PySem PySem.Spec PyProof.Rows L2
section
variable {P : Pl} {N : List Str} {sc : Scope} {mg : Str → Option Value}
end
section
variable {P : Pl} {N : List Str} {sc : Scope} {mg : Str → Option Value}
end
end VM

/-! VOH: try: .. except A as e: .. except B as e: ..
The walk through the clauses goes as the library's rules for one clause with a name and for several without go, the two joined. -/
namespace VM
open PySem PySem.Spec PyProof.Rows L2
noncomputable abbrev TsF := Addr → Value → Option Addr → TS
inductive HdsA (X : Cx) (n : Str) : List ExceptHandler → List (Value × TsF) → Prop
  | nil : HdsA X n [] []
  | cons {x : Str} {c : Value} {ts : TsF} {b₀ : Stmt} {suite : List Stmt} {np pos' : Pos} {hds : List ExceptHandler} {l : List (Value × TsF)} (hc : Names X x c)
      (hsu : ∀ (a : Addr) (oe : Obj) (cls : Value) (d : Option Addr) (pn : List (Addr × Obj)), Zc cls d oe → (∃ vs, oe.data = .fields vs) → PSs (X.suite a ((a, oe) :: pn)) (b₀ :: suite) (ts a cls d)) (r : HdsA X n hds l) :
      HdsA X n (.ExceptHandler (some (.Name x np)) (some n) (b₀ :: suite) pos' :: hds) ((c, ts) :: l)
section
variable {X : Cx} {n : Str} {i : Nat} {body : List Stmt} {h₀ : ExceptHandler} {hds : List ExceptHandler} {l : List (Value × TsF)} {pos : Pos} {tb : WX → TS} {Wout : WX}
end
section
variable {P : Pl} {N : List Str} {sc : Scope} {mg : Str → Option Value}
noncomputable def tsOf (P : Pl) (sts : List Stmt) : TsF := fun a cls d D σ H => ∃ t : TS, (∀ X', (P.su a cls d).M X' → PSs X' sts t) ∧ t D σ H
inductive ClsOk (P : Pl) (i : Nat) (sc : Scope) (mg : Str → Option Value) (x : Str) : List ExceptHandler → List (Str × Su) → List (Value × TsF) → Prop
  | nil : ClsOk P i sc mg x [] [] []
  | cons {U : Addr} {y : Str} {suite : List Stmt} {b₀ : Stmt} {np pos' : Pos} {S : Su} {hds : List ExceptHandler} {cl : List (Str × Su)} {l : List (Value × TsF)} (hs : SuS P i (b₀ :: suite) S) (hy : sc.names.lookup y = some .globalImplicit) (hU : mg y = some (.ref U)) (hdb : (y == ("__debug__" : Str)) = false) (r : ClsOk P i sc mg x hds cl l) :
      ClsOk P i sc mg x (.ExceptHandler (some (.Name y np)) (some x) (b₀ :: suite) pos' :: hds) ((y, S) :: cl) ((.ref U, tsOf P (b₀ :: suite)) :: l)
end
end VM

/-! VOI: a def as a value; a call of a variable that holds one of some defs -/
namespace VM
open PySem PySem.Spec PyProof.Rows L2
noncomputable def FnName (P : Pl) (mg : Str → Option Value) (x : Str) : Prop := ∃ a, P.G.fns x = some a ∧ mg x = some (.ref a)
section
variable {P : Pl} {N : List Str} {sc : Scope} {mg : Str → Option Value}
inductive FnFacts (P : Pl) (mg : Str → Option Value) : List (Str × FS) → Prop
  | nil : FnFacts P mg []
  | cons {x : Str} {fs : FS} {F : List (Str × FS)} (h : FnFact P x fs) (hn : FnName P mg x) (r : FnFacts P mg F) : FnFacts P mg ((x, fs) :: F)
end
end VM
namespace VM
open PySem PySem.Spec PyProof.Rows L2
section
variable {P : Pl} {mg : Str → Option Value}
end
end VM

/-! VOJ: a dict beside texts in a comparison -/
namespace VM
open PySem PySem.Spec PyProof.Rows L2
section
variable {prog : Program} {w : World} {A : Around} {E : Value → Shared → Prop} {s : Shared}
end
/-! ### two empty dicts, pairs that hold such -/
section
variable {A : Around} {s : Shared}
end
end VM
namespace VM
open PySem PySem.Spec PyProof.Rows L2
noncomputable def dAlt2 (f g : D → D → RR) (d e : D) : RR := match f d e with
  | .no => g d e
  | r => r
end VM

namespace VM
open PySem PySem.Spec PyProof.Rows L2
section
variable {P : Pl} {N : List Str} {sc : Scope} {mg : Str → Option Value}
end
end VM

/-! VOK: an error as a value: its field, isinstance of it -/
namespace VM
open PySem PySem.Spec PyProof.Rows L2
structure ErrK (G : Gi) (FE : List (Str × Str)) (CK : List ((Str × TG) × Bool)) : Prop where
  fld : ∀ c g, FE.lookup c = some g → ∀ C, G.cls c = some C → XfC G.K C ∧ PySem.W.findIn G.K (.ref C) g = some none
  isi : ∀ c y b, CK.lookup (c, y) = some b → ∀ C, G.cls c = some C → ExcC G.K C ∧ (PySem.W.clsIn G.K C).isSome = true ∧ ∀ t, y.val G = some t → PySem.W.kitOne G.K (.ref C) t = some b
  fe : ∀ c g, FE.lookup c = some g → ∃ C, G.cls c = some C
  ke : ∀ c y b, CK.lookup (c, y) = some b → ∃ C, G.cls c = some C
noncomputable def dFldE (FE : List (Str × Str)) (g : Str) : D → RR
  | .exc c f d => if f = g ∧ FE.lookup c = some g then .sh d else .no
  | _ => .no
noncomputable def rFldE (K : PySem.W.Frag) (g : Str) : V → Hp → VK → Prop := fun x H Q => ∃ (a C dd : Addr) (φ : Heap → Prop) (u : HO) (v : V), x = .ref a ∧ H a = some (.ext φ) ∧ ExO2 a C dd φ ∧ H dd = some u ∧ XdO dd g v u ∧ XfC K C ∧ PySem.W.findIn K (.ref C) g = some none ∧ Q v H
theorem exc_in {X : Cx} {pins : List (Addr × Obj)} {σ : L2.St} {H : Hp} {s : Shared} (I : Inv X pins σ H s) {a C dd : Addr} {φ : Heap → Prop} {u : HO} {g : Str} {v : V} (ha : H a = some (.ext φ)) (hφ : ExO2 a C dd φ) (hd : H dd = some u) (hu : XdO dd g v u) :
    ∃ (oe od : Obj) (mA : Str → Option Value), PySem.W.InstAt s.heap a oe C (some od) ∧ (∀ n, PySem.W.lookIn n od = some (mA n)) ∧ RelO (some v) (mA g) := by
  have hx : ObjOk X.prog X.w H s.heap a (.ext φ) := I.hok a _ ha
  obtain ⟨oe, vs, hoe, hz, hdat⟩ := hφ _ hx.1
  obtain ⟨mA, hns, hr⟩ : ∃ mA, s.heap.Ns1 dd mA ∧ ∀ f, RelO (([(g, v)] : List (Str × V)).lookup f) (mA f) := by
    rcases hu with rfl | rfl
    · exact (show ObjOk X.prog X.w H s.heap dd (.xd [(g, v)]) from I.hok dd _ hd)
    · exact exd_at I.hok hd
  obtain ⟨od, ho, hl⟩ := lookIn_ns hns
  have := hr g
  rw [List.lookup_cons, beq_self_eq_true] at this
  exact ⟨oe, od, mA, ⟨hoe, hz.1, by unfold PySem.W.notCls; rw [hdat] <;> rfl, by rw [hz.2]; exact ho⟩, hl, this⟩
theorem pe_fldE {X : Cx} {e : Expr} {te : TE} {g : Str} {pos : Pos} (he : PE X e te) (hb : attributeBase e g X.env (eval e X.env) = eval e X.env) : PE X (.Attribute e g pos) (tUn (rFldE X.K g) te) := by
  refine ⟨fun pins s σ H Q I h => ?_⟩
  refine attr_of hb (thn (he.run pins s σ H _ I h) fun u s1 hh => ?_)
  obtain ⟨x, H1, I1, rx, a, C, dd, φ, u0, v, ex, ha, hφ, hd, hu, T, hno, q⟩ := hh
  subst ex
  obtain rfl : u = Value.ref a := rx
  obtain ⟨oe, od, mA, J, hl, hr⟩ := exc_in I1 ha hφ hd hu
  obtain ⟨u, hu, ru⟩ := RelO.some_of (v := v) (o := mA g) hr
  exact HandSPX.exc_get I1.kIn J T.ga T.gg T.exC (PySem.W.findObj_own T.hdC hno rfl (by rw [hl, hu])) (handed_of ru) ⟨v, H1, I1.tok _, ru, q⟩
theorem PRep.exc {G : Gi} {Hf H : Hp} (s : Same Hf H) {v : V} {c f : Str} {d : D} (r : PRep G Hf H v (.exc c f d)) (hn : ∃ C, G.cls c = some C) : ∃ (a C dd : Addr) (φ : Heap → Prop) (u : HO) (w : V), v = .ref a ∧ H a = some (.ext φ) ∧ ExO2 a C dd φ ∧ H dd = some u ∧ XdO dd f w u ∧ G.cls c = some C ∧ Rep G Hf w d := by
  rcases r with r | ⟨a, o, rfl, ha, t⟩
  · cases r with
    | exc h hφ hd hu hc r => exact ⟨_, _, _, _, _, _, rfl, s _ _ h, hφ, s _ _ hd, hu, hc, r⟩
    | clo h0 => obtain ⟨C, e⟩ := hn; rw [h0] at e; cases e
  · exact t.elim
theorem s_fldE {G : Gi} {FE : List (Str × Str)} {CK : List ((Str × TG) × Bool)} {g : Str} (hE : ErrK G FE CK) : S1 G (rFldE G.K g) (dFldE FE g) := by
  intro Hf H x d s p
  unfold dFldE
  split
  · rename_i c f d
    split
    · rename_i h
      obtain ⟨rfl, hl⟩ := h
      obtain ⟨a, C, dd, φ, u, w, rfl, ha, hφ, hd, hu, hc, r⟩ := p.exc s (hE.fe _ _ hl)
      obtain ⟨T, hno⟩ := hE.fld _ _ hl C hc
      exact fun Q q => ⟨a, C, dd, φ, u, w, rfl, ha, hφ, hd, hu, T, hno, q w r⟩
    · trivial
  · trivial
section
variable {P : Pl} {N : List Str} {sc : Scope} {mg : Str → Option Value}
theorem se_fldE (fr : Fra P N sc mg) {FE : List (Str × Str)} {CK : List ((Str × TG) × Bool)} (hE : ErrK P.G FE CK) {e : Expr} {f : Str} {pos : Pos} {m : Sm} (h : SE P e m) (hb : ∀ env, attributeBase e f env (eval e env) = eval e env) : SE P (.Attribute e f pos) (m1 (dFldE FE f) m) :=
  let ⟨_, p, g⟩ := h; ⟨_, fun X hX => (fr.K X hX) ▸ pe_fldE (p X hX) (hb _), ev_1 (s_fldE hE) g⟩
end
/-! ### isinstance -/
noncomputable def rIsE (K : PySem.W.Frag) : List V → Hp → VK → Prop := fun xs H Q => ∃ (a C dd : Addr) (φ : Heap → Prop) (u : HO) (f : Str) (v c : V) (cv : Value) (b : Bool), xs = [.ref a, c] ∧ H a = some (.ext φ) ∧ ExO2 a C dd φ ∧ H dd = some u ∧ XdO dd f v u ∧ ClsV c cv ∧ ExcC K C ∧ (PySem.W.clsIn K C).isSome = true ∧ PySem.W.kitOne K (.ref C) cv = some b ∧ Q (.bl b) H
theorem call_isE {X : Cx} : CallR X (.builtin "isinstance") (rIsE X.K) := by
  intro pins s σ H xs us Q I r h
  obtain ⟨a, D, dd, φ, u, f, v, c, cv, b, rfl, ha, hφ, hd, hu, hcv, C, hcl, e, q⟩ := h
  obtain ⟨u1, u2, rfl, r1, r2⟩ := vals2 r
  cases (show u1 = Value.ref a from r1)
  have e2 := hcv.eq r2
  subst e2
  obtain ⟨oe, od, mA, J, _, _⟩ := exc_in I ha hφ hd hu
  exact PySem.W.kia_one (PySem.W.kitx_exc (od := some od) hcl C.hg C.hk C.hs C.ha C.hn C.ht C.hm) I.kIn J e (fun z => nomatch z) fun tk => ⟨.bl b, H, I.tok tk, rfl, q⟩
theorem SN.alt2 {G : Gi} {r r' : List V → Hp → VK → Prop} {f g : D → D → RR} (h : SN G r (f2 f)) (h' : SN G r' (f2 g)) : SN G (fun vs H Q => r vs H Q ∨ r' vs H Q) (f2 (dAlt2 f g)) := by
  intro Hf H vs ds s p
  match ds, p with
  | [], p => trivial
  | [_], p => trivial
  | _ :: _ :: _ :: _, p => trivial
  | [d, e], p =>
    have h1 : RRok G Hf H (r vs H) (f d e) := h Hf H vs [d, e] s p
    have h2 : RRok G Hf H (r' vs H) (g d e) := h' Hf H vs [d, e] s p
    show RRok G Hf H _ (dAlt2 f g d e)
    unfold dAlt2
    split
    · exact h2.imp fun Q z => .inr z
    · exact h1.imp fun Q z => .inl z
noncomputable def dIsiE (CK : List ((Str × TG) × Bool)) (d e : D) : RR := match d, clsOf e with
  | .exc c _ _, some y => match CK.lookup (c, y) with
    | some b => .sh (.bl b)
    | none => .no
  | _, _ => .no
theorem n_isiE {G : Gi} {FE : List (Str × Str)} {CK : List ((Str × TG) × Bool)} (hE : ErrK G FE CK) : SN G (rIsE G.K) (f2 (dIsiE CK)) := by
  intro Hf H vs ds s p
  match ds, p with
  | [d, e], p =>
    obtain ⟨v, w, rfl, h, h2⟩ := p.inv2
    show RRok G Hf H _ (dIsiE CK d e)
    unfold dIsiE
    split
    · rename_i c f d y hy
      split
      · rename_i b hb
        obtain ⟨a, C, dd, φ, u, w', rfl, ha, hφ, hd, hu, hc, r⟩ := h.exc s (hE.ke _ _ _ hb)
        obtain ⟨T, hcl, hk⟩ := hE.isi _ _ _ hb C hc
        obtain ⟨cv, hcv, hv⟩ := h2.clsv hy
        exact fun Q k => ⟨a, C, dd, φ, u, f, w', w, cv, b, rfl, ha, hφ, hd, hu, hcv, T, hcl, hk _ hv, k _ .bl⟩
      · trivial
    · trivial
  | [], p => trivial
  | [_], p => trivial
  | _ :: _ :: _ :: _, p => trivial
section
variable {P : Pl} {N : List Str} {sc : Scope} {mg : Str → Option Value}
theorem Fra.isiE (fr : Fra P N sc mg) {IT : List ((TG × TG) × Bool)} (hI : IsiOk P.G IT) {FE : List (Str × Str)} {CK : List ((Str × TG) × Bool)} (hE : ErrK P.G FE CK) {a b : Expr} {p pos : Pos} {m k : Sm} (hg : sc.names.lookup ("isinstance" : Str) = some .globalImplicit) (hm : mg ("isinstance" : Str) = none) (h : SE P a m) (g : SE P b k) (hs : [a, b].all notStar = true) :
    SE P (.Call (.Name "isinstance" p) [a, b] [] pos) (m2 (dAlt2 (dIsiC IT) (dIsiE CK)) m k) :=
  se_callB fr (fun X hX => (fr.K X hX) ▸ call_isi.or call_isE) (SN.alt2 (n_isiC hI) (n_isiE hE)) hg hm boot_isinstance (sl_cons h (sl_cons g sl_nil)) hs
end
theorem ErrK.of {G : Gi} {FE : List (Str × Str)} {CK : List ((Str × TG) × Bool)} (hf : ∀ p ∈ FE, ∃ C, G.cls p.1 = some C ∧ XfC G.K C ∧ PySem.W.findIn G.K (.ref C) p.2 = some none)
    (hc : ∀ p ∈ CK, ∃ C t, G.cls p.1.1 = some C ∧ ExcC G.K C ∧ (PySem.W.clsIn G.K C).isSome = true ∧ p.1.2.val G = some t ∧ PySem.W.kitOne G.K (.ref C) t = some p.2) : ErrK G FE CK := by
  refine ⟨fun c g hl C hC => ?_, fun c y b hl C hC => ?_, fun c g hl => let ⟨C, h, _⟩ := hf (c, g) (lookup_mem hl); ⟨C, h⟩, fun c y b hl => let ⟨C, _, h, _⟩ := hc ((c, y), b) (lookup_mem hl); ⟨C, h⟩⟩
  · obtain ⟨C', h1, h2, h3⟩ := hf (c, g) (lookup_mem hl)
    rw [show G.cls c = _ from h1] at hC
    cases hC
    exact ⟨h2, h3⟩
  · obtain ⟨C', t, h1, h2, h3, h4, h5⟩ := hc ((c, y), b) (lookup_mem hl)
    rw [show G.cls c = _ from h1] at hC
    cases hC
    refine ⟨h2, h3, fun t' ht => ?_⟩
    rw [show y.val G = _ from h4] at ht
    cases ht
    exact h5
end VM

/-! VOL: an error is kept: try: .. except A as e: x = e -/
namespace VM
open PySem PySem.Spec PyProof.Rows L2
noncomputable def XO (a : Addr) (cls : Value) (d : Option Addr) : HO := .ext fun h => ∃ (oe : Obj) (vs : Array Value), h.get? a = some oe ∧ Zc cls d oe ∧ oe.data = .fields vs
theorem Inv.track {X : Cx} {pins : List (Addr × Obj)} {σ : L2.St} {H : Hp} {s : Shared} (I : Inv X pins σ H s) {a : Addr} {cls : Value} {d : Option Addr} {oe : Obj} (n : H a = none) (e : s.heap.get? a = some oe) (hz : Zc cls d oe) {vs : Array Value} (hd : oe.data = .fields vs)
    (n0 : X.s_0.heap.get? a = none ∨ a ∈ X.ex) (nL : a ≠ X.env.locals) (np : ∀ p ∈ X.pn ++ pins, p.1 ≠ a) : Inv X pins σ (upd H a (XO a cls d)) s := by
  have ok : ObjOk X.prog X.w (upd H a (XO a cls d)) s.heap a (XO a cls d) := ⟨⟨oe, vs, e, hz, hd⟩, ⟨oe, e⟩, fun h1 h2 ⟨o, v, q, r⟩ k => ⟨o, v, k o q, r⟩⟩
  refine ⟨I.ok, I.os, I.bare, ⟨I.base.keep, I.base.slot, fun b o q m hx => ?_, I.base.there, fun b xs q => ?_, fun b o u q => ?_, fun b ps q => ?_⟩, I.loc, I.cell, ?_, fun x c q => ?_, fun p hp => ?_, fun b u q => ?_, I.len⟩
  · rw [upd_ne (fun z => ?_)]
    · exact I.base.free b o q m hx
    · subst z
      rcases n0 with n0 | n0
      · rw [q] at n0; cases n0
      · exact hx n0
  · have := I.base.tups b xs q
    rw [upd_ne (ne_of_none this n)]; exact this
  · have := I.base.frzs b o u q
    rw [upd_ne (ne_of_none this n)]; exact this
  · obtain ⟨m, q2⟩ := I.base.tbls b ps q
    exact ⟨m, by rw [upd_ne (ne_of_none q2 n)]; exact q2⟩
  · rw [upd_ne (Ne.symm nL)]; exact I.free
  · rw [upd_ne (fun z => ?_)]
    · exact I.freeC x c q
    · subst z
      obtain ⟨v, o, ho, hv⟩ := I.cell x _ q
      rw [e] at ho
      cases ho
      rw [hd] at hv
      cases hv
  · obtain ⟨p1, p2, p3, p4, p5⟩ := I.pin p hp
    exact ⟨p1, by rw [upd_ne (np p hp)]; exact p2, p3, p4, p5⟩
  · by_cases hb : b = a
    · subst hb
      rw [upd_same] at q
      cases q
      exact ok
    · rw [upd_ne hb] at q
      exact (I.hok b u q).stay (fun c v _ r => r) (fun c r => by rw [upd_ne (ne_of_none r n)]; exact r) fun c xs r => by rw [upd_ne (ne_of_none r n)]; exact r
noncomputable def wAsT (K : PySem.W.Frag) (i : Nat) (Wout : WX) (D : Ends) : List (Value × TsF) → WX
  | [] => Wout
  | (c, ts) :: r => fun cls d σ H => ∃ b, PySem.W.exmOne K cls c = some b ∧ (b = true → ∀ a, H a = none → ts a cls d { nx := fun σ' H' => H' a = none → D.nx (σ'.set i none) (upd H' a (XO a cls d)), rt := fun v H' => H' a = none → D.rt v (upd H' a (XO a cls d)), bk := fun σ' H' => H' a = none → D.bk (σ'.set i none) (upd H' a (XO a cls d)), ct := fun σ' H' => H' a = none → D.ct (σ'.set i none) (upd H' a (XO a cls d)) } (σ.set i (some (.ref a))) H) ∧
    (b = false → wAsT K i Wout D r cls d σ H)
section
variable {X : Cx} {n : Str} {i : Nat} {body : List Stmt} {h₀ : ExceptHandler} {hds : List ExceptHandler} {l : List (Value × TsF)} {pos : Pos} {tb : WX → TS} {Wout : WX}
theorem ps_try_asT (hs : X.stack = X.env :: X.outer) (hf : X.env.frame = some X.env.locals) (hN : X.N.Nodup) (hi : X.N[i]? = some n) (hln : X.env.kindOf n = some .local) (tk : Takes X Wout)
    (hb : ∀ (W : WX) (pn : List (Addr × Obj)) (xe : Value → Shared → Prop), Takes (X.tr pn xe) W → PassesOwn (model X.prog X.w) X.A X.env xe → PSs (X.tr pn xe) body (tb W))
    (hh : HdsA X n (h₀ :: hds) l) : PS X (.Try body (h₀ :: hds) [] [] pos) (fun D σ H => tb (wAsT X.K i Wout D l) D σ H) := by
  refine ⟨fun pins s σ H D I h => ?_⟩
  have ok := I.ok
  have hfr : X.A.frames = some (X.env :: X.outer) := by rw [ok.frames, hs]
  have hloc : Loc X.env.scope n := .inl hln
  refine wpAny_Try_except ?_
  refine wpAny_mono ((hb (wAsT X.K i Wout D l) (X.pn ++ pins) (fun e s₁ => wpAny (model X.prog X.w) X.A (noteFrame e X.env) (fun _ s₂ => wpAny (model X.prog X.w) X.A (setFlight e none) (fun _ s₃ =>
    wpAny (model X.prog X.w) X.A (handleBy e X.env (h₀ :: hds)) (SP X pins D) X.xe s₃) X.xe s₂) X.xe s₁) (fun u s' xx => ?_) PassesOwn.looking).run [] s σ H D (I.toTry _) h) (fun f s1 hsp => ?_) (fun e s1 he => he)
  · obtain ⟨a, B, sI, pins', σ', H', cls, d, rfl, J', nb, up, sky, na, os, ag, w⟩ := xx
    have J : Inv X pins σ' H' sI := J'.ofTry ok
    have sky' : Sky B (X.env :: X.outer) a (Zc cls d) X.env.locals s'.heap := by rw [← hs]; exact sky
    show wpAny (model X.prog X.w) X.A (noteFrame (.ref a) X.env) _ _ _
    refine Sky.land Zc.steady hfr hf sky' fun h3 fl3 up3 => ?_
    have J3 : Inv X pins σ' H' { s' with heap := h3 } := J.landed nb fl3.1 (up.trans up3) os ag
    obtain ⟨oe3, vs3, he3, hz3, hd3⟩ := fl3.there
    have nfr : a ∉ frs (X.env :: X.outer) := fun hm => by
      obtain ⟨_, o', e', hnf⟩ := fl3.2.2.1.mem hm
      rw [he3] at e'; cases e'
      exact hnf _ hd3
    have nL : a ≠ X.env.locals := fun z => nfr (List.mem_filterMap.mpr ⟨X.env, List.mem_cons_self, by rw [hf, z]⟩)
    have nF : a ∉ X.fs := fun hm => by
      obtain ⟨e, he, q⟩ := List.mem_filterMap.mp hm
      exact nfr (List.mem_filterMap.mpr ⟨e, List.mem_cons_of_mem _ he, q⟩)
    have S3 := J3.suite he3 hd3 na nL nF
    have sIa : sI.heap.get? a = none := by
      cases e : sI.heap.get? a with
      | none => rfl
      | some o =>
        have := nb a o e (by rw [hs]; exact nfr)
        rw [fl3.2.1] at this
        cases this
    have s0a : X.s_0.heap.get? a = none ∨ a ∈ X.ex := by
      by_cases hx : a ∈ X.ex
      · exact .inr hx
      · left
        cases e : X.s_0.heap.get? a with
        | none => rfl
        | some o =>
          obtain ⟨o', e'⟩ := J.base.there a o e hx
          rw [sIa] at e'; cases e'
    have pna : ∀ p ∈ X.pn ++ pins, p.1 ≠ a := fun p hp z => by
      have := (J.pin p hp).1
      rw [z, sIa] at this
      cases this
    have go : ∀ {hds' : List ExceptHandler} {l' : List (Value × TsF)}, HdsA X n hds' l' → wAsT X.K i Wout D l' cls d σ' H' → wpAny (model X.prog X.w) X.A (handleBy (.ref a) X.env hds') (SP X pins D) X.xe { s' with heap := h3 } := by
      intro hds' l' hk
      induction hk with
      | nil =>
        intro w
        refine wpAny_handleBy_nil ?_
        obtain ⟨k1, k2, k3, oe, vs, T, oT, ts', he, hz, hd, h1, hr⟩ := id fl3
        unfold PySem.passOn
        refine wpAny_bind (wpAny_field he hd h1 ?_)
        rw [if_neg (show ¬ ((Value.ref T == Value.none) = true) from by simp)]
        have fin : wpAny (model X.prog X.w) X.A (setFlight (.ref a) X.env.frame) (fun _ s4 => wpAny (model X.prog X.w) X.A (throw (.ref a) : Sem Flow) (SP X pins D) X.xe s4) X.xe { s' with heap := h3 } := by
          rw [hf]
          refine HandSPX.setFlight_upZ fl3 fun h4 hh4 up4 => wpAny_throw (tk _ _ ?_)
          exact ⟨a, B, sI, pins, σ', H', cls, d, rfl, J, nb, (up.trans up3).trans up4, .inr (.inr (by rw [hs]; exact hh4)), na, os, ag, w⟩
        first
          | exact wpAny_bind (wpAny_pure (wpAny_bind fin))
          | exact wpAny_bind fin
      | @cons x c ts b₀ suite np pos' hds2 l2 hc hsu r ih =>
        intro w
        obtain ⟨b, hb1, hyes, hno⟩ := w
        refine wpAny_handleBy_cons (codeAny_handlers_test ?_) (by intro q; cases q)
        have LT : PySem.W.Looks (model X.prog X.w) h3 (typeOf (.ref a)) cls := fun A Q E s k q => wpAny_typeOf_ref (k _ _ he3) (by rw [hz3.1]; exact q)
        have LM := PySem.W.exm_one (M := model X.prog X.w) (J3.kIn) LT hb1
        have test : ∀ {Q : Value → Shared → Prop} {E : Value → Shared → Prop}, Q c { s' with heap := h3 } → wpAny (model X.prog X.w) (X.A.mark (some (.ref a))) (eval (.Name x np) X.env) Q E { s' with heap := h3 } := fun {Q E} q => by
          obtain ⟨hg, hdbg, hm | ⟨hm, hv, hnn⟩⟩ := hc
          · exact ld_glob (X := X.suite a ((a, oe3) :: (X.pn ++ pins))) S3 hg hm q hdbg
          · exact ld_blt (X := X.suite a ((a, oe3) :: (X.pn ++ pins))) S3 hg hm hv q hnn hdbg
        refine test (LM.here ?_)
        cases b with
        | true =>
          refine codeAny_handlers_suite_as ?_
          refine HandSPX.lands_againZ fl3 fun h4 fl4 up4 => ?_
          have J4 : Inv X pins σ' H' { s' with heap := h4 } := J.landed nb fl4.1 ((up.trans up3).trans up4) os ag
          obtain ⟨oe4, vs4, he4, hz4, hd4⟩ := fl4.there
          have S4 := J4.suite he4 hd4 na nL nF
          refine store_ok (X := X.suite a ((a, oe4) :: (X.pn ++ pins))) (v := .ref a) S4 hN hi hloc rfl (fun s5 S5 => ?_) (.inr hln)
          refine wpAny_mono ((hsu a oe4 cls d (X.pn ++ pins) hz4 ⟨_, hd4⟩).run [] s5 _ H' _ S5 (hyes rfl a na)) (fun f s6 hsp => ?_) (fun _ _ z => False.elim z)
          have end_ : ∀ {σ6 : L2.St} {H6 : Hp} {Q : Shared → Prop}, Inv (X.suite a ((a, oe4) :: (X.pn ++ pins))) [] σ6 H6 s6 → (H6 a = none → ∀ s7, Inv X pins (σ6.set i none) (upd H6 a (XO a cls d)) s7 → Q s7) →
              wpAny (model X.prog X.w) X.A (do bindName X.env n .none; unbindBehindTheSuite X.env n pos') (fun _ s7 => Q s7) X.xe s6 := fun {σ6 H6 Q} S6 hq => by
            obtain ⟨e6, n6, nL6, nF6, nc6⟩ := S6.pin (a, oe4) (List.mem_append_left _ List.mem_cons_self)
            exact gone_ok (VM.Inv.track (S6.unsuite ok) n6 e6 hz4 hd4 s0a nL6 pna) hN hi hln (hq n6)
          cases f with
          | next =>
            obtain ⟨σ6, H6, S6, q6⟩ := hsp
            exact end_ S6 fun n6 s7 J7 => ⟨_, _, J7, q6 n6⟩
          | brk =>
            obtain ⟨σ6, H6, S6, q6⟩ := hsp
            exact end_ S6 fun n6 s7 J7 => ⟨_, _, J7, q6 n6⟩
          | cont =>
            obtain ⟨σ6, H6, S6, q6⟩ := hsp
            exact end_ S6 fun n6 s7 J7 => ⟨_, _, J7, q6 n6⟩
          | ret u =>
            obtain ⟨v6, σ6, H6, S6, r6, q6⟩ := hsp
            exact end_ S6 fun n6 s7 J7 => ⟨_, _, _, J7, r6, q6 n6⟩
        | false =>
          show wpAny _ X.A (handleBy (.ref a) X.env hds2) _ _ _
          exact ih (hno rfl)
    exact go hh w
  · cases f with
    | next =>
      obtain ⟨σ', H', J', q⟩ := hsp
      exact wpAny_execs_nil ⟨σ', H', J'.ofTry ok, q⟩
    | brk =>
      obtain ⟨σ', H', J', q⟩ := hsp
      exact ⟨σ', H', J'.ofTry ok, q⟩
    | cont =>
      obtain ⟨σ', H', J', q⟩ := hsp
      exact ⟨σ', H', J'.ofTry ok, q⟩
    | ret u =>
      obtain ⟨v, σ', H', J', r, q⟩ := hsp
      exact ⟨v, σ', H', J'.ofTry ok, r, q⟩
end
/-! ### as a rule -/
inductive Cl where
  | su (S : Su) | kp (j : Nat)
noncomputable def Cl.asg : Cl → List Nat
  | .su S => S.asg
  | .kp j => [j]
noncomputable def Cl.run (FE : List (Str × Str)) (i : Nat) (c : Str) (d : D) (e1 : Env) : Cl → Option Env
  | .su S => S.run c d e1
  | .kp j => match FE.lookup c with
    | some f => if free e1 j = true ∧ j ≠ i then some (e1.set j (sh (.exc c f d))) else none
    | none => none
noncomputable def tryLT (FE : List (Str × Str)) (CE : List ((Str × Str) × Bool)) (i : Nat) (c : Str) (d : D) (e1 : Env) : List (Str × Cl) → SA
  | [] => .ex c d e1
  | (y, S) :: r => match CE.lookup (c, y) with
    | some true => match e1[i]? with
      | some none => match S.run FE i c d e1 with
        | some e2 => match e2[i]? with
          | some none => .nx e2
          | _ => .no
        | none => .no
      | _ => .no
    | some false => tryLT FE CE i c d e1 r
    | none => .no
noncomputable def xTryT (b : Sx) (FE : List (Str × Str)) (CE : List ((Str × Str) × Bool)) (i : Nat) (cl : List (Str × Cl)) : Sx := ⟨fun e => match b.run e with
  | .ex c d e1 => tryLT FE CE i c d e1 cl
  | r => r, b.asg ++ (i :: cl.flatMap fun p => p.2.asg)⟩
theorem tryLT_only {FE : List (Str × Str)} {CE : List ((Str × Str) × Bool)} {i : Nat} {c : Str} {d : D} {e1 : Env} : ∀ {cl : List (Str × Cl)}, (∃ e', tryLT FE CE i c d e1 cl = .nx e') ∨ tryLT FE CE i c d e1 cl = .ex c d e1 ∨ tryLT FE CE i c d e1 cl = .no
  | [] => .inr (.inl rfl)
  | (y, S) :: r => by
    unfold tryLT
    split
    · split
      · split
        · split
          · exact .inl ⟨_, rfl⟩
          · exact .inr (.inr rfl)
        · exact .inr (.inr rfl)
      · exact .inr (.inr rfl)
    · exact tryLT_only
    · exact .inr (.inr rfl)
section
variable {P : Pl} {N : List Str} {sc : Scope} {mg : Str → Option Value}
noncomputable def ExCls (P : Pl) : Prop := ∀ c C f, P.exc c = some (C, f) → P.G.cls c = some C
theorem XO_ok {a C dd : Addr} : ∃ φ, XO a (.ref C) (some dd) = .ext φ ∧ ExO2 a C dd φ := ⟨_, rfl, fun h z => z⟩
theorem kp_asg (fr : Fra P N sc mg) {i j : Nat} {x y : Str} {p p2 pos : Pos} (hNi : N[i]? = some x) (hx : sc.names.lookup x = some .local) (hN : N[j]? = some y) (hy : Loc sc y) (hf : sc.names.lookup y = some .local ∨ ∀ X, P.M X → X.fn y = true)
    (hs : ∀ env, swapsWithSole [.Name y p] (.Name x p2) pos.line env = pure false) (hw : ∀ env, swappedStores [.Name y p] (.Name x p2) env = pure none) (h1 : ∀ env, (assignEach [.Name y p] env).map (·.2) = [assign (.Name y p) env])
    (hd : (x == ("__debug__" : Str)) = false := by decide) (hc : (x == ("__classdict__" : Str)) = false := by decide) {a : Addr} {cls : Value} {d : Option Addr} : ∀ X', (P.su a cls d).M X' → PSs X' [.Assign [.Name y p] (.Name x p2) pos] (tSeq (tAsg (tVar i) (gName j)) tNext) := fun X' hX' => by
  obtain ⟨X, oe, pn, hX, e', hz, hfl⟩ := hX'
  subst e'
  refine pss_cons (ps_asg (pe_var (by show X.N[i]? = _; rw [fr.hN X hX]; exact hNi) (by show Vis X.env.scope x; rw [fr.hsc X hX]; exact .inl hx) hd hc) (pg_name (by show X.N.Nodup; rw [fr.hN X hX]; exact fr.nd) (by show X.N[j]? = _; rw [fr.hN X hX]; exact hN) (by show Loc X.env.scope y; rw [fr.hsc X hX]; exact hy) (hf.elim (fun z => .inr (by show X.env.scope.names.lookup y = _; rw [fr.hsc X hX]; exact z)) (fun z => .inl (z X hX)))) (hs _) (hw _) (h1 _)) pss_nil
noncomputable def ClSu (P : Pl) (i : Nat) (sts : List Stmt) : Cl → Prop
  | .su S => SuS P i sts S
  | .kp j => ∀ a cls d X', (P.su a cls d).M X' → PSs X' sts (tSeq (tAsg (tVar i) (gName j)) tNext)
inductive ClsOkT (P : Pl) (i : Nat) (sc : Scope) (mg : Str → Option Value) (x : Str) : List ExceptHandler → List (Str × Cl) → List (Value × TsF) → Prop
  | nil : ClsOkT P i sc mg x [] [] []
  | cons {U : Addr} {y : Str} {suite : List Stmt} {b₀ : Stmt} {np pos' : Pos} {S : Cl} {hds : List ExceptHandler} {cl : List (Str × Cl)} {l : List (Value × TsF)} (hs : ClSu P i (b₀ :: suite) S) (hy : sc.names.lookup y = some .globalImplicit) (hU : mg y = some (.ref U)) (hdb : (y == ("__debug__" : Str)) = false) (r : ClsOkT P i sc mg x hds cl l) :
      ClsOkT P i sc mg x (.ExceptHandler (some (.Name y np)) (some x) (b₀ :: suite) pos' :: hds) ((y, S) :: cl) ((.ref U, tsOf P (b₀ :: suite)) :: l)
theorem ClsOkT.hds (fr : Fra P N sc mg) {i : Nat} {x : Str} {hds : List ExceptHandler} {cl : List (Str × Cl)} {l : List (Value × TsF)} (h : ClsOkT P i sc mg x hds cl l) {X : Cx} (hX : P.M X) : HdsA X x hds l := by
  induction h with
  | nil => exact .nil
  | cons hs hy hU hdb r ih =>
    refine .cons ⟨fr.gl hy X hX, hdb, .inl (by rw [fr.hmg X hX]; exact hU)⟩ (fun a oe cls d pn hz hf => ⟨fun pins s σ H D I ⟨t, pt, h⟩ => (pt _ ⟨X, oe, pn, hX, rfl, hz, hf⟩).run pins s σ H D I h⟩) ih
theorem ss_tryT (fr : Fra P N sc mg) (tp : TopX P) {CE : List ((Str × Str) × Bool)} (hE : ExIs P mg CE) {FE : List (Str × Str)} (hF : ExFld P FE) (hK : ExCls P) {x : Str} {i : Nat} {body : List Stmt} {pos : Pos} {mb : Sx} {h₀ : ExceptHandler} {hds : List ExceptHandler} {cl : List (Str × Cl)} {l : List (Value × TsF)}
    (hb : ∀ W, SSs (P.tr W) body mb) (hc : ClsOkT P i sc mg x (h₀ :: hds) cl l) (hN : N[i]? = some x) (hl : sc.names.lookup x = some .local) : SS P (.Try body (h₀ :: hds) [] [] pos) (xTryT mb FE CE i cl) := by
  let tb : WX → TS := fun W D σ H => ∃ t : TS, ((∀ X', (P.tr W).M X' → PSs X' body t) ∧ EvS (P.tr W) t mb) ∧ t D σ H
  refine ⟨fun D σ H => tb (wAsT P.G.K i P.W D l) D σ H, fun X hX => ?_, fun e s e' h => ?_, fun n IO H0 Hf σ tv env te H S0 nt => ?_⟩
  · have hK := fr.K X hX
    rw [← hK]
    exact ps_try_asT (tp X hX).1 (tp X hX).2 (by rw [fr.hN X hX]; exact fr.nd) (by rw [fr.hN X hX]; exact hN) (by show X.env.scope.names.lookup x = _; rw [fr.hsc X hX]; exact hl) (fr.tk X hX)
      (fun W pn xe tk ps => ⟨fun pins s σ H D I ⟨t, ⟨pt, _⟩, h⟩ => (pt _ ⟨X, pn, xe, hX, rfl, tk, ps⟩).run pins s σ H D I h⟩) (hc.hds fr hX)
  · obtain ⟨t0, _, rt0, _⟩ := hb (fun _ _ _ _ => False)
    have h : (match mb.run e with
      | .ex c d e1 => tryLT FE CE i c d e1 cl
      | r => r) = .rt s e' := h
    cases em : mb.run e with
    | rt s1 e1 => rw [em] at h; cases h; exact rt0 _ _ _ em
    | ex c d e1 => rw [em] at h; rcases tryLT_only (FE := FE) (CE := CE) (i := i) (c := c) (d := d) (e1 := e1) (cl := cl) with ⟨_, z⟩ | z | z <;> (rw [show tryLT FE CE i c d e1 cl = .rt s e' from h] at z; cases z)
    | nx e1 => rw [em] at h; cases h
    | bk e1 => rw [em] at h; cases h
    | ct e1 => rw [em] at h; cases h
    | no => rw [em] at h; cases h
  have cv : ∀ {W : WX} {Hf' H' : Hp} {σ' tv' : L2.St} {e te' : Env}, St0 (P.tr W) n IO H0 Hf' σ' tv' e te' H' → St0 P n IO H0 Hf' σ' tv' e te' H' := fun z => ⟨z.le, z.ls, z.na, z.sr⟩
  have vc : ∀ {W : WX}, St0 (P.tr W) n IO H0 Hf σ tv env te H := ⟨S0.le, S0.ls, S0.na, S0.sr⟩
  have ml : ∀ j, j ∈ mb.asg → j ∈ mb.asg ++ (i :: cl.flatMap fun p => p.2.asg) := fun j hj => List.mem_append_left _ hj
  have hbW : ∀ D : Ends, ∃ t : TS, ((∀ X', (P.tr (wAsT P.G.K i P.W D l)).M X' → PSs X' body t) ∧ EvS (P.tr (wAsT P.G.K i P.W D l)) t mb) := fun D => hb _
  show OutS P n IO H0 Hf σ tv te (mb.asg ++ (i :: cl.flatMap fun p => p.2.asg)) _ (match mb.run env with
      | .ex c d e1 => tryLT FE CE i c d e1 cl
      | r => r)
  cases em : mb.run env with
  | no => trivial
  | nx e1 =>
    refine fun D q => ?_
    obtain ⟨t, ht⟩ := hbW D
    have h1 := ht.2.2 n IO H0 Hf σ tv env te H vc nt
    rw [em] at h1
    exact ⟨t, ht, h1 D fun σ' Hf' H' s' a' S' => q σ' Hf' H' s' (a'.mono ml) (cv S')⟩
  | bk e1 =>
    refine fun D q => ?_
    obtain ⟨t, ht⟩ := hbW D
    have h1 := ht.2.2 n IO H0 Hf σ tv env te H vc nt
    rw [em] at h1
    exact ⟨t, ht, h1 D fun σ' Hf' H' s' a' S' => q σ' Hf' H' s' (a'.mono ml) (cv S')⟩
  | ct e1 =>
    refine fun D q => ?_
    obtain ⟨t, ht⟩ := hbW D
    have h1 := ht.2.2 n IO H0 Hf σ tv env te H vc nt
    rw [em] at h1
    exact ⟨t, ht, h1 D fun σ' Hf' H' s' a' S' => q σ' Hf' H' s' (a'.mono ml) (cv S')⟩
  | rt s e1 =>
    refine fun D q => ?_
    obtain ⟨t, ht⟩ := hbW D
    have h1 := ht.2.2 n IO H0 Hf σ tv env te H vc nt
    rw [em] at h1
    exact ⟨t, ht, h1 D fun v σ' Hf' H' s' a' S' => q v σ' Hf' H' s' (a'.mono ml) (cv S')⟩
  | ex c d e1 =>
    dsimp only
    -- what the clauses make of it
    have key : ∀ {hds' : List ExceptHandler} {cl' : List (Str × Cl)} {l' : List (Value × TsF)}, ClsOkT P i sc mg x hds' cl' l' → (∀ p ∈ cl', ∀ j ∈ p.2.asg, j ∈ mb.asg ++ (i :: cl.flatMap fun p => p.2.asg)) → ∀ (D : Ends) (cw : Value) (dx : Option Addr) (σ' : L2.St) (Hf' H' : Hp), Same Hf Hf' → AsgOk mb.asg σ σ' → St0 P n IO H0 Hf' σ' tv e1 te H' → XR P.exc P.G H0 Hf' H' cw dx c d →
        (match tryLT FE CE i c d e1 cl' with
          | .nx e2 => ∀ σ2 Hf2 H2, Same Hf Hf2 → AsgOk (mb.asg ++ (i :: cl.flatMap fun p => p.2.asg)) σ σ2 → St0 P n IO H0 Hf2 σ2 tv e2 te H2 → D.nx σ2 H2
          | .ex c' d' e2 => ∀ cw dx σ2 Hf2 H2, Same Hf Hf2 → AsgOk (mb.asg ++ (i :: cl.flatMap fun p => p.2.asg)) σ σ2 → St0 P n IO H0 Hf2 σ2 tv e2 te H2 → XR P.exc P.G H0 Hf2 H2 cw dx c' d' → P.W cw dx σ2 H2
          | _ => False) → wAsT P.G.K i P.W D l' cw dx σ' H' := by
      intro hds' cl' l' hk
      induction hk with
      | nil =>
        intro _ D cw dx σ' Hf' H' s' a' S' xr w
        exact w cw dx σ' Hf' H' s' (a'.mono ml) S' xr
      | @cons U y suite b₀ np pos' S hds2 cl2 l2 hs hy hU hdb r ih =>
        intro hm D cw dx σ' Hf' H' s' a' S' xr w
        obtain ⟨C, f, dd, v, x1, x2, x3, x4, x5⟩ := id xr
        cases el : CE.lookup (c, y) with
        | none => unfold tryLT at w; rw [el] at w; exact w.elim
        | some b =>
          obtain ⟨_, _, w', u, hw, _, hx⟩ := hE.ok c y _ el C f x1
          have hu : u = .ref U := by
            rcases hw with ⟨U', _, h2, h3⟩ | ⟨T, _, _, h3, _⟩
            · rw [hU] at h3; cases h3; exact h2
            · rw [hU] at h3; cases h3
          subst hu; subst x2
          cases b with
          | false =>
            unfold tryLT at w
            rw [el] at w
            exact ⟨false, hx, fun z => absurd z Bool.false_ne_true, fun _ => ih (fun p hp => hm p (List.mem_cons_of_mem _ hp)) D _ dx σ' Hf' H' s' a' S' xr w⟩
          | true =>
            subst x3
            unfold tryLT at w
            rw [el] at w
            dsimp only at w
            cases ei : e1[i]? with
            | none => rw [ei] at w; exact w.elim
            | some z =>
              cases z with
              | some z => rw [ei] at w; exact w.elim
              | none =>
                rw [ei] at w
                dsimp only at w
                cases es : S.run FE i c d e1 with
                | none => rw [es] at w; exact w.elim
                | some e2 =>
                  rw [es] at w
                  dsimp only at w
                  cases ei2 : e2[i]? with
                  | none => rw [ei2] at w; exact w.elim
                  | some z =>
                    cases z with
                    | some z => rw [ei2] at w; exact w.elim
                    | none =>
                      rw [ei2] at w
                      dsimp only at w
                      refine ⟨true, hx, fun _ a na => ?_, fun z => absurd z (Ne.symm Bool.false_ne_true)⟩
                      obtain ⟨sf, Sf⟩ := S'.fixd x4.1 x4.2
                      have Sa := Sf.any nt ei (some (.ref a))
                      have hil : i < σ'.length := by rw [S'.ls, ← S'.le]; exact lt_of_get ei
                      cases S with
                      | su S =>
                        obtain ⟨t2, pt2, hj⟩ := hs c f C x1 d a dd
                        have h2 := hj n IO H0 _ _ tv e1 te H' v Sa nt (List.getElem?_set_self hil) upd_same (x5.mono sf)
                        rw [show S.run c d e1 = some e2 from es] at h2
                        refine ⟨t2, pt2, h2 _ fun σ2 Hf2 H2 s2 a2 S2 n2 => w _ Hf2 _ (s'.trans (sf.trans s2)) ?_ ((S2.any nt ei2 none).more n2)⟩
                        refine (a'.mono ml).trans (AsgOk.trans (AsgOk.mono (AsgOk.set (i := i) (v := some (.ref a))) ?_) (AsgOk.trans (a2.mono ?_) (AsgOk.mono (AsgOk.set (i := i) (v := none)) ?_)))
                        · intro j hj; rw [List.mem_singleton] at hj; subst hj; exact List.mem_append_right _ List.mem_cons_self
                        · intro j hj; exact hm _ List.mem_cons_self j hj
                        · intro j hj; rw [List.mem_singleton] at hj; subst hj; exact List.mem_append_right _ List.mem_cons_self
                      | kp j =>
                        unfold Cl.run at es
                        dsimp only at es
                        cases ef : FE.lookup c with
                        | none => rw [ef] at es; cases es
                        | some f0 =>
                          rw [ef] at es
                          dsimp only at es
                          split at es
                          · rename_i hfr
                            cases es
                            obtain ⟨hff, _, _⟩ := hF c f0 ef C f x1
                            subst hff
                            refine ⟨_, hs a _ _, ⟨.ref a, List.getElem?_set_self hil, fun n2 => ?_⟩⟩
                            have hda : dd ≠ a := ne_of_none x4.1 na
                            have S1 : St0 P n IO H0 (upd (upd Hf' dd (.xd [(f, v)])) a (XO a (.ref C) (some dd))) (σ'.set i (some (.ref a))) tv e1 te (upd H' a (XO a (.ref C) (some dd))) := ⟨Sa.le, Sa.ls, Sa.na, Sa.sr.wider na⟩
                            have sg : Same (upd Hf' dd (.xd [(f, v)])) (upd (upd Hf' dd (.xd [(f, v)])) a (XO a (.ref C) (some dd))) := same_upd (by
                              cases q : upd Hf' dd (.xd [(f, v)]) a with
                              | none => rfl
                              | some o =>
                                have := Sa.sr.sub _ _ q
                                rw [na] at this
                                cases this)
                            obtain ⟨φ, hφ1, hφ2⟩ := XO_ok (a := a) (C := C) (dd := dd)
                            have hr : Rep P.G (upd (upd Hf' dd (.xd [(f, v)])) a (XO a (.ref C) (some dd))) (.ref a) (.exc c f d) := .exc (φ := φ) (by rw [← hφ1]; exact upd_same) hφ2 (by rw [upd_ne hda]; exact upd_same) (.inl rfl) (hK c C f x1) (x5.mono (sf.trans sg))
                            have S2 := S1.push_sh hr
                            have S3 := S2.store nt S1.l2 (fun x hx => by cases hx) (by rw [← S1.le]; exact free_lt hfr.1)
                            have S4 := S3.any nt ei2 none
                            refine w _ _ _ (s'.trans (sf.trans sg)) ?_ S4
                            refine (a'.mono ml).trans (AsgOk.trans (AsgOk.mono (AsgOk.set (i := i) (v := some (.ref a))) ?_) (AsgOk.trans (AsgOk.mono (AsgOk.set (i := j) (v := some (.ref a))) ?_) (AsgOk.mono (AsgOk.set (i := i) (v := none)) ?_)))
                            · intro j hj; rw [List.mem_singleton] at hj; subst hj; exact List.mem_append_right _ List.mem_cons_self
                            · intro j2 hj; exact hm _ List.mem_cons_self j2 hj
                            · intro j hj; rw [List.mem_singleton] at hj; subst hj; exact List.mem_append_right _ List.mem_cons_self
                          · cases es
    have hmm : ∀ p ∈ cl, ∀ j ∈ p.2.asg, j ∈ mb.asg ++ (i :: cl.flatMap fun p => p.2.asg) := fun p hp j hj => List.mem_append_right _ (List.mem_cons_of_mem _ (List.mem_flatMap.mpr ⟨p, hp, hj⟩))
    have kk := fun D => key hc hmm D
    cases et : tryLT FE CE i c d e1 cl with
    | nx e2 =>
      rw [et] at kk
      refine fun D q => ?_
      obtain ⟨t, ht⟩ := hbW D
      have h1 := ht.2.2 n IO H0 Hf σ tv env te H vc nt
      rw [em] at h1
      exact ⟨t, ht, h1 (fun cw dx σ' Hf' H' s' a' S' xr => kk D cw dx σ' Hf' H' s' a' (cv S') xr fun σ2 Hf2 H2 s2 a2 S2 => q σ2 Hf2 H2 s2 a2 S2) D⟩
    | ex c' d' e2 =>
      rw [et] at kk
      refine fun w D => ?_
      obtain ⟨t, ht⟩ := hbW D
      have h1 := ht.2.2 n IO H0 Hf σ tv env te H vc nt
      rw [em] at h1
      exact ⟨t, ht, h1 (fun cw dx σ' Hf' H' s' a' S' xr => kk D cw dx σ' Hf' H' s' a' (cv S') xr fun cw dx σ2 Hf2 H2 s2 a2 S2 x => w cw dx σ2 Hf2 H2 s2 a2 S2 x) D⟩
    | rt s e2 => rcases tryLT_only (FE := FE) (CE := CE) (i := i) (c := c) (d := d) (e1 := e1) (cl := cl) with ⟨_, z⟩ | z | z <;> (rw [et] at z; cases z)
    | bk e2 => rcases tryLT_only (FE := FE) (CE := CE) (i := i) (c := c) (d := d) (e1 := e1) (cl := cl) with ⟨_, z⟩ | z | z <;> (rw [et] at z; cases z)
    | ct e2 => rcases tryLT_only (FE := FE) (CE := CE) (i := i) (c := c) (d := d) (e1 := e1) (cl := cl) with ⟨_, z⟩ | z | z <;> (rw [et] at z; cases z)
    | no => trivial
end
end VM

/-! VOM: C(e) of an error class as a value; str(x) of what repr shows; text * number -/
namespace VM
open PySem PySem.Spec PyProof.Rows L2

/-! ### str(x) -/
inductive StrP (K : PySem.W.Frag) : V → Str → Prop
  | str {t : Str} : StrP K (.str t) t
  | int {i : Int} (h : i.natAbs.log2 < 1920) : StrP K (.int i) (toString i)
  | bl {b : Bool} : StrP K (.bl b) (if b then "True" else "False")
  | non : StrP K .non "None"
section
variable {X : Cx} {x : Str} {C fI : Addr} {k : Nat} {fd : FuncData} {ps : List Str} {sp : Sp} {e : Expr} {es : List Expr} {ta : TA} {p pos : Pos}
end
section
variable {P : Pl} {N : List Str} {sc : Scope} {mg : Str → Option Value}
end
section
variable {P : Pl} {N : List Str} {sc : Scope} {mg : Str → Option Value}
end
end VM

/-! VOV: a def within a def as a value: its call -/
namespace VM
open PySem PySem.Spec PyProof.Rows L2

mutual
noncomputable def D.ne0 : D → Bool
  | .non => true
  | .bl _ => true
  | .int _ => true
  | .str _ => true
  | .fn _ => true
  | .ty _ => true
  | .cls _ => true
  | .tup xs => D.ne0s xs
  | .lst xs => D.ne0s xs
  | .frl xs => D.ne0s xs
  | .frt xs => D.ne0s xs
  | _ => false
noncomputable def D.ne0s : List D → Bool
  | [] => true
  | x :: r => D.ne0 x && D.ne0s r
end
noncomputable def D.ne1 : D → Bool
  | .dic kvs => kvs.all fun kd => kd.2.ne0
  | .dit kvs => kvs.all fun kd => kd.2.ne0
  | d => d.ne0
noncomputable def D.ne2 : D → Bool
  | .ins _ fs => fs.all fun x => x.2.ne1
  | d => d.ne1
theorem ne0s_get : ∀ {ds : List D} {i : Nat} {d : D}, D.ne0s ds = true → ds[i]? = some d → d.ne0 = true
  | x :: r, 0, d, h, e => by
    unfold D.ne0s at h
    rw [Bool.and_eq_true] at h
    cases e; exact h.1
  | x :: r, i + 1, d, h, e => by
    unfold D.ne0s at h
    rw [Bool.and_eq_true] at h
    exact ne0s_get h.2 e
open Classical in
noncomputable def hide (cs : List Addr) (H : Hp) : Hp := fun b => if b ∈ cs then none else H b
open Classical in
noncomputable def unh (cs : List Addr) (H H' : Hp) : Hp := fun b => if b ∈ cs then H b else H' b
section
variable {cs : List Addr} {H H' Hf : Hp} {b : Addr} {G : Gi}
theorem hide_in (h : b ∈ cs) : hide cs H b = none := by unfold hide; rw [if_pos h]
theorem hide_out (h : b ∉ cs) : hide cs H b = H b := by unfold hide; rw [if_neg h]
theorem unh_in (h : b ∈ cs) : unh cs H H' b = H b := by unfold unh; rw [if_pos h]
theorem unh_out (h : b ∉ cs) : unh cs H H' b = H' b := by unfold unh; rw [if_neg h]
theorem hide_some {o : HO} (h : hide cs H b = some o) : b ∉ cs ∧ H b = some o := by
  by_cases hb : b ∈ cs
  · rw [hide_in hb] at h; cases h
  · rw [hide_out hb] at h; exact ⟨hb, h⟩
noncomputable def Cells (cs : List Addr) (H : Hp) : Prop := ∀ c ∈ cs, ∃ v, H c = some (CellO c v)
theorem Cells.no (h : Cells cs H) {o : HO} (e : H b = some o) (n : ∀ φ, o ≠ .ext φ) : b ∉ cs := fun hb => by
  obtain ⟨v, z⟩ := h b hb
  rw [e] at z
  cases z
  exact n _ rfl
theorem Cells.out (h : Cells cs H) {o : HO} (e : H b = some o) (n : ∀ φ, o ≠ .ext φ) : hide cs H b = some o := by rw [hide_out (h.no e n)]; exact e
theorem Cells.rd (h : Cells cs H) {o : HO} (e : Rd H b o) (n : ∀ φ, o ≠ .ext φ) : Rd (hide cs H) b o := by
  rcases e with e | ⟨z, e⟩
  · exact .inl (h.out e n)
  · exact .inr ⟨z, h.out e fun φ z => nomatch z⟩
theorem Rep.hid0 (hc : Cells cs Hf) {v : V} {d : D} (r : Rep G Hf v d) (h : d.ne0 = true) : Rep G (hide cs Hf) v d := by
  induction r with
  | non => exact .non
  | bl => exact .bl
  | int => exact .int
  | str => exact .str
  | fn hx => exact .fn hx
  | ty => exact .ty
  | cls hx => exact .cls hx
  | tup hp l _ ih => exact .tup (hc.out hp fun φ z => nomatch z) l fun i v d h1 h2 => ih i v d h1 h2 (ne0s_get (by simpa [D.ne0] using h) h2)
  | lst hp l _ ih => exact .lst (hc.out hp fun φ z => nomatch z) l fun i v d h1 h2 => ih i v d h1 h2 (ne0s_get (by simpa [D.ne0] using h) h2)
  | frl hp l _ ih => exact .frl (hp.elim (fun hp => .inl (hc.rd hp fun φ z => nomatch z)) .inr) l fun i v d h1 h2 => ih i v d h1 h2 (ne0s_get (by simpa [D.ne0] using h) h2)
  | frt hp l _ ih => exact .frt (hp.elim (fun hp => .inl (hc.rd hp fun φ z => nomatch z)) .inr) l fun i v d h1 h2 => ih i v d h1 h2 (ne0s_get (by simpa [D.ne0] using h) h2)
  | dic => simp [D.ne0] at h
  | dit => simp [D.ne0] at h
  | ins => simp [D.ne0] at h
  | exc => simp [D.ne0] at h
  | clo => simp [D.ne0] at h
theorem Rep.hid1 (hc : Cells cs Hf) {v : V} {d : D} (r : Rep G Hf v d) (h : d.ne1 = true) : Rep G (hide cs Hf) v d := by
  cases r with
  | dic hp l r => exact .dic (hc.rd hp fun φ z => nomatch z) l fun i a b h1 h2 => (r i a b h1 h2).hid0 hc (List.all_eq_true.mp h b (List.mem_of_getElem? h2))
  | dit hp l r => exact .dit (hc.rd hp fun φ z => nomatch z) l fun i a b h1 h2 => (r i a b h1 h2).hid0 hc (List.all_eq_true.mp h b (List.mem_of_getElem? h2))
  | non => exact .non
  | bl => exact .bl
  | int => exact .int
  | str => exact .str
  | fn hx => exact .fn hx
  | ty => exact .ty
  | cls hx => exact .cls hx
  | tup hp l r => exact (Rep.tup hp l r).hid0 hc h
  | lst hp l r => exact (Rep.lst hp l r).hid0 hc h
  | frl hp l r => exact (Rep.frl hp l r).hid0 hc h
  | frt hp l r => exact (Rep.frt hp l r).hid0 hc h
  | ins => simp [D.ne1, D.ne0] at h
  | exc => simp [D.ne1, D.ne0] at h
  | clo => simp [D.ne1, D.ne0] at h
theorem Rep.hid (hc : Cells cs Hf) {v : V} {d : D} (r : Rep G Hf v d) (h : d.ne2 = true) : Rep G (hide cs Hf) v d := by
  cases r with
  | ins hp hC l r => exact .ins (hc.out hp fun φ z => nomatch z) hC l fun i a b h1 h2 => (r i a b h1 h2).hid1 hc (List.all_eq_true.mp h b (List.mem_of_getElem? h2))
  | dic hp l r => exact (Rep.dic hp l r).hid1 hc h
  | dit hp l r => exact (Rep.dit hp l r).hid1 hc h
  | non => exact .non
  | bl => exact .bl
  | int => exact .int
  | str => exact .str
  | fn hx => exact .fn hx
  | ty => exact .ty
  | cls hx => exact .cls hx
  | tup hp l r => exact (Rep.tup hp l r).hid0 hc h
  | lst hp l r => exact (Rep.lst hp l r).hid0 hc h
  | frl hp l r => exact (Rep.frl hp l r).hid0 hc h
  | frt hp l r => exact (Rep.frt hp l r).hid0 hc h
  | exc => simp [D.ne2, D.ne1, D.ne0] at h
  | clo => simp [D.ne2, D.ne1, D.ne0] at h
end
theorem fnOb_at {pr : Program} {w : World} {H : Hp} {h : Heap} {f : Addr} {F : NdefX.NF} (ok : HOk pr w H h) (e : H f = some (FnOb f F)) : ∃ od sl doc pm ctv, h.get? f = some { cls := .type "function", dict := od, data := .func (fdb F doc pm ctv), slots := sl } := (ok f _ e).1
structure NOkG (pr : Program) (w : World) (K : PySem.W.Frag) (mg : Str → Option Value) (base : Heap) (cx : CXT) (k : Nat) (f : Addr) (F : NdefX.NF) (ps fr : List Str) (sp : List V → Sp) : Prop where
  len : ∀ ws vs H Q W, sp ws vs H Q W → vs.length = ps.length
  run : ∀ (A : Around) (outer : List PySem.Env) (s : Shared) (H : Hp) (us : List Value) (vs ws : List V) (Q : VK) (W : XK), RoomG k A → Env0 pr w K mg base A outer s H → H f = some (FnOb f F) → H F.c = some (LamX.CodeO F.c F.qual) →
    NdefX.CellsAt F.cl fr (ws.map some) s.heap H → Vals vs us → sp ws vs H Q W → codeAny (model pr w) A (.call (.ref f) ⟨us, []⟩) (CR cx outer pr w H s Q W) s
theorem NOkG.mono {pr : Program} {w : World} {K : PySem.W.Frag} {mg : Str → Option Value} {base : Heap} {cx : CXT} {j k : Nat} {f : Addr} {F : NdefX.NF} {ps fr : List Str} {sp : List V → Sp} (o : NOkG pr w K mg base cx j f F ps fr sp) (h : j ≤ k) : NOkG pr w K mg base cx k f F ps fr sp :=
  ⟨o.len, fun A outer s H us vs ws Q W r => o.run A outer s H us vs ws Q W (r.mono h)⟩
theorem startF_eq {N : List Str} {vs ws : List V} : NdefX.startF N vs (ws.map some) = L2.start N (vs ++ ws) := by
  unfold NdefX.startF L2.start
  rw [List.map_append, List.append_assoc, List.length_append, List.length_map, Nat.sub_sub]
/-! ### the call -/
theorem objOk_hid {P : Program} {w : World} {H H' : Hp} {h : Heap} {a : Addr} (k : ∀ b o, H b = some o → (∀ φ, o ≠ .ext φ) → H' b = some o) : ∀ {o : HO}, ObjOk P w H h a o → ObjOk P w H' h a o
  | .lst _, x => x
  | .tup _, x => x
  | .dK _, x => x
  | .dT _, ⟨x1, x2, xs, p, r⟩ => ⟨x1, x2, xs, L2.Paired.mapP p (fun a b h => ⟨h.1, k _ _ h.2.1 (fun φ z => nomatch z), h.2.2⟩), r⟩
  | .set _ _, x => x
  | .ins _ _ _, ⟨x1, r⟩ => ⟨k _ _ x1 (fun φ z => nomatch z), r⟩
  | .own _, x => x
  | .xd _, x => x
  | .rng _ _, x => x
  | .frz _ u, ⟨x1, r⟩ => ⟨x1, objOk_hid (o := u) k r⟩
  | .tbl _, x => x
  | .met _ _, x => x
  | .ext _, x => x
section
variable {pr : Program} {w : World} {cs : List Addr} {H H' : Hp} {h : Heap}
theorem Cells.is (hc : Cells cs H) (ok : HOk pr w H h) {c : Addr} (hm : c ∈ cs) : ∃ (v : V) (u : Value), H c = some (CellO c v) ∧ RelV v u ∧ h.IsCell c (some u) := by
  obtain ⟨v, e⟩ := hc c hm
  obtain ⟨⟨u, r, q⟩, _, _⟩ := ok c _ e
  exact ⟨v, u, e, r, q⟩
theorem Cells.hok (hc : Cells cs H) (ok : HOk pr w H h) : HOk pr w (hide cs H) h := fun b o e => by
  obtain ⟨n, e⟩ := hide_some e
  exact objOk_hid (fun b o e n => hc.out e n) (ok b o e)
theorem Cells.not (hc : Cells cs H) (ok : HOk pr w H h) {a : Addr} {o : Obj} (e : h.get? a = some o) (n : ∀ v, o.data ≠ .cell v) : a ∉ cs := fun hm => by
  obtain ⟨v, u, _, _, o', e', d⟩ := hc.is ok hm
  rw [e] at e'; cases e'
  exact n _ d
theorem Cells.back {fs : List Addr} {h' : Heap} (hc : Cells cs H) (ok : HOk pr w H h) (nf : ∀ c ∈ cs, c ∉ fs) (kp : ∀ b o, h.get? b = some o → hide cs H b = none → b ∉ fs → h'.get? b = some o) (gone : ∀ c ∈ cs, H' c = none) (ok' : HOk pr w H' h') : HOk pr w (unh cs H H') h' := fun b o e => by
  by_cases hb : b ∈ cs
  · rw [unh_in hb] at e
    obtain ⟨v, u, e2, r, ob, e3, d⟩ := hc.is ok hb
    rw [e] at e2; cases e2
    have := kp b ob e3 (hide_in hb) (nf b hb)
    exact ⟨⟨u, r, ob, this, d⟩, ⟨ob, this⟩, fun h1 h2 ⟨u, r, o, e, d⟩ st => ⟨u, r, o, st o e, d⟩⟩
  · rw [unh_out hb] at e
    refine objOk_hid (fun b' o' e' n => ?_) (ok' b o e)
    rw [unh_out (fun z => by rw [gone b' z] at e'; cases e')]; exact e'
theorem hide_none {b : Addr} (hb : b ∉ cs) (e : hide cs H b = none) : H b = none := by rw [hide_out hb] at e; exact e
end
noncomputable def cloFS (io : List Bool) (F : List (Str × FS)) : FS := ⟨false :: io, fun ds => match ds with
  | .exc c z (.frl caps) :: args => if c = "" then match F.lookup z with
      | some fs => if fs.io = io ++ caps.map (fun _ => false) ∧ (args.all D.ne2 && caps.all D.ne2) = true then match fs.F (args ++ caps) with
          | .ok own d outs => if outs.length = args.length + caps.length then .ok own d (.non :: outs.take args.length) else .no
          | .okf _ _ => .no
          | .ex c' d outs => if outs.length = args.length + caps.length then .ex c' d (.non :: outs.take args.length) else .no
          | .no => .no
        else .no
      | none => .no
    else .no
  | _ => .no⟩
noncomputable def CloFact (P : Pl) (z : Str) (fs : FS) : Prop := ∃ (mk : List (Str × Addr) → Addr → NdefX.NF) (fr ps : List Str), P.G.nd z = some (mk, fr) ∧ (∀ cl c', (mk cl c').c = c' ∧ (mk cl c').cl = cl) ∧
  ∀ X, P.M X → ∃ k, (∀ f cl c', NOkG X.prog X.w X.K X.mg X.base (L2.CX X.prog X.w) k f (mk cl c') ps fr (fun ws vs H Q E => vs.length = ps.length ∧ spOf P.exc P.G fs (vs ++ ws) H Q E)) ∧ RoomG k X.A ∧ fs.io.length = ps.length + fr.length
theorem Post.unh {G : Gi} {io : List Bool} {vs ws : List V} {fr : List Bool} {cs : List Addr} {Hf H Hf' H' : Hp} {v0 : V} (hc : Cells cs Hf) (sf : Same Hf H) (hl : io.length = vs.length) (hfr : ∀ (i : Nat), fr[i]? = some true → False) (gone : ∀ c ∈ cs, H' c = none)
    (p : Post G (io ++ fr) (vs ++ ws) (hide cs Hf) (hide cs H) Hf' H') : Post G (false :: io) (v0 :: vs) Hf H (unh cs Hf Hf') (unh cs H H') where
  sf := fun b o e => by
    by_cases hb : b ∈ cs
    · rw [unh_in hb]; exact e
    · rw [unh_out hb]; exact p.sf b o (by rw [hide_out hb]; exact e)
  sub := fun b o e => by
    by_cases hb : b ∈ cs
    · rw [unh_in hb] at e ⊢; exact sf b o e
    · rw [unh_out hb] at e ⊢; exact p.sub b o e
  keep := fun b o e n => by
    by_cases hb : b ∈ cs
    · rw [unh_in hb]; exact e
    · rw [unh_out hb]
      refine p.keep b o (by rw [hide_out hb]; exact e) fun z => n ?_
      rcases z with ⟨i, h1, h2⟩ | z
      · by_cases hi : i < io.length
        · rw [List.getElem?_append_left hi] at h1
          rw [List.getElem?_append_left (by omega)] at h2
          exact .inl ⟨i + 1, by simpa using h1, by simpa using h2⟩
        · rw [List.getElem?_append_right (by omega)] at h1
          exact (hfr _ h1).elim
      · exact .inr z
  grow := ⟨fun b e => by
    by_cases hb : b ∈ cs
    · rw [unh_in hb] at e; exact e
    · rw [unh_out hb] at e; exact hide_none hb (p.grow b e), tabs_by p.grow.tab fun b o e _ => by rw [unh_out (fun z => by rw [gone b z] at e; cases e)]; exact e⟩
  nf := fun b o e => by
    by_cases hb : b ∈ cs
    · rw [unh_in hb] at e; exact .inr (.inl e)
    · rw [unh_out hb] at e
      rcases p.nf b o e with z | z | z
      · exact .inl (hide_none hb z)
      · exact .inr (.inl (by rw [hide_out hb] at z; exact z))
      · exact .inr (.inr z)
theorem spx_of {exc : Str → Option (Addr × Str)} {G : Gi} {fs : FS} {io fr : List Bool} {args caps : List D} {vs ws : List V} {cs : List Addr} {Hf H : Hp} {v0 : V} {Q : VK} {E : XK} {b0 : D} (hio : fs.io = io ++ fr) (hfr : ∀ (i : Nat), fr[i]? = some true → False) (hc : Cells cs Hf) (sf : Same Hf H) (hT : NdefX.TabsN G.T (hide cs H))
    (a : ArgsR G (false :: io) Hf H (v0 :: vs) (b0 :: args)) (rc : Reps G Hf ws caps) (lf : fr.length = caps.length) (ne : (args.all D.ne2 && caps.all D.ne2) = true)
    (h : match (match fs.F (args ++ caps) with
          | .ok own d outs => if outs.length = args.length + caps.length then FA.ok own d (.non :: outs.take args.length) else .no
          | .okf _ _ => .no
          | .ex c' d outs => if outs.length = args.length + caps.length then .ex c' d (.non :: outs.take args.length) else .no
          | .no => .no) with
      | .ok own d outs => ∀ v Hf' H', Post G (false :: io) (v0 :: vs) Hf H Hf' H' → VRes G H Hf' H' v own d → Outs G (false :: io) (v0 :: vs) Hf' H' outs → Q v H'
      | .okf d outs => ∀ v Hf' H', Post G (false :: io) (v0 :: vs) Hf H Hf' H' → FrRes G H Hf' H' v d → Outs G (false :: io) (v0 :: vs) Hf' H' outs → Q v H'
      | .ex c d outs => ∀ cv dx Hf' H', Post G (false :: io) (v0 :: vs) Hf H Hf' H' → XR exc G H Hf' H' cv dx c d → Outs G (false :: io) (v0 :: vs) Hf' H' outs → E cv dx H'
      | .no => False) :
    spOf exc G fs (vs ++ ws) (hide cs H) (fun v H' => (∀ c ∈ cs, H' c = none) → Q v (unh cs H H')) (fun cv dx H' => (∀ c ∈ cs, H' c = none) → E cv dx (unh cs H H')) := by
  have hcH : Cells cs H := fun c hm => let ⟨v, e⟩ := hc c hm; ⟨v, sf _ _ e⟩
  rw [Bool.and_eq_true] at ne
  have lv : vs.length = io.length := by have := a.lv; simpa using this
  have ld : args.length = io.length := by have := a.ld; simpa using this
  have s2 : Same (hide cs Hf) (hide cs H) := fun b o e => by
    obtain ⟨n, e⟩ := hide_some e
    rw [hide_out n]; exact sf b o e
  have notin : ∀ {p : Addr} {o : HO}, H p = some o → Mut (some o) → p ∉ cs := fun {p o} e m => hcH.no e fun φ z => by subst z; exact m
  have top : ∀ {o : HO} {d : D}, TopO G Hf o d → d.ne2 = true → TopO G (hide cs Hf) o d := fun {o d} t hd => by
    cases d with
    | lst ds => obtain ⟨us, e, r⟩ := t; exact ⟨us, e, r.len, fun i v d h1 h2 => (r.at' i v d h1 h2).hid0 hc (ne0s_get (by simpa [D.ne2, D.ne1, D.ne0] using hd) h2)⟩
    | dic ds => obtain ⟨us, e, l, r⟩ := t; exact ⟨us, e, l, r.len, fun i v d h1 h2 => by
        rw [List.getElem?_map] at h2
        obtain ⟨kd, h3, rfl⟩ := Option.map_eq_some_iff.mp h2
        exact (r.at' i v _ h1 (by rw [List.getElem?_map, h3]; rfl)).hid0 hc (List.all_eq_true.mp (show ds.all (fun kd => kd.2.ne0) = true from hd) kd (List.mem_of_getElem? h3))⟩
    | dit ds => obtain ⟨us, e, l, r⟩ := t; exact ⟨us, e, l, r.len, fun i v d h1 h2 => by
        rw [List.getElem?_map] at h2
        obtain ⟨kd, h3, rfl⟩ := Option.map_eq_some_iff.mp h2
        exact (r.at' i v _ h1 (by rw [List.getElem?_map, h3]; rfl)).hid0 hc (List.all_eq_true.mp (show ds.all (fun kd => kd.2.ne0) = true from hd) kd (List.mem_of_getElem? h3))⟩
    | ins c ds => obtain ⟨C, dx, us, e, hC, l, r⟩ := t; exact ⟨C, dx, us, e, hC, l, r.len, fun i v d h1 h2 => by
        rw [List.getElem?_map] at h2
        obtain ⟨kd, h3, rfl⟩ := Option.map_eq_some_iff.mp h2
        exact (r.at' i v _ h1 (by rw [List.getElem?_map, h3]; rfl)).hid1 hc (List.all_eq_true.mp (show ds.all (fun kd => kd.2.ne1) = true from hd) kd (List.mem_of_getElem? h3))⟩
    | _ => exact t.elim
  have ar : ArgsR G fs.io (hide cs Hf) (hide cs H) (vs ++ ws) (args ++ caps) := by
    rw [hio]
    refine ⟨hT, fun q hq => ?_, by rw [List.length_append, List.length_append, lv, lf, rc.len], by rw [List.length_append, List.length_append, ld, lf], fun i v d h1 h2 h3 => ?_, fun i v d h1 h2 h3 => ?_, fun i j v ne' h1 h2 h3 h4 => ?_⟩
    · by_cases hb : q.1 ∈ cs
      · exact hide_in hb
      · rw [hide_out hb]; exact a.tnf q hq
    · by_cases hi : i < io.length
      · rw [List.getElem?_append_left hi] at h1
        rw [List.getElem?_append_left (by omega)] at h2 h3
        exact (a.shr (i + 1) v d (by simpa using h1) (by simpa using h2) (by simpa using h3)).hid hc (List.all_eq_true.mp ne.1 d (List.mem_of_getElem? h3))
      · rw [List.getElem?_append_right (by omega), lv] at h2
        rw [List.getElem?_append_right (by omega), ld] at h3
        exact (rc.at' _ v d h2 h3).hid hc (List.all_eq_true.mp ne.2 d (List.mem_of_getElem? h3))
    · by_cases hi : i < io.length
      · rw [List.getElem?_append_left hi] at h1
        rw [List.getElem?_append_left (by omega)] at h2 h3
        obtain ⟨p, o, rfl, e1, e2, t⟩ := a.inout (i + 1) v d (by simpa using h1) (by simpa using h2) (by simpa using h3)
        have np := notin e2 t.mut
        exact ⟨p, o, rfl, by rw [hide_out np]; exact e1, by rw [hide_out np]; exact e2, top t (List.all_eq_true.mp ne.1 d (List.mem_of_getElem? h3))⟩
      · rw [List.getElem?_append_right (by omega)] at h1
        exact (hfr _ h1).elim
    · have lt : ∀ {i : Nat}, (io ++ fr)[i]? = some true → i < io.length := fun {i} h => by
        by_cases hi : i < io.length
        · exact hi
        · rw [List.getElem?_append_right (by omega)] at h
          exact (hfr _ h).elim
      have i1 := lt h1
      have j1 := lt h2
      rw [List.getElem?_append_left i1] at h1
      rw [List.getElem?_append_left j1] at h2
      rw [List.getElem?_append_left (by omega)] at h3 h4
      exact a.sep (i + 1) (j + 1) v (by omega) (by simpa using h1) (by simpa using h2) (by simpa using h3) (by simpa using h4)
  have rep : ∀ {Hf' H' : Hp} {v : V} {d : D}, Same Hf' H' → (∀ c ∈ cs, H' c = none) → Rep G Hf' v d → Rep G (unh cs Hf Hf') v d := fun {Hf' H' v d} s gone r => r.mono fun b o e => by
    rw [unh_out (fun z => by have := s b o e; rw [gone b z] at this; cases this)]; exact e
  have sm : ∀ {Hf' H' : Hp}, Same Hf' H' → (∀ c ∈ cs, H' c = none) → Same Hf' (unh cs Hf Hf') := fun {Hf' H'} s gone b o e => by
    rw [unh_out (fun z => by have := s b o e; rw [gone b z] at this; cases this)]; exact e
  have outs' : ∀ {Hf' H' : Hp} {outs : List D}, Same Hf' H' → (∀ c ∈ cs, H' c = none) → outs.length = args.length + caps.length → Outs G fs.io (vs ++ ws) Hf' H' outs → Outs G (false :: io) (v0 :: vs) (unh cs Hf Hf') (unh cs H H') (.non :: outs.take args.length) := fun {Hf' H' outs} s gone hl o => by
    refine ⟨by simp [List.length_take, hl, lv, ld], fun i p d h1 h2 h3 => ?_⟩
    cases i with
    | zero => simp at h1
    | succ i =>
      have hi : i < io.length := lt_of_get (by simpa using h1)
      have h1' : fs.io[i]? = some true := by rw [hio, List.getElem?_append_left hi]; simpa using h1
      have h2' : (vs ++ ws)[i]? = some (V.ref p) := by rw [List.getElem?_append_left (by omega)]; simpa using h2
      have h3' : outs[i]? = some d := by
        have h3 : (outs.take args.length)[i]? = some d := by simpa using h3
        rw [List.getElem?_take_of_lt (by omega)] at h3; exact h3
      obtain ⟨x, e, t⟩ := o.2 i p d h1' h2' h3'
      exact ⟨x, by rw [unh_out (fun z => by rw [gone p z] at e; cases e)]; exact e, t.mono (sm s gone)⟩
  refine ⟨hide cs Hf, args ++ caps, s2, ar, ?_⟩
  cases ef : fs.F (args ++ caps) with
  | no => rw [ef] at h; exact h.elim
  | okf d outs => rw [ef] at h; exact h.elim
  | ok own d outs =>
    rw [ef] at h
    dsimp only at h
    by_cases hl : outs.length = args.length + caps.length
    · rw [if_pos hl] at h
      intro v Hf' H' p r o gone
      rw [hio] at p
      refine h v _ _ (p.unh hc sf lv.symm hfr gone) ?_ (outs' p.sub gone hl o)
      unfold VRes at r ⊢
      cases own with
      | false => exact rep p.sub gone r
      | true =>
        obtain ⟨q, x, e1, e2, e3, e4, t⟩ := r
        have nq : q ∉ cs := fun z => by rw [gone q z] at e4; cases e4
        exact ⟨q, x, e1, by rw [unh_out nq]; exact e2, hide_none nq e3, by rw [unh_out nq]; exact e4, t.mono (sm p.sub gone)⟩
    · rw [if_neg hl] at h; exact h.elim
  | ex c d outs =>
    rw [ef] at h
    dsimp only at h
    by_cases hl : outs.length = args.length + caps.length
    · rw [if_pos hl] at h
      intro cv dx Hf' H' p xr o gone
      rw [hio] at p
      obtain ⟨C, f, dd, v, x1, x2, x3, ⟨x4, x5⟩, x6⟩ := xr
      have nd : dd ∉ cs := fun z => by rw [gone dd z] at x4; cases x4
      exact h cv dx _ _ (p.unh hc sf lv.symm hfr gone) ⟨C, f, dd, v, x1, x2, x3, ⟨by rw [unh_out nd]; exact x4, hide_none nd x5⟩, rep p.sub gone x6⟩ (outs' p.sub gone hl o)
    · rw [if_neg hl] at h; exact h.elim

theorem codes_hid {pr : Program} {w : World} {T : List NdefX.NTab} {cs : List Addr} {H : Hp} {h : Heap} (hc : Cells cs H) (ok : HOk pr w H h) (t : NdefX.TabsN T H) : NdefX.TabsN T (hide cs H) := fun p hp => by
  obtain ⟨ps, h1, h2, h3⟩ := t p hp
  refine ⟨ps, hc.out h1 (fun φ z => nomatch z), h2, fun pos cv e => ?_⟩
  obtain ⟨c, e1, e2⟩ := h3 pos cv e
  refine ⟨c, e1, ?_⟩
  obtain ⟨oc, ob, vs, tk, h1, h4, h5, h6⟩ := NdefX.codeO_at ok e2
  cases h1
  rw [hide_out (hc.not ok h4 fun v z => by rw [h5] at z; cases z)]
  exact e2
section
variable {P : Pl} {X : Cx}
theorem run_clo {F : List (Str × FS)} {io : List Bool} (hF : ∀ z fs, F.lookup z = some fs → CloFact P z fs) (h0 : P.G.cls "" = none) (hX : P.M X) {pins : List (Addr × Obj)} {σ : L2.St} {H : Hp} {s : Shared} {W : XK} (hx : PassesAt (L2.CX X.prog X.w) X σ W)
    (I : Inv X pins σ H s) {v0 : V} {u0 : Value} {vs : List V} {us : List Value} {Q : VK} (r0 : RelV v0 u0) (r : Vals vs us) (h : spOf P.exc P.G (cloFS io F) (v0 :: vs) H Q W) : (∃ f, u0 = .ref f ∧ PySem.W.FnAt f s.heap) ∧ wpAny (model X.prog X.w) X.A (call u0 us) (EP X pins σ Q) X.xe s := by
  obtain ⟨Hf, ds, sf, a, h⟩ := h
  unfold cloFS at h a
  dsimp only at h a
  have sh : ∃ c z caps args, ds = .exc c z (.frl caps) :: args := by
    cases ds with
    | nil => exact h.elim
    | cons d args => cases d with
      | exc c z d => cases d with
        | frl caps => exact ⟨_, _, _, _, rfl⟩
        | _ => exact h.elim
      | _ => exact h.elim
  obtain ⟨c, z, caps, args, rfl⟩ := sh
  dsimp only at h
  by_cases ec : c = ""
  · subst ec
    rw [if_pos rfl] at h
    cases el : F.lookup z with
    | none => rw [el] at h; exact h.elim
    | some fs =>
      rw [el] at h
      dsimp only at h
      by_cases hh : fs.io = io ++ caps.map (fun _ => false) ∧ (args.all D.ne2 && caps.all D.ne2) = true
      · rw [if_pos hh] at h
        have rc := a.shr 0 v0 _ rfl rfl rfl
        cases rc with
        | exc _ _ _ _ hC => rw [h0] at hC; cases hC
        | @clo f c' _ mk fr cl cs ws _ _ hn hf hc hcl lw l hv rr =>
          obtain ⟨mk', fr', ps, e1, hmk, hk⟩ := hF z fs el
          rw [hn] at e1
          cases e1
          obtain ⟨k, nok, room, hlen⟩ := hk X hX
          obtain ⟨hm1, hm2⟩ := hmk cl c'
          obtain rfl : u0 = Value.ref f := r0
          have hcf : Cells cs Hf := fun c hm => by
            obtain ⟨i, hi⟩ := List.mem_iff_getElem?.mp hm
            have hl : i < ws.length := by rw [lw, ← hcl.len]; exact lt_of_get hi
            exact ⟨_, hv i c _ hi (List.getElem?_eq_getElem hl)⟩
          have hcH : Cells cs H := fun c hm => let ⟨v, e⟩ := hcf c hm; ⟨v, sf _ _ e⟩
          have fnH := sf _ _ hf
          have coH := sf _ _ hc
          obtain ⟨od, sl, doc, pm, ctv, ho⟩ := fnOb_at I.hok fnH
          have nf : f ∉ cs := hcH.not I.hok ho fun v z => nomatch z
          have nco : c' ∉ cs := by
            obtain ⟨oc, ob, vs, tk, h1, h4, h5, h6⟩ := NdefX.codeO_at I.hok coH
            cases h1
            exact hcH.not I.hok h4 fun v z => by rw [h5] at z; cases z
          have z := spx_of (cs := cs) (ws := ws) hh.1 (fun i hi => by rw [List.getElem?_map] at hi; cases e : caps[i]? with | none => rw [e] at hi; cases hi | some _ => rw [e] at hi; cases hi) hcf sf (codes_hid hcH I.hok a.tab) a ⟨l, rr⟩ (by simp) hh.2 h
          refine ⟨⟨f, rfl, _, od, _, sl, ho⟩, ?_⟩
          have lvs : vs.length = ps.length := by
            have q1 : vs.length = io.length := by have := a.lv; simpa using this
            have q2 := congrArg List.length hh.1
            rw [List.length_append, List.length_map] at q2
            have := l; have := lw
            omega
          have e0 := I.env0
          have e1 : Env0 X.prog X.w X.K X.mg X.base X.A X.stack s (hide cs H) := ⟨e0.frames, e0.mod, fun b o e => ⟨(e0.bs b o e).1, by
            by_cases hb : b ∈ cs
            · exact hide_in hb
            · rw [hide_out hb]; exact (e0.bs b o e).2⟩, e0.bsz, e0.funs, fun b hb => by
            by_cases hb' : b ∈ cs
            · exact hide_in hb'
            · rw [hide_out hb']; exact e0.frf b hb, hcH.hok e0.hok, e0.bare⟩
          have nfr : ∀ c ∈ cs, c ∉ frs X.stack := fun c hm hb => by
            obtain ⟨v, e⟩ := hcH c hm
            rw [e0.frf c hb] at e; cases e
          refine wpAny_call (codeAny_mono ((nok f cl c').run X.A X.stack s (hide cs H) us vs ws _ _ room e1 (by rw [hide_out nf]; exact fnH) (by rw [hm1, hide_out nco]; exact coH) ?_ r ⟨lvs, z⟩) fun r1 s1 h1 => ?_)
          · rw [hm2]
            refine ⟨by simp [lw], fun y c e => ?_, fun x y c ex ey => ?_, fun i y e => ?_⟩
            · obtain ⟨i, _, hi⟩ := hcl.to y c e
              have hm := List.mem_of_getElem? hi
              obtain ⟨v, u, _, _, q⟩ := hcH.is I.hok hm
              exact ⟨hide_in hm, _, q⟩
            · obtain ⟨i, f1, g1⟩ := hcl.to x c ex
              obtain ⟨j, f2, g2⟩ := hcl.to y c ey
              have := hcl.inj i j c g1 g2
              subst this
              rw [f1] at f2; cases f2; rfl
            · obtain ⟨c, g1, g2⟩ := hcl.of i y e
              refine ⟨c, g2, fun v hv2 => ?_⟩
              rw [List.getElem?_map] at hv2
              obtain ⟨v', h3, h4⟩ := Option.map_eq_some_iff.mp hv2
              cases h4
              obtain ⟨⟨u, r, q⟩, _, _⟩ := I.hok c _ (sf _ _ (hv i c v g1 h3))
              exact ⟨u, r, q⟩
          · match r1, h1 with
            | .error e2, h1 =>
              obtain ⟨a', B, H', cls, d, x1, x2, x3, x4, x5, x6, x7, x8⟩ := h1
              have gone : ∀ c ∈ cs, H' c = none := fun c hm => by
                obtain ⟨v, u, _, _, o, e, _⟩ := hcH.is I.hok hm
                exact x4.free c o e (hide_in hm)
              refine hx pins H s e2 s1 I ⟨a', B, unh cs H H', cls, d, x1, x2, hcH.back I.hok nfr (fun b o e n nf => x4.keep b o e n nf) gone x3, ⟨fun b o e n nf => x4.keep b o e (by by_cases hb : b ∈ cs; exact hide_in hb; rw [hide_out hb]; exact n) nf, x4.slot, fun b o e n => ?_, x4.there, fun b xs e => ?_, fun b o xs e => ?_, fun b qs e => ?_⟩, ?_, x6, x7, x8 gone⟩
              · have nb : b ∉ cs := fun z => by obtain ⟨v, e⟩ := hcH b z; rw [n] at e; cases e
                rw [unh_out nb]; exact x4.free b o e (by rw [hide_out nb]; exact n)
              · have nb := hcH.no e fun φ z => nomatch z
                rw [unh_out nb]; exact x4.tups b xs (by rw [hide_out nb]; exact e)
              · have nb := hcH.no e fun φ z => nomatch z
                rw [unh_out nb]; exact x4.frzs b o xs (by rw [hide_out nb]; exact e)
              · have nb := hcH.no e fun φ z => nomatch z
                rw [unh_out nb]; exact x4.tbls b qs (by rw [hide_out nb]; exact e)
              · rw [unh_out fun z => ?_]
                · exact x5
                · obtain ⟨v, u, _, _, o, e, _⟩ := hcH.is I.hok z
                  have := x4.keep a' o e (hide_in z) (nfr a' z)
                  rw [x2.2.1] at this; cases this
            | .ok (.ret u), h1 =>
              obtain ⟨v, H', x1, x2, x3, x4, x5, x6⟩ := h1
              have gone : ∀ c ∈ cs, H' c = none := fun c hm => by
                obtain ⟨v, u, _, _, o, e, _⟩ := hcH.is I.hok hm
                exact x3.free c o e (hide_in hm) (by simp)
              refine I.after ⟨v, unh cs H H', x1, x2, ⟨fun b o e n nf hx => x3.keep b o e (by by_cases hb : b ∈ cs; exact hide_in hb; rw [hide_out hb]; exact n) nf hx, fun b o e n nf hx => x3.slot b o e (by by_cases hb : b ∈ cs; exact hide_in hb; rw [hide_out hb]; exact n) nf hx, fun b o e n hx => ?_, x3.there, fun b xs e => ?_, fun b o xs e => ?_, fun b qs e => ?_⟩, hcH.back I.hok nfr (fun b o e n nf => x3.keep b o e n nf (by simp)) gone x4, x5, x6 gone⟩
              · have nb : b ∉ cs := fun z => by obtain ⟨v, e⟩ := hcH b z; rw [n] at e; cases e
                rw [unh_out nb]; exact x3.free b o e (by rw [hide_out nb]; exact n) hx
              · have nb := hcH.no e fun φ z => nomatch z
                rw [unh_out nb]; exact x3.tups b xs (by rw [hide_out nb]; exact e)
              · have nb := hcH.no e fun φ z => nomatch z
                rw [unh_out nb]; exact x3.frzs b o xs (by rw [hide_out nb]; exact e)
              · have nb := hcH.no e fun φ z => nomatch z
                rw [unh_out nb]; exact x3.tbls b qs (by rw [hide_out nb]; exact e)
      · rw [if_neg hh] at h; exact h.elim
  · rw [if_neg ec] at h; exact h.elim
end

section
variable {P : Pl} {N : List Str} {sc : Scope} {mg : Str → Option Value}
theorem se_clo {F : List (Str × FS)} {io : List Bool} (fr : Fra P N sc mg) (hF : ∀ z fs, F.lookup z = some fs → CloFact P z fs) (h0 : P.G.cls "" = none) {fe e : Expr} {es : List Expr} {pos : Pos} {l : Lm} (hl : SL P (fe :: e :: es) l) (hs : (e :: es).all notStar = true)
    (hc : ∀ env, eval (.Call fe (e :: es) [] pos) env = (do callWith pos (← eval fe env) [] (backTo pos (starEach (e :: es) env)) (backToKw pos (keywordEach [] env)))) : SE P (.Call fe (e :: es) [] pos) (mCall (cloFS io F) l) := by
  obtain ⟨ts, pt, ft⟩ := hl
  have hs2 := hs
  rw [List.all_cons, Bool.and_eq_true] at hs2
  refine ⟨_, fun X hX => ?_, ev_call ft⟩
  refine ⟨fun pins s σ H Q I h => ?_⟩
  cases pt X hX with
  | cons p0 pr =>
    rename_i t0 ts
    rw [hc]
    refine wpAny_bind (thn (p0.run pins s σ H _ I h) fun u0 s1 hh => ?_)
    obtain ⟨v0, H1, I1, r0, q⟩ := hh
    refine PySem.W.callWith_of (P := fun h => ∃ f, u0 = .ref f ∧ PySem.W.FnAt f h) (by rw [star_ok hs2.1]; show ((false || (backTo pos (starEach es X.env)).any (·.1)) || false) = false; rw [star_any hs2.2]; rfl) (fun h ⟨f, e, k⟩ => by subst e; exact PySem.W.keeps_F h k) ?_
    rw [star_ok hs2.1]
    refine PySem.Calls.evalArgs_plain ?_
    have z := (pa_of pr hs).run pos pins s1 σ H1 _ I1 q
    rw [star_ok hs2.1] at z
    refine thn z fun us s2 z => ?_
    obtain ⟨vs, H2, I2, rv, q⟩ := z
    exact run_clo hF h0 hX (passAt (fr.tk X hX) σ) I2 r0 rv q
theorem CloFact.tr {z : Str} {fs : FS} (h : CloFact P z fs) (W : WX) : CloFact (P.tr W) z fs := by
  obtain ⟨mk, fr, ps, h1, h2, h3⟩ := h
  refine ⟨mk, fr, ps, h1, h2, fun X' ⟨X, pn, xe, hX, e, _⟩ => ?_⟩
  subst e
  exact h3 X hX
end
theorem mCall_clo {io : List Bool} {F : List (Str × FS)} {l : Lm} {e e1 : Env} {z : Str} {fs : FS} {caps args : List D} {ss : List Slot} (hl : F.lookup z = some fs) (hio : fs.io = io ++ caps.map (fun _ => false)) (hn : (args.all D.ne2 && caps.all D.ne2) = true) :
    (cloFS io F).F (.exc "" z (.frl caps) :: args) = (match fs.F (args ++ caps) with
          | .ok own d outs => if outs.length = args.length + caps.length then FA.ok own d (.non :: outs.take args.length) else .no
          | .okf _ _ => .no
          | .ex c' d outs => if outs.length = args.length + caps.length then .ex c' d (.non :: outs.take args.length) else .no
          | .no => .no) := by
  unfold cloFS
  dsimp only
  rw [if_pos rfl, hl]
  dsimp only
  rw [if_pos ⟨hio, hn⟩]
end VM

/-! VOW: a def whose body is a def within it, which it tells -/
namespace VM
open PySem PySem.Spec PyProof.Rows L2
section
variable {X : Cx} {pins : List (Addr × Obj)} {σ : L2.St} {H : Hp} {s : Shared}
end

noncomputable def cellsOn : List Addr → List V → Hp → Hp
  | c :: cs, v :: vs, H => fun b => if b = c then some (CellO c v) else cellsOn cs vs H b
  | _, _, H => H
theorem cellsOn_no : ∀ {cs : List Addr} {vs : List V} {H : Hp} {b : Addr}, b ∉ cs → cellsOn cs vs H b = H b
  | [], _, _, _, _ => by unfold cellsOn; rfl
  | _ :: _, [], _, _, _ => by unfold cellsOn; rfl
  | c :: cs, v :: vs, H, b, h => by
    unfold cellsOn
    rw [if_neg (fun z => h (by rw [z]; exact List.mem_cons_self))]
    exact cellsOn_no fun z => h (List.mem_cons_of_mem _ z)
open Classical in
noncomputable def hfm (f c' : Addr) (cs : List Addr) (Hf H2 : Hp) : Hp := fun b => if b = f ∨ b = c' ∨ b ∈ cs then H2 b else Hf b
theorem mk_post {G : Gi} {io : List Bool} {vs us : List V} {ds : List D} {Hf H H1 : Hp} {f c' p : Addr} {nm : Nat → Nat → Str} {cs : List Addr} {q : Str} {oF : HO} (a : ArgsR G io Hf H vs ds) (sub : Same Hf H) (hm : (p, nm) ∈ G.T)
    (kp : ∀ b o, H b = some o → b ≠ p → H1 b = some o) (nn : ∀ b, H1 b = none → H b = none) (t1 : NdefX.TabsN G.T H1) (n0 : H f = none) (nfc : f ≠ c') (hf : H1 f = some oF) (hc : H1 c' = some (LamX.CodeO c' q)) (oc : H c' = none ∨ H c' = some (LamX.CodeO c' q))
    (gone : ∀ c ∈ cs, H1 c = none) :
    Post G io vs Hf H (hfm f c' cs Hf (cellsOn cs us H1)) (cellsOn cs us H1) ∧ hfm f c' cs Hf (cellsOn cs us H1) f = some oF ∧ hfm f c' cs Hf (cellsOn cs us H1) c' = some (LamX.CodeO c' q) := by
  have out : ∀ {b o}, H1 b = some o → b ∉ cs := fun {b o} e z => by rw [gone b z] at e; cases e
  have up : ∀ {b o}, H1 b = some o → cellsOn cs us H1 b = some o := fun {b o} e => by rw [cellsOn_no (out e)]; exact e
  have h1 : ∀ {b}, (b = f ∨ b = c' ∨ b ∈ cs) → hfm f c' cs Hf (cellsOn cs us H1) b = cellsOn cs us H1 b := fun {b} h => by unfold hfm; rw [if_pos h]
  have h2 : ∀ {b}, ¬ (b = f ∨ b = c' ∨ b ∈ cs) → hfm f c' cs Hf (cellsOn cs us H1) b = Hf b := fun {b} h => by unfold hfm; rw [if_neg h]
  have ke : ∀ {b o}, H b = some o → b ≠ p → cellsOn cs us H1 b = some o := fun {b o} e n => up (kp b o e n)
  have np : ∀ {b o}, Hf b = some o → b ≠ p := fun {b o} e z => by have := a.tnf _ hm; rw [z, this] at e; cases e
  refine ⟨⟨fun b o e => ?_, fun b o e => ?_, fun b o e n => ke e fun z => n (.inr ⟨_, hm, z.symm⟩), ⟨fun b e => ?_, t1.ext fun b o e => up e⟩, fun b o e => ?_⟩, by rw [h1 (.inl rfl)]; exact up hf, by rw [h1 (.inr (.inl rfl))]; exact up hc⟩
  · by_cases hb : b = f ∨ b = c' ∨ b ∈ cs
    · rw [h1 hb]; exact ke (sub b o e) (np e)
    · rw [h2 hb]; exact e
  · by_cases hb : b = f ∨ b = c' ∨ b ∈ cs
    · rw [h1 hb] at e; exact e
    · rw [h2 hb] at e; exact ke (sub b o e) (np e)
  · by_cases hb : b ∈ cs
    · exact nn b (gone b hb)
    · rw [cellsOn_no hb] at e; exact nn b e
  · by_cases hb : b = f ∨ b = c' ∨ b ∈ cs
    · rw [h1 hb] at e
      rcases hb with rfl | rfl | hb
      · exact .inl n0
      · rw [up hc] at e; cases e
        exact .inr (.inr (.inr ⟨_, rfl⟩))
      · exact .inl (nn b (gone b hb))
    · rw [h2 hb] at e; exact .inr (.inl e)
end VM

/-! VOX: the law's call, the tables of code objects being empty -/
namespace VM
open PySem PySem.Spec PyProof.Rows L2
theorem law_callGT {pr : Program} {w : World} {K : PySem.W.Frag} {mg bm : Str → Option Value} {cx : CXT} {k : Nat} {fa a : Addr} {cs : List (Addr × Addr)} {fd : FuncData} {x : Str} {sp : Sp} {s : Shared} {us : List Value} {ns : List Int}
    (KX : K.In s.heap) (n1 : s.heap.Ns mainGlobals mg) (n2 : s.heap.Ns builtinsNs bm) (n3 : ∀ y : Str, y ≠ "__name__" → bm y = bootBuiltins y) (n4 : s.heap.NoLimit) (ng : s.gens = #[])
    (hT : ∀ p ∈ cs, s.heap.get? p.2 = some { cls := .none, data := .fields #[] }) (nT : ∀ p ∈ cs, K.lookup p.2 = none) (C : ∀ p ∈ cs, PySem.W.CodeHd s.heap p.1 p.2)
    (hbm : ∃ (m : Addr) (ob : Obj), mg "__builtins__" = some (.ref m) ∧ m ≠ builtinsNs ∧ s.heap.get? m = some ob ∧ ob.cls = .type "module" ∧ ob.dict = some builtinsNs ∧ ob.data = .plain)
    (ha : s.heap.get? a = some { cls := .type "list", data := .seq us.toArray }) (hi : IntsAre us ns) (hl : ns.length ≤ sizeLine) (hr : RoomG k callerA)
    (F : ∀ base : Heap, K.In base → base.Ns mainGlobals mg → (∀ p ∈ cs, LamX.TabB base mg p.1 p.2) → FnOkG pr w K mg base cx k fa fd [x] sp) (bd : ∀ (s : Shared) (u : Value), BindsTo s fd ⟨[u], []⟩ [(x, u)])
    (hsp : ∀ H : Hp, (∀ p ∈ cs, H p.2 = some (.tbl #[])) → (∀ Hf, (∀ b o, Hf b = some o ↔ H b = some o ∧ ∀ ps, o ≠ .tbl ps) → SqL K Hf a (ns.map V.int)) → sp [.ref a] H (fun v _ => v = .bl true) fun _ _ _ => False)
    (hcx : ∀ H e s', cx [] H s (fun _ _ _ => False) e s' → False) :
    codeAny (model pr w) callerA (.call (.ref fa) ⟨[.ref a], []⟩) (fun r s' => r = .ok (.ret (.bool true)) ∧ OldK s.heap s'.heap ∧ s'.os = s.os ∧ AllBare s'.gens) s := by
  have rv := vals_ints hi
  have ln := hi.length
  have isT : ∀ b : Addr, b ∈ cs.map (·.2) → s.heap.get? b = some { cls := .none, data := .fields #[] } := fun b hb => by
    obtain ⟨p, hp, e⟩ := List.mem_map.mp hb
    rw [← e]; exact hT p hp
  have aT : a ∉ cs.map (·.2) := fun z => by
    have q := isT a z
    rw [ha] at q
    exact nomatch (show Data.seq us.toArray _ = Data.fields #[] from congrArg Obj.data (Option.some.inj q))
  have memT : ∀ p ∈ cs, p.2 ∈ cs.map (·.2) := fun p hp => List.mem_map.mpr ⟨p, hp, rfl⟩
  have main : ∀ H : Hp, (∀ p ∈ cs, H p.2 = some (.tbl #[])) → (∀ b, H b = none ∨ b ∈ cs.map (·.2) ∨ ∃ o xs, H b = some (.frz o (.lst xs))) → (∀ Hf, (∀ b o, Hf b = some o ↔ H b = some o ∧ ∀ ps, o ≠ .tbl ps) → SqL K Hf a (ns.map V.int)) → HOk pr w H s.heap → (∀ b, H b ≠ none → b = a ∨ b ∈ cs.map (·.2)) → (H a ≠ none → K.lookup a = none) →
      codeAny (model pr w) callerA (.call (.ref fa) ⟨[.ref a], []⟩) (fun r s' => r = .ok (.ret (.bool true)) ∧ OldK s.heap s'.heap ∧ s'.os = s.os ∧ AllBare s'.gens) s := by
    intro H hH hO hS hk only nk
    have at_ : ∀ {b : Addr}, H b ≠ none → b = a ∨ b ∈ cs.map (·.2) := fun {b} h => only b h
    have free : ∀ {b : Addr} {o : Obj}, s.heap.get? b = some o → (∀ vs n, o.data ≠ .seq vs n) → o.data ≠ .fields #[] → H b = none := fun {b o} e h1 h2 => by
      cases q : H b with
      | none => rfl
      | some u =>
        rcases at_ (b := b) (by rw [q]; simp) with e' | e'
        · rw [e', ha] at e
          cases e
          exact (h1 _ _ rfl).elim
        · rw [isT b e'] at e
          cases e
          exact (h2 rfl).elim
    have freeD : ∀ {b : Addr} {o : Obj} {es : Array DictEntry} {ep : Nat}, s.heap.get? b = some o → o.data = .dict es ep → H b = none := fun {b o es ep} e d =>
      free e (fun vs n z => by rw [d] at z; cases z) fun z => by rw [d] at z; cases z
    have names : ∀ {b : Addr} {m : Str → Option Value}, s.heap.Ns b m → (hidT s.heap H).Ns b m := fun ⟨o, es, ep, e, d, r⟩ => ⟨o, es, ep, hidT_get e (freeD e d), d, r⟩
    have kin : K.In (hidT s.heap H) := fun b o e => by
      refine hidT_get (KX b o e) ?_
      cases hb : H b with
      | none => rfl
      | some u =>
        rcases at_ (b := b) (by rw [hb]; simp) with e' | e'
        · rw [e'] at e hb
          rw [nk (by rw [hb]; simp)] at e
          cases e
        · obtain ⟨p, hp, ep⟩ := List.mem_map.mp e'
          rw [← ep, nT p hp] at e
          cases e
    have md : Mod K mg (hidT s.heap H) := ⟨kin, names n1, ⟨bm, names n2, n3⟩, n4.elim fun mc h => ⟨mc, names h.1, h.2⟩⟩
    have TB : ∀ p ∈ cs, LamX.TabB (hidT s.heap H) mg p.1 p.2 := fun p hp => by
      have hTp := hT p hp
      refine ⟨?_, ?_, fun z => ?_⟩
      · obtain ⟨o, vs, file, tf, flags, tg, inF, text, tt, e1, r1, r2, r3, r4, r5, r6, r7, r8, hne⟩ := C p hp
        refine ⟨o, vs, file, tf, flags, tg, inF, text, tt, hidT_get e1 (free e1 (fun vs n z => ?_) fun z => ?_), r1, r2, r3, r4, r5, r6, r7, r8, hne⟩
        · rw [r2] at z; cases z
        · rw [r2] at z; cases z
          simp at r3
      · obtain ⟨m, ob, b1, b2, b3, b4, b5, b6⟩ := hbm
        have nG : m ≠ mainGlobals := fun q => by
          obtain ⟨o, es, ep, e, hd, _⟩ := n1
          rw [q, e] at b3; cases b3
          rw [hd] at b6; cases b6
        have nP : m ≠ p.2 := fun q => by
          rw [q, hTp] at b3; cases b3
          cases b6
        refine ⟨m, ob, b1, b2, nG, nP, hidT_get b3 (free b3 (fun vs n z => ?_) fun z => ?_), b4, b5, b6⟩
        · rw [b6] at z; cases z
        · rw [b6] at z; cases z
      · obtain ⟨o, es, ep, e, hd, _⟩ := n1
        rw [z, hTp] at e; cases e
        cases hd
    have nofs : ∀ {b : Addr}, b ∈ ([] : List Addr) → False := fun z => by cases z
    have z0 : Env0 pr w K mg (hidT s.heap H) callerA [] s H := ⟨rfl, md, fun b o e => of_hidT e, Nat.le_of_eq (hidT_size _ _), trivial, fun b hb => (nofs hb).elim, hk, .of_eq ng⟩
    refine codeAny_mono ((F _ kin (names n1) TB).run callerA [] s H ⟨[.ref a], []⟩ [.ref a] [.ref a] _ _ hr z0 (bd s (.ref a)) (.cons rfl .nil) (hsp H hH hS)) fun r s1 h => ?_
    match r, h with
    | .error e, h => exact (hcx H e s1 h).elim
    | .ok (.ret u), h =>
      obtain ⟨v, H1, os, br, un, ok1, ru, ev⟩ := h
      obtain rfl : v = .bl true := ev
      obtain rfl : u = Value.bool true := ru
      have key : ∀ b o, b ∉ cs.map (·.2) → s.heap.get? b = some o → s1.heap.get? b = some o := fun b o nb e => by
        cases q : H b with
        | none => exact un.keep b o e q (fun z => nofs z) (by simp)
        | some u =>
          rcases hO b with z | z | ⟨ob, xs, z⟩
          · rw [q] at z; cases z
          · exact absurd z nb
          · obtain ⟨e1, _⟩ := hk b _ z
            obtain ⟨e2, _⟩ := ok1 b _ (un.frzs b ob _ z)
            rw [e] at e1; cases e1
            exact e2
      have grown : ∀ p ∈ cs, ∃ more : Array Value, s1.heap.get? p.2 = some { cls := .none, data := .fields more } := fun p hp => by
        obtain ⟨more, z⟩ := un.tbls p.2 #[] (hH p hp)
        exact ⟨_, ok1 p.2 _ z⟩
      refine ⟨rfl, ⟨fun b o e => ?_, fun b o e => ?_⟩, os, br⟩
      · by_cases hb : b ∈ cs.map (·.2)
        · obtain ⟨p, hp, ep⟩ := List.mem_map.mp hb
          obtain ⟨more, hm⟩ := grown p hp
          rw [← ep] at e ⊢
          rw [hT p hp] at e
          cases e
          exact .inr (.inl ⟨((C p hp).tab (hT p hp)).isCodeTable, rfl, #[], more, rfl, by rw [Array.empty_append]; exact hm⟩)
        · exact .inl (key b o hb e)
      · by_cases hb : b ∈ cs.map (·.2)
        · obtain ⟨p, hp, ep⟩ := List.mem_map.mp hb
          obtain ⟨more, hm⟩ := grown p hp
          rw [← ep]; exact ⟨_, hm⟩
        · exact ⟨o, key b o hb e⟩
  cases hK : K.lookup a with
  | some o =>
    have e := KX a o hK
    rw [ha] at e
    cases e
    refine main (fun b => if b ∈ cs.map (·.2) then some (.tbl #[]) else none) (fun p hp => if_pos (memT p hp)) (fun b => ?_) (fun Hf _ => .inr ⟨_, us.toArray, _, hK, rfl, rfl, rfl, by rw [List.size_toArray, ln]; exact hl, by simpa using rv⟩) (fun b u z => ?_) (fun b z => ?_) fun z => absurd (show (if a ∈ cs.map (·.2) then some (HO.tbl #[]) else none) = none from if_neg aT) z
    · by_cases hb : b ∈ cs.map (·.2)
      · exact .inr (.inl hb)
      · exact .inl (if_neg hb)
    · by_cases hb : b ∈ cs.map (·.2)
      · have z' := (if_pos hb).symm.trans z
        cases z'
        exact isT b hb
      · have z' := (if_neg hb).symm.trans z
        cases z'
    · by_cases hb : b ∈ cs.map (·.2)
      · exact .inr hb
      · exact absurd (if_neg hb) z
  | none =>
    let o : Obj := { cls := .type "list", data := .seq us.toArray }
    have at1 : (if a = a then some (HO.frz o (.lst (ns.map V.int))) else if a ∈ cs.map (·.2) then some (.tbl #[]) else none) = some (.frz o (.lst (ns.map V.int))) := if_pos rfl
    refine main (fun b => if b = a then some (.frz o (.lst (ns.map V.int))) else if b ∈ cs.map (·.2) then some (.tbl #[]) else none) (fun p hp => (if_neg (show ¬ p.2 = a from fun z => aT (by rw [← z]; exact memT p hp))).trans (if_pos (memT p hp))) (fun b => ?_)
      (fun Hf hf => .inl (.inr ⟨o, (hf a _).mpr ⟨at1, fun ps z => nomatch z⟩⟩)) (fun b u z => ?_) (fun b z => ?_) fun _ => hK
    · by_cases hb : b = a
      · exact .inr (.inr ⟨_, _, if_pos hb⟩)
      · by_cases hb2 : b ∈ cs.map (·.2)
        · exact .inr (.inl hb2)
        · exact .inl ((if_neg hb).trans (if_neg hb2))
    · by_cases hb : b = a
      · have z' := (if_pos hb).symm.trans z
        cases z'
        rw [hb]
        exact ⟨ha, by rw [List.length_map]; exact hl, us, _, rv, ha⟩
      · have z1 := (if_neg hb).symm.trans z
        by_cases hb2 : b ∈ cs.map (·.2)
        · have z' := (if_pos hb2).symm.trans z1
          cases z'
          exact isT b hb2
        · have z' := (if_neg hb2).symm.trans z1
          cases z'
    · by_cases hb : b = a
      · exact .inl hb
      · by_cases hb2 : b ∈ cs.map (·.2)
        · exact .inr hb2
        · exact absurd ((if_neg hb).trans (if_neg hb2)) z
noncomputable def LawT (pr : Program) (w : World) (K : PySem.W.Frag) (mg : Str → Option Value) (fa : Addr) (k : Nat) (x : Str) (fs : FS) (h : Heap) : Prop := ∃ (fd : FuncData) (exc : Str → Option (Addr × Str)) (G : Gi) (cs : List (Addr × Addr)), G.K = K ∧ G.T.map (·.1) = cs.map (·.2) ∧ (∀ p ∈ cs, h.get? p.2 = some { cls := .none, data := .fields #[] }) ∧ (∀ p ∈ cs, K.lookup p.2 = none) ∧
  (∀ p ∈ cs, PySem.W.CodeHd h p.1 p.2) ∧ (∀ (s : Shared) (u : Value), BindsTo s fd ⟨[u], []⟩ [(x, u)]) ∧ ∀ base : Heap, K.In base → base.Ns mainGlobals mg → (∀ p ∈ cs, LamX.TabB base mg p.1 p.2) → FnOkG pr w K mg base (L2.CX pr w) k fa fd [x] (spOf exc G fs)
open Classical in
noncomputable def nTb (H : Hp) : Hp := fun b => if ∃ ps, H b = some (.tbl ps) then none else H b
theorem nTb_iff {H : Hp} {b : Addr} {o : HO} : nTb H b = some o ↔ H b = some o ∧ ∀ ps, o ≠ .tbl ps := by
  unfold nTb
  by_cases h : ∃ ps, H b = some (.tbl ps)
  · rw [if_pos h]
    obtain ⟨ps, h⟩ := h
    refine Iff.intro (fun z => by cases z) (fun en => ?_)
    have e := en.1
    rw [h] at e; cases e
    exact absurd rfl (en.2 ps)
  · rw [if_neg h]
    exact Iff.intro (fun e => ⟨e, fun ps z => h ⟨ps, by rw [e, z]⟩⟩) (fun e => e.1)
theorem sp_lawT {exc : Str → Option (Addr × Str)} {G : Gi} {fs : FS} {H : Hp} {a : Addr} {ns : List Int} (hio : fs.io = [false]) (hT : ∀ q ∈ G.T, H q.1 = some (.tbl #[])) (h : SqL G.K (nTb H) a (ns.map V.int)) (t : ∃ o, fs.F [.frl (ns.map D.int)] = .ok false (.bl true) o) : spOf exc G fs [.ref a] H (fun v _ => v = .bl true) fun _ _ _ => False := by
  obtain ⟨o, t⟩ := t
  refine ⟨nTb H, [.frl (ns.map D.int)], fun b o e => (nTb_iff.mp e).1, ⟨fun q hq => .nil (hT q hq), fun q hq => ?_, by rw [hio]; rfl, by rw [hio]; rfl, fun i v d h1 h2 h3 => ?_, fun i v d h1 => ?_, fun i j v ne h1 => ?_⟩, ?_⟩
  · unfold nTb
    rw [if_pos ⟨_, hT q hq⟩]
  · cases i with
    | zero =>
      simp at h2 h3
      subst h2; subst h3
      exact .frl h (by simp) fun i v d h1 h2 => by
        rw [List.getElem?_map] at h1 h2
        obtain ⟨x, hx, rfl⟩ := Option.map_eq_some_iff.mp h1
        rw [hx] at h2
        cases h2
        exact .int
    | succ i => simp at h2
  · rw [hio] at h1
    match i, h1 with
    | 0, h1 => cases h1
    | i + 1, h1 => cases h1
  · rw [hio] at h1
    match i, h1 with
    | 0, h1 => cases h1
    | i + 1, h1 => cases h1
  · rw [t]
    intro v Hf' H' _ r _
    cases r
    rfl
theorem walk_ofGT {l : PySem.W.OpenLaw} {n k : Nat} {q : Program} {loose : List Str} {XP : (Str → Option Value) → Heap → Prop} {YP : World → Heap → Prop} {d : DefRec} {K : Params → PySem.W.Frag} {fs : FS} {x : Str}
    (h1 : l.most = some n) (h2 : n ≤ sizeLine) (h3 : d.params.defaults = []) (hr : RoomG k callerA) (hY : ∀ (w : World) (h : Heap), YP w h → (K w.params).In h) (hio : fs.io = [false])
    (ht : ∀ ns : List Int, ns.length ≤ n → (∀ z ∈ ns, Builtin.Int.intBits z ≤ 1048576) → ∃ o, fs.F [.frl (ns.map D.int)] = .ok false (.bl true) o)
    (F : ∀ (w : World) (mg : Str → Option Value) (fa : Addr) (h : Heap), YP w h → (K w.params).In h → h.Ns mainGlobals mg → mg d.name = some (.ref fa) → LawT l.prog w (K w.params) mg fa k x fs h)
    (hcx : ∀ (w : World) (H : Hp) (s : Shared) (e : Value) (s' : Shared), L2.CX l.prog w [] H s (fun _ _ _ => False) e s' → False) :
    PySem.W.WalkO q loose XP YP l.row.toRowW d [] (fun f vs => PySem.call f vs) :=
  Att.attach_callB h1 h3 fun w s0 s1 mg bm fa o pm cd doc p us ns G Y _ _ _ hm hobj hints hlen hb hg => by
    obtain ⟨fd, exc, Gi, cs, hK, hTs, c1, c2, c3, bd, hF⟩ := F w mg fa _ Y (hY w _ Y) G.T.g hm
    refine law_callGT (hY w _ Y) G.T.g G.T.b G.T.builtins G.T.nolimit hg c1 c2 c3 G.T.bmain hobj hints (Nat.le_trans hlen h2) hr hF bd (fun H hH hS => ?_) fun H e s' => hcx w H s1 e s'
    refine sp_lawT hio (fun q hq => ?_) (hK ▸ hS (nTb H) fun b o => nTb_iff) (ht ns hlen hb)
    have hm' : q.1 ∈ Gi.T.map (·.1) := List.mem_map.mpr ⟨q, hq, rfl⟩
    rw [hTs] at hm'
    obtain ⟨p', hp', e⟩ := List.mem_map.mp hm'
    rw [← e]; exact hH p' hp'
theorem clsAt_no {K : PySem.W.Frag} {c : Str} (h : PySem.W.nsIn K mainGlobals c = some none) : clsAt K c = none := by
  unfold clsAt
  rw [h]
section
variable {P : Pl} {prog : Program} {w : World} {K : PySem.W.Frag} {mg : Str → Option Value} {base : Heap} {k j : Nat}
theorem AtX.clo {z : Str} {fs : FS} {mk : List (Str × Addr) → Addr → NdefX.NF} {fr ps : List Str} (A : AtX P prog w K mg base k) (hn : P.G.nd z = some (mk, fr)) (hm : ∀ cl c', (mk cl c').c = c' ∧ (mk cl c').cl = cl)
    (N : ∀ f cl c', NOkG prog w K mg base (L2.CX prog w) j f (mk cl c') ps fr (fun ws vs H Q E => vs.length = ps.length ∧ spOf P.exc P.G fs (vs ++ ws) H Q E)) (hj : j ≤ k) (hl : fs.io.length = ps.length + fr.length) : ∀ z' fs', [(z, fs)].lookup z' = some fs' → CloFact P z' fs' := fun z' fs' e => by
  rw [List.lookup_cons] at e
  cases hb : z' == z with
  | false => rw [hb] at e; cases e
  | true =>
    rw [hb] at e
    cases e
    have := beq_iff_eq.mp hb
    subst this
    refine ⟨mk, fr, ps, hn, hm, fun X hX => ?_⟩
    obtain ⟨rfl, rfl, rfl, rfl, rfl, hr⟩ := A X hX
    exact ⟨j, N, hr.mono hj, hl⟩
end
end VM

/-! VON: trees that are changed in place -/
namespace VM
open PySem PySem.Spec PyProof.Rows L2

section
variable {n : Nat} {G : Gi} {IO : En} {H0 Hf H : Hp} {σ : L2.St} {env : Env}
theorem SR.frTake (R : SR n G IO H0 Hf σ env H) {j : Nat} {d : D} (hj : env[j]? = some (fr d)) :
    ∃ (v : V) (L : List Addr), σ[j]? = some (some v) ∧ Own G Hf H L v d ∧ L.Nodup ∧ (∀ a ∈ L, Hf a = none) ∧
      ∀ (H' : Hp) (L' : List Addr) (d' : D), Own G Hf H' L' v d' → L'.Nodup → (∀ a ∈ L', a ∈ L ∨ H a = none) → (∀ a o, H a = some o → a ∉ L → H' a = some o) → (∀ a, H' a = none → H a = none) →
        SR n G IO H0 Hf σ (env.set j (fr d')) H' := by
  classical
  obtain ⟨Ls, w⟩ := R.fre
  obtain ⟨v, hvj, ho⟩ := w.own j d hj
  have jl := lt_of_get hj
  refine ⟨v, Ls j, hvj, ho, w.nd j, fun a ha => (w.out j a ha).1, fun H' L' d' o' nd' sub' kp gr => ?_⟩
  have outL : ∀ {a : Addr} {o : HO}, Hf a = some o → a ∉ Ls j := fun {a o} e m => by rw [(w.out j a m).1] at e; cases e
  have outH : ∀ {a : Addr} {o : HO}, H0 a = some o → a ∉ Ls j := fun {a o} e m => by rw [(w.out j a m).2] at e; cases e
  have ne : ∀ {i : Nat} {s : Slot}, (env.set j (fr d'))[i]? = some (some s) → i ≠ j → env[i]? = some (some s) := fun {i s} h hi => by rwa [List.getElem?_set_ne (Ne.symm hi)] at h
  have at' : (env.set j (fr d'))[j]? = some (fr d') := List.getElem?_set_self jl
  have nm : ∀ {i : Nat} {s : Slot}, (env.set j (fr d'))[i]? = some (some s) → s.m ≠ .fr → i ≠ j ∧ env[i]? = some (some s) := fun {i s} h hm => by
    have hi : i ≠ j := fun z => by subst z; rw [at'] at h; cases h; exact hm rfl
    exact ⟨hi, ne h hi⟩
  refine ⟨fun b o e => kp b o (R.sub b o e) (outL e), fun b o e nio => kp b o (R.keep b o e nio) (outH e), R.grow.to gr (tabs_by R.grow.tab fun b o e k => kp b o e fun m => (by obtain ⟨o', e', hm⟩ := w.at' m; rw [e] at e'; cases e'; rcases k with ⟨_, k⟩ | ⟨_, k⟩ <;> (subst k; exact hm))), R.nf, by rw [List.length_set]; exact R.len, fun i x h => ?_, fun i x h => ?_, fun i x h => ?_, fun i k x h => ?_, fun i k a b x hik ha hb ma mb h1 h2 => ?_, ?_⟩
  · exact R.shr i x (nm h (by simp)).2
  · obtain ⟨hi, h⟩ := nm h (by simp)
    obtain ⟨q, o, e, a, b, c, t⟩ := R.own i x h
    exact ⟨q, o, e, a, b, kp q o c fun m => w.sep j i _ q m h rfl e, t⟩
  · obtain ⟨hi, h⟩ := nm h (by simp)
    obtain ⟨q, o, e, a, b, c, t⟩ := R.inout i x h
    exact ⟨q, o, e, a, b, kp q o c fun m => w.sep j i _ q m h rfl e, t⟩
  · obtain ⟨hi, h⟩ := nm h (by simp)
    obtain ⟨jn, w1, e1, e2, s, e3, e4⟩ := R.ali i k x h
    refine ⟨jn, w1, e1, e2, ?_⟩
    by_cases hk : k = j
    · subst hk; exact ⟨_, at', fun k z => by cases z⟩
    · exact ⟨s, by rw [List.getElem?_set_ne (Ne.symm hk)]; exact e3, e4⟩
  · have ha' := (nm ha (fun z => by rw [z] at ma; cases ma)).2
    have hb' := (nm hb (fun z => by rw [z] at mb; cases mb)).2
    exact R.sep i k a b x hik ha' hb' ma mb h1 h2
  · have mutAt : ∀ {k : Nat} {s : Slot} {a : Addr}, env[k]? = some (some s) → s.m.mut = true → σ[k]? = some (some (V.ref a)) → H a ≠ none := fun {k s a} hs hm e z => by
      obtain ⟨m, x⟩ := s
      cases m with
      | ow => obtain ⟨q, o, e', _, _, c, _⟩ := R.own k x hs; rw [e] at e'; cases e'; rw [z] at c; cases c
      | io => obtain ⟨q, o, e', _, _, c, _⟩ := R.inout k x hs; rw [e] at e'; cases e'; rw [z] at c; cases c
      | sh => cases hm
      | al _ => cases hm
      | fr => cases hm
    have pick : ∀ {i : Nat} {a : Addr}, a ∈ (if i = j then L' else Ls i) → (i = j ∧ a ∈ L') ∨ (i ≠ j ∧ a ∈ Ls i) := fun {i a} h => by
      by_cases hi : i = j
      · rw [if_pos hi] at h; exact .inl ⟨hi, h⟩
      · rw [if_neg hi] at h; exact .inr ⟨hi, h⟩
    have here : ∀ {i : Nat} {a : Addr}, a ∈ Ls i → H a ≠ none := fun {i a} h z => by
      obtain ⟨o, e, _⟩ := w.at' h
      rw [z] at e; cases e
    refine ⟨fun i => if i = j then L' else Ls i, ⟨fun i x h => ?_, fun i => ?_, fun i a ha => ?_, fun i k a ha hb => ?_, fun i k s a ha hs hm hv => ?_, fun i a ha => ?_⟩⟩
    · by_cases hi : i = j
      · subst hi
        rw [at'] at h
        cases h
        rw [if_pos rfl]
        exact ⟨v, hvj, o'⟩
      · rw [if_neg hi]
        obtain ⟨u, hu, ou⟩ := w.own i x (ne h hi)
        exact ⟨u, hu, ou.mono (Same.refl _) fun a ha o e => kp a o e fun m => hi (w.dis i j a ha m)⟩
    · by_cases hi : i = j
      · rw [if_pos hi]; exact nd'
      · rw [if_neg hi]; exact w.nd i
    · rcases pick ha with ⟨_, ma⟩ | ⟨hi, ma⟩
      · rcases sub' a ma with h | h
        · exact w.out j a h
        · exact R.fresh h
      · exact w.out i a ma
    · rcases pick ha with ⟨e1, ma⟩ | ⟨hi, ma⟩
      · rcases pick hb with ⟨e2, mb⟩ | ⟨hk, mb⟩
        · rw [e1, e2]
        · rcases sub' a ma with h | h
          · exact absurd (w.dis _ _ a h mb).symm hk
          · exact absurd h (here mb)
      · rcases pick hb with ⟨e2, mb⟩ | ⟨hk, mb⟩
        · rcases sub' a mb with h | h
          · exact absurd (w.dis _ _ a ma h) hi
          · exact absurd h (here ma)
        · exact w.dis _ _ a ma mb
    · have hs' := (nm hs (fun z => by rw [z] at hm; cases hm)).2
      rcases pick ha with ⟨e1, ma⟩ | ⟨hi, ma⟩
      · rcases sub' a ma with h | h
        · exact w.sep j k s a h hs' hm hv
        · exact mutAt hs' hm hv h
      · exact w.sep i k s a ma hs' hm hv
    · rcases pick ha with ⟨e1, ma⟩ | ⟨hi, ma⟩
      · subst e1; exact ⟨d', at'⟩
      · obtain ⟨x, hx⟩ := w.cov i a ma
        exact ⟨x, by rw [List.getElem?_set_ne (Ne.symm hi)]; exact hx⟩
end
theorem Owns.at {G : Gi} {Hf H : Hp} : ∀ {L : List Addr} {vs : List V} {ds : List D} (i : Nat) {d : D}, Owns G Hf H L vs ds → ds[i]? = some d →
    ∃ (v : V) (L1 Li L2 : List Addr), vs[i]? = some v ∧ L = L1 ++ (Li ++ L2) ∧ Own G Hf H Li v d ∧
      ∀ (H' : Hp) (Li' : List Addr) (v' : V) (d' : D), Own G Hf H' Li' v' d' → (∀ a, (a ∈ L1 ∨ a ∈ L2) → ∀ o, H a = some o → H' a = some o) → Owns G Hf H' (L1 ++ (Li' ++ L2)) (vs.set i v') (ds.set i d')
  | _, _, _, 0, d, .cons (L1 := A) (L2 := B) h r, e => by
    cases e
    exact ⟨_, [], A, B, rfl, rfl, h, fun H' Li' v' d' o k => (show Owns G Hf H' (Li' ++ B) (v' :: _) (d' :: _) from .cons o (r.mono (Same.refl _) fun a ha => k a (.inr ha)))⟩
  | _, _, _, i + 1, d, .cons (L1 := A) (L2 := B) h r, e => by
    obtain ⟨v, L1, Li, L2, h1, h2, h3, h4⟩ := Owns.at i r e
    refine ⟨v, A ++ L1, Li, L2, h1, by rw [h2, List.append_assoc], h3, fun H' Li' v' d' o k => ?_⟩
    rw [List.append_assoc]
    exact .cons (h.mono (Same.refl _) fun a ha => k a (.inl (List.mem_append_left _ ha))) (h4 H' Li' v' d' o fun a ha => k a (ha.imp (List.mem_append_right _) id))

section
variable {n : Nat} {G : Gi} {IO : En} {H0 Hf H H' : Hp} {σ : L2.St} {env : Env}
noncomputable def TbA (G : Gi) (a : Addr) : Prop := ∃ q ∈ G.T, q.1 = a
open Classical in
noncomputable def nT (G : Gi) (H : Hp) : Hp := fun a => if TbA G a then none else H a
structure Grw (G : Gi) (H H' : Hp) : Prop where
  s : ∀ b o, H b = some o → ¬ TbA G b → H' b = some o
  g : GrP G H H'
theorem Gr.ntb {p : Addr} {o : HO} (g : Gr G IO H0 H) (h : H p = some o) (m : Mut (some o)) : ¬ TbA G p := fun ⟨q, hq, z⟩ => g.ntab h m q hq z
theorem Grw.at' (k : Grw G H H') (g : Gr G IO H0 H) {p : Addr} {o : HO} (h : H p = some o) (m : Mut (some o)) : H' p = some o := k.s _ _ h (g.ntb h m)
theorem Grw.trans {H2 : Hp} (a : Grw G H H') (b : Grw G H' H2) : Grw G H H2 := ⟨fun x o e n => b.s x o (a.s x o e n) n, ⟨fun x e => a.g x (b.g x e), b.g.tab⟩⟩
end
section
variable {P : Pl} {n : Nat} {IO : En} {H0 Hf H : Hp} {σ tv : L2.St} {env te : Env}
end
/-! ### return x, x a tree -/
section
variable {P : Pl} {n : Nat} {IO : En} {H0 Hf H : Hp} {σ tv : L2.St} {env te : Env} {N : List Str} {sc : Scope} {mg : Str → Option Value}
end

/-! ### a flat thing of ours, seen as a tree -/
theorem Reps.owns {G : Gi} {Hf H : Hp} : ∀ {vs : List V} {ds : List D}, Reps G Hf vs ds → D.imms ds = true → Owns G Hf H [] vs ds
  | [], [], _, _ => .nil
  | [], _ :: _, r, _ => by have := r.len; simp at this
  | _ :: _, [], r, _ => by have := r.len; simp at this
  | v :: vs, d :: ds, r, h => by
    obtain ⟨r1, r2⟩ := Reps.inv r
    unfold D.imms at h
    rw [Bool.and_eq_true] at h
    exact Owns.cons (L1 := []) (L2 := []) (.shr h.1 r1) (Reps.owns r2 h.2)
noncomputable def D.flat : D → Bool
  | .lst ds => D.imms ds
  | .dic kds => D.imms (kds.map (·.2))
  | .dit kds => D.imms (kds.map (·.2))
  | _ => false
theorem TopO.own {G : Gi} {Hf H : Hp} {o : HO} {d : D} {p : Addr} (t : TopO G Hf o d) (hp : H p = some o) (h : d.flat = true) : Own G Hf H [p] (.ref p) d := by
  cases d with
  | lst ds => obtain ⟨vs, e, r⟩ := t; subst e; exact .lst hp (r.owns h)
  | dic kds => obtain ⟨kvs, e, l, r⟩ := t; subst e; exact .dic hp l (r.owns h)
  | dit kds => obtain ⟨kvs, e, l, r⟩ := t; subst e; exact .dit hp l (r.owns h)
  | _ => cases h
section
variable {n : Nat} {G : Gi} {IO : En} {H0 Hf H : Hp} {σ : L2.St} {env : Env}
end

/-! ### two trees become one -/
theorem Owns.snoc {G : Gi} {Hf H : Hp} : ∀ {L L2 : List Addr} {vs : List V} {ds : List D} {v : V} {d : D}, Owns G Hf H L vs ds → Own G Hf H L2 v d → Owns G Hf H (L ++ L2) (vs ++ [v]) (ds ++ [d])
  | _, L2, _, _, v, d, .nil, o => by
    have := Owns.cons o (.nil (G := G) (Hf := Hf) (H := H))
    rw [List.append_nil] at this
    exact this
  | _, L2, _, _, v, d, .cons (L1 := A) (L2 := B) h r, o => by
    rw [List.append_assoc]
    exact .cons h (Owns.snoc r o)
section
variable {n : Nat} {G : Gi} {IO : En} {H0 Hf H : Hp} {σ : L2.St} {env : Env}
end

/-! ### x.append(e), x a tree -/
section
variable {P : Pl} {n : Nat} {IO : En} {H0 Hf H : Hp} {σ tv : L2.St} {env te : Env} {N : List Str} {sc : Scope} {mg : Str → Option Value}
theorem St0.item {i k : Nat} {ds xs : List D} (S : St0 P n IO H0 Hf σ tv env te H) (hi : env[i]? = some (fr (.lst ds))) (hk : ds[k]? = some (.lst xs)) :
    ∃ (p q : Addr) (vs ws : List V), σ[i]? = some (some (V.ref p)) ∧ H p = some (.lst vs) ∧ vs.length = ds.length ∧ vs[k]? = some (.ref q) ∧ H q = some (.lst ws) ∧ ws.length = xs.length ∧
      ∀ (y : V) (d : D), d.imm = true → Rep P.G Hf y d → St0 P n IO H0 Hf σ tv (env.set i (fr (.lst (ds.set k (.lst (xs ++ [d])))))) te (upd H q (.lst (ws ++ [y]))) := by
  have il := lt_of_get hi
  have inn : i < n := by rw [← S.le]; exact il
  obtain ⟨v, L, hv, o, nd, f0, go⟩ := S.sr.frTake (j := i) (d := .lst ds) (by rw [List.getElem?_append_left il]; exact hi)
  rw [List.getElem?_append_left (by rw [S.ls]; exact inn)] at hv
  cases o with
  | shr hb _ => cases hb
  | @lst p vs _ L0 hp r =>
    obtain ⟨u, L1, Lk, L2, h1, h2, h3, h4⟩ := Owns.at k r hk
    cases h3 with
    | shr hb _ => cases hb
    | @lst q ws _ L3 hq rq =>
      obtain ⟨np, n0⟩ := List.nodup_cons.mp nd
      have n1 := n0
      rw [h2] at n1
      obtain ⟨m1, m2, m3⟩ := List.nodup_append.mp n1
      obtain ⟨m4, m5, m6⟩ := List.nodup_append.mp m2
      obtain ⟨nq, _⟩ := List.nodup_cons.mp m4
      have q1 : q ∉ L1 := fun m => m3 q m q (List.mem_append_left _ List.mem_cons_self) rfl
      have q2 : q ∉ L2 := fun m => m6 q List.mem_cons_self q m rfl
      have pq : p ≠ q := fun z => np (by rw [h2, z]; exact List.mem_append_right _ (List.mem_append_left _ List.mem_cons_self))
      have qL : q ∈ p :: L0 := List.mem_cons_of_mem _ (by rw [h2]; exact List.mem_append_right _ (List.mem_append_left _ List.mem_cons_self))
      refine ⟨p, q, vs, ws, hv, hp, r.len, h1, hq, rq.len, fun y d hd rd => ?_⟩
      have ok : Own P.G Hf (upd H q (.lst (ws ++ [y]))) (q :: L3) (.ref q) (.lst (xs ++ [d])) := by
        have := (rq.mono (Same.refl _) (H' := upd H q (.lst (ws ++ [y]))) fun a ha o e => by rw [upd_ne (fun z => by subst z; exact nq ha)]; exact e).snoc (.shr hd rd)
        rw [List.append_nil] at this
        exact .lst upd_same this
      have os := h4 (upd H q (.lst (ws ++ [y]))) (q :: L3) (.ref q) _ ok fun a ha o e => by
        rw [upd_ne (fun z => by subst z; exact ha.elim q1 q2)]; exact e
      have ev : vs.set k (.ref q) = vs := by
        apply List.ext_getElem?
        intro j
        by_cases hj : k = j
        · subst hj; rw [List.getElem?_set_self (lt_of_get h1), h1]
        · rw [List.getElem?_set_ne hj]
      rw [ev, ← h2] at os
      have R := go (upd H q (.lst (ws ++ [y]))) (p :: L0) _ (.lst (by rw [upd_ne pq]; exact hp) os) nd (fun a ha => .inl ha) (fun a o e hn => by rw [upd_ne (fun z => by subst z; exact hn qL)]; exact e) fun a e => by
        by_cases z : a = q
        · subst z; rw [upd_same] at e; cases e
        · rw [upd_ne z] at e; exact e
      rw [List.set_append_left _ _ il] at R
      refine ⟨by simpa using S.le, S.ls, fun j t h => ?_, R⟩
      by_cases hj : i = j
      · subst hj
        rw [List.getElem?_set_self il] at h
        cases h
        exact fun k z => by cases z
      · rw [List.getElem?_set_ne hj] at h
        exact S.na j t h

end
section
variable {n : Nat} {G : Gi} {IO : En} {H0 Hf H : Hp} {σ : L2.St} {env : Env}
end

section
variable {P : Pl}
end
section
variable {P : Pl} {n : Nat} {IO : En} {H0 Hf H : Hp} {σ tv : L2.St} {env te : Env} {N : List Str} {sc : Scope} {mg : Str → Option Value}
end
end VM

/-! VOO: items of a field's dict; comprehensions of new things kept; borrowed trees; for r in x: r.append(e) -/
namespace VM
open PySem PySem.Spec PyProof.Rows L2

section
variable {P : Pl} {n : Nat} {IO : En} {H0 Hf H : Hp} {σ tv : L2.St} {env te : Env}
variable {N : List Str} {sc : Scope} {mg : Str → Option Value}
end

/-! ### comprehensions of new things, which stay ours -/
section
variable {P : Pl} {n : Nat} {IO : En} {H0 Hf H : Hp} {σ tv : L2.St} {env te : Env}
end
section
variable {P : Pl} {n : Nat} {IO : En} {H0 Hf H : Hp} {σ tv : L2.St} {env te : Env}
end
section
variable {P : Pl} {N : List Str} {sc : Scope} {mg : Str → Option Value}
end
end VM

/-! VOP: trees of lists, lent: what is told of them holds no list of theirs -/
namespace VM
open PySem PySem.Spec PyProof.Rows L2

mutual
noncomputable def D.onlyL : D → Bool
  | .lst xs => D.onlyLs xs
  | .tup xs => D.onlyLs xs
  | d => d.imm
noncomputable def D.onlyLs : List D → Bool
  | [] => true
  | x :: r => D.onlyL x && D.onlyLs r
end
section
variable {G : Gi} {Hf Hf2 H : Hp}
mutual
theorem Own.lists : ∀ {L : List Addr} {v : V} {d : D}, Own G Hf H L v d → d.onlyL = true → ∀ a ∈ L, ∃ vs, H a = some (.lst vs)
  | _, _, _, .shr hi r, _ => fun a ha => nomatch ha
  | _, _, _, .lst h r, hd => fun a ha => by
    rcases List.mem_cons.mp ha with e | ha
    · subst e; exact ⟨_, h⟩
    · exact Owns.lists r (by unfold D.onlyL at hd; exact hd) a ha
  | _, _, _, .dic h l r, hd => by unfold D.onlyL D.imm at hd; cases hd
  | _, _, _, .dit h l r, hd => by unfold D.onlyL D.imm at hd; cases hd
  | _, _, _, .tup h r, hd => fun a ha => Owns.lists r (by unfold D.onlyL at hd; exact hd) a ha
theorem Owns.lists : ∀ {L : List Addr} {vs : List V} {ds : List D}, Owns G Hf H L vs ds → D.onlyLs ds = true → ∀ a ∈ L, ∃ vs, H a = some (.lst vs)
  | _, _, _, .nil, _ => fun a ha => nomatch ha
  | _, _, _, .cons h r, hd => fun a ha => by
    unfold D.onlyLs at hd
    rw [Bool.and_eq_true] at hd
    rcases List.mem_append.mp ha with ha | ha
    · exact Own.lists h hd.1 a ha
    · exact Owns.lists r hd.2 a ha
end
end
section
variable {n : Nat} {G : Gi} {IO : En} {H0 Hf H : Hp} {σ : L2.St} {env : Env}
noncomputable def Lent (σ : L2.St) (env : Env) (Ls : Nat → List Addr) (a : Addr) : Prop := (∃ (i : Nat) (xs : List D), env[i]? = some (ow (.lst xs)) ∧ σ[i]? = some (some (V.ref a))) ∨ ∃ (i : Nat) (d : D), env[i]? = some (fr d) ∧ d.onlyL = true ∧ a ∈ Ls i
theorem Lent.list {Ls : Nat → List Addr} {a : Addr} (R : SR n G IO H0 Hf σ env H) (w : FrW G H0 Hf σ env H Ls) (h : Lent σ env Ls a) : (∃ vs, H a = some (.lst vs)) ∧ Hf a = none := by
  rcases h with ⟨i, xs, hi, hv⟩ | ⟨i, d, hi, hd, ha⟩
  · obtain ⟨p, o, e, h1, _, h3, t⟩ := R.own i _ hi
    rw [hv] at e; cases e
    obtain ⟨vs, rfl, _⟩ := t
    exact ⟨⟨vs, h3⟩, h1⟩
  · obtain ⟨v, _, o⟩ := w.own i d hi
    exact ⟨o.lists hd a ha, (w.out i a ha).1⟩
end
section
variable {P : Pl} {n : Nat} {IO : En} {H0 Hf H : Hp} {σ tv : L2.St} {env te : Env}
end
end VM

/-! VOQ: for r in x: r.append(e), x a tree -/
namespace VM
open PySem PySem.Spec PyProof.Rows L2

section
variable {P : Pl} {n : Nat} {IO : En} {H0 Hf H : Hp} {σ tv : L2.St} {env te : Env}
variable {N : List Str} {sc : Scope} {mg : Str → Option Value}
end
end VM

/-! VOR: x.append((a, y)), y handed on; [b for a, b in f()], f's things handed on -/
namespace VM
open PySem PySem.Spec PyProof.Rows L2

section
variable {n : Nat} {G : Gi} {IO : En} {H0 Hf H : Hp} {σ : L2.St} {env : Env}
end
section
variable {P : Pl} {n : Nat} {IO : En} {H0 Hf H : Hp} {σ tv : L2.St} {env te : Env}
variable {N : List Str} {sc : Scope} {mg : Str → Option Value}
end

/-! ### [b for a, b in f()] -/
noncomputable def pick2 : List D → Option (List D)
  | [] => some []
  | .tup [_, d] :: r => match pick2 r with
    | some ds => some (d :: ds)
    | none => none
  | _ => none
theorem pick2_cons {x : D} {r ys : List D} (h : pick2 (x :: r) = some ys) : ∃ c d ds, x = .tup [c, d] ∧ pick2 r = some ds ∧ ys = d :: ds := by
  unfold pick2 at h
  split at h
  · rename_i heq; cases heq
  · rename_i c d r' heq
    cases heq
    cases hp : pick2 r with
    | none => rw [hp] at h; cases h
    | some ds => rw [hp] at h; cases h; exact ⟨c, d, ds, rfl, rfl, rfl⟩
  · cases h
theorem Owns.pick {G : Gi} {Hf H : Hp} : ∀ {L : List Addr} {vs : List V} {xs ys : List D}, Owns G Hf H L vs xs → pick2 xs = some ys →
    ∃ (us : List V) (L' : List Addr), Owns G Hf H L' us ys ∧ L'.Sublist L ∧ us.length = vs.length ∧ ∀ (i : Nat) v, vs[i]? = some v → ∃ q x u, v = .ref q ∧ Hf q = some (.tup [x, u]) ∧ us[i]? = some u
  | _, _, _, _, .nil, h => by
    cases h
    exact ⟨[], [], .nil, List.Sublist.refl _, rfl, fun i v h => by simp at h⟩
  | _, _, _, _, .cons (L1 := A) (L2 := B) o r, h => by
    obtain ⟨c, d, ds, rfl, hp, rfl⟩ := pick2_cons h
    obtain ⟨us, L', o', sb, hl, hat⟩ := Owns.pick r hp
    cases o with
    | shr hi rr =>
      cases rr with
      | @tup p vs' ds' hh l rr =>
        match vs', l, rr, hh with
        | [x, u], _, rr, hh =>
          have hi2 : d.imm = true := by
            unfold D.imm at hi
            simp only [D.imms, Bool.and_eq_true] at hi
            exact hi.2.1
          refine ⟨u :: us, L', ?_, by simpa using sb, by rw [List.length_cons, List.length_cons, hl], fun i v hv => ?_⟩
          · have := Owns.cons (L1 := []) (Own.shr hi2 (rr 1 u d rfl rfl)) o'
            simpa using this
          · cases i with
            | zero => cases hv; exact ⟨p, x, u, rfl, hh, rfl⟩
            | succ i => exact hat i v (by simpa using hv)
    | tup hh rr =>
      rename_i p vs'
      cases rr with
      | cons o1 rr =>
        cases rr with
        | cons o2 rr =>
          cases rr with
          | nil =>
            rename_i A1 x A2 u
            refine ⟨u :: us, A2 ++ L', .cons o2 o', ?_, by rw [List.length_cons, List.length_cons, hl], fun i v hv => ?_⟩
            · refine List.Sublist.append ?_ sb
              rw [List.append_nil]
              exact List.sublist_append_right _ _
            · cases i with
              | zero => cases hv; exact ⟨p, x, u, rfl, hh, rfl⟩
              | succ i => exact hat i v (by simpa using hv)
section
variable {P : Pl} {n : Nat} {IO : En} {H0 Hf H : Hp} {σ tv : L2.St} {env te : Env}
end
section
variable {P : Pl} {N : List Str} {sc : Scope} {mg : Str → Option Value}
end
end VM

/-! VOS: an expression that walks the keys of slot j: the dict is locked while it is evaluated -/
namespace VM
open PySem PySem.Spec PyProof.Rows L2

section
variable {P : Pl} {n : Nat} {IO : En} {H0 Hf H : Hp} {σ tv : L2.St} {env te : Env}
end
section
variable {P : Pl} {N : List Str} {sc : Scope} {mg : Str → Option Value}
end
end VM

/-! VOT: two dicts that are equal: == and !=, values compared as data -/
namespace VM
open PySem PySem.Spec PyProof.Rows L2

section
variable {X : Cx} {pins : List (Addr × Obj)} {σ : L2.St} {H : Hp} {s : Shared}
end
section
variable {P : Pl} {N : List Str} {sc : Scope} {mg : Str → Option Value}
end
end VM

/-! VOU: [{}] != [{}] -/
namespace VM
open PySem PySem.Spec PyProof.Rows L2

section
variable {P : Pl} {N : List Str} {sc : Scope} {mg : Str → Option Value}
end
end VM

/-! VOY: pairs that hold a tree; y = x[k], x such a pair; return x, a tree or not -/
namespace VM
open PySem PySem.Spec PyProof.Rows L2
section
variable {n : Nat} {G : Gi} {IO : En} {H0 Hf H : Hp} {σ : L2.St} {env : Env}
end
section
variable {P : Pl}
end
/-! ### y = x[k] -/
section
variable {n : Nat} {G : Gi} {IO : En} {H0 Hf H : Hp} {σ : L2.St} {env : Env}
end
section
variable {P : Pl} {n : Nat} {IO : En} {H0 Hf H : Hp} {σ tv : L2.St} {env te : Env}
end
section
variable {P : Pl} {N : List Str} {sc : Scope} {mg : Str → Option Value}
end
end VM

/-! VOZ: the items of a local dict, walked -/
namespace VM
open PySem PySem.Spec PyProof.Rows L2

section
variable {X : Cx} {pins : List (Addr × Obj)} {σ : L2.St} {H : Hp} {s : Shared} {d : Addr} {o : Obj} {u : HO}
end
section
variable {P : Program} {w : World} {K : PySem.W.Frag} {d : Addr} {o : Obj} {es : Array DictEntry} {ep : Nat} {u : HO}
end
section
variable {P : Pl} {n : Nat} {IO : En} {H0 Hf H : Hp} {σ tv : L2.St} {env te : Env}
variable {N : List Str} {sc : Scope} {mg : Str → Option Value}
end
end VM

/-! VPA: dicts with tuple keys: setdefault, clear; pairs that hold a tree: made at a return, taken apart -/
namespace VM
open PySem PySem.Spec PyProof.Rows L2

section
variable {P : Pl} {N : List Str} {sc : Scope} {mg : Str → Option Value}
end
section
variable {n : Nat} {G : Gi} {IO : En} {H0 Hf H : Hp} {σ : L2.St} {env : Env}
end
section
variable {P : Pl} {n : Nat} {IO : En} {H0 Hf H : Hp} {σ tv : L2.St} {env te : Env}
variable {N : List Str} {sc : Scope} {mg : Str → Option Value}
end
section
variable {P : Pl} {n : Nat} {IO : En} {H0 Hf H : Hp} {σ tv : L2.St} {env te : Env}
variable {N : List Str} {sc : Scope} {mg : Str → Option Value}
end
end VM

/-! VPB: sorted(t), t a tuple of texts -/
namespace VM
open PySem PySem.Spec PyProof.Rows L2
section
variable {P : Pl} {N : List Str} {sc : Scope} {mg : Str → Option Value}
end
end VM

/-! VPC: for a, b in x[k].items(), x a shared tuple, x[k] a dict with tuple keys -/
namespace VM
open PySem PySem.Spec PyProof.Rows L2
section
variable {P : Pl} {n : Nat} {IO : En} {H0 Hf H : Hp} {σ tv : L2.St} {env te : Env}
variable {N : List Str} {sc : Scope} {mg : Str → Option Value}
end
end VM

/-! VPD: try: .. except C: return True/False -/
namespace VM
open PySem PySem.Spec PyProof.Rows L2
section
variable {P : Pl} {N : List Str} {sc : Scope} {mg : Str → Option Value} {n : Nat} {IO : En} {H0 Hf H H' : Hp} {σ tv : L2.St} {env te : Env}
end
end VM

/-! VPE: targets of three names -/
namespace VM
open PySem PySem.Spec PyProof.Rows L2
section
variable {P : Pl} {N : List Str} {sc : Scope} {mg : Str → Option Value}
end
end VM

/-! VPF: isinstance(e, (A, B, ..)) in a clause -/
namespace VM
open PySem PySem.Spec PyProof.Rows L2
inductive NmEs (sc : Scope) : List Expr → List Str → Prop
  | nil : NmEs sc [] []
  | cons {y : Str} {p : Pos} {es : List Expr} {ys : List Str} (hy : sc.names.lookup y = some .globalImplicit) (hd : (y == ("__debug__" : Str)) = false) (r : NmEs sc es ys) : NmEs sc (.Name y p :: es) (y :: ys)
section
variable {P : Pl} {N : List Str} {sc : Scope} {mg : Str → Option Value}
end
end VM

/-! VPG: x.setdefault(k, []).append(e), x a tree: a dict with tuple keys, of lists; a tree held still from a statement on -/
namespace VM
open PySem PySem.Spec PyProof.Rows L2

noncomputable def modG {κ α : Type} [DecidableEq κ] : List (κ × α) → κ → α → List (κ × α)
  | [], _, _ => []
  | (a, x) :: r, k, y => if a = k then (a, y) :: r else (a, x) :: modG r k y
theorem Owns.key {G : Gi} {Hf H : Hp} {κ : Type} [DecidableEq κ] {k : κ} : ∀ {L : List Addr} {kvs : List (κ × V)} {kds : List (κ × D)} {d : D}, kvs.map (·.1) = kds.map (·.1) → Owns G Hf H L (kvs.map (·.2)) (kds.map (·.2)) → valG kds k = some d →
    ∃ (v : V) (L1 Lk L2 : List Addr), valV kvs k = some v ∧ L = L1 ++ (Lk ++ L2) ∧ Own G Hf H Lk v d ∧
      ∀ (H' : Hp) (Lk' : List Addr) (d' : D), Own G Hf H' Lk' v d' → (∀ a, (a ∈ L1 ∨ a ∈ L2) → ∀ o, H a = some o → H' a = some o) →
        Owns G Hf H' (L1 ++ (Lk' ++ L2)) (kvs.map (·.2)) ((modG kds k d').map (·.2)) ∧ kvs.map (·.1) = (modG kds k d').map (·.1)
  | _, [], [], _, _, _, h => by cases h
  | _, [], _ :: _, _, e, _, _ => by simp at e
  | _, _ :: _, [], _, e, _, _ => by simp at e
  | L, (k1, v1) :: kvs, (k2, d1) :: kds, d, e, o, h => by
    simp only [List.map_cons, List.cons.injEq] at e o
    obtain ⟨rfl, e⟩ := e
    cases o with
    | @cons A B _ _ _ _ oh r =>
    by_cases hk : k1 = k
    · have hv : valG ((k1, d1) :: kds) k = some d1 := by simp [valG, List.find?_cons, hk]
      rw [hv] at h
      cases h
      refine ⟨v1, [], A, B, valV_pos hk, rfl, oh, fun H' Lk' d' o' k' => ?_⟩
      have em : modG ((k1, d1) :: kds) k d' = (k1, d') :: kds := if_pos hk
      rw [em]
      exact ⟨(show Owns G Hf H' (Lk' ++ B) (v1 :: kvs.map (·.2)) (d' :: kds.map (·.2)) from .cons o' (r.mono (Same.refl _) fun a ha => k' a (.inr ha))), by simp [e]⟩
    · have hv : valG ((k1, d1) :: kds) k = valG kds k := by simp [valG, List.find?_cons, hk]
      rw [hv] at h
      obtain ⟨v, L1, Lk, L2, h1, h2, h3, h4⟩ := Owns.key e r h
      refine ⟨v, A ++ L1, Lk, L2, by rw [valV_neg hk]; exact h1, by rw [h2, List.append_assoc], h3, fun H' Lk' d' o' k' => ?_⟩
      obtain ⟨q1, q2⟩ := h4 H' Lk' d' o' fun a ha => k' a (ha.imp (List.mem_append_right _) id)
      have em : modG ((k1, d1) :: kds) k d' = (k1, d1) :: modG kds k d' := if_neg hk
      rw [em, List.append_assoc]
      exact ⟨.cons (oh.mono (Same.refl _) fun a ha => k' a (.inl (List.mem_append_left _ ha))) q1, by simp [q2]⟩
section
variable {P : Pl} {n : Nat} {IO : En} {H0 Hf H : Hp} {σ tv : L2.St} {env te : Env} {N : List Str} {sc : Scope} {mg : Str → Option Value}
end

section
variable {P : Pl} {n : Nat} {IO : En} {H0 Hf H : Hp} {σ tv : L2.St} {env te : Env}
end
section
variable {P : Pl} {N : List Str} {sc : Scope} {mg : Str → Option Value}
end
end VM

/-! VPH: a list that holds a tree is handed on, one of two such is picked, its first item is named -/
namespace VM
open PySem PySem.Spec PyProof.Rows L2

section
variable {n : Nat} {G : Gi} {IO : En} {H0 Hf H : Hp} {σ : L2.St} {env : Env}
end
section
variable {P : Pl} {n : Nat} {IO : En} {H0 Hf H : Hp} {σ tv : L2.St} {env te : Env}
end
section
variable {P : Pl} {n : Nat} {IO : En} {H0 Hf H : Hp} {σ tv : L2.St} {env te : Env} {N : List Str} {sc : Scope} {mg : Str → Option Value}
end
section
variable {P : Pl} {n : Nat} {IO : En} {H0 Hf H : Hp} {σ tv : L2.St} {env te : Env}
variable {N : List Str} {sc : Scope} {mg : Str → Option Value}
end
section
variable {P : Pl} {n : Nat} {IO : En} {H0 Hf H : Hp} {σ tv : L2.St} {env te : Env}
variable {N : List Str} {sc : Scope} {mg : Str → Option Value}
end
end VM

/-! VPI: raise C(e), the error's text being made of e; == of lists of unlike lengths -/
namespace VM
open PySem PySem.Spec PyProof.Rows L2

section
variable {X : Cx} {x : Str} {C fI : Addr} {k : Nat} {fd : FuncData} {ps : List Str} {sp : Sp} {e : Expr} {es : List Expr} {ta : TA} {p pos : Pos}
end
section
variable {P : Pl} {N : List Str} {sc : Scope} {mg : Str → Option Value}
end
section
variable {P : Pl} {N : List Str} {sc : Scope} {mg : Str → Option Value}
end
end VM

/-! VPJ: split, upper, replace of texts -/
namespace VM
open PySem PySem.Spec PyProof.Rows L2

noncomputable def fSplit (z : Str) : List D → RR
  | [.str b] => if (b.length == 0) = false ∧ z.length + 2 ≤ sizeLine then .ow (.lst ((Txt.split z b).map D.str)) else .no
  | _ => .no
theorem t_split {G : Gi} : SNT G (fun x xs H Q => ∃ a b, x = .str a ∧ xs = [.str b] ∧ (b.length == 0) = false ∧ a.length + 2 ≤ sizeLine ∧ rNewStrs (Txt.split a b) H Q) fSplit := by
  intro Hf H z vs ds s p
  unfold fSplit
  split
  · rename_i b
    obtain ⟨v, rfl, h⟩ := p.inv1
    rw [h.str]
    split
    · rename_i hc
      exact fun Q q => ⟨z, b, rfl, rfl, hc.1, hc.2, fun a ha => q a _ ha ⟨_, rfl, reps_strs _⟩⟩
    · trivial
  · trivial
section
variable {P : Pl} {N : List Str} {sc : Scope} {mg : Str → Option Value}
theorem Fra.split (fr : Fra P N sc mg) {o e : Expr} {apos cpos : Pos} {mo m : Sm} (ho : SE P o mo) (h : SE P e m) (hs : [e].all notStar = true) (hline : (apos.endLine == cpos.line) = true) (hbase : ∀ env, attributeBase o "split" env (eval o env) = eval o env)
    (hfew : ∀ env, ((backTo cpos (starEach [e] env)).all (fun x => !x.1) && (backToKw cpos (keywordEach [] env)).all (fun x => x.1.isSome)
      && decide ([e].length + ([] : List Keyword).length + (if ([] : List Keyword).isEmpty then 0 else 1) < 30)) = true) : SE P (.Call (.Attribute o "split" apos) [e] [] cpos) (mTM fSplit mo (lCons m lNil)) :=
  se_tm fr PySem.F.slot_str_split PySem.F.type_str_split (fun X _ => mt_split) t_split ho (sl_cons h sl_nil) hs hline hbase hfew
/-! ### a replacement of written texts, in a list whose first item writes a text -/
noncomputable def SET (P : Pl) (e : Expr) (m : Sm) : Prop := ∃ t, (∀ X, P.M X → PET X e t) ∧ Ev P t m
inductive PETs (X : Cx) : List Expr → List TE → Prop
  | nil : PETs X [] []
  | cons {e es t ts} : PET X e t → PETs X es ts → PETs X (e :: es) (t :: ts)
theorem set_of {e : Expr} {m : Sm} (h : SE P e m) : SET P e m := let ⟨_, p, f⟩ := h; ⟨_, fun X hX => CwR.PET.of (p X hX), f⟩
end
end VM

/-! VPK: targets of four names -/
namespace VM
open PySem PySem.Spec PyProof.Rows L2
section
variable {P : Pl} {N : List Str} {sc : Scope} {mg : Str → Option Value}
end
end VM

/-! VPL: sorted(d.values()), the values texts -/
namespace VM
open PySem PySem.Spec PyProof.Rows L2
section
variable {P : Pl} {N : List Str} {sc : Scope} {mg : Str → Option Value}
end
end VM

/-! VPM: len of a dict -/
namespace VM
open PySem PySem.Spec PyProof.Rows L2
end VM

/-! VPN: a clause that changes the list which its error holds -/
namespace VM
open PySem PySem.Spec PyProof.Rows L2

section
variable {P : Pl} {N : List Str} {sc : Scope} {mg : Str → Option Value} {n : Nat} {G : Gi} {IO : En} {H0 Hf H H' : Hp} {σ tv : L2.St} {env te : Env}
noncomputable def LentI (σ : L2.St) (env : Env) (a : Addr) : Prop := ∃ (i : Nat) (c : Str) (fs : List (Str × D)), env[i]? = some (ow (.ins c fs)) ∧ σ[i]? = some (some (V.ref a))
theorem LentI.ins {a : Addr} (R : SR n G IO H0 Hf σ env H) (h : LentI σ env a) : (∃ C dx gs, H a = some (.ins C dx gs)) ∧ Hf a = none := by
  obtain ⟨i, c, fs, hi, hv⟩ := h
  obtain ⟨p, o, e, h1, _, h3, t⟩ := R.own i _ hi
  rw [hv] at e; cases e
  obtain ⟨C, dx, gs, rfl, _⟩ := t
  exact ⟨⟨C, dx, gs, h3⟩, h1⟩
end
end VM

/-! VPO: dicts with tuple keys that are equal: == and != -/
namespace PySem.W
open PySem PySem.Calls PyProof.Rows PyProof.V PySem.Spec
section
variable {prog : Program} {w : World} {K : Type} [DecidableEq K] {knd : HeapKind prog w K} {A : Around} {E : Value → Shared → Prop} {s : Shared}
end
end PySem.W
namespace VM
open PySem PySem.Spec PyProof.Rows L2
section
variable {P : Pl} {N : List Str} {sc : Scope} {mg : Str → Option Value}
end
end VM

/-! VPP: x[1][1].clear(), x a tree: a pair in a pair that ends with a dict of tuple keys -/
namespace VM
open PySem PySem.Spec PyProof.Rows L2
section
variable {P : Pl} {n : Nat} {IO : En} {H0 Hf H : Hp} {σ tv : L2.St} {env te : Env} {N : List Str} {sc : Scope} {mg : Str → Option Value}
end
end VM

/-! VPQ: a clause that hands its error to a def of one line: x = ("..", f(e), e) -/
namespace VM
open PySem PySem.Spec PyProof.Rows L2
structure FnP (pr : Program) (w : World) (K : PySem.W.Frag) (mg : Str → Option Value) (base : Heap) (cx : CXT) (k : Nat) (f : Addr) (fd : FuncData) (ps : List Str) (sp : Addr × Obj → Sp) : Prop where
  len : ∀ p vs H Q W, sp p vs H Q W → vs.length = ps.length
  run : ∀ (A : Around) (fr : List PySem.Env) (s : Shared) (H : Hp) (as : Args) (us : List Value) (vs : List V) (Q : VK) (W : XK) (p : Addr × Obj), L2H.RoomH k A → L2H.PinOk fr H s p → Env0 pr w K mg base A fr s H → BindsTo s fd as (ps.zip us) → Vals vs us → sp p vs H Q W →
    codeAny (model pr w) A (.call (.ref f) as) (CR cx fr pr w H s Q W) s
inductive KdOk (K : PySem.W.Frag) (mg : Str → Option Value) (C : Addr) : List Str → List Bool → Prop
  | nil : KdOk K mg C [] []
  | cons {y : Str} {b : Bool} {w : V} {u : Value} {ys : List Str} {bs : List Bool} (hn : NamC mg y w u) (hk : PySem.W.kitOne K (.ref C) u = some b) (r : KdOk K mg C ys bs) : KdOk K mg C (y :: ys) (b :: bs)
noncomputable def spKd (K : PySem.W.Frag) (mg : Str → Option Value) (ys : List Str) : Addr × Obj → Sp := fun p vs H Q _ => ∃ (C dd : Addr) (f : Str) (v : V) (bs : List Bool), vs = [.ref p.1] ∧ Zc (.ref C) (some dd) p.2 ∧ (∃ us, p.2.data = .fields us) ∧ H dd = some (.xd [(f, v)]) ∧
  ExcC K C ∧ (PySem.W.clsIn K C).isSome = true ∧ KdOk K mg C ys bs ∧ bs.length ≤ sizeLine ∧ ∀ l, H l = none → Q (.ref l) (upd H l (.lst (bs.map V.bl)))
inductive KdEs (sc : Scope) (x : Str) : List Expr → List Str → Prop
  | nil : KdEs sc x [] []
  | cons {y : Str} {p p1 p2 pos : Pos} {es : List Expr} {ys : List Str} (hy : sc.names.lookup y = some .globalImplicit) (hd : (y == ("__debug__" : Str)) = false) (r : KdEs sc x es ys) : KdEs sc x (.Call (.Name "isinstance" p) [.Name x p1, .Name y p2] [] pos :: es) (y :: ys)
section
variable {P : Pl} {N : List Str} {sc : Scope} {mg : Str → Option Value}
noncomputable def KdFact (P : Pl) (x : Str) (ys : List Str) : Prop := ∀ X, P.M X → ∃ f fd ps k, FnP X.prog X.w X.K X.mg X.base (L2.CX X.prog X.w) k f fd ps (spKd X.K X.mg ys) ∧ RoomG k X.A ∧ X.mg x = some (.ref f) ∧ PySem.W.keepIn X.K (.ref f) = true ∧ Binds X.K fd ps []
end
theorem AtX.kd {P : Pl} {prog : Program} {w : World} {K : PySem.W.Frag} {mg : Str → Option Value} {base : Heap} {k j : Nat} {f : Addr} {fd : FuncData} {ps : List Str} {x : Str} {ys : List Str} (A : AtX P prog w K mg base k) (F : FnP prog w K mg base (L2.CX prog w) j f fd ps (spKd K mg ys)) (hj : j ≤ k) (hm : mg x = some (.ref f)) (hk : PySem.W.keepIn K (.ref f) = true) (hb : Binds K fd ps []) : KdFact P x ys := fun X hX => by
  obtain ⟨e1, e2, e3, e4, e5, r⟩ := A X hX
  refine ⟨f, fd, ps, j, ?_, r.mono hj, ?_, ?_, ?_⟩
  · rw [e1, e2, e3, e4, e5]; exact F
  · rw [e4]; exact hm
  · rw [e3]; exact hk
  · rw [e3]; exact hb
section
variable {P : Pl} {N : List Str} {sc : Scope} {mg : Str → Option Value}
end
end VM

/-! VPR: a lambda that captures nothing, as a value: made, called -/
namespace VM
open PySem PySem.Spec PyProof.Rows L2
noncomputable def lamF (q : Str) (L : Expr) (cl : List (Str × Addr)) (c : Addr) : NdefX.NF := match L with
  | .Lambda params body scope pos => ⟨"<lambda>", q ++ "<lambda>", params, [.Return (some body) pos], scope, cl, c⟩
  | _ => ⟨"<lambda>", q, ⟨[], [], none, [], [], none, []⟩, [], default, cl, c⟩
theorem fdb_lam {q : Str} {params : Arguments} {e : Expr} {scope : Scope} {pos : Pos} {cl : List (Str × Addr)} {c : Addr} {doc pm ctv : Value} : fdb (lamF q (.Lambda params e scope pos) cl c) doc pm ctv = PySem.W.kla_fn "<lambda>" (q ++ "<lambda>") params e scope cl pm (.ref c) ctv :=
  (if_pos (rfl : (lamF q (.Lambda params e scope pos) cl c).name = ("<lambda>" : Str))).trans rfl
section
variable {X : Cx} {pins : List (Addr × Obj)} {σ : L2.St} {H : Hp} {s : Shared}
theorem inv_ext {o : Obj} {φ : Heap → Prop} {t' : Nat} (I : Inv X pins σ H s) (hφ : φ (s.heap.push o)) (st : ∀ h1 h2, φ h1 → (∀ ob, h1.get? s.heap.objs.size = some ob → h2.get? s.heap.objs.size = some ob) → φ h2) (nfr : o.isFreed = false) :
    Inv X pins σ (upd H s.heap.objs.size (.ext φ)) { s with heap := s.heap.push o, toks := t' } := by
  have n : H s.heap.objs.size = none := I.hok.fresh (Nat.le_refl _)
  have J : Inv X pins σ H { s with heap := s.heap.push o, toks := t' } := I.kept fun b u e => Heap.get?_push_of_some _ e
  have old : ∀ {b u}, s.heap.get? b = some u → b ≠ s.heap.objs.size := fun {b u} e => Nat.ne_of_lt (Heap.lt_size e)
  have ok : ObjOk X.prog X.w (upd H s.heap.objs.size (.ext φ)) (s.heap.push o) s.heap.objs.size (.ext φ) := ⟨hφ, ⟨o, Heap.get?_push_size _ nfr⟩, st⟩
  refine ⟨J.ok, J.os, J.bare, ⟨J.base.keep, J.base.slot, fun b u q m hx => ?_, J.base.there, fun b xs q => ?_, fun b u w q => ?_, fun b ps q => ?_⟩, J.loc, J.cell, ?_, fun x c q => ?_, fun p hp => ?_, fun b u q => ?_, J.len⟩
  · rw [upd_ne (fun z => ?_)]
    · exact J.base.free b u q m hx
    · subst z
      obtain ⟨u2, e2⟩ := I.base.there _ u q hx
      exact old e2 rfl
  · have := J.base.tups b xs q
    rw [upd_ne (ne_of_none this n)]; exact this
  · have := J.base.frzs b u w q
    rw [upd_ne (ne_of_none this n)]; exact this
  · obtain ⟨m, q2⟩ := J.base.tbls b ps q
    exact ⟨m, by rw [upd_ne (ne_of_none q2 n)]; exact q2⟩
  · obtain ⟨m, ns, _⟩ := I.loc
    rw [upd_ne (fun z => ?_)]
    · exact J.free
    · obtain ⟨u, _, _, e, _⟩ := ns
      exact old e z
  · rw [upd_ne (fun z => ?_)]
    · exact J.freeC x c q
    · obtain ⟨v, o2, ho, _⟩ := I.cell x _ q
      exact old ho z
  · obtain ⟨p1, p2, p3, p4, p5⟩ := J.pin p hp
    have q1 := (I.pin p hp).1
    exact ⟨p1, by rw [upd_ne (old q1)]; exact p2, p3, p4, p5⟩
  · by_cases hb : b = s.heap.objs.size
    · subst hb
      rw [upd_same] at q
      cases q
      exact ok
    · rw [upd_ne hb] at q
      exact objOk_hid (fun b' o' e' n' => by rw [upd_ne (ne_of_none e' n)]; exact e') (J.hok b u q)
theorem fnOb_st {F : NdefX.NF} {f : Addr} : ∀ h1 h2 : Heap, (∃ od sl doc pm ctv, h1.get? f = some { cls := .type "function", dict := od, data := .func (fdb F doc pm ctv), slots := sl }) → (∀ ob, h1.get? f = some ob → h2.get? f = some ob) → ∃ od sl doc pm ctv, h2.get? f = some { cls := .type "function", dict := od, data := .func (fdb F doc pm ctv), slots := sl } :=
  fun _ _ ⟨a, b, c, d, e, q⟩ k => ⟨a, b, c, d, e, k _ q⟩
theorem mk_lam {T : List NdefX.NTab} {nm : Nat → Nat → Str} {c p : Addr} {params : Arguments} {e : Expr} {scope : Scope} {pos : Pos} {E : Value → Shared → Prop} {Q : Value → Shared → Prop} (I : Inv X pins σ H s) (B : LamX.TabB X.base X.mg c p) (hcode : X.env.code = .ref c)
    (hm : (p, nm) ∈ T) (hn : nm pos.line pos.col = X.env.qual ++ "<lambda>") (one : ∀ q ∈ T, q.1 = p → q.2 = nm) (hT : NdefX.TabsN T H) (hfree : ∀ y ∈ scope.names, y.2 = .free → False)
    (h : ∀ (f c' : Addr) (H1 : Hp) (s' : Shared), Inv X pins σ H1 s' → (∀ b o, H b = some o → b ≠ p → H1 b = some o) → (∀ b, H1 b = none → H b = none) → NdefX.TabsN T H1 → H f = none → f ≠ c' → H1 f = some (FnOb f (lamF X.env.qual (.Lambda params e scope pos) (cloFrom X.env.cells scope.names []) c')) →
      H1 c' = some (LamX.CodeO c' (X.env.qual ++ "<lambda>")) → (H c' = none ∨ H c' = some (LamX.CodeO c' (X.env.qual ++ "<lambda>"))) → Q (.ref f) s') :
    wpAny (model X.prog X.w) X.A (makeFunction "<lambda>" (X.env.qual ++ "<lambda>") params (.expr e) scope X.env [] [] [] pos pos.line) Q E s := by
  obtain ⟨ps, hP, ht, ha⟩ := (show NdefX.TabN H p nm from hT _ hm)
  have bP : s.heap.BuiltinsAt X.mg p := B.bm.keeps I.bk
  have hP' : s.heap.get? p = some { cls := .none, data := .fields ps } := I.hok p _ hP
  have hfree' : ∀ y ∈ scope.names, y.2 = .free → ∃ c, X.env.cells.lookup y.1 = some c := fun y hy z => (hfree y hy z).elim
  cases hc : codeAmong pos ps.toList with
  | none =>
    refine PySem.W.kla_makeFunction (mg := X.mg) (c := c) (P := p) (ps := ps) (closure_ok hfree') I.ok.glob (I.mod.glob.keeps I.bk) hcode (B.code.keeps I.bk) hP' ht hc B.gP bP fun c' ctv h' tk hx hge hlt hrec htb => ?_
    obtain ⟨c2, oc, vs, t, e2, hoc, hd, hv⟩ := hrec
    cases e2
    have nC : H c' = none := I.hok.fresh hge
    have I1 := LamX.inv_table (t' := tk) (more := #[rawInt pos.line, rawInt pos.col, .ref c']) (h' := h') I hP (fun b o hb e => hx b o hb e) htb hge ⟨oc, vs, t, hoc, hd, hv⟩
    have nF := I1.hok.fresh (Nat.le_refl _)
    have I2 := inv_ext (o := PySem.W.kla_obj "<lambda>" (X.env.qual ++ "<lambda>") params e scope (cloFrom X.env.cells scope.names []) ((X.mg "__name__").getD .none) c' ctv) (t' := tk) I1 (φ := fun h => ∃ od sl doc pm ctv, h.get? h'.objs.size = some { cls := .type "function", dict := od, data := .func (fdb (lamF X.env.qual (.Lambda params e scope pos) (cloFrom X.env.cells scope.names []) c') doc pm ctv), slots := sl })
      ⟨none, #[], .none, (X.mg "__name__").getD .none, ctv, by
        refine (Heap.get?_push_size _ rfl).trans ?_
        rw [fdb_lam]⟩ fnOb_st rfl
    have eL : (ps ++ #[rawInt pos.line, rawInt pos.col, .ref c']).toList = ps.toList ++ [rawInt pos.line, rawInt pos.col, .ref c'] := by simp
    have k1 : ∀ b o, H b = some o → b ≠ p → upd (upd H p (.tbl (ps ++ #[rawInt pos.line, rawInt pos.col, .ref c']))) c' (LamX.CodeO c' (X.env.qual ++ "<lambda>")) b = some o := fun b o e nb => by
      rw [upd_ne (ne_of_none e nC), upd_ne nb]; exact e
    have k2 : ∀ {u : HO} b o, upd (upd H p (.tbl (ps ++ #[rawInt pos.line, rawInt pos.col, .ref c']))) c' (LamX.CodeO c' (X.env.qual ++ "<lambda>")) b = some o → upd (upd (upd H p (.tbl (ps ++ #[rawInt pos.line, rawInt pos.col, .ref c']))) c' (LamX.CodeO c' (X.env.qual ++ "<lambda>"))) h'.objs.size u b = some o := fun {u} b o e => by
      rw [upd_ne (ne_of_none e nF)]; exact e
    have T1 : NdefX.TabsN T (upd (upd H p (.tbl (ps ++ #[rawInt pos.line, rawInt pos.col, .ref c']))) c' (LamX.CodeO c' (X.env.qual ++ "<lambda>"))) := fun q hq => by
      by_cases hb : q.1 = p
      · rw [one q hq hb, hb]
        refine ⟨_, by rw [upd_ne (ne_of_none hP nC), upd_same], by rw [eL]; exact PySem.TriplesOk_snoc _ _ _ _ ht, fun p' cv hcv => ?_⟩
        rw [eL] at hcv
        rcases NdefX.among_app2 _ ht hcv with z | ⟨z, z1, z2⟩
        · obtain ⟨c0, e1, e2⟩ := ha p' cv z
          exact ⟨c0, e1, k1 _ _ e2 fun z => by rw [z, hP] at e2; exact LamX.codeO_ne _ (Option.some.inj e2).symm⟩
        · refine ⟨c', z, ?_⟩
          rw [← z1, ← z2, hn]
          exact upd_same
      · obtain ⟨ps', a1, a2, a3⟩ := hT q hq
        refine ⟨ps', k1 _ _ a1 hb, a2, fun p' cv hcv => ?_⟩
        obtain ⟨c0, e1, e2⟩ := a3 p' cv hcv
        exact ⟨c0, e1, k1 _ _ e2 fun z => by rw [z, hP] at e2; exact LamX.codeO_ne _ (Option.some.inj e2).symm⟩
    have nfc : h'.objs.size ≠ c' := Nat.ne_of_gt hlt
    exact h h'.objs.size c' _ _ I2 (fun b o e nb => k2 _ _ (k1 b o e nb)) (fun b e => NdefX.upd_none (NdefX.upd_none (NdefX.upd_none e))) (T1.ext k2) (I.hok.fresh (Nat.le_trans hge (Nat.le_of_lt hlt))) nfc upd_same (k2 _ _ upd_same) (.inl nC)
  | some cv =>
    obtain ⟨c', e0, hco⟩ := ha pos cv hc
    subst e0
    rw [hn] at hco
    refine PySem.W.kla_makeFunctionHit (mg := X.mg) (c := c) (P := p) (ps := ps) (closure_ok hfree') I.ok.glob (I.mod.glob.keeps I.bk) hcode (B.code.keeps I.bk) hP' ht hc bP fun ctv h' tk hx hsz => ?_
    have I1 : Inv X pins σ H { s with heap := h', toks := tk } := I.kept hx
    have nF : H h'.objs.size = none := I1.hok.fresh (Nat.le_refl _)
    have I2 := inv_ext (o := PySem.W.kla_obj "<lambda>" (X.env.qual ++ "<lambda>") params e scope (cloFrom X.env.cells scope.names []) ((X.mg "__name__").getD .none) c' ctv) (t' := tk) I1 (φ := fun h => ∃ od sl doc pm ctv, h.get? h'.objs.size = some { cls := .type "function", dict := od, data := .func (fdb (lamF X.env.qual (.Lambda params e scope pos) (cloFrom X.env.cells scope.names []) c') doc pm ctv), slots := sl })
      ⟨none, #[], .none, (X.mg "__name__").getD .none, ctv, by
        refine (Heap.get?_push_size _ rfl).trans ?_
        rw [fdb_lam]⟩ fnOb_st rfl
    have k2 : ∀ {u : HO} b o, H b = some o → upd H h'.objs.size u b = some o := fun {u} b o e => by rw [upd_ne (ne_of_none e nF)]; exact e
    exact h h'.objs.size c' _ _ I2 (fun b o e _ => k2 b o e) (fun b e => NdefX.upd_none e) (hT.ext k2) nF (fun z => by rw [z, hco] at nF; cases nF) upd_same (k2 _ _ hco) (.inr hco)
end
noncomputable def lamFS (z : Str) : FS := ⟨[], fun ds => .ok false (.exc "" z (.frl [])) ds⟩
noncomputable def LamFact (P : Pl) (z : Str) (L : Expr) : Prop := P.G.cls "" = none ∧ ∃ (q : Str) (p : Addr) (nm : Nat → Nat → Str), (p, nm) ∈ P.G.T ∧ (∀ t ∈ P.G.T, t.1 = p → t.2 = nm) ∧ (∀ i j, nm i j = q ++ "<lambda>") ∧ P.G.nd z = some (lamF q L, []) ∧
  ∀ X, P.M X → ∃ c, X.env.code = .ref c ∧ X.env.qual = q ∧ LamX.TabB X.base X.mg c p
theorem pe_lam {X : Cx} {W : L2.St → XK} {exc : Str → Option (Addr × Str)} {G : Gi} {z : Str} {params : Arguments} {e : Expr} {scope : Scope} {pos : Pos} {nm : Nat → Nat → Str} {c p : Addr} (h0 : G.cls "" = none) (B : LamX.TabB X.base X.mg c p) (hcode : X.env.code = .ref c)
    (hm : (p, nm) ∈ G.T) (hn : nm pos.line pos.col = X.env.qual ++ "<lambda>") (one : ∀ q ∈ G.T, q.1 = p → q.2 = nm) (hz : G.nd z = some (lamF X.env.qual (.Lambda params e scope pos), [])) (hfree : ∀ y ∈ scope.names, y.2 = .free → False) (hdef : ∀ env, defaultsOf params env = ([], [])) :
    PE X (.Lambda params e scope pos) (tCallS (spOf exc G (lamFS z)) W tNil) := by
  refine ⟨fun pins s σ H Q I h => ?_⟩
  obtain ⟨Hf, ds, sub, a, hQ⟩ := (show spOf exc G (lamFS z) [] H Q (W σ) from h)
  refine PySem.W.kla_eval (hdef _) (mk_lam I B hcode hm hn one a.tab hfree fun f c' H1 s' J kp nn t1 n0 nfc hf hc oc => ?_)
  have zz := mk_post (us := []) (cs := []) a sub hm kp nn t1 n0 nfc hf hc oc (fun c hc => nomatch hc)
  have eC : cellsOn [] [] H1 = H1 := by unfold cellsOn; rfl
  rw [eC] at zz
  obtain ⟨pp, q1, q2⟩ := zz
  have hQ' : ∀ v Hf' H', Post G [] [] Hf H Hf' H' → VRes G H Hf' H' v false (.exc "" z (.frl [])) → Outs G [] [] Hf' H' ds → Q v H' := hQ
  have ld : ds.length = 0 := a.ld
  refine ⟨.ref f, H1, J, rfl, hQ' _ _ _ pp ?_ ⟨by rw [ld]; rfl, fun i p d h1 => by simp at h1⟩⟩
  refine Rep.clo (vs := []) (cs := []) h0 hz q1 q2 ⟨rfl, fun y c e => ?_, fun i y e => by simp at e, fun i j c e => by simp at e⟩ rfl rfl (fun n c v h1 => by simp at h1) fun n v d h1 => by simp at h1
  rcases cloFrom_mem (PySem.mem_of_lookup e) with hm' | ⟨h1, _⟩
  · cases hm'
  · exact (hfree _ h1 rfl).elim
section
variable {P : Pl}
theorem se_lam {z : Str} {params : Arguments} {e : Expr} {scope : Scope} {pos : Pos} (h : LamFact P z (.Lambda params e scope pos)) (hfree : scope.names.all (fun y => !decide (y.2 = .free)) = true) (hdef : ∀ env, defaultsOf params env = ([], [])) :
    SE P (.Lambda params e scope pos) (mCall (lamFS z) lNil) := by
  obtain ⟨h0, q, p, nm, hm, one, hn, hz, hX⟩ := h
  refine ⟨_, fun X hM => ?_, ev_call evl_nil⟩
  obtain ⟨c, hc, hq, B⟩ := hX X hM
  subst hq
  exact pe_lam h0 B hc hm (hn _ _) one hz (fun y hy e => by
    have := List.all_eq_true.mp hfree y hy
    rw [decide_eq_true e] at this
    cases this) hdef
theorem AtX.lam {prog : Program} {w : World} {K : PySem.W.Frag} {mg : Str → Option Value} {base : Heap} {k : Nat} {z q : Str} {L : Expr} {cd : Value} {c p : Addr} {nm : Nat → Nat → Str} (A : AtX P prog w K mg base k) (cx : CodX P cd q) (hcd : cd = .ref c) (B : LamX.TabB base mg c p) (h0 : P.G.cls "" = none)
    (hm : (p, nm) ∈ P.G.T) (one : ∀ t ∈ P.G.T, t.1 = p → t.2 = nm) (hn : ∀ i j, nm i j = q ++ "<lambda>") (hz : P.G.nd z = some (lamF q L, [])) : LamFact P z L := ⟨h0, q, p, nm, hm, one, hn, hz, fun X hX => by
  obtain ⟨rfl, rfl, rfl, rfl, rfl, hr⟩ := A X hX
  obtain ⟨h1, h2⟩ := cx X hX
  exact ⟨c, h1.trans hcd, h2, B⟩⟩
end
theorem nok_L {pr : Program} {w : World} {K : PySem.W.Frag} {mg : Str → Option Value} {base : Heap} {cx : CXT} {k : Nat} {f : Addr} {F : NdefX.NF} {N ps fr : List Str} {sp : List V → Sp} {e : Expr} {pos : Pos} (hl : F.name = ("<lambda>" : Str)) (hbd : F.body = [.Return (some e) pos]) (S : NdefX.NScope N ps fr F.scope)
    (hb : ∀ (pm ctv : Value) (us : List Value), us.length = ps.length → bindArgs (PySem.W.kla_fn F.name F.qual F.params e F.scope F.cl pm (.ref F.c) ctv) ⟨us, []⟩ = pure (ps.zip us)) (len : ∀ ws vs H Q W, sp ws vs H Q W → vs.length = ps.length)
    (hbody : ∀ (A : Around) (outer : List PySem.Env) (s : Shared) (H : Hp) (vs ws : List V) (Q : VK) (W : XK), RoomG k (A.deeper (NdefX.envF F f s.heap.objs.size)) → ws.length = fr.length → sp ws vs H Q W →
      ∃ t, PE (NdefX.ncx cx pr w K mg base N F f A outer s H W) e t ∧ t (NdefX.startF N vs (ws.map some)) H Q) :
    NOkG pr w K mg base cx (k + 1) f F ps fr sp := by
  refine ⟨len, fun A outer s H us vs ws Q W hr e0 hf hc C r hsp => ?_⟩
  have hlen := len _ _ _ _ _ hsp
  have lim : s.heap.NoLimit := e0.mod.nolimit.keeps fun b o e => (e0.bs b o e).1
  obtain ⟨od, sl, doc, pm, ctv, ho⟩ := fnOb_at e0.hok hf
  have efd : fdb F doc pm ctv = PySem.W.kla_fn F.name F.qual F.params e F.scope F.cl pm (.ref F.c) ctv := by
    unfold fdb
    rw [if_pos hl, hbd]
  rw [efd] at ho
  refine PySem.W.kla_callFunE hr.rm.depth ho rfl S.co S.gen rfl (NdefX.codeO_at e0.hok hc) ?_
  rw [hb pm ctv us (by rw [← r.length]; exact hlen)]
  refine wpAny_pure (wpAny_newFunctionEnv S.nocell (fun ⟨n, _⟩ hy => S.par n (List.of_mem_zip hy).1) (fun h₁ hns hsb => ⟨lim.fresh _ hsb, ?_⟩) S.kind)
  show codeAny _ _ (.expr e (NdefX.envF F f s.heap.objs.size)) _ _
  refine PySem.W.kla_codeExpr ?_
  have kp : ∀ b o, s.heap.get? b = some o → h₁.get? b = some o := fun b o e => hsb.extBut b o (Nat.ne_of_lt (Heap.lt_size e)) (Heap.get?_push_of_some _ e)
  obtain ⟨t, ht, hq⟩ := hbody A outer s H vs ws Q W (hr.deep _) (by have := C.len; simpa using this) hsp
  have I : Inv (NdefX.ncx cx pr w K mg base N F f A outer s H W) [] (NdefX.startF N vs (ws.map some)) H { s with heap := h₁, toks := s.toks + (ps.zip us).length } := NdefX.inv_startN S hr.rm.hd e0 hlen r C hns kp
  refine wpAny_mono (ht.run [] _ (NdefX.startF N vs (ws.map some)) H _ I hq) (fun u s' hs => ?_) fun e s' hs => hs
  obtain ⟨v, H', J, rv, q⟩ := hs
  exact ⟨v, H', J.os, J.bare, J.base, J.hok, rv, q⟩
theorem fn_okL {prog : Program} {w : World} {K : PySem.W.Frag} {mg : Str → Option Value} {base : Heap} {exc : Str → Option (Addr × Str)} {G : Gi} {f : Addr} {F : NdefX.NF} {N ps fr : List Str} {k : Nat} (hG : G.K = K) (fs : FS) (m : Sm) {e : Expr} {pos : Pos}
    (hlm : F.name = ("<lambda>" : Str)) (hbd : F.body = [.Return (some e) pos]) (S : NdefX.NScope N ps fr F.scope) (hb : ∀ (pm ctv : Value) (us : List Value), us.length = ps.length → bindArgs (PySem.W.kla_fn F.name F.qual F.params e F.scope F.cl pm (.ref F.c) ctv) ⟨us, []⟩ = pure (ps.zip us)) (hps : fs.io.length = ps.length + fr.length)
    (hbody : ∀ P : Pl, P.G = G → P.exc = exc → Fra P N F.scope mg → (∀ X, P.M X → X.prog = prog ∧ X.w = w ∧ X.K = K ∧ X.mg = mg ∧ X.base = base ∧ RoomG k X.A) → TopX P → SE P e m)
    (hF : ∀ ds, ds.length = fs.io.length → fs.F ds = .no ∨ fs.F ds = bodyF fs.io (xRet m) N.length ds) (ha : ∀ i, fs.io[i]? = some true → i ∉ (xRet m).asg) :
    NOkG prog w K mg base (L2.CX prog w) (k + 1) f F ps fr (fun ws vs H Q E => vs.length = ps.length ∧ spOf exc G fs (vs ++ ws) H Q E) := by
  have hnl : ps.length + fr.length ≤ N.length := by
    have := congrArg List.length S.pre
    rw [List.length_take, List.length_append] at this
    omega
  refine nok_L hlm hbd S hb (fun ws vs H Q E h => h.1) fun A outer s H vs ws Q E hr lw h => ?_
  obtain ⟨lvs, Hf, ds, sf, a, h⟩ := h
  rcases hF ds a.ld with e | e
  · rw [e] at h; exact h.elim
  rw [e] at h
  have fra : Fra ⟨fun X => X = NdefX.ncx (L2.CX prog w) prog w K mg base N F f A outer s H E, G, fun cv dx _ H => E cv dx H, exc⟩ N F.scope mg := by
    refine ⟨fun X e => by subst e; rfl, fun X e => by subst e; rfl, fun X e => by subst e; exact hG.symm, fun X e => by subst e; rfl, fun X e => by subst e; rfl, fun X e => by subst e; exact takes_of rfl rfl rfl rfl, fun X e => by subst e; exact passes_of rfl, fun X e => by subst e; have := hr.rm.un; show _ + 65 < _; unfold NdefX.ncx; dsimp only; omega, fun X e => by subst e; exact hr.gd, S.nd⟩
  obtain ⟨t, ht, hm0⟩ := hbody _ rfl rfl fra (fun X e => by subst e; exact ⟨rfl, rfl, rfl, rfl, rfl, hr⟩) fun X e => by subst e; exact ⟨rfl, rfl⟩
  have hm := (evs_ret hm0).2
  refine ⟨t, ht _ rfl, ?_⟩
  rw [startF_eq]
  show tRet t { nx := fun _ H' => Q .non H', rt := Q } (L2.start N (vs ++ ws)) H
  have h2 := hm N.length ⟨IOs G fs.io (vs ++ ws), Hf⟩ H Hf (L2.start N (vs ++ ws)) [] (env0 fs.io ds N.length) [] H (start_st sf a (by rw [hps]; exact hnl)) (fun i s h => by simp at h)
  unfold bodyF at h
  cases er : (xRet m).run (env0 fs.io ds N.length) with
  | nx e1 =>
    rw [er] at h h2
    dsimp only at h
    cases eo : outsAt e1 fs.io ds 0 with
    | none => rw [eo] at h; exact h.elim
    | some outs =>
      rw [eo] at h
      refine h2 _ fun σ' Hf' H' s' a' S' => ?_
      obtain ⟨p, o⟩ := end_st a.lv s' a' S' ha eo
      exact h .non Hf' H' p .non o
  | rt s1 e1 =>
    obtain ⟨md, d⟩ := s1
    rw [er] at h h2
    cases md with
    | sh =>
      dsimp only at h
      cases eo : outsAt e1 fs.io ds 0 with
      | none => rw [eo] at h; exact h.elim
      | some outs =>
        rw [eo] at h
        refine h2 _ fun v σ' Hf' H' s' a' S' => ?_
        obtain ⟨p, o⟩ := end_st a.lv s' a' S' ha eo
        exact h v Hf' H' p (S'.held rfl) o
    | ow =>
      dsimp only at h
      cases eo : outsAt e1 fs.io ds 0 with
      | none => rw [eo] at h; exact h.elim
      | some outs =>
        rw [eo] at h
        refine h2 _ fun v σ' Hf' H' s' a' S' => ?_
        obtain ⟨p, o⟩ := end_st a.lv s' a' S' ha eo
        refine h v Hf' H' p ?_ o
        obtain ⟨q, o2, g1, g2, g3, g4, t2⟩ := S'.sr.own N.length d (by rw [List.getElem?_append_right (by rw [S'.le]; omega), S'.le, Nat.sub_self]; rfl)
        rw [List.getElem?_append_right (by rw [S'.ls]; omega), S'.ls, Nat.sub_self] at g1
        have : v = .ref q := Option.some.inj (Option.some.inj g1)
        subst this
        exact ⟨q, o2, rfl, g2, g3, g4, t2⟩
    | io => exact h.elim
    | al _ => exact h.elim
    | fr =>
      dsimp only at h
      cases eo : outsAt e1 fs.io ds 0 with
      | none => rw [eo] at h; exact h.elim
      | some outs =>
        rw [eo] at h
        refine h2 _ fun v σ' Hf' H' s' a' S' => ?_
        obtain ⟨p, o⟩ := end_st a.lv s' a' S' ha eo
        refine h v Hf' H' p ?_ o
        obtain ⟨Ls, w⟩ := S'.sr.fre
        obtain ⟨u, g1, ou⟩ := w.own N.length d (by rw [List.getElem?_append_right (by rw [S'.le]; omega), S'.le, Nat.sub_self]; rfl)
        rw [List.getElem?_append_right (by rw [S'.ls]; omega), S'.ls, Nat.sub_self] at g1
        have : v = u := Option.some.inj (Option.some.inj g1)
        subst this
        exact ⟨_, ou, w.nd _, fun a ha => w.out _ a ha⟩
  | ex c d e1 =>
    rw [er] at h h2
    dsimp only at h
    cases eo : outsAt e1 fs.io ds 0 with
    | none => rw [eo] at h; exact h.elim
    | some outs =>
      rw [eo] at h
      refine h2 (fun cv dx σ' Hf' H' s' a' S' xr => ?_) _
      obtain ⟨p, o⟩ := end_st a.lv s' a' S' ha eo
      exact h cv dx Hf' H' p xr o
  | bk e1 => rw [er] at h; exact h.elim
  | ct e1 => rw [er] at h; exact h.elim
  | no => rw [er] at h; exact h.elim
end VM

/-! VPS: str(n) and int(text); where a lambda stands; several defs within defs under one name -/
namespace VM
open PySem PySem.Spec PyProof.Rows L2
noncomputable def dStrI : D → RR
  | .int i => if cdec (i.natAbs.log2 < 1920) = true then .sh (.str (Str.ofString (toString i))) else .no
  | _ => .no
theorem n_strI {G : Gi} : SN G (fun xs H Q => ∃ i, xs = [.int i] ∧ i.natAbs.log2 < 1920 ∧ Q (.str (Str.ofString (toString i))) H) (f1 dStrI) := by
  intro Hf H vs ds s p
  match ds, p with
  | [d], p =>
    obtain ⟨v, rfl, h⟩ := p.inv1
    show RRok G Hf H _ (dStrI d)
    cases d with
    | int i =>
      unfold dStrI
      dsimp only
      by_cases hi : i.natAbs.log2 < 1920
      · rw [if_pos (cdec_t hi)]
        exact fun Q k => ⟨i, by rw [h.int], hi, k _ .str⟩
      · rw [cdec_f hi, if_neg (by decide)]
        trivial
    | _ => trivial
  | [], p => trivial
  | _ :: _ :: _, p => trivial
noncomputable def dIntS : D → RR
  | .str a => match PySem.intText? a with
    | some n => if a.length ≤ 640 then .sh (.int n) else .no
    | none => .no
  | _ => .no
theorem n_intS {G : Gi} : SN G (fun xs H Q => ∃ a n, xs = [.str a] ∧ PySem.intText? a = some n ∧ a.length ≤ 640 ∧ Q (.int n) H) (f1 dIntS) := by
  intro Hf H vs ds s p
  match ds, p with
  | [d], p =>
    obtain ⟨v, rfl, h⟩ := p.inv1
    show RRok G Hf H _ (dIntS d)
    cases d with
    | str a =>
      unfold dIntS
      dsimp only
      cases e : PySem.intText? a with
      | none => trivial
      | some n =>
        dsimp only
        by_cases hi : a.length ≤ 640
        · rw [if_pos hi]
          exact fun Q k => ⟨a, n, by rw [h.str], e, hi, k _ .int⟩
        · rw [if_neg hi]
          trivial
    | _ => trivial
  | [], p => trivial
  | _ :: _ :: _, p => trivial
section
variable {P : Pl} {N : List Str} {sc : Scope} {mg : Str → Option Value}
theorem Fra.strI (fr : Fra P N sc mg) {e : Expr} {p pos : Pos} {m : Sm} (hg : sc.names.lookup ("str" : Str) = some .globalImplicit) (hm : mg ("str" : Str) = none) (h : SE P e m) (hs : [e].all notStar = true) : SE P (.Call (.Name "str" p) [e] [] pos) (m1 dStrI m) :=
  se_callTy fr (fun X hX => call_str_int) n_strI hg hm PyProof.Rows.boot_str (sl_cons h sl_nil) hs
theorem Fra.intS (fr : Fra P N sc mg) {e : Expr} {p pos : Pos} {m : Sm} (hg : sc.names.lookup ("int" : Str) = some .globalImplicit) (hm : mg ("int" : Str) = none) (h : SE P e m) (hs : [e].all notStar = true) : SE P (.Call (.Name "int" p) [e] [] pos) (m1 dIntS m) :=
  se_callTy fr (fun X hX => call_int_str) n_intS hg hm PyProof.Rows.boot_int (sl_cons h sl_nil) hs
theorem clo_nil : ∀ (z' : Str) (fs' : FS), ([] : List (Str × FS)).lookup z' = some fs' → CloFact P z' fs' := fun _ _ h => by cases h
theorem clo_cons {z : Str} {fs : FS} {L : List (Str × FS)} (h : CloFact P z fs) (t : ∀ (z' : Str) (fs' : FS), L.lookup z' = some fs' → CloFact P z' fs') : ∀ (z' : Str) (fs' : FS), ((z, fs) :: L).lookup z' = some fs' → CloFact P z' fs' := fun z' fs' e => by
  rw [List.lookup_cons] at e
  cases hb : z' == z with
  | false => rw [hb] at e; exact t z' fs' e
  | true =>
    rw [hb] at e
    cases e
    have := beq_iff_eq.mp hb
    subst this
    exact h
theorem clo_one {z : Str} {fs : FS} (h : ∀ (z' : Str) (fs' : FS), [(z, fs)].lookup z' = some fs' → CloFact P z' fs') : CloFact P z fs := h z fs (by rw [List.lookup_cons]; simp)
end
/-! where a lambda stands -/
noncomputable def eNo : Expr := .Name "" ⟨0, 0, 0, 0⟩
noncomputable def sTest : Stmt → Expr
  | .If t _ _ _ => t
  | .Return (some e) _ => e
  | .Expr e _ => e
  | .Assign _ e _ => e
  | _ => eNo
noncomputable def sBody : Stmt → List Stmt
  | .For _ _ b _ _ => b
  | .If _ b _ _ => b
  | .While _ b _ _ => b
  | _ => []
noncomputable def sAt (i : Nat) (b : List Stmt) : Stmt := b.getD i (.Pass ⟨0, 0, 0, 0⟩)
noncomputable def eArg (i : Nat) : Expr → Expr
  | .Call _ as _ _ => as.getD i eNo
  | .UnaryOp _ e _ => e
  | .BoolOp _ es _ => es.getD i eNo
  | _ => eNo
noncomputable def lamBody : Expr → Expr
  | .Lambda _ b _ _ => b
  | _ => eNo
noncomputable def lamScope : Expr → Scope
  | .Lambda _ _ s _ => s
  | _ => default
end VM

namespace VL
open PySem PySem.Spec PyProof.Rows L2 VM
noncomputable abbrev topS (i : Nat) : Stmt := PySem.Challenge.pw_ringheaps_k32_worths_told_and_read.main.body.getD i (.Pass ⟨0, 0, 0, 0⟩)
structure MgF (mg : Str → Option Value) : Prop where
  z_all : mg "all" = none
  z_bool : mg "bool" = none
  z_int : mg "int" = none
  z_isinstance : mg "isinstance" = none
  z_len : mg "len" = none
  z_list : mg "list" = none
  z_max : mg "max" = none
  z_min : mg "min" = none
  z_range : mg "range" = none
  z_reversed : mg "reversed" = none
  z_str : mg "str" = none
  z_tuple : mg "tuple" = none
  c_FIGURES : ∃ t, mg "FIGURES" = some (.str "0123456789" t)
  c_MOST_BITS : ∃ t, mg "MOST_BITS" = some (.int 65535 t)
  c_MOST_NUMBER : ∃ t, mg "MOST_NUMBER" = some (.int 15 t)
noncomputable def FE : List (Str × Str) := [("NoWorth", "found")]
noncomputable def CE : List ((Str × Str) × Bool) := [(("NoWorth", "HeapError"), true), (("NoWorth", "NoWorth"), true)]
noncomputable def CK : List ((Str × VM.TG) × Bool) := [((("NoWorth" : Str), VM.TG.own ("HeapError" : Str)), true), ((("NoWorth" : Str), VM.TG.own ("NoWorth" : Str)), true)]
noncomputable def FT : List (Str × Str) := [("Endless", "bits"), ("Numbered", "number")]
noncomputable def IT : List ((VM.TG × VM.TG) × Bool) := [((.own "Endless", .own "Endless"), true), ((.own "Endless", .own "NoWorth"), false), ((.own "Endless", .own "Numbered"), false), ((.own "Endless", .own "Worth"), true), ((.own "Numbered", .own "Endless"), false), ((.own "Numbered", .own "NoWorth"), false), ((.own "Numbered", .own "Numbered"), true), ((.own "Numbered", .own "Worth"), true), ((.ty "NoneType", .own "NoWorth"), false)]
structure ClF (P : Pl) (mg : Str → Option Value) : Prop where
  flds : FieldsOk P.G FT
  isi : IsiOk P.G IT
  ek : ErrK P.G FE CK
  fns : ∀ p, P.G.fns (rawZ p) = some p
  n_Endless : ∃ A, P.G.cls "Endless" = some A ∧ mg "Endless" = some (.ref A)
  n_NoWorth : ∃ A, P.G.cls "NoWorth" = some A ∧ mg "NoWorth" = some (.ref A)
  n_Numbered : ∃ A, P.G.cls "Numbered" = some A ∧ mg "Numbered" = some (.ref A)
  n_Worth : ∃ A, P.G.cls "Worth" = some A ∧ mg "Worth" = some (.ref A)
structure XcF (P : Pl) (mg : Str → Option Value) : Prop where
  fld : ExFld P FE
  isi : ExIs P mg CE
  cls : ExCls P
  n_HeapError : ∃ U : Addr, mg "HeapError" = some (.ref U)
noncomputable abbrev st_NoWorth__init : Stmt := inClass (topS 7) 0

noncomputable abbrev st_is_whole : Stmt := topS 9
noncomputable def N_is_whole : List Str := ["thing"]
theorem sc_is_whole : FnScope N_is_whole ["thing"] (defScope st_is_whole) := ⟨rfl, rfl, rfl, by decide +kernel, rfl, by decide +kernel, by decide +kernel⟩
noncomputable def x_is_whole : Sx := xSeq (xRet (mAnd (m2 dIsi (mV 0) (mC (.ty "int"))) (mNot (m2 dIsi (mV 0) (mC (.ty "bool")))))) (xSkip)
theorem b_is_whole {P : Pl} {mg : Str → Option Value} (fr : Fra P N_is_whole (defScope st_is_whole) mg) (mf : MgF mg) (fn : ∀ y X, P.M X → X.fn y = true) (cf : ClF P mg) : SSs P (defBody st_is_whole) (x_is_whole) :=
  (sss_cons (ss_ret (se_and fr (fr.isi rfl mf.z_isinstance (fr.v 0 rfl (.inl rfl)) (fr.ty rfl mf.z_int PyProof.Rows.boot_int) rfl) (se_one (se_not fr (fr.isi rfl mf.z_isinstance (fr.v 0 rfl (.inl rfl)) (fr.ty rfl mf.z_bool PyProof.Rows.boot_bool) rfl)))))
  sss_nil)
noncomputable def fs_is_whole : FS := ⟨[false], bodyF [false] x_is_whole 1⟩
theorem eq_is_whole (a0 : D) : fs_is_whole.F [a0] = fin [false] [a0] (x_is_whole.run [sh a0]) := by rw [fs_is_whole]; rfl
theorem io_is_whole : fs_is_whole.io = [false] := by rw [fs_is_whole]

noncomputable abbrev st_Numbered__init : Stmt := inClass (topS 14) 0
noncomputable def N_Numbered__init : List Str := ["self", "number"]
theorem sc_Numbered__init : FnScope N_Numbered__init ["self", "number"] (defScope st_Numbered__init) := ⟨rfl, rfl, rfl, by decide +kernel, rfl, by decide +kernel, by decide +kernel⟩
noncomputable def x_Numbered__init : Sx := xSeq (xIf (tmOr (tmNot (mTru (mCall fs_is_whole (lCons (mT (mV 1)) (lNil))))) (tmNot (mBl (mChain dLe dLe (mC (.int 0)) (mV 1) (mC (.int 15)))))) (xSeq (xRaise "NoWorth" (mV 1)) (xSkip)) (xSkip)) (xSeq (xFld FT 0 "number" (mV 1)) (xSkip))
theorem b_Numbered__init {P : Pl} {mg : Str → Option Value} (fr : Fra P N_Numbered__init (defScope st_Numbered__init) mg) (mf : MgF mg) (fn : ∀ y X, P.M X → X.fn y = true) (cf : ClF P mg) (h_is_whole : FnFact P "is_whole" fs_is_whole) (h_rz_NoWorth : RzFact P "NoWorth") : SSs P (defBody st_Numbered__init) (x_Numbered__init) :=
  (sss_cons (ss_if (st_w (sw_or (st_not (st_tru fr.K (fr.call h_is_whole rfl (sl_cons (se_T (fr.v 1 rfl (.inl rfl))) sl_nil) rfl) (fun _ _ => rfl))) (sw_or1 (st_not (st_chain (fun _ _ => op_leA) (fun _ _ => op_leA) s_C s_C se_int (fr.v 1 rfl (.inl rfl)) (let ⟨_, h⟩ := mf.c_MOST_NUMBER; fr.gi rfl h) rfl))))) (sss_cons (ss_raise fr h_rz_NoWorth rfl (fr.v 1 rfl (.inl rfl)) rfl)
  sss_nil) sss_nil)
  (sss_cons (ss_fld fr cf.flds (i := 0) (fr.v 1 rfl (.inl rfl)) rfl (.inl rfl) (fun _ _ => rfl))
  sss_nil))
noncomputable def fs_Numbered__init : FS := ⟨[true, false], bodyF [true, false] x_Numbered__init 2⟩
theorem eq_Numbered__init (a0 : D) (a1 : D) : fs_Numbered__init.F [a0, a1] = fin [true, false] [a0, a1] (x_Numbered__init.run [io a0, sh a1]) := by rw [fs_Numbered__init]; rfl
theorem io_Numbered__init : fs_Numbered__init.io = [true, false] := by rw [fs_Numbered__init]

noncomputable abbrev st__law_right : Stmt := topS 28
noncomputable def ex_lam1 : Expr := eArg 0 (eArg 0 (sTest (sAt 0 (sBody (sAt 8 (defBody st__law_right))))))
noncomputable def N_lam1 : List Str := ["_law_found"]
theorem sc_lam1 : NdefX.NScope N_lam1 ["_law_found"] [] (lamScope ex_lam1) := NdefX.nscope_by (by decide +kernel)
noncomputable def m_lam1 : Sm := mMake "Numbered" fs_Numbered__init (lCons (mF (mV 0)) (lNil))
noncomputable def x_lam1 : Sx := xRet m_lam1
theorem b_lam1 {P : Pl} {mg : Str → Option Value} (fr : Fra P N_lam1 (lamScope ex_lam1) mg) (mf : MgF mg) (cf : ClF P mg) (h_mk_Numbered : MkFact P "Numbered" fs_Numbered__init) : SE P (lamBody ex_lam1) m_lam1 :=
  (fr.make h_mk_Numbered rfl (sl_cons (se_F (fr.v 0 rfl (.inl rfl))) sl_nil) rfl)
noncomputable def fs_lam1 : FS := ⟨[false], bodyF [false] x_lam1 1⟩
theorem eq_lam1 (a0 : D) : fs_lam1.F [a0] = fin [false] [a0] (x_lam1.run [sh a0]) := by rw [fs_lam1]; rfl
theorem io_lam1 : fs_lam1.io = [false] := by rw [fs_lam1]

noncomputable abbrev st_Endless__init : Stmt := inClass (topS 15) 0
noncomputable def N_Endless__init : List Str := ["self", "bits"]
theorem sc_Endless__init : FnScope N_Endless__init ["self", "bits"] (defScope st_Endless__init) := ⟨rfl, rfl, rfl, by decide +kernel, rfl, by decide +kernel, by decide +kernel⟩
noncomputable def x_Endless__init : Sx := xSeq (xIf (tmOr (tmNot (mTru (mCall fs_is_whole (lCons (mT (mV 1)) (lNil))))) (tmNot (mBl (mChain dLe dLe (mC (.int 0)) (mV 1) (mC (.int 65535)))))) (xSeq (xRaise "NoWorth" (mV 1)) (xSkip)) (xSkip)) (xSeq (xFld FT 0 "bits" (mV 1)) (xSkip))
theorem b_Endless__init {P : Pl} {mg : Str → Option Value} (fr : Fra P N_Endless__init (defScope st_Endless__init) mg) (mf : MgF mg) (fn : ∀ y X, P.M X → X.fn y = true) (cf : ClF P mg) (h_is_whole : FnFact P "is_whole" fs_is_whole) (h_rz_NoWorth : RzFact P "NoWorth") : SSs P (defBody st_Endless__init) (x_Endless__init) :=
  (sss_cons (ss_if (st_w (sw_or (st_not (st_tru fr.K (fr.call h_is_whole rfl (sl_cons (se_T (fr.v 1 rfl (.inl rfl))) sl_nil) rfl) (fun _ _ => rfl))) (sw_or1 (st_not (st_chain (fun _ _ => op_leA) (fun _ _ => op_leA) s_C s_C se_int (fr.v 1 rfl (.inl rfl)) (let ⟨_, h⟩ := mf.c_MOST_BITS; fr.gi rfl h) rfl))))) (sss_cons (ss_raise fr h_rz_NoWorth rfl (fr.v 1 rfl (.inl rfl)) rfl)
  sss_nil) sss_nil)
  (sss_cons (ss_fld fr cf.flds (i := 0) (fr.v 1 rfl (.inl rfl)) rfl (.inl rfl) (fun _ _ => rfl))
  sss_nil))
noncomputable def fs_Endless__init : FS := ⟨[true, false], bodyF [true, false] x_Endless__init 2⟩
theorem eq_Endless__init (a0 : D) (a1 : D) : fs_Endless__init.F [a0, a1] = fin [true, false] [a0, a1] (x_Endless__init.run [io a0, sh a1]) := by rw [fs_Endless__init]; rfl
theorem io_Endless__init : fs_Endless__init.io = [true, false] := by rw [fs_Endless__init]

noncomputable def ex_lam2 : Expr := eArg 0 (eArg 0 (sTest (sAt 0 (sBody (sAt 9 (defBody st__law_right))))))
noncomputable def N_lam2 : List Str := ["_law_found"]
theorem sc_lam2 : NdefX.NScope N_lam2 ["_law_found"] [] (lamScope ex_lam2) := NdefX.nscope_by (by decide +kernel)
noncomputable def m_lam2 : Sm := mMake "Endless" fs_Endless__init (lCons (mF (mV 0)) (lNil))
noncomputable def x_lam2 : Sx := xRet m_lam2
theorem b_lam2 {P : Pl} {mg : Str → Option Value} (fr : Fra P N_lam2 (lamScope ex_lam2) mg) (mf : MgF mg) (cf : ClF P mg) (h_mk_Endless : MkFact P "Endless" fs_Endless__init) : SE P (lamBody ex_lam2) m_lam2 :=
  (fr.make h_mk_Endless rfl (sl_cons (se_F (fr.v 0 rfl (.inl rfl))) sl_nil) rfl)
noncomputable def fs_lam2 : FS := ⟨[false], bodyF [false] x_lam2 1⟩
theorem eq_lam2 (a0 : D) : fs_lam2.F [a0] = fin [false] [a0] (x_lam2.run [sh a0]) := by rw [fs_lam2]; rfl
theorem io_lam2 : fs_lam2.io = [false] := by rw [fs_lam2]

noncomputable abbrev st_Worth__text : Stmt := inClass (topS 13) 1
noncomputable def N_Worth__text : List Str := ["self"]
theorem sc_Worth__text : FnScope N_Worth__text ["self"] (defScope st_Worth__text) := ⟨rfl, rfl, rfl, by decide +kernel, rfl, by decide +kernel, by decide +kernel⟩
noncomputable def x_Worth__text : Sx := xSeq (xRet (mC (.str ""))) (xSkip)
theorem b_Worth__text {P : Pl} {mg : Str → Option Value} (fr : Fra P N_Worth__text (defScope st_Worth__text) mg) (mf : MgF mg) (fn : ∀ y X, P.M X → X.fn y = true) (cf : ClF P mg) : SSs P (defBody st_Worth__text) (x_Worth__text) :=
  (sss_cons (ss_ret se_str)
  sss_nil)
noncomputable def fs_Worth__text : FS := ⟨[false], bodyF [false] x_Worth__text 1⟩
theorem io_Worth__text : fs_Worth__text.io = [false] := by rw [fs_Worth__text]

noncomputable abbrev st_Numbered__text : Stmt := inClass (topS 14) 2
noncomputable def N_Numbered__text : List Str := ["self"]
theorem sc_Numbered__text : FnScope N_Numbered__text ["self"] (defScope st_Numbered__text) := ⟨rfl, rfl, rfl, by decide +kernel, rfl, by decide +kernel, by decide +kernel⟩
noncomputable def x_Numbered__text : Sx := xSeq (xRet (m1 dStrI (m1 (dFld FT "number") (mV 0)))) (xSkip)
theorem b_Numbered__text {P : Pl} {mg : Str → Option Value} (fr : Fra P N_Numbered__text (defScope st_Numbered__text) mg) (mf : MgF mg) (fn : ∀ y X, P.M X → X.fn y = true) (cf : ClF P mg) : SSs P (defBody st_Numbered__text) (x_Numbered__text) :=
  (sss_cons (ss_ret (fr.strI rfl mf.z_str (se_fld fr cf.flds (fr.v 0 rfl (.inl rfl)) (fun _ => rfl)) rfl))
  sss_nil)
noncomputable def fs_Numbered__text : FS := ⟨[false], bodyF [false] x_Numbered__text 1⟩
theorem eq_Numbered__text (a0 : D) : fs_Numbered__text.F [a0] = fin [false] [a0] (x_Numbered__text.run [sh a0]) := by rw [fs_Numbered__text]; rfl
theorem io_Numbered__text : fs_Numbered__text.io = [false] := by rw [fs_Numbered__text]

noncomputable abbrev st_numbers_in : Stmt := topS 4
noncomputable def N_numbers_in : List Str := ["bits", "number"]
theorem sc_numbers_in : FnScope N_numbers_in ["bits"] (defScope st_numbers_in) := ⟨rfl, rfl, rfl, by decide +kernel, rfl, by decide +kernel, by decide +kernel⟩
noncomputable def c1_numbers_in : VM.Tm := mBl (m2 dEq (m2 dAnd (m2 dShr (mV 0) (mV 1)) (mC (.int 1))) (mC (.int 1)))
noncomputable def e1_numbers_in : Sm := mV 1
noncomputable def k1_numbers_in : Sm := mLc (iInts rng1 (lCons (m2 dAdd (mC (.int 15)) (mC (.int 1))) (lNil))) (gN 1) (c1_numbers_in) (e1_numbers_in) [1]
noncomputable def x_numbers_in : Sx := xSeq (xRet (k1_numbers_in)) (xSkip)
theorem b_numbers_in {P : Pl} {mg : Str → Option Value} (fr : Fra P N_numbers_in (defScope st_numbers_in) mg) (mf : MgF mg) (fn : ∀ y X, P.M X → X.fn y = true) (cf : ClF P mg) : SSs P (defBody st_numbers_in) (x_numbers_in) :=
  (sss_cons (ss_ret (se_lc fr [("number", 1)] (fr.rng1 rfl mf.z_range (sl_cons (se_add fr.K (let ⟨_, h⟩ := mf.c_MOST_NUMBER; fr.gi rfl h) se_int) sl_nil) rfl) rfl ((Fra.blk fr _).g 1 rfl (.inl rfl) (.inl rfl)) (sifs_one (st_eq (Fra.blk fr _) (se_band (se_shr ((Fra.blk fr _).v 0 rfl (.inr (.inl rfl))) ((Fra.blk fr _).v 1 rfl (.inl rfl))) se_int) se_int rfl)) ((Fra.blk fr _).v 1 rfl (.inl rfl)) (fun _ _ => rfl)))
  sss_nil)
noncomputable def fs_numbers_in : FS := ⟨[false], bodyF [false] x_numbers_in 2⟩
theorem eq_numbers_in (a0 : D) : fs_numbers_in.F [a0] = fin [false] [a0] (x_numbers_in.run [sh a0, none]) := by rw [fs_numbers_in]; rfl
theorem io_numbers_in : fs_numbers_in.io = [false] := by rw [fs_numbers_in]

noncomputable abbrev st_Endless__text : Stmt := inClass (topS 15) 2
noncomputable def N_Endless__text : List Str := ["self", "number"]
theorem sc_Endless__text : FnScope N_Endless__text ["self"] (defScope st_Endless__text) := ⟨rfl, rfl, rfl, by decide +kernel, rfl, by decide +kernel, by decide +kernel⟩
noncomputable def e1_Endless__text : Sm := m1 dStrI (mV 1)
noncomputable def k1_Endless__text : Sm := mLc (iSeq (mCall fs_numbers_in (lCons (mT (m1 (dFld FT "bits") (mV 0))) (lNil)))) (gN 1) (tmYes) (e1_Endless__text) [1]
noncomputable def x_Endless__text : Sx := xSeq (xRet (mTM fJoin (mC (.str " ")) (lCons (m2 dAdd (mLst (lCons (mF (mC (.str "endless"))) (lNil))) (k1_Endless__text)) lNil))) (xSkip)
theorem b_Endless__text {P : Pl} {mg : Str → Option Value} (fr : Fra P N_Endless__text (defScope st_Endless__text) mg) (mf : MgF mg) (fn : ∀ y X, P.M X → X.fn y = true) (cf : ClF P mg) (h_numbers_in : FnFact P "numbers_in" fs_numbers_in) : SSs P (defBody st_Endless__text) (x_Endless__text) :=
  (sss_cons (ss_ret (fr.join se_str (se_add fr.K (se_lst (sl_cons (se_F se_str) sl_nil) rfl) (se_lc fr [("number", 1)] (si_seq fr.K (fr.call h_numbers_in rfl (sl_cons (se_T (se_fld fr cf.flds (fr.v 0 rfl (.inl rfl)) (fun _ => rfl))) sl_nil) rfl)) rfl ((Fra.blk fr _).g 1 rfl (.inl rfl) (.inl rfl)) sifs_nil ((Fra.blk fr _).strI rfl mf.z_str ((Fra.blk fr _).v 1 rfl (.inl rfl)) rfl) (fun _ _ => rfl))) rfl rfl (fun _ => rfl) (fun _ => rfl)))
  sss_nil)
noncomputable def fs_Endless__text : FS := ⟨[false], bodyF [false] x_Endless__text 2⟩
theorem eq_Endless__text (a0 : D) : fs_Endless__text.F [a0] = fin [false] [a0] (x_Endless__text.run [sh a0, none]) := by rw [fs_Endless__text]; rfl
theorem io_Endless__text : fs_Endless__text.io = [false] := by rw [fs_Endless__text]

noncomputable abbrev st_set_of : Stmt := topS 3
noncomputable def N_set_of : List Str := ["numbers", "bits", "number"]
theorem sc_set_of : FnScope N_set_of ["numbers"] (defScope st_set_of) := ⟨rfl, rfl, rfl, by decide +kernel, rfl, by decide +kernel, by decide +kernel⟩
noncomputable def b1_set_of : Sx := xSeq (xAsg (m2 dOr (mV 1) (m2 dShl (mC (.int 1)) (mV 2))) (gN 1)) (xSkip)
noncomputable def l1_set_of : Sx := xFor (iVar 0) (gN 2) (b1_set_of)
noncomputable def x_set_of : Sx := xSeq (xAsg (mC (.int 0)) (gN 1)) (xSeq (l1_set_of) (xSeq (xRet (mV 1)) (xSkip)))
theorem b_set_of {P : Pl} {mg : Str → Option Value} (fr : Fra P N_set_of (defScope st_set_of) mg) (mf : MgF mg) (fn : ∀ y X, P.M X → X.fn y = true) (cf : ClF P mg) : SSs P (defBody st_set_of) (x_set_of) :=
  (sss_cons (ss_asg se_int (fr.g 1 rfl (.inl rfl) (.inl rfl)) (fun _ _ => rfl) (fun _ _ => rfl) (fun _ => rfl))
  (sss_cons (ss_for fr.pass fr.calm (fr.iv 0 rfl (.inl rfl)) (fr.g 2 rfl (.inl rfl) (.inl rfl)) (sss_cons (ss_asg (se_bor (fr.v 1 rfl (.inl rfl)) (se_shl se_int (fr.v 2 rfl (.inl rfl)))) (fr.g 1 rfl (.inl rfl) (.inl rfl)) (fun _ _ => rfl) (fun _ _ => rfl) (fun _ => rfl))
  sss_nil) (fun _ _ => rfl))
  (sss_cons (ss_ret (fr.v 1 rfl (.inl rfl)))
  sss_nil)))
noncomputable def fs_set_of : FS := ⟨[false], bodyF [false] x_set_of 3⟩
theorem eq_set_of (a0 : D) : fs_set_of.F [a0] = fin [false] [a0] (x_set_of.run [sh a0, none, none]) := by rw [fs_set_of]; rfl
theorem io_set_of : fs_set_of.io = [false] := by rw [fs_set_of]

noncomputable abbrev st_plain_number : Stmt := topS 16
noncomputable def N_plain_number : List Str := ["word", "number", "sign"]
theorem sc_plain_number : FnScope N_plain_number ["word"] (defScope st_plain_number) := ⟨rfl, rfl, rfl, by decide +kernel, rfl, by decide +kernel, by decide +kernel⟩
noncomputable def e1_plain_number : Sm := m2 (dInS false) (mV 2) (mC (.str "0123456789"))
noncomputable def k1_plain_number : Sm := mLc (iVar 0) (gN 2) (tmYes) (e1_plain_number) [2]
noncomputable def x_plain_number : Sx := xSeq (xIf (tmOr (tmNot (mBl (mChain dLe dLe (mC (.int 1)) (m1 dLen (mV 0)) (mC (.int 2))))) (tmNot (mTru (m1 dAll (k1_plain_number))))) (xSeq (xRet (mC .non)) (xSkip)) (xSkip)) (xSeq (xAsg (m1 dIntS (mV 0)) (gN 1)) (xSeq (xIf (tmOr (mBl (m2 dNe (m1 dStrI (mV 1)) (mV 0))) (mBl (m2 dGt (mV 1) (mC (.int 15))))) (xSeq (xRet (mC .non)) (xSkip)) (xSkip)) (xSeq (xRet (mV 1)) (xSkip))))
theorem b_plain_number {P : Pl} {mg : Str → Option Value} (fr : Fra P N_plain_number (defScope st_plain_number) mg) (mf : MgF mg) (fn : ∀ y X, P.M X → X.fn y = true) (cf : ClF P mg) : SSs P (defBody st_plain_number) (x_plain_number) :=
  (sss_cons (ss_if (st_w (sw_or (st_not (st_chain (fun _ _ => op_leA) (fun _ _ => op_leA) s_C s_C se_int (fr.len rfl mf.z_len (fr.v 0 rfl (.inl rfl)) rfl) se_int rfl)) (sw_or1 (st_not (st_tru fr.K (fr.all1 rfl mf.z_all (se_lc fr [("sign", 2)] (fr.iv 0 rfl (.inl rfl)) rfl ((Fra.blk fr _).g 2 rfl (.inl rfl) (.inl rfl)) sifs_nil (se_inS ((Fra.blk fr _).v 2 rfl (.inl rfl)) (let ⟨_, h⟩ := mf.c_FIGURES; (Fra.blk fr _).gs rfl h) rfl) (fun _ _ => rfl)) rfl) (fun _ _ => rfl)))))) (sss_cons (ss_ret se_none)
  sss_nil) sss_nil)
  (sss_cons (ss_asg (fr.intS rfl mf.z_int (fr.v 0 rfl (.inl rfl)) rfl) (fr.g 1 rfl (.inl rfl) (.inl rfl)) (fun _ _ => rfl) (fun _ _ => rfl) (fun _ => rfl))
  (sss_cons (ss_if (st_w (sw_or (st_ne fr (fr.strI rfl mf.z_str (fr.v 1 rfl (.inl rfl)) rfl) (fr.v 0 rfl (.inl rfl)) rfl) (sw_or1 (st_gt (fr.v 1 rfl (.inl rfl)) (let ⟨_, h⟩ := mf.c_MOST_NUMBER; fr.gi rfl h) rfl)))) (sss_cons (ss_ret se_none)
  sss_nil) sss_nil)
  (sss_cons (ss_ret (fr.v 1 rfl (.inl rfl)))
  sss_nil))))
noncomputable def fs_plain_number : FS := ⟨[false], bodyF [false] x_plain_number 3⟩
theorem eq_plain_number (a0 : D) : fs_plain_number.F [a0] = fin [false] [a0] (x_plain_number.run [sh a0, none, none]) := by rw [fs_plain_number]; rfl
theorem io_plain_number : fs_plain_number.io = [false] := by rw [fs_plain_number]

noncomputable abbrev st_read_worth : Stmt := topS 17
noncomputable def N_read_worth : List Str := ["text", "words", "number", "numbers", "found", "word"]
theorem sc_read_worth : FnScope N_read_worth ["text"] (defScope st_read_worth) := ⟨rfl, rfl, rfl, by decide +kernel, rfl, by decide +kernel, by decide +kernel⟩
noncomputable def e1_read_worth : Sm := mCall fs_plain_number (lCons (mT (mV 5)) (lNil))
noncomputable def k1_read_worth : Sm := mLc (iSeq (mN (fSl true false) (lCons (mV 1) (lCons (mC (.int 1)) lNil)))) (gN 5) (tmYes) (e1_read_worth) [5]
noncomputable def x_read_worth : Sx := xSeq (xIf (tmNot (mTru (m2 dIsi (mV 0) (mC (.ty "str"))))) (xSeq (xRaise "NoWorth" (mV 0)) (xSkip)) (xSkip)) (xSeq (xAsg (mTM fSplit (mV 0) (lCons (mC (.str " ")) lNil)) (gN 1)) (xSeq (xIf (mBl (m2 dNe (m2 dGi (mV 1) (mC (.int 0))) (mC (.str "endless")))) (xSeq (xAsg (mCall fs_plain_number (lCons (mT (mV 0)) (lNil))) (gN 2)) (xSeq (xIf (mBl (m2 (dIs false) (mV 2) (mC .non))) (xSeq (xRaise "NoWorth" (mV 0)) (xSkip)) (xSkip)) (xSeq (xRet (mMake "Numbered" fs_Numbered__init (lCons (mF (mV 2)) (lNil)))) (xSkip)))) (xSkip)) (xSeq (xAsg (k1_read_worth) (gN 3)) (xSeq (xIf (mBl (m2 (dIn false) (mC .non) (mV 3))) (xSeq (xRaise "NoWorth" (mV 0)) (xSkip)) (xSkip)) (xSeq (xAsg (mMake "Endless" fs_Endless__init (lCons (mF (mCall fs_set_of (lCons (mT (mV 3)) (lNil)))) (lNil))) (gN 4)) (xSeq (xIf (mBl (m2 dNe (mMethC [("Worth", fs_Worth__text), ("Numbered", fs_Numbered__text), ("Endless", fs_Endless__text)] "text" (mT (mV 4)) lNil) (mV 0))) (xSeq (xRaise "NoWorth" (mV 0)) (xSkip)) (xSkip)) (xSeq (xRet (mV 4)) (xSkip))))))))
theorem b_read_worth {P : Pl} {mg : Str → Option Value} (fr : Fra P N_read_worth (defScope st_read_worth) mg) (mf : MgF mg) (fn : ∀ y X, P.M X → X.fn y = true) (cf : ClF P mg) (h_set_of : FnFact P "set_of" fs_set_of) (h_plain_number : FnFact P "plain_number" fs_plain_number) (h_mk_Endless : MkFact P "Endless" fs_Endless__init) (h_mk_Numbered : MkFact P "Numbered" fs_Numbered__init) (h_m_text : MethFact P "text" [("Worth", fs_Worth__text), ("Numbered", fs_Numbered__text), ("Endless", fs_Endless__text)]) (h_rz_NoWorth : RzFact P "NoWorth") : SSs P (defBody st_read_worth) (x_read_worth) :=
  (sss_cons (ss_if (st_not (st_tru fr.K (fr.isi rfl mf.z_isinstance (fr.v 0 rfl (.inl rfl)) (fr.ty rfl mf.z_str PyProof.Rows.boot_str) rfl) (fun _ _ => rfl))) (sss_cons (ss_raise fr h_rz_NoWorth rfl (fr.v 0 rfl (.inl rfl)) rfl)
  sss_nil) sss_nil)
  (sss_cons (ss_asg (fr.split (fr.v 0 rfl (.inl rfl)) se_str rfl rfl (fun _ => rfl) (fun _ => rfl)) (fr.g 1 rfl (.inl rfl) (.inl rfl)) (fun _ _ => rfl) (fun _ _ => rfl) (fun _ => rfl))
  (sss_cons (ss_if (st_ne fr (se_sub2 fr (fr.v 1 rfl (.inl rfl)) se_int (fun _ _ => rfl) (fun _ _ => rfl)) se_str rfl) (sss_cons (ss_asg (fr.call h_plain_number rfl (sl_cons (se_T (fr.v 0 rfl (.inl rfl))) sl_nil) rfl) (fr.g 2 rfl (.inl rfl) (.inl rfl)) (fun _ _ => rfl) (fun _ _ => rfl) (fun _ => rfl))
  (sss_cons (ss_if (st_is (fr.v 2 rfl (.inl rfl)) se_none rfl) (sss_cons (ss_raise fr h_rz_NoWorth rfl (fr.v 0 rfl (.inl rfl)) rfl)
  sss_nil) sss_nil)
  (sss_cons (ss_ret (fr.make h_mk_Numbered rfl (sl_cons (se_F (fr.v 2 rfl (.inl rfl))) sl_nil) rfl))
  sss_nil))) sss_nil)
  (sss_cons (ss_lc fr (i := 3) [("word", 5)] (si_seq fr.K (fr.sliceLo (fr.v 1 rfl (.inl rfl)) se_int)) rfl ((Fra.blk fr _).g 5 rfl (.inl rfl) (.inl rfl)) sifs_nil ((Fra.blk fr _).call (h_plain_number.blk _) rfl (sl_cons (se_T ((Fra.blk fr _).v 5 rfl (.inl rfl))) sl_nil) rfl) (fun _ _ => rfl) rfl rfl rfl rfl rfl rfl)
  (sss_cons (ss_if (st_in fr se_none (fr.v 3 rfl (.inl rfl)) rfl) (sss_cons (ss_raise fr h_rz_NoWorth rfl (fr.v 0 rfl (.inl rfl)) rfl)
  sss_nil) sss_nil)
  (sss_cons (ss_asg (fr.make h_mk_Endless rfl (sl_cons (se_F (fr.call h_set_of rfl (sl_cons (se_T (fr.v 3 rfl (.inl rfl))) sl_nil) rfl)) sl_nil) rfl) (fr.g 4 rfl (.inl rfl) (.inl rfl)) (fun _ _ => rfl) (fun _ _ => rfl) (fun _ => rfl))
  (sss_cons (ss_if (st_ne fr (fr.meth0 h_m_text (se_T (fr.v 4 rfl (.inl rfl))) fun _ => ⟨_, rfl⟩) (fr.v 0 rfl (.inl rfl)) rfl) (sss_cons (ss_raise fr h_rz_NoWorth rfl (fr.v 0 rfl (.inl rfl)) rfl)
  sss_nil) sss_nil)
  (sss_cons (ss_ret (fr.v 4 rfl (.inl rfl)))
  sss_nil))))))))
noncomputable def fs_read_worth : FS := ⟨[false], bodyF [false] x_read_worth 6⟩
theorem eq_read_worth (a0 : D) : fs_read_worth.F [a0] = fin [false] [a0] (x_read_worth.run [sh a0, none, none, none, none, none]) := by rw [fs_read_worth]; rfl
theorem io_read_worth : fs_read_worth.io = [false] := by rw [fs_read_worth]

noncomputable def ex_lam3 : Expr := eArg 0 (sTest (sAt 0 (sBody (sAt 12 (defBody st__law_right)))))
noncomputable def N_lam3 : List Str := ["_law_found"]
theorem sc_lam3 : NdefX.NScope N_lam3 ["_law_found"] [] (lamScope ex_lam3) := NdefX.nscope_by (by decide +kernel)
noncomputable def m_lam3 : Sm := mCall fs_read_worth (lCons (mT (mV 0)) (lNil))
noncomputable def x_lam3 : Sx := xRet m_lam3
theorem b_lam3 {P : Pl} {mg : Str → Option Value} (fr : Fra P N_lam3 (lamScope ex_lam3) mg) (mf : MgF mg) (cf : ClF P mg) (h_read_worth : FnFact P "read_worth" fs_read_worth) : SE P (lamBody ex_lam3) m_lam3 :=
  (fr.call h_read_worth rfl (sl_cons (se_T (fr.v 0 rfl (.inl rfl))) sl_nil) rfl)
noncomputable def fs_lam3 : FS := ⟨[false], bodyF [false] x_lam3 1⟩
theorem eq_lam3 (a0 : D) : fs_lam3.F [a0] = fin [false] [a0] (x_lam3.run [sh a0]) := by rw [fs_lam3]; rfl
theorem io_lam3 : fs_lam3.io = [false] := by rw [fs_lam3]

noncomputable abbrev st_law : Stmt := topS 29
noncomputable def ex_lam4 : Expr := eArg 0 (eArg 0 (sTest (sAt 0 (sBody (sAt 1 (defBody st_law))))))
noncomputable def N_lam4 : List Str := ["_law_found"]
theorem sc_lam4 : NdefX.NScope N_lam4 ["_law_found"] [] (lamScope ex_lam4) := NdefX.nscope_by (by decide +kernel)
noncomputable def m_lam4 : Sm := mCall fs_read_worth (lCons (mT (mV 0)) (lNil))
noncomputable def x_lam4 : Sx := xRet m_lam4
theorem b_lam4 {P : Pl} {mg : Str → Option Value} (fr : Fra P N_lam4 (lamScope ex_lam4) mg) (mf : MgF mg) (cf : ClF P mg) (h_read_worth : FnFact P "read_worth" fs_read_worth) : SE P (lamBody ex_lam4) m_lam4 :=
  (fr.call h_read_worth rfl (sl_cons (se_T (fr.v 0 rfl (.inl rfl))) sl_nil) rfl)
noncomputable def fs_lam4 : FS := ⟨[false], bodyF [false] x_lam4 1⟩
theorem eq_lam4 (a0 : D) : fs_lam4.F [a0] = fin [false] [a0] (x_lam4.run [sh a0]) := by rw [fs_lam4]; rfl
theorem io_lam4 : fs_lam4.io = [false] := by rw [fs_lam4]

noncomputable def clo_lam1_lam2_lam3_lam4 : List (Str × FS) := [("lam1", fs_lam1), ("lam2", fs_lam2), ("lam3", fs_lam3), ("lam4", fs_lam4)]
noncomputable abbrev st__law_refused : Stmt := topS 26
noncomputable def N__law_refused : List Str := ["_law_make", "_law_thing", "_law_error", "e"]
theorem sc__law_refused : FnScope N__law_refused ["_law_make", "_law_thing"] (defScope st__law_refused) := ⟨rfl, rfl, rfl, by decide +kernel, rfl, by decide +kernel, by decide +kernel⟩
noncomputable def y1__law_refused : Sx := xSeq (xExpr (mCall (cloFS [false] clo_lam1_lam2_lam3_lam4) (lCons (mV 0) (lCons (mT (mV 1)) (lNil))))) (xSkip)
noncomputable def x__law_refused : Sx := xSeq (xAsg (mC .non) (gN 2)) (xSeq (xTryT (y1__law_refused) FE CE 3 [("HeapError", .kp 2)]) (xSeq (xIf (tmNot (mTru (m2 (dAlt2 (dIsiC IT) (dIsiE CK)) (mV 2) (mC (.cls "NoWorth"))))) (xSeq (xRet (mC (.bl false))) (xSkip)) (xSkip)) (xSeq (xRet (mAnd (m2 dEq (m1 (dFldE FE "found") (mV 2)) (mV 1)) (m2 dEq (m2 dIsi (m1 (dFldE FE "found") (mV 2)) (mC (.ty "bool"))) (m2 dIsi (mV 1) (mC (.ty "bool")))))) (xSkip))))
theorem b__law_refused {P : Pl} {mg : Str → Option Value} (fr : Fra P N__law_refused (defScope st__law_refused) mg) (mf : MgF mg) (fn : ∀ y X, P.M X → X.fn y = true) (cf : ClF P mg) (h_clo_lam1_lam2_lam3_lam4 : ∀ z fs, List.lookup z clo_lam1_lam2_lam3_lam4 = some fs → CloFact P z fs) (h0c : P.G.cls "" = none) (xf : XcF P mg) (tp : TopX P) : SSs P (defBody st__law_refused) (x__law_refused) :=
  (sss_cons (ss_asg se_none (fr.g 2 rfl (.inl rfl) (.inl rfl)) (fun _ _ => rfl) (fun _ _ => rfl) (fun _ => rfl))
  (sss_cons (let ⟨_, hy0⟩ := xf.n_HeapError; ss_tryT fr tp xf.isi xf.fld xf.cls (i := 3) (fun W => (sss_cons (ss_expr (se_clo (fr.tr W) (fun z fs e => ((h_clo_lam1_lam2_lam3_lam4 z fs e).tr W)) h0c (sl_cons ((fr.tr W).v 0 rfl (.inl rfl)) (sl_cons (se_T ((fr.tr W).v 1 rfl (.inl rfl))) sl_nil)) rfl (fun _ => rfl)) rfl)
  sss_nil)) (.cons (show ClSu _ _ _ (.kp 2) from fun a cls d => kp_asg (i := 3) (j := 2) fr rfl rfl rfl (.inl rfl) (.inl rfl) (fun _ => rfl) (fun _ => rfl) (fun _ => rfl)) rfl hy0 (by decide) .nil) rfl rfl)
  (sss_cons (ss_if (st_not (st_tru fr.K (fr.isiE cf.isi cf.ek rfl mf.z_isinstance (fr.v 2 rfl (.inl rfl)) (let ⟨_, h1, h2⟩ := cf.n_NoWorth; fr.cn h1 rfl h2) rfl) (fun _ _ => rfl))) (sss_cons (ss_ret se_bool)
  sss_nil) sss_nil)
  (sss_cons (ss_ret (se_and fr (se_eq fr (se_fldE fr cf.ek (fr.v 2 rfl (.inl rfl)) (fun _ => rfl)) (fr.v 1 rfl (.inl rfl)) rfl) (se_one (se_eq fr (fr.isi rfl mf.z_isinstance (se_fldE fr cf.ek (fr.v 2 rfl (.inl rfl)) (fun _ => rfl)) (fr.ty rfl mf.z_bool PyProof.Rows.boot_bool) rfl) (fr.isi rfl mf.z_isinstance (fr.v 1 rfl (.inl rfl)) (fr.ty rfl mf.z_bool PyProof.Rows.boot_bool) rfl) rfl))))
  sss_nil))))
noncomputable def fs__law_refused : FS := ⟨[false, false], bodyF [false, false] x__law_refused 4⟩
theorem eq__law_refused (a0 : D) (a1 : D) : fs__law_refused.F [a0, a1] = fin [false, false] [a0, a1] (x__law_refused.run [sh a0, sh a1, none, none]) := by rw [fs__law_refused]; rfl
theorem io__law_refused : fs__law_refused.io = [false, false] := by rw [fs__law_refused]

noncomputable abbrev st__law_members : Stmt := topS 22
noncomputable def N__law_members : List Str := ["_law_bits", "_law_found", "_law_k"]
theorem sc__law_members : FnScope N__law_members ["_law_bits"] (defScope st__law_members) := ⟨rfl, rfl, rfl, by decide +kernel, rfl, by decide +kernel, by decide +kernel⟩
noncomputable def b1__law_members : Sx := xSeq (xIf (mBl (m2 dEq (m2 dMod (mV 0) (mC (.int 2))) (mC (.int 1)))) (xSeq (xExpr (mMeth "list" 1 fAppend (lCons (mF (mV 2)) lNil))) (xSkip)) (xSkip)) (xSeq (xAsg (m2 dDiv (mV 0) (mC (.int 2))) (gN 0)) (xSkip))
noncomputable def l1__law_members : Sx := xFor (iInts rng1 (lCons (mC (.int 16)) (lNil))) (gN 2) (b1__law_members)
noncomputable def x__law_members : Sx := xSeq (xAsg (mLst (lNil)) (gN 1)) (xSeq (l1__law_members) (xSeq (xRet (mV 1)) (xSkip)))
theorem b__law_members {P : Pl} {mg : Str → Option Value} (fr : Fra P N__law_members (defScope st__law_members) mg) (mf : MgF mg) (fn : ∀ y X, P.M X → X.fn y = true) (cf : ClF P mg) : SSs P (defBody st__law_members) (x__law_members) :=
  (sss_cons (ss_asg (se_lst sl_nil rfl) (fr.g 1 rfl (.inl rfl) (.inl rfl)) (fun _ _ => rfl) (fun _ _ => rfl) (fun _ => rfl))
  (sss_cons (ss_for fr.pass fr.calm (fr.rng1 rfl mf.z_range (sl_cons se_int sl_nil) rfl) (fr.g 2 rfl (.inl rfl) (.inl rfl)) (sss_cons (ss_if (st_eq fr (se_mod (fr.v 0 rfl (.inl rfl)) se_int) se_int rfl) (sss_cons (ss_expr (fr.append (i := 1) rfl (.inl rfl) (fr.v 2 rfl (.inl rfl)) rfl rfl (fun _ => rfl) (fun _ => rfl)) rfl)
  sss_nil) sss_nil)
  (sss_cons (ss_asg (se_fdiv (fr.v 0 rfl (.inl rfl)) se_int) (fr.g 0 rfl (.inl rfl) (.inl rfl)) (fun _ _ => rfl) (fun _ _ => rfl) (fun _ => rfl))
  sss_nil)) (fun _ _ => rfl))
  (sss_cons (ss_ret (fr.v 1 rfl (.inl rfl)))
  sss_nil)))
noncomputable def fs__law_members : FS := ⟨[false], bodyF [false] x__law_members 3⟩
theorem eq__law_members (a0 : D) : fs__law_members.F [a0] = fin [false] [a0] (x__law_members.run [sh a0, none, none]) := by rw [fs__law_members]; rfl
theorem io__law_members : fs__law_members.io = [false] := by rw [fs__law_members]

noncomputable abbrev st__law_text : Stmt := topS 23
noncomputable def N__law_text : List Str := ["_law_worth", "_law_k"]
theorem sc__law_text : FnScope N__law_text ["_law_worth"] (defScope st__law_text) := ⟨rfl, rfl, rfl, by decide +kernel, rfl, by decide +kernel, by decide +kernel⟩
noncomputable def e1__law_text : Sm := m2 dAdd (mC (.str " ")) (m1 dStrI (mV 1))
noncomputable def k1__law_text : Sm := mLc (iSeq (mCall fs__law_members (lCons (mT (m2 dGi (mV 0) (mC (.int 1)))) (lNil)))) (gN 1) (tmYes) (e1__law_text) [1]
noncomputable def x__law_text : Sx := xSeq (xIf (mBl (m2 dEq (m2 dGi (mV 0) (mC (.int 0))) (mC (.str "number")))) (xSeq (xRet (m1 dStrI (m2 dGi (mV 0) (mC (.int 1))))) (xSkip)) (xSkip)) (xSeq (xRet (m2 dAdd (mC (.str "endless")) (mTM fJoin (mC (.str "")) (lCons (k1__law_text) lNil)))) (xSkip))
theorem b__law_text {P : Pl} {mg : Str → Option Value} (fr : Fra P N__law_text (defScope st__law_text) mg) (mf : MgF mg) (fn : ∀ y X, P.M X → X.fn y = true) (cf : ClF P mg) (h__law_members : FnFact P "_law_members" fs__law_members) : SSs P (defBody st__law_text) (x__law_text) :=
  (sss_cons (ss_if (st_eq fr (se_sub2 fr (fr.v 0 rfl (.inl rfl)) se_int (fun _ _ => rfl) (fun _ _ => rfl)) se_str rfl) (sss_cons (ss_ret (fr.strI rfl mf.z_str (se_sub2 fr (fr.v 0 rfl (.inl rfl)) se_int (fun _ _ => rfl) (fun _ _ => rfl)) rfl))
  sss_nil) sss_nil)
  (sss_cons (ss_ret (se_add fr.K se_str (fr.join se_str (se_lc fr [("_law_k", 1)] (si_seq fr.K (fr.call h__law_members rfl (sl_cons (se_T (se_sub2 fr (fr.v 0 rfl (.inl rfl)) se_int (fun _ _ => rfl) (fun _ _ => rfl))) sl_nil) rfl)) rfl ((Fra.blk fr _).g 1 rfl (.inl rfl) (.inl rfl)) sifs_nil (se_add (Fra.blk fr _).K se_str ((Fra.blk fr _).strI rfl mf.z_str ((Fra.blk fr _).v 1 rfl (.inl rfl)) rfl)) (fun _ _ => rfl)) rfl rfl (fun _ => rfl) (fun _ => rfl))))
  sss_nil))
noncomputable def fs__law_text : FS := ⟨[false], bodyF [false] x__law_text 2⟩
theorem eq__law_text (a0 : D) : fs__law_text.F [a0] = fin [false] [a0] (x__law_text.run [sh a0, none]) := by rw [fs__law_text]; rfl
theorem io__law_text : fs__law_text.io = [false] := by rw [fs__law_text]

noncomputable abbrev st_Worth__outcome : Stmt := inClass (topS 13) 3
noncomputable def N_Worth__outcome : List Str := ["self"]
theorem sc_Worth__outcome : FnScope N_Worth__outcome ["self"] (defScope st_Worth__outcome) := ⟨rfl, rfl, rfl, by decide +kernel, rfl, by decide +kernel, by decide +kernel⟩
noncomputable def x_Worth__outcome : Sx := xSeq (xRet (mC (.str "drawn"))) (xSkip)
theorem b_Worth__outcome {P : Pl} {mg : Str → Option Value} (fr : Fra P N_Worth__outcome (defScope st_Worth__outcome) mg) (mf : MgF mg) (fn : ∀ y X, P.M X → X.fn y = true) (cf : ClF P mg) : SSs P (defBody st_Worth__outcome) (x_Worth__outcome) :=
  (sss_cons (ss_ret se_str)
  sss_nil)
noncomputable def fs_Worth__outcome : FS := ⟨[false], bodyF [false] x_Worth__outcome 1⟩
theorem io_Worth__outcome : fs_Worth__outcome.io = [false] := by rw [fs_Worth__outcome]

noncomputable abbrev st_Numbered__outcome : Stmt := inClass (topS 14) 4
noncomputable def N_Numbered__outcome : List Str := ["self"]
theorem sc_Numbered__outcome : FnScope N_Numbered__outcome ["self"] (defScope st_Numbered__outcome) := ⟨rfl, rfl, rfl, by decide +kernel, rfl, by decide +kernel, by decide +kernel⟩
noncomputable def x_Numbered__outcome : Sx := xSeq (xIf (mBl (m2 dEq (m1 (dFld FT "number") (mV 0)) (mC (.int 0)))) (xSeq (xRet (mC (.str "lost"))) (xSkip)) (xSkip)) (xSeq (xRet (mC (.str "won"))) (xSkip))
theorem b_Numbered__outcome {P : Pl} {mg : Str → Option Value} (fr : Fra P N_Numbered__outcome (defScope st_Numbered__outcome) mg) (mf : MgF mg) (fn : ∀ y X, P.M X → X.fn y = true) (cf : ClF P mg) : SSs P (defBody st_Numbered__outcome) (x_Numbered__outcome) :=
  (sss_cons (ss_if (st_eq fr (se_fld fr cf.flds (fr.v 0 rfl (.inl rfl)) (fun _ => rfl)) se_int rfl) (sss_cons (ss_ret se_str)
  sss_nil) sss_nil)
  (sss_cons (ss_ret se_str)
  sss_nil))
noncomputable def fs_Numbered__outcome : FS := ⟨[false], bodyF [false] x_Numbered__outcome 1⟩
theorem eq_Numbered__outcome (a0 : D) : fs_Numbered__outcome.F [a0] = fin [false] [a0] (x_Numbered__outcome.run [sh a0]) := by rw [fs_Numbered__outcome]; rfl
theorem io_Numbered__outcome : fs_Numbered__outcome.io = [false] := by rw [fs_Numbered__outcome]

noncomputable abbrev st_Endless__outcome : Stmt := inClass (topS 15) 4
noncomputable def N_Endless__outcome : List Str := ["self"]
theorem sc_Endless__outcome : FnScope N_Endless__outcome ["self"] (defScope st_Endless__outcome) := ⟨rfl, rfl, rfl, by decide +kernel, rfl, by decide +kernel, by decide +kernel⟩
noncomputable def x_Endless__outcome : Sx := xSeq (xIf (mBl (m2 dEq (m2 dAnd (m1 (dFld FT "bits") (mV 0)) (mC (.int 1))) (mC (.int 1)))) (xSeq (xRet (mC (.str "won"))) (xSkip)) (xSkip)) (xSeq (xRet (mC (.str "drawn"))) (xSkip))
theorem b_Endless__outcome {P : Pl} {mg : Str → Option Value} (fr : Fra P N_Endless__outcome (defScope st_Endless__outcome) mg) (mf : MgF mg) (fn : ∀ y X, P.M X → X.fn y = true) (cf : ClF P mg) : SSs P (defBody st_Endless__outcome) (x_Endless__outcome) :=
  (sss_cons (ss_if (st_eq fr (se_band (se_fld fr cf.flds (fr.v 0 rfl (.inl rfl)) (fun _ => rfl)) se_int) se_int rfl) (sss_cons (ss_ret se_str)
  sss_nil) sss_nil)
  (sss_cons (ss_ret se_str)
  sss_nil))
noncomputable def fs_Endless__outcome : FS := ⟨[false], bodyF [false] x_Endless__outcome 1⟩
theorem eq_Endless__outcome (a0 : D) : fs_Endless__outcome.F [a0] = fin [false] [a0] (x_Endless__outcome.run [sh a0]) := by rw [fs_Endless__outcome]; rfl
theorem io_Endless__outcome : fs_Endless__outcome.io = [false] := by rw [fs_Endless__outcome]

noncomputable abbrev st_Worth__told : Stmt := inClass (topS 13) 0
noncomputable def N_Worth__told : List Str := ["self"]
theorem sc_Worth__told : FnScope N_Worth__told ["self"] (defScope st_Worth__told) := ⟨rfl, rfl, rfl, by decide +kernel, rfl, by decide +kernel, by decide +kernel⟩
noncomputable def x_Worth__told : Sx := xSeq (xRet (mTup (lNil))) (xSkip)
theorem b_Worth__told {P : Pl} {mg : Str → Option Value} (fr : Fra P N_Worth__told (defScope st_Worth__told) mg) (mf : MgF mg) (fn : ∀ y X, P.M X → X.fn y = true) (cf : ClF P mg) : SSs P (defBody st_Worth__told) (x_Worth__told) :=
  (sss_cons (ss_ret (se_tup sl_nil rfl))
  sss_nil)
noncomputable def fs_Worth__told : FS := ⟨[false], bodyF [false] x_Worth__told 1⟩
theorem io_Worth__told : fs_Worth__told.io = [false] := by rw [fs_Worth__told]

noncomputable abbrev st_Numbered__told : Stmt := inClass (topS 14) 1
noncomputable def N_Numbered__told : List Str := ["self"]
theorem sc_Numbered__told : FnScope N_Numbered__told ["self"] (defScope st_Numbered__told) := ⟨rfl, rfl, rfl, by decide +kernel, rfl, by decide +kernel, by decide +kernel⟩
noncomputable def x_Numbered__told : Sx := xSeq (xRet (mTup (lCons (mF (mC (.str "number"))) (lCons (mF (m1 (dFld FT "number") (mV 0))) (lNil))))) (xSkip)
theorem b_Numbered__told {P : Pl} {mg : Str → Option Value} (fr : Fra P N_Numbered__told (defScope st_Numbered__told) mg) (mf : MgF mg) (fn : ∀ y X, P.M X → X.fn y = true) (cf : ClF P mg) : SSs P (defBody st_Numbered__told) (x_Numbered__told) :=
  (sss_cons (ss_ret (se_tup (sl_cons (se_F se_str) (sl_cons (se_F (se_fld fr cf.flds (fr.v 0 rfl (.inl rfl)) (fun _ => rfl))) sl_nil)) rfl))
  sss_nil)
noncomputable def fs_Numbered__told : FS := ⟨[false], bodyF [false] x_Numbered__told 1⟩
theorem eq_Numbered__told (a0 : D) : fs_Numbered__told.F [a0] = fin [false] [a0] (x_Numbered__told.run [sh a0]) := by rw [fs_Numbered__told]; rfl
theorem io_Numbered__told : fs_Numbered__told.io = [false] := by rw [fs_Numbered__told]

noncomputable abbrev st_Endless__told : Stmt := inClass (topS 15) 1
noncomputable def N_Endless__told : List Str := ["self"]
theorem sc_Endless__told : FnScope N_Endless__told ["self"] (defScope st_Endless__told) := ⟨rfl, rfl, rfl, by decide +kernel, rfl, by decide +kernel, by decide +kernel⟩
noncomputable def x_Endless__told : Sx := xSeq (xRet (mTup (lCons (mF (mC (.str "endless"))) (lCons (mF (m1 (dFld FT "bits") (mV 0))) (lNil))))) (xSkip)
theorem b_Endless__told {P : Pl} {mg : Str → Option Value} (fr : Fra P N_Endless__told (defScope st_Endless__told) mg) (mf : MgF mg) (fn : ∀ y X, P.M X → X.fn y = true) (cf : ClF P mg) : SSs P (defBody st_Endless__told) (x_Endless__told) :=
  (sss_cons (ss_ret (se_tup (sl_cons (se_F se_str) (sl_cons (se_F (se_fld fr cf.flds (fr.v 0 rfl (.inl rfl)) (fun _ => rfl))) sl_nil)) rfl))
  sss_nil)
noncomputable def fs_Endless__told : FS := ⟨[false], bodyF [false] x_Endless__told 1⟩
theorem eq_Endless__told (a0 : D) : fs_Endless__told.F [a0] = fin [false] [a0] (x_Endless__told.run [sh a0]) := by rw [fs_Endless__told]; rfl
theorem io_Endless__told : fs_Endless__told.io = [false] := by rw [fs_Endless__told]

noncomputable abbrev st_Worth__is_endless : Stmt := inClass (topS 13) 4
noncomputable def N_Worth__is_endless : List Str := ["self"]
theorem sc_Worth__is_endless : FnScope N_Worth__is_endless ["self"] (defScope st_Worth__is_endless) := ⟨rfl, rfl, rfl, by decide +kernel, rfl, by decide +kernel, by decide +kernel⟩
noncomputable def x_Worth__is_endless : Sx := xSeq (xRet (mC (.bl false))) (xSkip)
theorem b_Worth__is_endless {P : Pl} {mg : Str → Option Value} (fr : Fra P N_Worth__is_endless (defScope st_Worth__is_endless) mg) (mf : MgF mg) (fn : ∀ y X, P.M X → X.fn y = true) (cf : ClF P mg) : SSs P (defBody st_Worth__is_endless) (x_Worth__is_endless) :=
  (sss_cons (ss_ret se_bool)
  sss_nil)
noncomputable def fs_Worth__is_endless : FS := ⟨[false], bodyF [false] x_Worth__is_endless 1⟩
theorem eq_Worth__is_endless (a0 : D) : fs_Worth__is_endless.F [a0] = fin [false] [a0] (x_Worth__is_endless.run [sh a0]) := by rw [fs_Worth__is_endless]; rfl
theorem io_Worth__is_endless : fs_Worth__is_endless.io = [false] := by rw [fs_Worth__is_endless]

noncomputable abbrev st_Endless__is_endless : Stmt := inClass (topS 15) 5
noncomputable def N_Endless__is_endless : List Str := ["self"]
theorem sc_Endless__is_endless : FnScope N_Endless__is_endless ["self"] (defScope st_Endless__is_endless) := ⟨rfl, rfl, rfl, by decide +kernel, rfl, by decide +kernel, by decide +kernel⟩
noncomputable def x_Endless__is_endless : Sx := xSeq (xRet (mC (.bl true))) (xSkip)
theorem b_Endless__is_endless {P : Pl} {mg : Str → Option Value} (fr : Fra P N_Endless__is_endless (defScope st_Endless__is_endless) mg) (mf : MgF mg) (fn : ∀ y X, P.M X → X.fn y = true) (cf : ClF P mg) : SSs P (defBody st_Endless__is_endless) (x_Endless__is_endless) :=
  (sss_cons (ss_ret se_bool)
  sss_nil)
noncomputable def fs_Endless__is_endless : FS := ⟨[false], bodyF [false] x_Endless__is_endless 1⟩
theorem eq_Endless__is_endless (a0 : D) : fs_Endless__is_endless.F [a0] = fin [false] [a0] (x_Endless__is_endless.run [sh a0]) := by rw [fs_Endless__is_endless]; rfl
theorem io_Endless__is_endless : fs_Endless__is_endless.io = [false] := by rw [fs_Endless__is_endless]

noncomputable abbrev st__law_is : Stmt := topS 27
noncomputable def N__law_is : List Str := ["_law_worth", "_law_due_here", "_law_kinds", "_law_endless", "_law_word"]
theorem sc__law_is : FnScope N__law_is ["_law_worth", "_law_due_here"] (defScope st__law_is) := ⟨rfl, rfl, rfl, by decide +kernel, rfl, by decide +kernel, by decide +kernel⟩
noncomputable def x__law_is : Sx := xSeq (xAsg (mLst (lCons (mF (m2 (dIsiC IT) (mV 0) (mC (.cls "Numbered")))) (lCons (mF (m2 (dIsiC IT) (mV 0) (mC (.cls "Endless")))) (lCons (mF (m2 (dIsiC IT) (mV 0) (mC (.cls "Worth")))) (lNil))))) (gN 2)) (xSeq (xAsg (m2 dEq (m2 dGi (mV 1) (mC (.int 0))) (mC (.str "endless"))) (gN 3)) (xSeq (xIf (tmOr (mBl (m2 dNe (mV 2) (mLst (lCons (mF (mNot (mV 3))) (lCons (mF (mV 3)) (lCons (mF (mC (.bl true))) (lNil))))))) (mBl (m2 dNe (mMethC [("Worth", fs_Worth__is_endless), ("Numbered", fs_Worth__is_endless), ("Endless", fs_Endless__is_endless)] "is_endless" (mT (mV 0)) lNil) (mV 3)))) (xSeq (xRet (mC (.bl false))) (xSkip)) (xSkip)) (xSeq (xAsg (m2 dIx (mLst (lCons (mF (mC (.str "lost"))) (lCons (mF (mC (.str "won"))) (lNil)))) (m1 dInt (m2 dGt (m2 dGi (mV 1) (mC (.int 1))) (mC (.int 0))))) (gN 4)) (xSeq (xIf (mTru (mV 3)) (xSeq (xAsg (m2 dIx (mLst (lCons (mF (mC (.str "drawn"))) (lCons (mF (mC (.str "won"))) (lNil)))) (m2 dMod (m2 dGi (mV 1) (mC (.int 1))) (mC (.int 2)))) (gN 4)) (xSkip)) (xSkip)) (xSeq (xIf (tmOr (tmNot (mTru (m2 dIsi (mMethC [("Worth", fs_Worth__told), ("Numbered", fs_Numbered__told), ("Endless", fs_Endless__told)] "told" (mT (mV 0)) lNil) (mC (.ty "tuple"))))) (tmOr (mBl (m2 dNe (mMethC [("Worth", fs_Worth__told), ("Numbered", fs_Numbered__told), ("Endless", fs_Endless__told)] "told" (mT (mV 0)) lNil) (mV 1))) (mTru (m2 dIsi (m2 dGi (mMethC [("Worth", fs_Worth__told), ("Numbered", fs_Numbered__told), ("Endless", fs_Endless__told)] "told" (mT (mV 0)) lNil) (mC (.int 1))) (mC (.ty "bool")))))) (xSeq (xRet (mC (.bl false))) (xSkip)) (xSkip)) (xSeq (xRet (mAnd (m2 dEq (mMethC [("Worth", fs_Worth__text), ("Numbered", fs_Numbered__text), ("Endless", fs_Endless__text)] "text" (mT (mV 0)) lNil) (mCall fs__law_text (lCons (mT (mV 1)) (lNil)))) (m2 dEq (mMethC [("Worth", fs_Worth__outcome), ("Numbered", fs_Numbered__outcome), ("Endless", fs_Endless__outcome)] "outcome" (mT (mV 0)) lNil) (mV 4)))) (xSkip)))))))
theorem b__law_is {P : Pl} {mg : Str → Option Value} (fr : Fra P N__law_is (defScope st__law_is) mg) (mf : MgF mg) (fn : ∀ y X, P.M X → X.fn y = true) (cf : ClF P mg) (h__law_text : FnFact P "_law_text" fs__law_text) (h_m_text : MethFact P "text" [("Worth", fs_Worth__text), ("Numbered", fs_Numbered__text), ("Endless", fs_Endless__text)]) (h_m_outcome : MethFact P "outcome" [("Worth", fs_Worth__outcome), ("Numbered", fs_Numbered__outcome), ("Endless", fs_Endless__outcome)]) (h_m_told : MethFact P "told" [("Worth", fs_Worth__told), ("Numbered", fs_Numbered__told), ("Endless", fs_Endless__told)]) (h_m_is_endless : MethFact P "is_endless" [("Worth", fs_Worth__is_endless), ("Numbered", fs_Worth__is_endless), ("Endless", fs_Endless__is_endless)]) : SSs P (defBody st__law_is) (x__law_is) :=
  (sss_cons (ss_asg (se_lst (sl_cons (se_F (fr.isiC cf.isi rfl mf.z_isinstance (fr.v 0 rfl (.inl rfl)) (let ⟨_, h1, h2⟩ := cf.n_Numbered; fr.cn h1 rfl h2) rfl)) (sl_cons (se_F (fr.isiC cf.isi rfl mf.z_isinstance (fr.v 0 rfl (.inl rfl)) (let ⟨_, h1, h2⟩ := cf.n_Endless; fr.cn h1 rfl h2) rfl)) (sl_cons (se_F (fr.isiC cf.isi rfl mf.z_isinstance (fr.v 0 rfl (.inl rfl)) (let ⟨_, h1, h2⟩ := cf.n_Worth; fr.cn h1 rfl h2) rfl)) sl_nil))) rfl) (fr.g 2 rfl (.inl rfl) (.inl rfl)) (fun _ _ => rfl) (fun _ _ => rfl) (fun _ => rfl))
  (sss_cons (ss_asg (se_eq fr (se_sub2 fr (fr.v 1 rfl (.inl rfl)) se_int (fun _ _ => rfl) (fun _ _ => rfl)) se_str rfl) (fr.g 3 rfl (.inl rfl) (.inl rfl)) (fun _ _ => rfl) (fun _ _ => rfl) (fun _ => rfl))
  (sss_cons (ss_if (st_w (sw_or (st_ne fr (fr.v 2 rfl (.inl rfl)) (se_lst (sl_cons (se_F (se_not fr (fr.v 3 rfl (.inl rfl)))) (sl_cons (se_F (fr.v 3 rfl (.inl rfl))) (sl_cons (se_F se_bool) sl_nil))) rfl) rfl) (sw_or1 (st_ne fr (fr.meth0 h_m_is_endless (se_T (fr.v 0 rfl (.inl rfl))) fun _ => ⟨_, rfl⟩) (fr.v 3 rfl (.inl rfl)) rfl)))) (sss_cons (ss_ret se_bool)
  sss_nil) sss_nil)
  (sss_cons (ss_asg (se_ix fr (se_lst (sl_cons (se_F se_str) (sl_cons (se_F se_str) sl_nil)) rfl) (fr.int1 rfl mf.z_int (se_gt (se_sub2 fr (fr.v 1 rfl (.inl rfl)) se_int (fun _ _ => rfl) (fun _ _ => rfl)) se_int rfl) rfl) (fun _ _ => rfl)) (fr.g 4 rfl (.inl rfl) (.inl rfl)) (fun _ _ => rfl) (fun _ _ => rfl) (fun _ => rfl))
  (sss_cons (ss_if (st_tru fr.K (fr.v 3 rfl (.inl rfl)) (fun _ _ => rfl)) (sss_cons (ss_asg (se_ix fr (se_lst (sl_cons (se_F se_str) (sl_cons (se_F se_str) sl_nil)) rfl) (se_mod (se_sub2 fr (fr.v 1 rfl (.inl rfl)) se_int (fun _ _ => rfl) (fun _ _ => rfl)) se_int) (fun _ _ => rfl)) (fr.g 4 rfl (.inl rfl) (.inl rfl)) (fun _ _ => rfl) (fun _ _ => rfl) (fun _ => rfl))
  sss_nil) sss_nil)
  (sss_cons (ss_if (st_w (sw_or (st_not (st_tru fr.K (fr.isi rfl mf.z_isinstance (fr.meth0 h_m_told (se_T (fr.v 0 rfl (.inl rfl))) fun _ => ⟨_, rfl⟩) (fr.ty rfl mf.z_tuple PyProof.Rows.boot_tuple) rfl) (fun _ _ => rfl))) (sw_or (st_ne fr (fr.meth0 h_m_told (se_T (fr.v 0 rfl (.inl rfl))) fun _ => ⟨_, rfl⟩) (fr.v 1 rfl (.inl rfl)) rfl) (sw_or1 (st_tru fr.K (fr.isi rfl mf.z_isinstance (se_sub2 fr (fr.meth0 h_m_told (se_T (fr.v 0 rfl (.inl rfl))) fun _ => ⟨_, rfl⟩) se_int (fun _ _ => rfl) (fun _ _ => rfl)) (fr.ty rfl mf.z_bool PyProof.Rows.boot_bool) rfl) (fun _ _ => rfl)))))) (sss_cons (ss_ret se_bool)
  sss_nil) sss_nil)
  (sss_cons (ss_ret (se_and fr (se_eq fr (fr.meth0 h_m_text (se_T (fr.v 0 rfl (.inl rfl))) fun _ => ⟨_, rfl⟩) (fr.call h__law_text rfl (sl_cons (se_T (fr.v 1 rfl (.inl rfl))) sl_nil) rfl) rfl) (se_one (se_eq fr (fr.meth0 h_m_outcome (se_T (fr.v 0 rfl (.inl rfl))) fun _ => ⟨_, rfl⟩) (fr.v 4 rfl (.inl rfl)) rfl))))
  sss_nil)))))))
noncomputable def fs__law_is : FS := ⟨[false, false], bodyF [false, false] x__law_is 5⟩
theorem eq__law_is (a0 : D) (a1 : D) : fs__law_is.F [a0, a1] = fin [false, false] [a0, a1] (x__law_is.run [sh a0, sh a1, none, none, none]) := by rw [fs__law_is]; rfl
theorem io__law_is : fs__law_is.io = [false, false] := by rw [fs__law_is]

noncomputable abbrev st__law_due : Stmt := topS 24
noncomputable def N__law_due : List Str := ["_law_text_here", "_law_k", "_law_words", "_law_members_here", "_law_bits"]
theorem sc__law_due : FnScope N__law_due ["_law_text_here"] (defScope st__law_due) := ⟨rfl, rfl, rfl, by decide +kernel, rfl, by decide +kernel, by decide +kernel⟩
noncomputable def b1__law_due : Sx := xSeq (xAsg (m2 dAdd (m2 dMul (mC (.int 2)) (mV 4)) (m1 dInt (m2 (dIn false) (mV 1) (mV 3)))) (gN 4)) (xSkip)
noncomputable def l1__law_due : Sx := xFor (iInts rng3 (lCons (mC (.int 15)) (lCons (m1 dNeg (mC (.int 1))) (lCons (m1 dNeg (mC (.int 1))) (lNil))))) (gN 1) (b1__law_due)
noncomputable def c1__law_due : VM.Tm := mBl (m2 (dIn false) (m1 dStrI (mV 1)) (mN (fSl true false) (lCons (mV 2) (lCons (mC (.int 1)) lNil))))
noncomputable def e1__law_due : Sm := mV 1
noncomputable def k1__law_due : Sm := mLc (iInts rng1 (lCons (mC (.int 16)) (lNil))) (gN 1) (c1__law_due) (e1__law_due) [1]
noncomputable def b2__law_due : Sx := xSeq (xIf (mBl (m2 dEq (mV 0) (m1 dStrI (mV 1)))) (xSeq (xRet (mTup (lCons (mF (mC (.str "number"))) (lCons (mF (mV 1)) (lNil))))) (xSkip)) (xSkip)) (xSkip)
noncomputable def l2__law_due : Sx := xFor (iInts rng1 (lCons (mC (.int 16)) (lNil))) (gN 1) (b2__law_due)
noncomputable def x__law_due : Sx := xSeq (l2__law_due) (xSeq (xAsg (mTM fSplit (mV 0) (lCons (mC (.str " ")) lNil)) (gN 2)) (xSeq (xIf (mBl (m2 dNe (m2 dGi (mV 2) (mC (.int 0))) (mC (.str "endless")))) (xSeq (xRet (mC .non)) (xSkip)) (xSkip)) (xSeq (xAsg (k1__law_due) (gN 3)) (xSeq (xAsg (mC (.int 0)) (gN 4)) (xSeq (l1__law_due) (xSeq (xIf (mBl (m2 dNe (mCall fs__law_text (lCons (mT (mTup (lCons (mF (mC (.str "endless"))) (lCons (mF (mV 4)) (lNil))))) (lNil))) (mV 0))) (xSeq (xRet (mC .non)) (xSkip)) (xSkip)) (xSeq (xRet (mTup (lCons (mF (mC (.str "endless"))) (lCons (mF (mV 4)) (lNil))))) (xSkip))))))))
theorem b__law_due {P : Pl} {mg : Str → Option Value} (fr : Fra P N__law_due (defScope st__law_due) mg) (mf : MgF mg) (fn : ∀ y X, P.M X → X.fn y = true) (cf : ClF P mg) (h__law_text : FnFact P "_law_text" fs__law_text) : SSs P (defBody st__law_due) (x__law_due) :=
  (sss_cons (ss_for fr.pass fr.calm (fr.rng1 rfl mf.z_range (sl_cons se_int sl_nil) rfl) (fr.g 1 rfl (.inl rfl) (.inl rfl)) (sss_cons (ss_if (st_eq fr (fr.v 0 rfl (.inl rfl)) (fr.strI rfl mf.z_str (fr.v 1 rfl (.inl rfl)) rfl) rfl) (sss_cons (ss_ret (se_tup (sl_cons (se_F se_str) (sl_cons (se_F (fr.v 1 rfl (.inl rfl))) sl_nil)) rfl))
  sss_nil) sss_nil)
  sss_nil) (fun _ _ => rfl))
  (sss_cons (ss_asg (fr.split (fr.v 0 rfl (.inl rfl)) se_str rfl rfl (fun _ => rfl) (fun _ => rfl)) (fr.g 2 rfl (.inr rfl) (.inr (fn _))) (fun _ _ => rfl) (fun _ _ => rfl) (fun _ => rfl))
  (sss_cons (ss_if (st_ne fr (se_sub2 fr (fr.v 2 rfl (.inr (.inl rfl))) se_int (fun _ _ => rfl) (fun _ _ => rfl)) se_str rfl) (sss_cons (ss_ret se_none)
  sss_nil) sss_nil)
  (sss_cons (ss_lc fr (i := 3) [("_law_k", 1)] (fr.rng1 rfl mf.z_range (sl_cons se_int sl_nil) rfl) rfl ((Fra.blk fr _).g 1 rfl (.inl rfl) (.inl rfl)) (sifs_one (st_in (Fra.blk fr _) ((Fra.blk fr _).strI rfl mf.z_str ((Fra.blk fr _).v 1 rfl (.inl rfl)) rfl) ((Fra.blk fr _).sliceLo ((Fra.blk fr _).v 2 rfl (.inr (.inl rfl))) se_int) rfl)) ((Fra.blk fr _).v 1 rfl (.inl rfl)) (fun _ _ => rfl) rfl rfl rfl rfl rfl rfl)
  (sss_cons (ss_asg se_int (fr.g 4 rfl (.inl rfl) (.inl rfl)) (fun _ _ => rfl) (fun _ _ => rfl) (fun _ => rfl))
  (sss_cons (ss_for fr.pass fr.calm (fr.rng3 rfl mf.z_range (sl_cons se_int (sl_cons (se_neg se_int) (sl_cons (se_neg se_int) sl_nil))) rfl) (fr.g 1 rfl (.inl rfl) (.inl rfl)) (sss_cons (ss_asg (se_add fr.K (se_mul se_int (fr.v 4 rfl (.inl rfl))) (fr.int1 rfl mf.z_int (se_in fr (fr.v 1 rfl (.inl rfl)) (fr.v 3 rfl (.inl rfl)) rfl) rfl)) (fr.g 4 rfl (.inl rfl) (.inl rfl)) (fun _ _ => rfl) (fun _ _ => rfl) (fun _ => rfl))
  sss_nil) (fun _ _ => rfl))
  (sss_cons (ss_if (st_ne fr (fr.call h__law_text rfl (sl_cons (se_T (se_tup (sl_cons (se_F se_str) (sl_cons (se_F (fr.v 4 rfl (.inl rfl))) sl_nil)) rfl)) sl_nil) rfl) (fr.v 0 rfl (.inl rfl)) rfl) (sss_cons (ss_ret se_none)
  sss_nil) sss_nil)
  (sss_cons (ss_ret (se_tup (sl_cons (se_F se_str) (sl_cons (se_F (fr.v 4 rfl (.inl rfl))) sl_nil)) rfl))
  sss_nil))))))))
noncomputable def fs__law_due : FS := ⟨[false], bodyF [false] x__law_due 5⟩
theorem eq__law_due (a0 : D) : fs__law_due.F [a0] = fin [false] [a0] (x__law_due.run [sh a0, none, none, none, none]) := by rw [fs__law_due]; rfl
theorem io__law_due : fs__law_due.io = [false] := by rw [fs__law_due]

noncomputable abbrev st__law_take : Stmt := topS 21
noncomputable def N__law_take : List Str := ["_law_source_here", "_law_many", "_law_digit", "_law_number"]
theorem sc__law_take : FnScope N__law_take ["_law_source_here", "_law_many"] (defScope st__law_take) := ⟨rfl, rfl, rfl, by decide +kernel, rfl, by decide +kernel, by decide +kernel⟩
noncomputable def x__law_take : Sx := xSeq (xIf (mBl (m2 dGt (m2 getD (mV 0) (mC (.str "number"))) (mC (.int 0)))) (xSeq (xAsg (m2 dMod (m2 getD (mV 0) (mC (.str "number"))) (mV 1)) (gN 2)) (xSeq (xPut 0 (mC (.str "number")) (m2 dDiv (m2 getD (mV 0) (mC (.str "number"))) (mV 1))) (xSeq (xRet (mV 2)) (xSkip)))) (xSkip)) (xSeq (xPut 0 (mC (.str "turn")) (m2 dAdd (m2 getD (mV 0) (mC (.str "turn"))) (mC (.int 1)))) (xSeq (xAsg (m2 dMod (m2 dMul (m2 dAdd (m2 getD (mV 0) (mC (.str "seed"))) (m2 dMul (mC (.int 7919)) (m2 getD (mV 0) (mC (.str "turn"))))) (mC (.int 48271))) (mC (.int 2147483647))) (gN 3)) (xSeq (xAsg (m2 dMod (m2 dMul (mV 3) (mV 3)) (mC (.int 2147483629))) (gN 3)) (xSeq (xRet (m2 dMod (m2 dDiv (m2 dMod (m2 dMul (m2 dAdd (mV 3) (m2 getD (mV 0) (mC (.str "turn")))) (m2 dAdd (mV 3) (mC (.int 3)))) (mC (.int 2147483587))) (mC (.int 7))) (mV 1))) (xSkip)))))
theorem b__law_take {P : Pl} {mg : Str → Option Value} (fr : Fra P N__law_take (defScope st__law_take) mg) (mf : MgF mg) (fn : ∀ y X, P.M X → X.fn y = true) (cf : ClF P mg) : SSs P (defBody st__law_take) (x__law_take) :=
  (sss_cons (ss_if (st_gt (se_get fr (fr.v 0 rfl (.inl rfl)) se_str (fun _ _ => rfl)) se_int rfl) (sss_cons (ss_asg (se_mod (se_get fr (fr.v 0 rfl (.inl rfl)) se_str (fun _ _ => rfl)) (fr.v 1 rfl (.inl rfl))) (fr.g 2 rfl (.inl rfl) (.inl rfl)) (fun _ _ => rfl) (fun _ _ => rfl) (fun _ => rfl))
  (sss_cons (ss_put fr (i := 0) (se_fdiv (se_get fr (fr.v 0 rfl (.inl rfl)) se_str (fun _ _ => rfl)) (fr.v 1 rfl (.inl rfl))) se_str rfl (.inl rfl) (fun _ _ => rfl) (fun _ _ => rfl) (fun _ => rfl) (fun _ _ => rfl))
  (sss_cons (ss_ret (fr.v 2 rfl (.inl rfl)))
  sss_nil))) sss_nil)
  (sss_cons (ss_put fr (i := 0) (se_add fr.K (se_get fr (fr.v 0 rfl (.inl rfl)) se_str (fun _ _ => rfl)) se_int) se_str rfl (.inl rfl) (fun _ _ => rfl) (fun _ _ => rfl) (fun _ => rfl) (fun _ _ => rfl))
  (sss_cons (ss_asg (se_mod (se_mul (se_add fr.K (se_get fr (fr.v 0 rfl (.inl rfl)) se_str (fun _ _ => rfl)) (se_mul se_int (se_get fr (fr.v 0 rfl (.inl rfl)) se_str (fun _ _ => rfl)))) se_int) se_int) (fr.g 3 rfl (.inl rfl) (.inl rfl)) (fun _ _ => rfl) (fun _ _ => rfl) (fun _ => rfl))
  (sss_cons (ss_asg (se_mod (se_mul (fr.v 3 rfl (.inl rfl)) (fr.v 3 rfl (.inl rfl))) se_int) (fr.g 3 rfl (.inl rfl) (.inl rfl)) (fun _ _ => rfl) (fun _ _ => rfl) (fun _ => rfl))
  (sss_cons (ss_ret (se_mod (se_fdiv (se_mod (se_mul (se_add fr.K (fr.v 3 rfl (.inl rfl)) (se_get fr (fr.v 0 rfl (.inl rfl)) se_str (fun _ _ => rfl))) (se_add fr.K (fr.v 3 rfl (.inl rfl)) se_int)) se_int) se_int) (fr.v 1 rfl (.inl rfl))))
  sss_nil)))))
noncomputable def fs__law_take : FS := ⟨[true, false], bodyF [true, false] x__law_take 4⟩
theorem eq__law_take (a0 : D) (a1 : D) : fs__law_take.F [a0, a1] = fin [true, false] [a0, a1] (x__law_take.run [io a0, sh a1, none, none]) := by rw [fs__law_take]; rfl
theorem io__law_take : fs__law_take.io = [true, false] := by rw [fs__law_take]

noncomputable abbrev st__law_spoilt : Stmt := topS 25
noncomputable def N__law_spoilt : List Str := ["_law_source_here", "_law_text_here", "_law_way", "_law_at", "_law_sign", "_law_words"]
theorem sc__law_spoilt : FnScope N__law_spoilt ["_law_source_here", "_law_text_here"] (defScope st__law_spoilt) := ⟨rfl, rfl, rfl, by decide +kernel, rfl, by decide +kernel, by decide +kernel⟩
noncomputable def x__law_spoilt : Sx := xSeq (xAsg (mCall fs__law_take (lCons (mV 0) (lCons (mT (mC (.int 8))) (lNil)))) (gN 2)) (xSeq (xAsg (mCall fs__law_take (lCons (mV 0) (lCons (mT (m2 dAdd (m1 dLen (mV 1)) (mC (.int 1)))) (lNil)))) (gN 3)) (xSeq (xAsg (m2 dIx (mC (.str "0123456789 -ex,+_E")) (mCall fs__law_take (lCons (mV 0) (lCons (mT (mC (.int 18))) (lNil))))) (gN 4)) (xSeq (xAsg (mTM fSplit (mV 1) (lCons (mC (.str " ")) lNil)) (gN 5)) (xSeq (xIf (mBl (m2 dEq (mV 2) (mC (.int 0)))) (xSeq (xRet (m2 dAdd (m2 dAdd (mN (fSl false true) (lCons (mV 1) (lCons (mV 3) lNil))) (mV 4)) (mN (fSl true false) (lCons (mV 1) (lCons (mV 3) lNil))))) (xSkip)) (xSkip)) (xSeq (xIf (mBl (m2 dEq (mV 2) (mC (.int 1)))) (xSeq (xRet (m2 dAdd (mN (fSl false true) (lCons (mV 1) (lCons (mV 3) lNil))) (mN (fSl true false) (lCons (mV 1) (lCons (m2 dAdd (mV 3) (mC (.int 1))) lNil))))) (xSkip)) (xSkip)) (xSeq (xIf (mBl (m2 dEq (mV 2) (mC (.int 2)))) (xSeq (xRet (m2 dAdd (m2 dAdd (mN (fSl false true) (lCons (mV 1) (lCons (mV 3) lNil))) (mV 4)) (mN (fSl true false) (lCons (mV 1) (lCons (m2 dAdd (mV 3) (mC (.int 1))) lNil))))) (xSkip)) (xSkip)) (xSeq (xIf (mBl (m2 dEq (mV 2) (mC (.int 3)))) (xSeq (xRet (mTM fJoin (mC (.str " ")) (lCons (m2 dAdd (mN (fSl false true) (lCons (mV 5) (lCons (mC (.int 1)) lNil))) (m1 dRevList (mN (fSl true false) (lCons (mV 5) (lCons (mC (.int 1)) lNil))))) lNil))) (xSkip)) (xSkip)) (xSeq (xIf (mBl (m2 dEq (mV 2) (mC (.int 4)))) (xSeq (xRet (mTM fJoin (mC (.str " ")) (lCons (m2 dAdd (mV 5) (mN (fSl true false) (lCons (mV 5) (lCons (m1 dNeg (mC (.int 1))) lNil)))) lNil))) (xSkip)) (xSkip)) (xSeq (xIf (mBl (m2 dEq (mV 2) (mC (.int 5)))) (xSeq (xRet (m2 dAdd (mV 1) (m2 dIx (mLst (lCons (mF (mC (.str " 16"))) (lCons (mF (mC (.str " "))) (lCons (mF (mC (.str "\n"))) (lCons (mF (mC (.str " 07"))) (lCons (mF (mC (.str " 100"))) (lCons (mF (mC (.str " +3"))) (lCons (mF (mC (.str " 1_2"))) (lNil))))))))) (mCall fs__law_take (lCons (mV 0) (lCons (mT (mC (.int 7))) (lNil))))))) (xSkip)) (xSkip)) (xSeq (xRet (mV 1)) (xSkip)))))))))))
theorem b__law_spoilt {P : Pl} {mg : Str → Option Value} (fr : Fra P N__law_spoilt (defScope st__law_spoilt) mg) (mf : MgF mg) (fn : ∀ y X, P.M X → X.fn y = true) (cf : ClF P mg) (h__law_take : FnFact P "_law_take" fs__law_take) : SSs P (defBody st__law_spoilt) (x__law_spoilt) :=
  (sss_cons (ss_asg (fr.call h__law_take rfl (sl_cons (fr.v 0 rfl (.inl rfl)) (sl_cons (se_T se_int) sl_nil)) rfl) (fr.g 2 rfl (.inl rfl) (.inl rfl)) (fun _ _ => rfl) (fun _ _ => rfl) (fun _ => rfl))
  (sss_cons (ss_asg (fr.call h__law_take rfl (sl_cons (fr.v 0 rfl (.inl rfl)) (sl_cons (se_T (se_add fr.K (fr.len rfl mf.z_len (fr.v 1 rfl (.inl rfl)) rfl) se_int)) sl_nil)) rfl) (fr.g 3 rfl (.inl rfl) (.inl rfl)) (fun _ _ => rfl) (fun _ _ => rfl) (fun _ => rfl))
  (sss_cons (ss_asg (se_ix fr se_str (fr.call h__law_take rfl (sl_cons (fr.v 0 rfl (.inl rfl)) (sl_cons (se_T se_int) sl_nil)) rfl) (fun _ _ => rfl)) (fr.g 4 rfl (.inl rfl) (.inl rfl)) (fun _ _ => rfl) (fun _ _ => rfl) (fun _ => rfl))
  (sss_cons (ss_asg (fr.split (fr.v 1 rfl (.inl rfl)) se_str rfl rfl (fun _ => rfl) (fun _ => rfl)) (fr.g 5 rfl (.inl rfl) (.inl rfl)) (fun _ _ => rfl) (fun _ _ => rfl) (fun _ => rfl))
  (sss_cons (ss_if (st_eq fr (fr.v 2 rfl (.inl rfl)) se_int rfl) (sss_cons (ss_ret (se_add fr.K (se_add fr.K (fr.sliceHi (fr.v 1 rfl (.inl rfl)) (fr.v 3 rfl (.inl rfl))) (fr.v 4 rfl (.inl rfl))) (fr.sliceLo (fr.v 1 rfl (.inl rfl)) (fr.v 3 rfl (.inl rfl)))))
  sss_nil) sss_nil)
  (sss_cons (ss_if (st_eq fr (fr.v 2 rfl (.inl rfl)) se_int rfl) (sss_cons (ss_ret (se_add fr.K (fr.sliceHi (fr.v 1 rfl (.inl rfl)) (fr.v 3 rfl (.inl rfl))) (fr.sliceLo (fr.v 1 rfl (.inl rfl)) (se_add fr.K (fr.v 3 rfl (.inl rfl)) se_int))))
  sss_nil) sss_nil)
  (sss_cons (ss_if (st_eq fr (fr.v 2 rfl (.inl rfl)) se_int rfl) (sss_cons (ss_ret (se_add fr.K (se_add fr.K (fr.sliceHi (fr.v 1 rfl (.inl rfl)) (fr.v 3 rfl (.inl rfl))) (fr.v 4 rfl (.inl rfl))) (fr.sliceLo (fr.v 1 rfl (.inl rfl)) (se_add fr.K (fr.v 3 rfl (.inl rfl)) se_int))))
  sss_nil) sss_nil)
  (sss_cons (ss_if (st_eq fr (fr.v 2 rfl (.inl rfl)) se_int rfl) (sss_cons (ss_ret (fr.join se_str (se_add fr.K (fr.sliceHi (fr.v 5 rfl (.inl rfl)) se_int) (fr.revList rfl mf.z_list rfl mf.z_reversed (fr.sliceLo (fr.v 5 rfl (.inl rfl)) se_int) rfl)) rfl rfl (fun _ => rfl) (fun _ => rfl)))
  sss_nil) sss_nil)
  (sss_cons (ss_if (st_eq fr (fr.v 2 rfl (.inl rfl)) se_int rfl) (sss_cons (ss_ret (fr.join se_str (se_add fr.K (fr.v 5 rfl (.inl rfl)) (fr.sliceLo (fr.v 5 rfl (.inl rfl)) (se_neg se_int))) rfl rfl (fun _ => rfl) (fun _ => rfl)))
  sss_nil) sss_nil)
  (sss_cons (ss_if (st_eq fr (fr.v 2 rfl (.inl rfl)) se_int rfl) (sss_cons (ss_ret (se_add fr.K (fr.v 1 rfl (.inl rfl)) (se_ix fr (se_lst (sl_cons (se_F se_str) (sl_cons (se_F se_str) (sl_cons (se_F se_str) (sl_cons (se_F se_str) (sl_cons (se_F se_str) (sl_cons (se_F se_str) (sl_cons (se_F se_str) sl_nil))))))) rfl) (fr.call h__law_take rfl (sl_cons (fr.v 0 rfl (.inl rfl)) (sl_cons (se_T se_int) sl_nil)) rfl) (fun _ _ => rfl))))
  sss_nil) sss_nil)
  (sss_cons (ss_ret (fr.v 1 rfl (.inl rfl)))
  sss_nil)))))))))))
noncomputable def fs__law_spoilt : FS := ⟨[true, false], bodyF [true, false] x__law_spoilt 6⟩
theorem eq__law_spoilt (a0 : D) (a1 : D) : fs__law_spoilt.F [a0, a1] = fin [true, false] [a0, a1] (x__law_spoilt.run [io a0, sh a1, none, none, none, none]) := by rw [fs__law_spoilt]; rfl
theorem io__law_spoilt : fs__law_spoilt.io = [true, false] := by rw [fs__law_spoilt]

noncomputable def N__law_right : List Str := ["_law_source_here", "_law_number", "_law_bits", "_law_one", "_law_other", "_law_far", "_law_some", "_law_thing", "_law_text_here", "_law_due_here"]
theorem sc__law_right : FnScope N__law_right ["_law_source_here"] (defScope st__law_right) := ⟨rfl, rfl, rfl, by decide +kernel, rfl, by decide +kernel, by decide +kernel⟩
noncomputable def b1__law_right : Sx := xSeq (xIf (tmNot (mTru (mCall fs__law_refused (lCons (mT (mCall (lamFS "lam2") lNil)) (lCons (mT (mV 7)) (lNil)))))) (xSeq (xRet (mC (.bl false))) (xSkip)) (xSkip)) (xSkip)
noncomputable def l1__law_right : Sx := xFor (iSeq (mLst (lCons (mF (mC (.int 65536))) (lCons (mF (m2 dGi (mV 6) (mCall fs__law_take (lCons (mV 0) (lCons (mT (mC (.int 9))) (lNil)))))) (lNil))))) (gN 7) (b1__law_right)
noncomputable def b2__law_right : Sx := xSeq (xIf (tmNot (mTru (mCall fs__law_refused (lCons (mT (mCall (lamFS "lam1") lNil)) (lCons (mT (mV 7)) (lNil)))))) (xSeq (xRet (mC (.bl false))) (xSkip)) (xSkip)) (xSkip)
noncomputable def l2__law_right : Sx := xFor (iSeq (mLst (lCons (mF (mC (.int 16))) (lCons (mF (m2 dGi (mV 6) (mCall fs__law_take (lCons (mV 0) (lCons (mT (mC (.int 9))) (lNil)))))) (lNil))))) (gN 7) (b2__law_right)
noncomputable def x__law_right : Sx := xSeq (xAsg (mCall fs__law_take (lCons (mV 0) (lCons (mT (mC (.int 16))) (lNil)))) (gN 1)) (xSeq (xAsg (mCall fs__law_take (lCons (mV 0) (lCons (mT (m2 dIx (mLst (lCons (mF (mC (.int 65536))) (lCons (mF (mC (.int 16))) (lNil)))) (mCall fs__law_take (lCons (mV 0) (lCons (mT (mC (.int 2))) (lNil)))))) (lNil)))) (gN 2)) (xSeq (xAsg (mMake "Numbered" fs_Numbered__init (lCons (mF (mV 1)) (lNil))) (gN 3)) (xSeq (xAsg (mMake "Endless" fs_Endless__init (lCons (mF (mV 2)) (lNil))) (gN 4)) (xSeq (xIf (tmOr (mBl (m2 dNe (m1 (dFld FT "number") (mV 3)) (mV 1))) (mBl (m2 dNe (m1 (dFld FT "bits") (mV 4)) (mV 2)))) (xSeq (xRet (mC (.bl false))) (xSkip)) (xSkip)) (xSeq (xIf (tmOr (tmNot (mTru (mCall fs__law_is (lCons (mT (mV 3)) (lCons (mT (mTup (lCons (mF (mC (.str "number"))) (lCons (mF (mV 1)) (lNil))))) (lNil)))))) (tmNot (mTru (mCall fs__law_is (lCons (mT (mV 4)) (lCons (mT (mTup (lCons (mF (mC (.str "endless"))) (lCons (mF (mV 2)) (lNil))))) (lNil))))))) (xSeq (xRet (mC (.bl false))) (xSkip)) (xSkip)) (xSeq (xAsg (m2 dAdd (m2 dPow (mC (.int 10)) (mC (.int 20))) (mCall fs__law_take (lCons (mV 0) (lCons (mT (mC (.int 9))) (lNil))))) (gN 5)) (xSeq (xAsg (mLst (lCons (mF (mC .non)) (lCons (mF (mC (.bl true))) (lCons (mF (mC (.bl false))) (lCons (mF (m1 dNeg (mC (.int 1)))) (lCons (mF (mC (.str "3"))) (lCons (mF (mLst (lCons (mF (mC (.int 3))) (lNil)))) (lCons (mF (mTup (lNil))) (lCons (mF (mV 5)) (lCons (mF (m2 dSub (mC (.int 0)) (mV 5))) (lNil))))))))))) (gN 6)) (xSeq (l2__law_right) (xSeq (l1__law_right) (xSeq (xAsg (mCall fs__law_spoilt (lCons (mV 0) (lCons (mT (mCall fs__law_text (lCons (mT (m2 dIx (mLst (lCons (mF (mTup (lCons (mF (mC (.str "number"))) (lCons (mF (mV 1)) (lNil))))) (lCons (mF (mTup (lCons (mF (mC (.str "endless"))) (lCons (mF (mV 2)) (lNil))))) (lNil)))) (mCall fs__law_take (lCons (mV 0) (lCons (mT (mC (.int 2))) (lNil)))))) (lNil)))) (lNil)))) (gN 8)) (xSeq (xAsg (mCall fs__law_due (lCons (mT (mV 8)) (lNil))) (gN 9)) (xSeq (xIf (mBl (m2 (dIs false) (mV 9) (mC .non))) (xSeq (xRet (mCall fs__law_refused (lCons (mT (mCall (lamFS "lam3") lNil)) (lCons (mT (mV 8)) (lNil))))) (xSkip)) (xSkip)) (xSeq (xRet (mCall fs__law_is (lCons (mT (mCall fs_read_worth (lCons (mT (mV 8)) (lNil)))) (lCons (mT (mV 9)) (lNil))))) (xSkip))))))))))))))
theorem b__law_right {P : Pl} {mg : Str → Option Value} (fr : Fra P N__law_right (defScope st__law_right) mg) (mf : MgF mg) (fn : ∀ y X, P.M X → X.fn y = true) (cf : ClF P mg) (h__law_is : FnFact P "_law_is" fs__law_is) (h_read_worth : FnFact P "read_worth" fs_read_worth) (h__law_refused : FnFact P "_law_refused" fs__law_refused) (h__law_due : FnFact P "_law_due" fs__law_due) (h__law_spoilt : FnFact P "_law_spoilt" fs__law_spoilt) (h__law_text : FnFact P "_law_text" fs__law_text) (h__law_take : FnFact P "_law_take" fs__law_take) (h_mk_Endless : MkFact P "Endless" fs_Endless__init) (h_mk_Numbered : MkFact P "Numbered" fs_Numbered__init) (h_lam_lam3 : LamFact P "lam3" ex_lam3) (h_lam_lam2 : LamFact P "lam2" ex_lam2) (h_lam_lam1 : LamFact P "lam1" ex_lam1) : SSs P (defBody st__law_right) (x__law_right) :=
  (sss_cons (ss_asg (fr.call h__law_take rfl (sl_cons (fr.v 0 rfl (.inl rfl)) (sl_cons (se_T se_int) sl_nil)) rfl) (fr.g 1 rfl (.inl rfl) (.inl rfl)) (fun _ _ => rfl) (fun _ _ => rfl) (fun _ => rfl))
  (sss_cons (ss_asg (fr.call h__law_take rfl (sl_cons (fr.v 0 rfl (.inl rfl)) (sl_cons (se_T (se_ix fr (se_lst (sl_cons (se_F se_int) (sl_cons (se_F se_int) sl_nil)) rfl) (fr.call h__law_take rfl (sl_cons (fr.v 0 rfl (.inl rfl)) (sl_cons (se_T se_int) sl_nil)) rfl) (fun _ _ => rfl))) sl_nil)) rfl) (fr.g 2 rfl (.inl rfl) (.inl rfl)) (fun _ _ => rfl) (fun _ _ => rfl) (fun _ => rfl))
  (sss_cons (ss_asg (fr.make h_mk_Numbered rfl (sl_cons (se_F (fr.v 1 rfl (.inl rfl))) sl_nil) rfl) (fr.g 3 rfl (.inl rfl) (.inl rfl)) (fun _ _ => rfl) (fun _ _ => rfl) (fun _ => rfl))
  (sss_cons (ss_asg (fr.make h_mk_Endless rfl (sl_cons (se_F (fr.v 2 rfl (.inl rfl))) sl_nil) rfl) (fr.g 4 rfl (.inl rfl) (.inl rfl)) (fun _ _ => rfl) (fun _ _ => rfl) (fun _ => rfl))
  (sss_cons (ss_if (st_w (sw_or (st_ne fr (se_fld fr cf.flds (fr.v 3 rfl (.inl rfl)) (fun _ => rfl)) (fr.v 1 rfl (.inl rfl)) rfl) (sw_or1 (st_ne fr (se_fld fr cf.flds (fr.v 4 rfl (.inl rfl)) (fun _ => rfl)) (fr.v 2 rfl (.inl rfl)) rfl)))) (sss_cons (ss_ret se_bool)
  sss_nil) sss_nil)
  (sss_cons (ss_if (st_w (sw_or (st_not (st_tru fr.K (fr.call h__law_is rfl (sl_cons (se_T (fr.v 3 rfl (.inl rfl))) (sl_cons (se_T (se_tup (sl_cons (se_F se_str) (sl_cons (se_F (fr.v 1 rfl (.inl rfl))) sl_nil)) rfl)) sl_nil)) rfl) (fun _ _ => rfl))) (sw_or1 (st_not (st_tru fr.K (fr.call h__law_is rfl (sl_cons (se_T (fr.v 4 rfl (.inl rfl))) (sl_cons (se_T (se_tup (sl_cons (se_F se_str) (sl_cons (se_F (fr.v 2 rfl (.inl rfl))) sl_nil)) rfl)) sl_nil)) rfl) (fun _ _ => rfl)))))) (sss_cons (ss_ret se_bool)
  sss_nil) sss_nil)
  (sss_cons (ss_asg (se_add fr.K (se_pow se_int se_int) (fr.call h__law_take rfl (sl_cons (fr.v 0 rfl (.inl rfl)) (sl_cons (se_T se_int) sl_nil)) rfl)) (fr.g 5 rfl (.inl rfl) (.inl rfl)) (fun _ _ => rfl) (fun _ _ => rfl) (fun _ => rfl))
  (sss_cons (ss_asg (se_lst (sl_cons (se_F se_none) (sl_cons (se_F se_bool) (sl_cons (se_F se_bool) (sl_cons (se_F (se_neg se_int)) (sl_cons (se_F se_str) (sl_cons (se_F (se_lst (sl_cons (se_F se_int) sl_nil) rfl)) (sl_cons (se_F (se_tup sl_nil rfl)) (sl_cons (se_F (fr.v 5 rfl (.inl rfl))) (sl_cons (se_F (se_sub se_int (fr.v 5 rfl (.inl rfl)))) sl_nil))))))))) rfl) (fr.g 6 rfl (.inl rfl) (.inl rfl)) (fun _ _ => rfl) (fun _ _ => rfl) (fun _ => rfl))
  (sss_cons (ss_for fr.pass fr.calm (si_seq fr.K (se_lst (sl_cons (se_F se_int) (sl_cons (se_F (se_sub2 fr (fr.v 6 rfl (.inl rfl)) (fr.call h__law_take rfl (sl_cons (fr.v 0 rfl (.inl rfl)) (sl_cons (se_T se_int) sl_nil)) rfl) (fun _ _ => rfl) (fun _ _ => rfl))) sl_nil)) rfl)) (fr.g 7 rfl (.inl rfl) (.inl rfl)) (sss_cons (ss_if (st_not (st_tru fr.K (fr.call h__law_refused rfl (sl_cons (se_T (se_lam h_lam_lam1 rfl (fun _ => rfl))) (sl_cons (se_T (fr.v 7 rfl (.inl rfl))) sl_nil)) rfl) (fun _ _ => rfl))) (sss_cons (ss_ret se_bool)
  sss_nil) sss_nil)
  sss_nil) (fun _ _ => rfl))
  (sss_cons (ss_for fr.pass fr.calm (si_seq fr.K (se_lst (sl_cons (se_F se_int) (sl_cons (se_F (se_sub2 fr (fr.v 6 rfl (.inl rfl)) (fr.call h__law_take rfl (sl_cons (fr.v 0 rfl (.inl rfl)) (sl_cons (se_T se_int) sl_nil)) rfl) (fun _ _ => rfl) (fun _ _ => rfl))) sl_nil)) rfl)) (fr.g 7 rfl (.inl rfl) (.inl rfl)) (sss_cons (ss_if (st_not (st_tru fr.K (fr.call h__law_refused rfl (sl_cons (se_T (se_lam h_lam_lam2 rfl (fun _ => rfl))) (sl_cons (se_T (fr.v 7 rfl (.inl rfl))) sl_nil)) rfl) (fun _ _ => rfl))) (sss_cons (ss_ret se_bool)
  sss_nil) sss_nil)
  sss_nil) (fun _ _ => rfl))
  (sss_cons (ss_asg (fr.call h__law_spoilt rfl (sl_cons (fr.v 0 rfl (.inl rfl)) (sl_cons (se_T (fr.call h__law_text rfl (sl_cons (se_T (se_ix fr (se_lst (sl_cons (se_F (se_tup (sl_cons (se_F se_str) (sl_cons (se_F (fr.v 1 rfl (.inl rfl))) sl_nil)) rfl)) (sl_cons (se_F (se_tup (sl_cons (se_F se_str) (sl_cons (se_F (fr.v 2 rfl (.inl rfl))) sl_nil)) rfl)) sl_nil)) rfl) (fr.call h__law_take rfl (sl_cons (fr.v 0 rfl (.inl rfl)) (sl_cons (se_T se_int) sl_nil)) rfl) (fun _ _ => rfl))) sl_nil) rfl)) sl_nil)) rfl) (fr.g 8 rfl (.inl rfl) (.inl rfl)) (fun _ _ => rfl) (fun _ _ => rfl) (fun _ => rfl))
  (sss_cons (ss_asg (fr.call h__law_due rfl (sl_cons (se_T (fr.v 8 rfl (.inl rfl))) sl_nil) rfl) (fr.g 9 rfl (.inl rfl) (.inl rfl)) (fun _ _ => rfl) (fun _ _ => rfl) (fun _ => rfl))
  (sss_cons (ss_if (st_is (fr.v 9 rfl (.inl rfl)) se_none rfl) (sss_cons (ss_ret (fr.call h__law_refused rfl (sl_cons (se_T (se_lam h_lam_lam3 rfl (fun _ => rfl))) (sl_cons (se_T (fr.v 8 rfl (.inl rfl))) sl_nil)) rfl))
  sss_nil) sss_nil)
  (sss_cons (ss_ret (fr.call h__law_is rfl (sl_cons (se_T (fr.call h_read_worth rfl (sl_cons (se_T (fr.v 8 rfl (.inl rfl))) sl_nil) rfl)) (sl_cons (se_T (fr.v 9 rfl (.inl rfl))) sl_nil)) rfl))
  sss_nil))))))))))))))
noncomputable def fs__law_right : FS := ⟨[true], bodyF [true] x__law_right 10⟩
theorem eq__law_right (a0 : D) : fs__law_right.F [a0] = fin [true] [a0] (x__law_right.run [io a0, none, none, none, none, none, none, none, none, none]) := by rw [fs__law_right]; rfl
theorem io__law_right : fs__law_right.io = [true] := by rw [fs__law_right]

noncomputable abbrev st__law_source : Stmt := topS 20
noncomputable def N__law_source : List Str := ["_law_cell"]
theorem sc__law_source : FnScope N__law_source ["_law_cell"] (defScope st__law_source) := ⟨rfl, rfl, rfl, by decide +kernel, rfl, by decide +kernel, by decide +kernel⟩
noncomputable def x__law_source : Sx := xSeq (xRet (mDisp (lCons (mF (mC (.str "number"))) (lCons (mF (m2 dMul (m2 dMax (mC (.int 0)) (mV 0)) (m1 dInt (m2 dGe (mV 0) (m2 dPow (mC (.int 10)) (mC (.int 18))))))) (lCons (mF (mC (.str "seed"))) (lCons (mF (m2 dMod (mV 0) (mC (.int 2147483629)))) (lCons (mF (mC (.str "turn"))) (lCons (mF (mC (.int 0))) (lNil))))))))) (xSkip)
theorem b__law_source {P : Pl} {mg : Str → Option Value} (fr : Fra P N__law_source (defScope st__law_source) mg) (mf : MgF mg) (fn : ∀ y X, P.M X → X.fn y = true) (cf : ClF P mg) : SSs P (defBody st__law_source) (x__law_source) :=
  (sss_cons (ss_ret (se_disp (sd_cons se_str (se_mul (fr.max2 rfl mf.z_max se_int (fr.v 0 rfl (.inl rfl)) rfl) (fr.int1 rfl mf.z_int (se_ge (fr.v 0 rfl (.inl rfl)) (se_pow se_int se_int) rfl) rfl)) (sd_cons se_str (se_mod (fr.v 0 rfl (.inl rfl)) se_int) (sd_cons se_str se_int sd_nil))) rfl rfl (by simp) (by decide)))
  sss_nil)
noncomputable def fs__law_source : FS := ⟨[false], bodyF [false] x__law_source 1⟩
theorem eq__law_source (a0 : D) : fs__law_source.F [a0] = fin [false] [a0] (x__law_source.run [sh a0]) := by rw [fs__law_source]; rfl
theorem io__law_source : fs__law_source.io = [false] := by rw [fs__law_source]

noncomputable abbrev st__law_cell_at : Stmt := topS 19
noncomputable def N__law_cell_at : List Str := ["_law_script", "_law_k"]
theorem sc__law_cell_at : FnScope N__law_cell_at ["_law_script", "_law_k"] (defScope st__law_cell_at) := ⟨rfl, rfl, rfl, by decide +kernel, rfl, by decide +kernel, by decide +kernel⟩
noncomputable def x__law_cell_at : Sx := xSeq (xIf (mBl (m2 dLt (mV 1) (m1 dLen (mV 0)))) (xSeq (xRet (m2 dGi (mV 0) (mV 1))) (xSkip)) (xSkip)) (xSeq (xRet (m2 dAdd (m2 dMul (mC (.int 7919)) (mV 1)) (mC (.int 13)))) (xSkip))
theorem b__law_cell_at {P : Pl} {mg : Str → Option Value} (fr : Fra P N__law_cell_at (defScope st__law_cell_at) mg) (mf : MgF mg) (fn : ∀ y X, P.M X → X.fn y = true) (cf : ClF P mg) : SSs P (defBody st__law_cell_at) (x__law_cell_at) :=
  (sss_cons (ss_if (st_lt (fr.v 1 rfl (.inl rfl)) (fr.len rfl mf.z_len (fr.v 0 rfl (.inl rfl)) rfl) rfl) (sss_cons (ss_ret (se_sub2 fr (fr.v 0 rfl (.inl rfl)) (fr.v 1 rfl (.inl rfl)) (fun _ _ => rfl) (fun _ _ => rfl)))
  sss_nil) sss_nil)
  (sss_cons (ss_ret (se_add fr.K (se_mul se_int (fr.v 1 rfl (.inl rfl))) se_int))
  sss_nil))
noncomputable def fs__law_cell_at : FS := ⟨[false, false], bodyF [false, false] x__law_cell_at 2⟩
theorem eq__law_cell_at (a0 : D) (a1 : D) : fs__law_cell_at.F [a0, a1] = fin [false, false] [a0, a1] (x__law_cell_at.run [sh a0, sh a1]) := by rw [fs__law_cell_at]; rfl
theorem io__law_cell_at : fs__law_cell_at.io = [false, false] := by rw [fs__law_cell_at]

noncomputable def N_law : List Str := ["_law_script", "_law_k", "_law_thing"]
theorem sc_law : FnScope N_law ["_law_script"] (defScope st_law) := ⟨rfl, rfl, rfl, by decide +kernel, rfl, by decide +kernel, by decide +kernel⟩
noncomputable def b1_law : Sx := xSeq (xIf (tmNot (mTru (mCall fs__law_refused (lCons (mT (mCall (lamFS "lam4") lNil)) (lCons (mT (mV 2)) (lNil)))))) (xSeq (xRet (mC (.bl false))) (xSkip)) (xSkip)) (xSkip)
noncomputable def l1_law : Sx := xFor (iSeq (mLst (lCons (mF (mC .non)) (lCons (mF (mC (.int 7))) (lCons (mF (mC (.bl true))) (lCons (mF (mLst (lCons (mF (mC (.str "3"))) (lNil)))) (lCons (mF (mTup (lCons (mF (mC (.str "number"))) (lCons (mF (mC (.int 3))) (lNil))))) (lCons (mF (mC (.str ""))) (lNil))))))))) (gN 2) (b1_law)
noncomputable def b2_law : Sx := xSeq (xIf (tmNot (mTru (mCall fs__law_right (lCons (mCall fs__law_source (lCons (mT (mCall fs__law_cell_at (lCons (mT (mV 0)) (lCons (mT (mV 1)) (lNil))))) (lNil))) (lNil))))) (xSeq (xRet (mC (.bl false))) (xSkip)) (xSkip)) (xSkip)
noncomputable def l2_law : Sx := xFor (iInts rng1 (lCons (m2 dMax (mC (.int 1)) (m2 dMin (mC (.int 30)) (m1 dLen (mV 0)))) (lNil))) (gN 1) (b2_law)
noncomputable def x_law : Sx := xSeq (l2_law) (xSeq (l1_law) (xSeq (xRet (mC (.bl true))) (xSkip)))
theorem b_law {P : Pl} {mg : Str → Option Value} (fr : Fra P N_law (defScope st_law) mg) (mf : MgF mg) (fn : ∀ y X, P.M X → X.fn y = true) (cf : ClF P mg) (h__law_refused : FnFact P "_law_refused" fs__law_refused) (h__law_right : FnFact P "_law_right" fs__law_right) (h__law_source : FnFact P "_law_source" fs__law_source) (h__law_cell_at : FnFact P "_law_cell_at" fs__law_cell_at) (h_lam_lam4 : LamFact P "lam4" ex_lam4) : SSs P (defBody st_law) (x_law) :=
  (sss_cons (ss_for fr.pass fr.calm (fr.rng1 rfl mf.z_range (sl_cons (fr.max2 rfl mf.z_max se_int (fr.min2 rfl mf.z_min se_int (fr.len rfl mf.z_len (fr.v 0 rfl (.inl rfl)) rfl) rfl) rfl) sl_nil) rfl) (fr.g 1 rfl (.inl rfl) (.inl rfl)) (sss_cons (ss_if (st_not (st_tru fr.K (fr.call h__law_right rfl (sl_cons (fr.call h__law_source rfl (sl_cons (se_T (fr.call h__law_cell_at rfl (sl_cons (se_T (fr.v 0 rfl (.inl rfl))) (sl_cons (se_T (fr.v 1 rfl (.inl rfl))) sl_nil)) rfl)) sl_nil) rfl) sl_nil) rfl) (fun _ _ => rfl))) (sss_cons (ss_ret se_bool)
  sss_nil) sss_nil)
  sss_nil) (fun _ _ => rfl))
  (sss_cons (ss_for fr.pass fr.calm (si_seq fr.K (se_lst (sl_cons (se_F se_none) (sl_cons (se_F se_int) (sl_cons (se_F se_bool) (sl_cons (se_F (se_lst (sl_cons (se_F se_str) sl_nil) rfl)) (sl_cons (se_F (se_tup (sl_cons (se_F se_str) (sl_cons (se_F se_int) sl_nil)) rfl)) (sl_cons (se_F se_str) sl_nil)))))) rfl)) (fr.g 2 rfl (.inl rfl) (.inl rfl)) (sss_cons (ss_if (st_not (st_tru fr.K (fr.call h__law_refused rfl (sl_cons (se_T (se_lam h_lam_lam4 rfl (fun _ => rfl))) (sl_cons (se_T (fr.v 2 rfl (.inl rfl))) sl_nil)) rfl) (fun _ _ => rfl))) (sss_cons (ss_ret se_bool)
  sss_nil) sss_nil)
  sss_nil) (fun _ _ => rfl))
  (sss_cons (ss_ret se_bool)
  sss_nil)))
noncomputable def fs_law : FS := ⟨[false], bodyF [false] x_law 3⟩
theorem eq_law (a0 : D) : fs_law.F [a0] = fin [false] [a0] (x_law.run [sh a0, none, none]) := by rw [fs_law]; rfl
theorem io_law : fs_law.io = [false] := by rw [fs_law]
local macro_rules | `(tactic| simp_all_arith [$ls,*]) => `(tactic| simp (disch := first | omega | (simp only [List.length_map, List.length_append, List.length_cons, List.length_nil, List.length_reverse]; omega) | (with_reducible assumption) | (with_reducible refine cMul_r ?_ ?_ <;> omega) | (with_reducible refine cMul_l ?_ ?_ <;> omega) | (with_reducible refine cDiv_ok ?_ ?_ <;> omega) | (with_reducible refine cPow_of ?_ ?_ ?_ <;> first | omega | decide) | exact free_none | exact free_sh _ | exact free_ow _) only [run_seq, run_skip, run_if, run_asg, run_ret, run_retN, run_put, run_expr, run_for, run_break, run_cont, gN_run, gT_run, setAll, fin, outsAt, List.map_cons, List.map_nil, List.length_cons, List.length_nil, List.getElem?_cons_zero, List.getElem?_cons_succ, List.getElem?_nil, List.set_cons_zero, List.set_cons_succ, List.head?_cons, a_mC, a_mV, a_lNil, a_lCons, a_mN, a_m1, a_m2, a_f1, a_f2, derefs, deref, a_sh, a_ow, a_tp, a_no, a_mTru, tru, a_mBl, a_mBV, a_tmAnd, a_tmOr, a_tmNot, a_tmYes, a_mIf, a_mAnd, a_mOr, a_mNot, a_mF, a_mE, a_mT, a_mTup, a_mLst, shs, M.mut, kpu_lst, kpu_dic, kpu_dit, kpu_ins, pu_src, D.pu, D.pus, List.lookup_nil, ok_int, dSub_i, dMul_i, dDiv_i, dMod_i, dPow_i, dShl_i, dShr_i, dAnd_i, dOr_i, dXor_i, dLt_i, dLe_i, dGt_i, dGe_i, cMul_l, cMul_r, cDiv_ok, get_n, get_s, get_t, put_n, put_t, if_true, if_false, ite_true, ite_false, Bool.false_eq_true, reduceIte, Bool.not_true, Bool.not_false, Bool.and_true, Bool.true_and, Bool.and_false, Bool.false_and, Bool.or_true, Bool.true_or, Bool.or_false, Bool.false_or, decide_true, decide_false, beq_self_eq_true, Bool.and_self, Bool.or_self, eq_self, dEq_i, dNe_i, dInt_i, isi_i_int, isi_i_bool, dLen_lst, dLen_frl, dLen_tup, dIx_t2_0, dIx_t2_1, run_fld, putFD, a_mChain, a_iVar, a_iSeq, a_iInts, intsOf, and_self, and_true, true_and, dFld, List.lookup_cons, Nat.reduceLT, Nat.reduceLeDiff, Nat.reduceEqDiff, Nat.reduceBEq, Int.reduceEq, Int.reduceLT, Int.reduceLE, Int.reduceToNat, Int.reduceAdd, Int.reduceSub, Int.reduceNeg, Nat.reduceAdd, Int.reduceMul, wipeE, List.set_nil, a_mMeth, VM.kindOf, fApp_ok, fClear_ok, fRev_ok, run_add, dList_l, dRevL_l, cdec_t, cdec_f, a_mDisp, a_iZip, a_iEnumD, a_mTM, free_s, free_n, free_h, free_o, free_v, cdec_T, cdec_F, dGi_lst, dGi_frl, dGi_tup, dGi_str, dIn_lst, dIn_dic, dListA_lst, dListA_tup, dListA_dic, dTuple_lst, a_mRM, a_mSortT, dIs_non, dIs_lst, dIs_tup, dIs_int, isi_str, isi_tup, isi_lst, fSl_hi_lst, fSl_lo_lst, fSl_hi_tx, dAdd_tx, $ls,*])
local macro_rules | `(tactic| simp_all_arith! [$ls,*]) => `(tactic| simp_all_arith [a_mCall, callS, callW, VM.argsOk, argOk, shareArgs, writeBack, outsClean, clean_t, clean_f, a_mMethC, a_mMake, List.filter_cons, List.filter_nil, al_sh, al_ow, al_io, al_al, $ls,*])
/-! ### what all laws share: the cell, its source, its numbers -/
theorem take_I (q : Src) (k : Int) (hk : 0 < k) (hk2 : k < 2 ^ 200) : fs__law_take.F [srcS q, .int k] = .ok false (.int (tkI q k)) [srcS (nxS q k), .int k] := by
  rw [eq__law_take]
  unfold x__law_take srcS tkI nxS
  by_cases h : 0 < q.n
  · simp only [if_pos h]
    have h := cdec_t h
    simp_all_arith [h]
  · simp only [if_neg h]
    have h := cdec_f h
    simp_all_arith [h]
theorem cell_at_I (xs : List Int) (k : Nat) : ∃ x, fs__law_cell_at.F [.frl (xs.map D.int), nD k] = .ok false (.int x) [.frl (xs.map D.int), nD k] := by
  rw [eq__law_cell_at]
  unfold x__law_cell_at
  by_cases h : k < xs.length
  · refine ⟨xs[k], ?_⟩
    have hi : (xs.map D.int)[k]? = some (D.int xs[k]) := by rw [List.getElem?_map, List.getElem?_eq_getElem h]; rfl
    have h1 := dIx_frl hi
    have h2 : cdec ((k : Int) < (xs.length : Int)) = true := cdec_t (by omega)
    simp_all_arith [dLen_frl, List.length_map, h1, h2]
  · refine ⟨7919 * (k : Int) + 13, ?_⟩
    have h2 : cdec ((k : Int) < (xs.length : Int)) = false := cdec_f (by omega)
    simp_all_arith [dLen_frl, List.length_map, h2]
theorem merge_src (n s t : Int) : mergeG [] [(.inr "number", .int n), (.inr "seed", .int s), (.inr "turn", .int t)] = [(.inr "number", .int n), (.inr "seed", .int s), (.inr "turn", .int t)] := by
  simp [mergeG, putG, key_ns, key_nt, key_st]
theorem source_I (x : Int) : ∃ q : Src, fs__law_source.F [.int x] = .ok true (srcS q) [.int x] := by
  have hP : cPow 10 18 = true := cPow_of (by decide) (by decide) (by decide)
  refine ⟨⟨(if x > 0 then x else 0) * (if cdec ((10 : Int) ^ (18 : Int).toNat ≤ x) = true then 1 else 0), x % 2147483629, 0⟩, ?_⟩
  rw [eq__law_source]
  unfold x__law_source srcS srcD
  have c1 : cMul (if x > 0 then x else 0) (if cdec ((10 : Int) ^ (18 : Int).toNat ≤ x) = true then 1 else 0) = true := by
    refine cMul_r ?_ ?_ <;> split <;> decide
  have hp (n s : Int) : pairD [.str "number", .int n, .str "seed", .int s, .str "turn", .int 0] = some [(.inr "number", .int n), (.inr "seed", .int s), (.inr "turn", .int 0)] := rfl
  have hl : (3 : Nat) ≤ 15 := by decide
  simp_all_arith [hP, c1, dMax_i, dInt_bl, hp, merge_src, hl]
theorem dLen_tx (l : List Nat) (h : l.length ≤ 1000) : dLen (.str (tx l)) = .sh (nD l.length) := by
  show (if (tx l).length ≤ sizeLine then RR.sh (.int ((tx l).length : Nat)) else .no) = _
  rw [tx_len, if_pos (sl_small h)]
theorem dAll_b {α : Type} (f : α → Bool) (l : List α) : dAll (.lst (l.map fun x => D.bl (f x))) = .sh (.bl (l.all f)) := by
  have e : bls (l.map fun x => D.bl (f x)) = some (l.map f) := by
    induction l with
    | nil => rfl
    | cons x l ih => rw [List.map_cons, bls, ih]; rfl
  show (match bls (l.map fun x => D.bl (f x)) with | some bs => RR.sh (.bl (bs.all id)) | none => .no) = _
  rw [e]
  dsimp only
  rw [List.all_map]
  rfl
noncomputable def spC (c : Nat) (l : List Nat) : List (List Nat) := TL.spl [c] 0 [] l
theorem spl_facts (c : Nat) : ∀ (l acc : List Nat), TL.spl [c] 0 acc l ≠ [] ∧ (TL.spl [c] 0 acc l).length + ((TL.spl [c] 0 acc l).map List.length).sum = acc.length + l.length + 1 ∧ ∀ w ∈ TL.spl [c] 0 acc l, ∀ x ∈ w, x ∈ acc ∨ x ∈ l
  | [], acc => by
    rw [TL.spl_nil]
    refine ⟨by simp, by simp; omega, fun w hw x hx => ?_⟩
    rw [List.mem_singleton] at hw
    subst hw
    exact .inl hx
  | y :: r, acc => by
    cases h : TL.pre [c] (y :: r) with
    | true =>
      obtain ⟨h1, h2, h3⟩ := spl_facts c r []
      have e : TL.spl [c] ([c].length - 1) [] r = TL.spl [c] 0 [] r := rfl
      rw [TL.spl_hit h, e]
      refine ⟨by simp, ?_, fun w hw x hx => ?_⟩
      · rw [List.length_cons, List.map_cons, List.sum_cons, List.length_cons]
        rw [List.length_nil] at h2
        omega
      · rcases List.mem_cons.mp hw with rfl | hw
        · exact .inl hx
        · rcases h3 w hw x hx with h | h
          · cases h
          · exact .inr (List.mem_cons_of_mem _ h)
    | false =>
      obtain ⟨h1, h2, h3⟩ := spl_facts c r (acc ++ [y])
      rw [TL.spl_miss h]
      refine ⟨h1, ?_, fun w hw x hx => ?_⟩
      · rw [h2, List.length_append, List.length_cons, List.length_nil, List.length_cons]
        omega
      · rcases h3 w hw x hx with h | h
        · rcases List.mem_append.mp h with h | h
          · exact .inl h
          · rw [List.mem_singleton] at h; subst h; exact .inr (List.mem_cons_self ..)
        · exact .inr (List.mem_cons_of_mem _ h)
theorem spC_ne (c : Nat) (l : List Nat) : spC c l ≠ [] := (spl_facts c l []).1
theorem spC_len (c : Nat) (l : List Nat) : (spC c l).length + ((spC c l).map List.length).sum = l.length + 1 := by
  have := (spl_facts c l []).2.1
  rw [List.length_nil, Nat.zero_add] at this
  exact this
theorem spC_mem {c : Nat} {l w : List Nat} (h : w ∈ spC c l) : ∀ x ∈ w, x ∈ l := fun x hx => ((spl_facts c l []).2.2 w h x hx).resolve_left (fun h => nomatch h)
theorem mem_sumL {ls : List (List Nat)} {w : List Nat} (h : w ∈ ls) : w.length ≤ (ls.map List.length).sum := by
  induction ls with
  | nil => cases h
  | cons x ls ih =>
    rw [List.map_cons, List.sum_cons]
    rcases List.mem_cons.mp h with rfl | h
    · omega
    · have := ih h; omega
theorem spC_wl {c : Nat} {l w : List Nat} (h : w ∈ spC c l) : w.length ≤ l.length := by
  have h1 := mem_sumL h
  have h2 := spC_len c l
  have h3 := List.length_pos_iff.mpr (spC_ne c l)
  omega
noncomputable def tL (ls : List (List Nat)) : List D := ls.map fun w => .str (tx w)
theorem split_tx (c : Nat) (hc : c < 256) (l : List Nat) (h : l.length ≤ 1000) : fSplit (tx l) [.str (tx [c])] = .ow (.lst (tL (spC c l))) := by
  have e : Txt.split (tx l) (tx [c]) = (TL.spl [c] 0 [] l).map SX.S := SX.split_S (by simp) (by simpa using hc)
  show (if ((tx [c]).length == 0) = false ∧ (tx l).length + 2 ≤ sizeLine then RR.ow (.lst ((Txt.split (tx l) (tx [c])).map D.str)) else .no) = _
  rw [if_pos ⟨rfl, by rw [tx_len, sizeLine_eq]; omega⟩, e, List.map_map]
  rfl
noncomputable def Asc (l : List Nat) : Prop := ∀ c ∈ l, c < 128
theorem asc_ok {l : List Nat} (h : Asc l) : PyData.strOk (tx l) = true := by
  show Array.all l.toArray (fun c => decide (c < 0x110000)) = true
  rw [← Array.all_toList, List.all_eq_true]
  intro c hc
  have := h c hc
  exact decide_eq_true (by omega)
theorem ne_tx {a b : List Nat} (ha : Asc a) (hb : Asc b) : dNe (.str (tx a)) (.str (tx b)) = .sh (.bl (!decide (a = b))) := by
  have := enc_str.dNe ⟨tx a, asc_ok ha⟩ ⟨tx b, asc_ok hb⟩
  have this : dNe (.str (tx a)) (.str (tx b)) = _ := this
  rw [this]
  congr 3
  rw [cdec_eq]
  exact decide_eq_decide.mpr ⟨fun h => tx_inj (congrArg Subtype.val h), fun h => by subst h; rfl⟩
theorem joinL_len (s : List Nat) : ∀ ls : List (List Nat), (TL.joinL s ls).length ≤ (ls.map List.length).sum + ls.length * s.length
  | [] => by simp [TL.joinL]
  | [x] => by simp [TL.joinL]
  | x :: y :: r => by
    have ih := joinL_len s (y :: r)
    show (x ++ (s ++ TL.joinL s (y :: r))).length ≤ _
    rw [List.length_append, List.length_append, List.map_cons, List.sum_cons, List.length_cons (a := x), Nat.succ_mul]
    omega
theorem joinL_mem (s : List Nat) : ∀ ls : List (List Nat), ∀ c ∈ TL.joinL s ls, c ∈ s ∨ ∃ w ∈ ls, c ∈ w
  | [], c, h => nomatch h
  | [x], c, h => .inr ⟨x, List.mem_cons_self .., h⟩
  | x :: y :: r, c, h => by
    have h : c ∈ x ++ (s ++ TL.joinL s (y :: r)) := h
    rcases List.mem_append.mp h with h | h
    · exact .inr ⟨x, List.mem_cons_self .., h⟩
    · rcases List.mem_append.mp h with h | h
      · exact .inl h
      · rcases joinL_mem s (y :: r) c h with h | ⟨w, hw, h⟩
        · exact .inl h
        · exact .inr ⟨w, List.mem_cons_of_mem _ hw, h⟩
theorem strs_tL (ws : List (List Nat)) : strsD (tL ws) = some (ws.map tx) := by
  induction ws with
  | nil => rfl
  | cons w ws ih =>
    show (match strsD (tL ws) with | some zs => some (tx w :: zs) | none => none) = _
    rw [ih]
    rfl
theorem join_tx (s : List Nat) (ws : List (List Nat)) (h : (ws.map List.length).sum + ws.length * s.length ≤ 16777216) : fJoin (tx s) [.lst (tL ws)] = .sh (.str (tx (TL.joinL s ws))) := by
  have e : Txt.join (tx s) (ws.map tx) = tx (TL.joinL s ws) := SX.join_S s ws
  show (match strsD (tL ws) with | some ys => if (ys.map (fun z : Str => z.length)).sum + ys.length * (tx s).length ≤ 16777216 then RR.sh (.str (Txt.join (tx s) ys)) else .no | none => .no) = _
  rw [strs_tL]
  dsimp only
  have hm : (ws.map tx).map (fun z : Str => z.length) = ws.map List.length := by
    rw [List.map_map]
    exact List.map_congr_left fun w _ => tx_len w
  rw [hm, List.length_map, tx_len, if_pos h, e]
theorem cut_lo (l : List Nat) (k : Nat) : cutS (tx l) (some (k : Int)) none = tx (l.drop k) := by
  unfold cutS tx
  have h : (⟨l.toArray⟩ : Str).length = l.length := tx_len l
  rw [HT.sIx_nat, HT.sIx_none, h]
  congr 2
  show List.take (l.length - min k l.length) (List.drop (min k l.length) l) = _
  by_cases hk : k ≤ l.length
  · rw [Nat.min_eq_left hk, List.take_of_length_le (by simp)]
  · rw [Nat.min_eq_right (by omega), List.drop_length, List.drop_eq_nil_of_le (by omega)]
    simp
theorem fSl_lo_tx (l : List Nat) (k : Nat) (h : l.length ≤ 1000) : fSl true false [.str (tx l), .int k] = .sh (.str (tx (l.drop k))) := by
  show (if cdec ((tx l).length ≤ sizeLine) then RR.sh (.str (cutS (tx l) (some (k : Int)) none)) else .no) = _
  rw [cdec_t (by rw [tx_len]; exact sl_small h), cut_lo]
  rfl
theorem Asc.app {a b : List Nat} (h : Asc a) (g : Asc b) : Asc (a ++ b) := fun c hc => (List.mem_append.mp hc).elim (h c) (g c)
theorem Asc.take {a : List Nat} (h : Asc a) (k : Nat) : Asc (a.take k) := fun c hc => h c (List.mem_of_mem_take hc)
theorem Asc.drop {a : List Nat} (h : Asc a) (k : Nat) : Asc (a.drop k) := fun c hc => h c (List.mem_of_mem_drop hc)
/-! ### whole numbers as rows of bits -/
noncomputable def setOf (ns : List Nat) : Nat := ns.foldl (fun b n => b ||| 2 ^ n) 0
theorem set_of_eq (ns : List Nat) (hn : ∀ n ∈ ns, n < 16) : fs_set_of.F [.lst (ns.map nD)] = .ok false (nD (setOf ns)) [.lst (ns.map nD)] := by
  have h : l1_set_of.run [sh (.lst (ns.map nD)), sh (.int 0), none] = _ := xFor_fold (enc := nD) (fun a y => [sh (.lst (ns.map nD)), sh (nD a), y]) (fun b n => b ||| 2 ^ n) (l := ns) (s := 0) (y := none) (k := none) rfl rfl (fun _ _ => rfl) free_none fun a y hy x hx =>
    ⟨_, gN_ok rfl hy, .inl (by
      have := hn x hx
      have e := bOr_nat a (2 ^ x)
      unfold b1_set_of
      simp_all_arith [two_pow_I', e])⟩
  rw [eq_set_of]
  unfold x_set_of
  simp_all_arith [h]
  rfl
theorem setOf_bit : ∀ (ns : List Nat) (a t : Nat), (ns.foldl (fun b n => b ||| 2 ^ n) a).testBit t = (a.testBit t || decide (t ∈ ns))
  | [], a, t => by simp
  | n :: ns, a, t => by
    rw [List.foldl_cons, setOf_bit ns, Nat.testBit_or, Nat.testBit_two_pow, Bool.or_assoc]
    congr 1
    by_cases h : n = t
    · subst h; simp
    · have h' : t ≠ n := Ne.symm h
      simp [h, h']
theorem setOf_has (ns : List Nat) (t : Nat) : (setOf ns).testBit t = decide (t ∈ ns) := by
  unfold setOf
  rw [setOf_bit, Nat.zero_testBit, Bool.false_or]
theorem setOf_lt {ns : List Nat} {k : Nat} (h : ∀ n ∈ ns, n < k) : setOf ns < 2 ^ k := by
  apply Nat.lt_pow_two_of_testBit
  intro i hi
  rw [setOf_has]
  exact decide_eq_false fun z => by have := h i z; omega
noncomputable def bits16 (b : Nat) : List Nat := (List.range 16).filter fun k => b.testBit k
theorem iInts_r1 {l : Lm} {e e1 : VM.Env} {n : Nat} (h : l e = .ok [⟨.sh, nD n⟩] e1) (hn : n ≤ 1000000) : iInts rng1 l e = .ok ((List.range n).map nD) e1 none := by
  rw [← upto_map]
  exact iInts_g (is := [(n : Int)]) h rfl (rng1_nat hn)
theorem numbers_in_eq (b : Nat) : fs_numbers_in.F [nD b] = .ok true (.lst ((bits16 b).map nD)) [nD b] := by
  have hi : iInts rng1 (lCons (m2 dAdd (mC (.int 15)) (mC (.int 1))) (lNil)) [sh (nD b), none] = _ := iInts_r1 (n := 16) rfl (by decide)
  have h : k1_numbers_in [sh (nD b), none] = .ok ⟨.ow, .lst ((bits16 b).map nD)⟩ [sh (nD b), none] := mLc_pure (enc := nD) (p := fun k => b.testBit k) (f := nD) (e := [sh (nD b), none]) hi rfl (by simp) rfl rfl fun x _ =>
    ⟨_, rfl, rfl, by
      have e1 := bAnd_nat (b / 2 ^ x) 1
      have e2 : ((b : Int) / 2 ^ ((x : Int)).toNat) = ((b / 2 ^ x : Nat) : Int) := by rw [Int.toNat_natCast]; push_cast; rfl
      have e3 : cdec (((b / 2 ^ x &&& 1 : Nat) : Int) = 1) = b.testBit x := by
        rw [cdec_eq, Nat.and_one_is_mod, Nat.testBit_eq_decide_div_mod_eq]
        exact decide_eq_decide.mpr (by omega)
      unfold c1_numbers_in
      simp_all_arith [e2]
      rw [show Builtin.bitAnd ((b / 2 ^ x : Nat) : Int) 1 = _ from e1, e3], fun _ => rfl⟩
  rw [eq_numbers_in]
  unfold x_numbers_in
  simp_all_arith [h]
theorem bits16_len (b : Nat) : (bits16 b).length ≤ 16 := by
  have := List.length_filter_le (fun k => b.testBit k) (List.range 16)
  rw [List.length_range] at this
  exact this
theorem bits16_mem {b n : Nat} : n ∈ bits16 b ↔ n < 16 ∧ b.testBit n = true := by
  unfold bits16
  rw [List.mem_filter, List.mem_range]
/-! K32M: the law's members of a set -/
theorem bits_up (b n : Nat) : ((List.range (n + 1)).filter fun k => b.testBit k) = if b / 2 ^ n % 2 = 1 then ((List.range n).filter fun k => b.testBit k) ++ [n] else (List.range n).filter fun k => b.testBit k := by
  rw [List.range_succ, List.filter_append]
  have h : b.testBit n = decide (b / 2 ^ n % 2 = 1) := Nat.testBit_eq_decide_div_mod_eq
  by_cases hb : b / 2 ^ n % 2 = 1
  · rw [if_pos hb]; simp [h, hb]
  · rw [if_neg hb]; simp [h, hb]
theorem members_eq (b : Nat) : ∃ o, fs__law_members.F [nD b] = .ok true (.lst ((bits16 b).map nD)) [o] := by
  have hi : iInts rng1 (lCons (mC (.int 16)) (lNil)) [sh (nD b), ow (.lst []), none] = _ := iInts_r1 (n := 16) rfl (by decide)
  obtain ⟨e', h, y, hy, rfl⟩ := xFor_nth (b := b1__law_members) (g := gN 2) (fun j e => ∃ y, FreeO y ∧ e = [sh (nD (b / 2 ^ j)), ow (.lst (((List.range j).filter fun k => b.testBit k).map nD)), y]) hi rfl (fun _ _ _ => rfl) ⟨none, free_none, by simp⟩ fun j x e hj ⟨y, hy, he⟩ => by
    obtain ⟨rfl, hj⟩ := range_at hj
    subst he
    have hl : ((List.range x).filter fun k => b.testBit k).length ≤ x := by
      have := List.length_filter_le (fun k => b.testBit k) (List.range x)
      rwa [List.length_range] at this
    refine ⟨_, [sh (nD (b / 2 ^ (x + 1))), ow (.lst (((List.range (x + 1)).filter fun k => b.testBit k).map nD)), sh (nD x)], gN_ok rfl hy, .inl ?_, _, free_sh _, rfl⟩
    have e3 : ((b / 2 ^ x : Nat) : Int) / 2 = ((b / 2 ^ (x + 1) : Nat) : Int) := by rw [Nat.pow_succ, ← Nat.div_div_eq_div_mul]; push_cast; rfl
    rw [bits_up]
    unfold b1__law_members
    by_cases hb : b / 2 ^ x % 2 = 1
    · have h1 : cdec (((b / 2 ^ x : Nat) : Int) % 2 = 1) = true := cdec_t (by omega)
      rw [if_pos hb, List.map_append]
      simp_all_arith [h1, e3]
    · have h1 : cdec (((b / 2 ^ x : Nat) : Int) % 2 = 1) = false := cdec_f (by omega)
      rw [if_neg hb]
      simp_all_arith [h1, e3]
  have h : l1__law_members.run [sh (nD b), ow (.lst []), none] = _ := h
  refine ⟨nD b, ?_⟩
  rw [eq__law_members]
  unfold x__law_members
  simp_all_arith [h]
  rfl
/-! K32A: worths as instances, what they tell -/
theorem whole_I (i : Int) : fs_is_whole.F [.int i] = .ok false (.bl true) [.int i] := by
  rw [eq_is_whole]; unfold x_is_whole; simp_all_arith []
inductive Wo where
  | num (n : Nat) | inf (b : Nat)
  deriving DecidableEq
noncomputable def Wo.ok : Wo → Prop
  | .num n => n ≤ 15
  | .inf b => b ≤ 65535
noncomputable def tupW : Wo → D
  | .num n => .tup [.str "number", nD n]
  | .inf b => .tup [.str "endless", nD b]
noncomputable def insW : Wo → D
  | .num n => .ins "Numbered" [("number", nD n)]
  | .inf b => .ins "Endless" [("bits", nD b)]
theorem ft_n : (("Numbered" : Str), ("number" : Str)) ∈ FT := by simp [FT]
theorem ft_e : (("Endless" : Str), ("bits" : Str)) ∈ FT := by simp [FT]
theorem initN (n : Nat) (h : n ≤ 15) : fs_Numbered__init.F [.ins "Numbered" [], nD n] = .ok false .non [insW (.num n), nD n] := by
  rw [eq_Numbered__init]
  unfold x_Numbered__init insW
  have h1 : cdec ((0 : Int) ≤ (n : Int)) = true := cdec_t (by omega)
  have h2 : cdec ((n : Int) ≤ 15) = true := cdec_t (by omega)
  simp_all_arith! [io_is_whole, whole_I, h1, h2, ft_n]
theorem initE (n : Nat) (h : n ≤ 65535) : fs_Endless__init.F [.ins "Endless" [], nD n] = .ok false .non [insW (.inf n), nD n] := by
  rw [eq_Endless__init]
  unfold x_Endless__init insW
  have h1 : cdec ((0 : Int) ≤ (n : Int)) = true := cdec_t (by omega)
  have h2 : cdec ((n : Int) ≤ 65535) = true := cdec_t (by omega)
  simp_all_arith! [io_is_whole, whole_I, h1, h2, ft_e]
theorem fld_n (n : Nat) : dFld FT "number" (.ins "Numbered" [("number", nD n)]) = .sh (nD n) := fld_has ft_n rfl
theorem fld_e (n : Nat) : dFld FT "bits" (.ins "Endless" [("bits", nD n)]) = .sh (nD n) := fld_has ft_e rfl
theorem ne_whole {d : D} (h : (∃ b, d = .bl b) ∨ dIsi d (.ty "int") = .sh (.bl false)) : fs_is_whole.F [d] = .ok false (.bl false) [d] := by
  rcases h with ⟨b, rfl⟩ | h
  · have h1 : dIsi (.bl b) (.ty "int") = .sh (.bl true) := dIsi_T rfl (by decide +kernel)
    have h2 : dIsi (.bl b) (.ty "bool") = .sh (.bl true) := dIsi_T rfl (by decide +kernel)
    rw [eq_is_whole]; unfold x_is_whole; simp_all_arith [h1, h2]
  · rw [eq_is_whole]; unfold x_is_whole; simp_all_arith [h]
noncomputable def NoN (m : Int) (d : D) : Prop := ((∃ b, d = .bl b) ∨ dIsi d (.ty "int") = .sh (.bl false)) ∨ ∃ i : Int, d = .int i ∧ ¬ (0 ≤ i ∧ i ≤ m)
theorem initN_ex {d : D} (h : NoN 15 d) : fs_Numbered__init.F [.ins "Numbered" [], d] = .ex "NoWorth" d [.ins "Numbered" [], d] := by
  rcases h with h | ⟨i, rfl, hi⟩
  · have hw := ne_whole h
    rw [eq_Numbered__init]
    unfold x_Numbered__init
    generalize D.ins "Numbered" [] = s
    simp_all_arith! [io_is_whole, hw, run_raise]
  · rw [eq_Numbered__init]
    unfold x_Numbered__init
    have hw := whole_I i
    generalize D.ins "Numbered" [] = s
    by_cases h1 : (0 : Int) ≤ i
    · have c1 := cdec_t h1
      have c2 : cdec (i ≤ 15) = false := cdec_f (fun h => hi ⟨h1, h⟩)
      simp_all_arith! [io_is_whole, hw, c1, c2, run_raise]
    · have c1 := cdec_f h1
      simp_all_arith! [io_is_whole, hw, c1, run_raise]
theorem initE_ex {d : D} (h : NoN 65535 d) : fs_Endless__init.F [.ins "Endless" [], d] = .ex "NoWorth" d [.ins "Endless" [], d] := by
  rcases h with h | ⟨i, rfl, hi⟩
  · have hw := ne_whole h
    rw [eq_Endless__init]
    unfold x_Endless__init
    generalize D.ins "Endless" [] = s
    simp_all_arith! [io_is_whole, hw, run_raise]
  · rw [eq_Endless__init]
    unfold x_Endless__init
    have hw := whole_I i
    generalize D.ins "Endless" [] = s
    by_cases h1 : (0 : Int) ≤ i
    · have c1 := cdec_t h1
      have c2 : cdec (i ≤ 65535) = false := cdec_f (fun h => hi ⟨h1, h⟩)
      simp_all_arith! [io_is_whole, hw, c1, c2, run_raise]
    · have c1 := cdec_f h1
      simp_all_arith! [io_is_whole, hw, c1, run_raise]
theorem lam1_ex {d : D} (h : NoN 15 d) : fs_lam1.F [d] = .ex "NoWorth" d [d] := by
  have hi := initN_ex h
  rw [eq_lam1]
  unfold x_lam1 m_lam1
  simp_all_arith! [io_Numbered__init, hi]
theorem lam2_ex {d : D} (h : NoN 65535 d) : fs_lam2.F [d] = .ex "NoWorth" d [d] := by
  have hi := initE_ex h
  rw [eq_lam2]
  unfold x_lam2 m_lam2
  simp_all_arith! [io_Endless__init, hi]
theorem lam34_ex {d : D} (h : fs_read_worth.F [d] = .ex "NoWorth" d [d]) : fs_lam3.F [d] = .ex "NoWorth" d [d] ∧ fs_lam4.F [d] = .ex "NoWorth" d [d] := by
  constructor
  · rw [eq_lam3]
    unfold x_lam3 m_lam3
    simp_all_arith! [io_read_worth, h]
  · rw [eq_lam4]
    unfold x_lam4 m_lam4
    simp_all_arith! [io_read_worth, h]
theorem refused_ok {z : Str} {fs : FS} (hz : clo_lam1_lam2_lam3_lam4.lookup z = some fs) (hio : fs.io = [false]) {d : D} {b : Bool} (hn : d.ne2 = true) (h : fs.F [d] = .ex "NoWorth" d [d]) (he : dEq d d = .sh (.bl true)) (hb : dIsi d (.ty "bool") = .sh (.bl b)) :
    fs__law_refused.F [.exc "" z (.frl []), d] = .ok false (.bl true) [.exc "" z (.frl []), d] := by
  have hc := mCall_clo (io := [false]) (F := clo_lam1_lam2_lam3_lam4) (l := lNil) (e := []) (e1 := []) (ss := []) (z := z) (fs := fs) (caps := []) (args := [d]) hz hio (by rw [List.all_cons, List.all_nil, hn]; rfl)
  have h' : fs.F ([d] ++ []) = .ex "NoWorth" d [d] := h
  rw [h'] at hc
  have hc : (cloFS [false] clo_lam1_lam2_lam3_lam4).F [.exc "" z (.frl []), d] = .ex "NoWorth" d [.non, d] := hc
  have io_C : (cloFS [false] clo_lam1_lam2_lam3_lam4).io = [false, false] := rfl
  have hf : dFldE FE "found" (.exc "NoWorth" "found" d) = .sh d := rfl
  have hi : dAlt2 (dIsiC IT) (dIsiE CK) (.exc "NoWorth" "found" d) (.cls "NoWorth") = .sh (.bl true) := rfl
  have hq : dEq (.bl b) (.bl b) = .sh (.bl true) := by
    have := enc_bl.dEq b b
    rwa [cdec_t rfl] at this
  have hy : y1__law_refused.run [sh (.exc "" z (.frl [])), sh d, sh .non, none] = .ex "NoWorth" d [sh (.exc "" z (.frl [])), sh d, sh .non, none] := by
    unfold y1__law_refused
    generalize cloFS [false] clo_lam1_lam2_lam3_lam4 = C at *
    simp_all_arith! [io_C, hc]
  have ht : (xTryT (y1__law_refused) FE CE 3 [("HeapError", .kp 2)]).run [sh (.exc "" z (.frl [])), sh d, sh .non, none] = .nx [sh (.exc "" z (.frl [])), sh d, sh (.exc "NoWorth" "found" d), none] := by
    unfold xTryT
    dsimp only
    rw [hy]
    rfl
  rw [eq__law_refused]
  unfold x__law_refused
  generalize xTryT (y1__law_refused) FE CE 3 [("HeapError", .kp 2)] = TR at *
  generalize D.exc "" z (.frl []) = L at *
  generalize D.exc "NoWorth" "found" d = ER at *
  simp_all_arith [ht, hf, hi, he, hb, hq]
/-! K32B: numbers and worths as texts -/
noncomputable def dg (n : Nat) : List Nat := if n < 10 then [48 + n] else [48 + n / 10, 48 + n % 10]
theorem dg_str : ∀ n, n < 100 → Str.ofString (toString ((n : Nat) : Int)) = tx (dg n) := by decide +kernel
theorem str_dg {n : Nat} (h : n < 100) : dStrI (nD n) = .sh (.str (tx (dg n))) := by
  unfold dStrI
  have hl : ((n : Int)).natAbs.log2 < 1920 := by
    rw [Int.natAbs_natCast]
    rcases Nat.eq_zero_or_pos n with rfl | hp
    · decide
    · exact (Nat.log2_lt (by omega)).mpr (Nat.lt_of_lt_of_le (show n < 2 ^ 7 by omega) (Nat.pow_le_pow_right (by omega) (show 7 ≤ 1920 by omega)))
  show (if cdec (((n : Int)).natAbs.log2 < 1920) = true then RR.sh (.str (Str.ofString (toString ((n : Nat) : Int)))) else .no) = _
  rw [cdec_t hl, if_pos rfl, dg_str n h]
theorem dg_inj : ∀ n, n < 100 → ∀ m, m < 100 → dg n = dg m → n = m := by decide +kernel
theorem dg_mem {n : Nat} (h : n < 100) : ∀ c ∈ dg n, 48 ≤ c ∧ c ≤ 57 := by
  intro c hc
  unfold dg at hc
  split at hc
  · rw [List.mem_singleton] at hc; omega
  · rcases List.mem_cons.mp hc with rfl | hc
    · omega
    · rw [List.mem_singleton] at hc; omega
theorem dg_len (n : Nat) : 1 ≤ (dg n).length ∧ (dg n).length ≤ 2 := by
  unfold dg
  split <;> simp
theorem eqS (a b : Str) (ha : PyData.strOk a = true := by decide +kernel) (hb : PyData.strOk b = true := by decide +kernel) : dEq (.str a) (.str b) = .sh (.bl (decide (a = b))) := by
  have h := enc_str.dEq ⟨a, ha⟩ ⟨b, hb⟩
  have h : dEq (.str a) (.str b) = .sh (.bl (cdec ((⟨a, ha⟩ : Sg) = ⟨b, hb⟩))) := h
  rw [h]
  congr 2
  rw [cdec_eq]
  exact decide_eq_decide.mpr ⟨fun h => congrArg Subtype.val h, fun h => by subst h; rfl⟩
noncomputable def endL : List Nat := [101, 110, 100, 108, 101, 115, 115]
theorem end_eq : ("endless" : Str) = tx endL := by decide +kernel
theorem blank_eq : (" " : Str) = tx [32] := by decide +kernel
theorem empty_eq : ("" : Str) = tx [] := by decide +kernel
theorem joinL_cons (s : List Nat) : ∀ (ls : List (List Nat)) (a : List Nat), TL.joinL s (a :: ls) = a ++ (ls.map (s ++ ·)).flatten
  | [], a => by simp [TL.joinL]
  | y :: r, a => by
    show a ++ (s ++ TL.joinL s (y :: r)) = _
    rw [joinL_cons s r y, List.map_cons, List.flatten_cons, List.append_assoc]
theorem joinL_nil (ls : List (List Nat)) : TL.joinL [] ls = ls.flatten := by
  cases ls with
  | nil => rfl
  | cons a ls =>
    rw [joinL_cons, List.flatten_cons]
    congr 2
    exact (List.map_congr_left fun w _ => List.nil_append w).trans (List.map_id _)
noncomputable def txW : Wo → List Nat
  | .num n => dg n
  | .inf b => TL.joinL [32] (endL :: (bits16 b).map dg)
theorem bits_lt {b n : Nat} (h : n ∈ bits16 b) : n < 100 := by have := (bits16_mem.mp h).1; omega
theorem dgs_len (b : Nat) : (((bits16 b).map dg).map List.length).sum ≤ 32 := by
  have h : ∀ l : List Nat, ((l.map dg).map List.length).sum ≤ 2 * l.length := by
    intro l
    induction l with
    | nil => simp
    | cons x l ih =>
      have := (dg_len x).2
      rw [List.map_cons, List.map_cons, List.sum_cons, List.length_cons]
      omega
  have := h (bits16 b)
  have := bits16_len b
  omega
theorem txW_len (w : Wo) : (txW w).length ≤ 60 := by
  cases w with
  | num n => have := (dg_len n).2; show (dg n).length ≤ 60; omega
  | inf b =>
    have h1 := joinL_len [32] (endL :: (bits16 b).map dg)
    have h2 := dgs_len b
    have h3 := bits16_len b
    rw [List.map_cons, List.sum_cons, List.length_cons, List.length_map, List.length_singleton, Nat.mul_one] at h1
    show (TL.joinL [32] (endL :: (bits16 b).map dg)).length ≤ 60
    have : endL.length = 7 := rfl
    omega
theorem txW_asc {w : Wo} (h : w.ok) : Asc (txW w) := fun c hc => by
  cases w with
  | num n => have := dg_mem (show n < 100 by have : n ≤ 15 := h; omega) c hc; omega
  | inf b =>
    rcases joinL_mem _ _ c hc with h | ⟨w, hw, h⟩
    · rw [List.mem_singleton] at h; omega
    · rcases List.mem_cons.mp hw with rfl | hw
      · exact (by decide : ∀ c ∈ endL, c < 128) c h
      · obtain ⟨n, hn, rfl⟩ := List.mem_map.mp hw
        have := dg_mem (bits_lt hn) c h
        omega
theorem textN (n : Nat) (h : n ≤ 15) : fs_Numbered__text.F [insW (.num n)] = .ok false (.str (tx (txW (.num n)))) [insW (.num n)] := by
  have hs := str_dg (show n < 100 by omega)
  rw [eq_Numbered__text]
  unfold x_Numbered__text insW txW
  generalize tx (dg n) = t at *
  simp_all_arith [ft_n, hs]
theorem textE (b : Nat) : fs_Endless__text.F [insW (.inf b)] = .ok false (.str (tx (txW (.inf b)))) [insW (.inf b)] := by
  have hn := numbers_in_eq b
  have hp : D.pus ((bits16 b).map nD) = true := pus_map fun _ _ => rfl
  have hl := bits16_len b
  have hi : iSeq (mCall fs_numbers_in (lCons (mT (m1 (dFld FT "bits") (mV 0))) (lNil))) [sh (insW (.inf b)), none] = .ok ((bits16 b).map nD) [sh (insW (.inf b)), none] none := by
    unfold insW
    generalize (bits16 b).map nD = B at *
    simp_all_arith! [ft_e, io_numbers_in, hn, hp]
  have hk : k1_Endless__text [sh (insW (.inf b)), none] = .ok ⟨.ow, .lst (tL ((bits16 b).map dg))⟩ [sh (insW (.inf b)), none] := by
    unfold tL
    rw [List.map_map]
    refine mLc_map (enc := nD) (f := fun k => .str (tx (dg k))) (l := bits16 b) (g := gN 1) (m := e1_Endless__text) (vs := [1]) (k := none) hi rfl (by omega) rfl rfl fun k hk => ?_
    have hs := str_dg (bits_lt hk)
    refine ⟨[sh (insW (.inf b)), sh (nD k)], rfl, rfl, ?_⟩
    unfold e1_Endless__text
    generalize insW (.inf b) = I at *
    generalize tx (dg k) = t at *
    simp_all_arith [hs]
  have ha : dAdd (.lst [.str "endless"]) (.lst (tL ((bits16 b).map dg))) = .ow (.lst (tL (endL :: (bits16 b).map dg))) := by
    rw [end_eq]
    exact if_pos (by rw [sizeLine_eq]; unfold tL; simp only [List.length_cons, List.length_nil, List.length_map]; omega)
  have hj : fJoin " " [.lst (tL (endL :: (bits16 b).map dg))] = .sh (.str (tx (txW (.inf b)))) := by
    rw [blank_eq]
    exact join_tx _ _ (by
      have h2 := dgs_len b
      have : endL.length = 7 := rfl
      rw [List.map_cons, List.sum_cons, List.length_cons, List.length_map, List.length_singleton, Nat.mul_one]
      omega)
  rw [eq_Endless__text]
  unfold x_Endless__text
  generalize tL ((bits16 b).map dg) = A at *
  generalize tL (endL :: (bits16 b).map dg) = A2 at *
  generalize tx (txW (.inf b)) = t at *
  generalize insW (.inf b) = I at *
  simp_all_arith [hk, ha, hj]
theorem law_text_ok {w : Wo} (h : w.ok) : fs__law_text.F [tupW w] = .ok false (.str (tx (txW w))) [tupW w] := by
  cases w with
  | num n =>
    have hs := str_dg (show n < 100 by have : n ≤ 15 := h; omega)
    have g0 : dGi (.tup [.str "number", nD n]) (.int 0) = .sh (.str "number") := rfl
    have he : dEq (.str "number") (.str "number") = .sh (.bl true) := eqS _ _
    have g1 : dGi (.tup [.str "number", nD n]) (.int 1) = .sh (nD n) := rfl
    rw [show tupW (.num n) = .tup [.str "number", nD n] from rfl, show txW (.num n) = dg n from rfl, eq__law_text]
    unfold x__law_text
    generalize tx (dg n) = t at *
    generalize D.tup [.str "number", nD n] = T at *
    simp_all_arith [g0, g1, he, hs]
  | inf b =>
    have g0 : dGi (.tup [.str "endless", nD b]) (.int 0) = .sh (.str "endless") := rfl
    have he : dEq (.str "endless") (.str "number") = .sh (.bl false) := eqS _ _
    have g1 : dGi (.tup [.str "endless", nD b]) (.int 1) = .sh (nD b) := rfl
    obtain ⟨o, hm⟩ := members_eq b
    have hp : D.pus ((bits16 b).map nD) = true := pus_map fun _ _ => rfl
    have hl := bits16_len b
    have hi : iSeq (mCall fs__law_members (lCons (mT (m2 dGi (mV 0) (mC (.int 1)))) (lNil))) [sh (.tup [.str "endless", nD b]), none] = .ok ((bits16 b).map nD) [sh (.tup [.str "endless", nD b]), none] none := by
      generalize (bits16 b).map nD = B at *
      generalize D.tup [.str "endless", nD b] = T at *
      simp_all_arith! [g1, io__law_members, hm, hp]
    have hk : k1__law_text [sh (.tup [.str "endless", nD b]), none] = .ok ⟨.ow, .lst (tL ((bits16 b).map fun k => 32 :: dg k))⟩ [sh (.tup [.str "endless", nD b]), none] := by
      unfold tL
      rw [List.map_map]
      refine mLc_map (enc := nD) (f := fun k => .str (tx (32 :: dg k))) (l := bits16 b) (g := gN 1) (m := e1__law_text) (vs := [1]) (k := none) hi rfl (by omega) rfl rfl fun k hk => ?_
      have hs := str_dg (bits_lt hk)
      have ha : dAdd (.str " ") (.str (tx (dg k))) = .sh (.str (tx (32 :: dg k))) := by
        rw [blank_eq]
        exact dAdd_tx [32] (dg k) (by have := (dg_len k).2; simp only [List.length_cons, List.length_nil]; omega)
      refine ⟨[sh (.tup [.str "endless", nD b]), sh (nD k)], rfl, rfl, ?_⟩
      unfold e1__law_text
      generalize D.tup [.str "endless", nD b] = T at *
      generalize tx (32 :: dg k) = t2 at *
      generalize tx (dg k) = t at *
      simp_all_arith [hs, ha]
    have ej : txW (.inf b) = endL ++ ((bits16 b).map fun k => 32 :: dg k).flatten := by
      show TL.joinL [32] (endL :: (bits16 b).map dg) = _
      rw [joinL_cons, List.map_map]
      rfl
    have hlen : (((bits16 b).map fun k => 32 :: dg k).flatten).length ≤ 60 := by
      have h1 := txW_len (.inf b)
      rw [ej, List.length_append] at h1
      omega
    have hj : fJoin "" [.lst (tL ((bits16 b).map fun k => 32 :: dg k))] = .sh (.str (tx ((bits16 b).map fun k => 32 :: dg k).flatten)) := by
      rw [empty_eq]
      have := join_tx [] ((bits16 b).map fun k => 32 :: dg k) (by
        rw [← List.length_flatten]
        simp only [List.length_nil, Nat.mul_zero, Nat.add_zero]
        omega)
      rwa [joinL_nil] at this
    have ha : dAdd (.str "endless") (.str (tx ((bits16 b).map fun k => 32 :: dg k).flatten)) = .sh (.str (tx (txW (.inf b)))) := by
      rw [end_eq, ej]
      exact dAdd_tx _ _ (by have : endL.length = 7 := rfl; omega)
    rw [show tupW (.inf b) = .tup [.str "endless", nD b] from rfl, eq__law_text]
    unfold x__law_text
    generalize tL ((bits16 b).map fun k => 32 :: dg k) = A at *
    generalize tx ((bits16 b).map fun k => 32 :: dg k).flatten = t1 at *
    generalize tx (txW (.inf b)) = t at *
    generalize D.tup [.str "endless", nD b] = T at *
    simp_all_arith [g0, g1, he, hk, hj, ha]
/-! K32C: plain_number -/
noncomputable def digs : List Nat := [48, 49, 50, 51, 52, 53, 54, 55, 56, 57]
theorem digs_eq : ("0123456789" : Str) = tx digs := by decide +kernel
theorem digs_mem {c : Nat} : c ∈ digs ↔ 48 ≤ c ∧ c ≤ 57 := by
  unfold digs
  simp only [List.mem_cons, List.not_mem_nil, or_false]
  omega
theorem sign_dig (c : Nat) : dInS false (.str (tx [c])) (.str "0123456789") = .sh (.bl (decide (c ∈ digs))) := by
  rw [digs_eq]
  show (if (1 : Nat) = 1 then RR.sh (.bl (decide (c ∈ (tx digs).cps.toList))) else .no) = _
  have e : (tx digs).cps.toList = digs := by simp [tx]
  rw [if_pos rfl, e]
noncomputable def pn (l : List Nat) : Option Nat := (List.range 16).find? fun k => decide (dg k = l)
noncomputable def pnD : Option Nat → D
  | some n => nD n
  | none => .non
theorem pn_some {l : List Nat} {k : Nat} : pn l = some k ↔ k < 16 ∧ dg k = l := by
  unfold pn
  constructor
  · intro h
    exact ⟨List.mem_range.mp (List.mem_of_find?_eq_some h), of_decide_eq_true (List.find?_some (p := fun k => decide (dg k = l)) h)⟩
  · rintro ⟨hk, hd⟩
    cases h : (List.range 16).find? fun k => decide (dg k = l) with
    | none => exact absurd (decide_eq_true hd) (List.find?_eq_none.mp h k (List.mem_range.mpr hk))
    | some m =>
      have h1 := List.mem_range.mp (List.mem_of_find?_eq_some h)
      have h2 : dg m = l := of_decide_eq_true (List.find?_some (p := fun k => decide (dg k = l)) h)
      rw [dg_inj m (by omega) k (by omega) (h2.trans hd.symm)]
theorem pn_none {l : List Nat} (h : ∀ k, k < 16 → dg k ≠ l) : pn l = none := by
  cases e : pn l with
  | none => rfl
  | some k => exact absurd (pn_some.mp e).2 (h k (pn_some.mp e).1)
theorem pn_one : ∀ a, a < 10 → pn [48 + a] = some a := by decide +kernel
theorem pn_two : ∀ a, a < 10 → ∀ b, b < 10 → pn [48 + a, 48 + b] = if dg (10 * a + b) = [48 + a, 48 + b] ∧ 10 * a + b ≤ 15 then some (10 * a + b) else none := by decide +kernel
theorem int_one : ∀ a, a < 10 → PySem.intText? (tx [48 + a]) = some ((a : Nat) : Int) := by decide +kernel
theorem int_two : ∀ a, a < 10 → ∀ b, b < 10 → PySem.intText? (tx [48 + a, 48 + b]) = some ((10 * a + b : Nat) : Int) := by decide +kernel
theorem intS_ok {l : List Nat} {n : Nat} (h : PySem.intText? (tx l) = some ((n : Nat) : Int)) (hl : l.length ≤ 640) : dIntS (.str (tx l)) = .sh (nD n) := by
  unfold dIntS
  dsimp only
  rw [h]
  show (if (tx l).length ≤ 640 then RR.sh (.int (n : Int)) else .no) = _
  rw [if_pos (by rw [tx_len]; exact hl)]
theorem plain_k (l : List Nat) (hl : l.length ≤ 1000) : k1_plain_number [sh (.str (tx l)), none, none] = .ok ⟨.ow, .lst (l.map fun c => D.bl (decide (c ∈ digs)))⟩ [sh (.str (tx l)), none, none] := by
  have hs : VM.signs (tx l) = l.map fun c => D.str (tx [c]) := by simp [VM.signs, tx]
  have hi : iVar 0 [sh (.str (tx l)), none, none] = .ok (l.map fun c => D.str (tx [c])) [sh (.str (tx l)), none, none] none := by rw [← hs]; rfl
  exact mLc_map (enc := fun c => D.str (tx [c])) (f := fun c => D.bl (decide (c ∈ digs))) (g := gN 2) (m := e1_plain_number) (vs := [2]) hi rfl hl rfl rfl fun c hc => by
    have hsl := sign_dig c
    refine ⟨[sh (.str (tx l)), none, sh (.str (tx [c]))], rfl, rfl, ?_⟩
    unfold e1_plain_number
    simp_all_arith [hsl]
theorem plain_mid {l : List Nat} {v : Nat} (hv : v < 100) (ha : Asc l) (h1 : 1 ≤ l.length) (h2 : l.length ≤ 2) (hd : ∀ c ∈ l, c ∈ digs) (hI : PySem.intText? (tx l) = some ((v : Nat) : Int)) :
    fs_plain_number.F [.str (tx l)] = .ok false (pnD (if dg v = l ∧ v ≤ 15 then some v else none)) [.str (tx l)] := by
  have hk := plain_k l (by omega)
  have hall := dAll_b (fun c => decide (c ∈ digs)) l
  have h3 : l.all (fun c => decide (c ∈ digs)) = true := List.all_eq_true.mpr fun c hc => decide_eq_true (hd c hc)
  rw [h3] at hall
  have hd2 := dLen_tx l (by omega)
  have c1 := cdec_t (show (1 : Int) ≤ (l.length : Int) by omega)
  have c2 := cdec_t (show (l.length : Int) ≤ 2 by omega)
  have hi := intS_ok hI (by omega)
  have hs := str_dg hv
  have hne := ne_tx (a := dg v) (b := l) (fun c hc => by have := dg_mem hv c hc; omega) ha
  rw [eq_plain_number]
  unfold x_plain_number
  by_cases e : dg v = l
  · rw [decide_eq_true e] at hne
    by_cases g : v ≤ 15
    · rw [if_pos ⟨e, g⟩]
      have c3 : cdec ((15 : Int) < (v : Int)) = false := cdec_f (by omega)
      show _ = FA.ok false (nD v) _
      generalize l.map (fun c => D.bl (decide (c ∈ digs))) = B at *
      generalize tx (dg v) = t1 at *
      generalize tx l = t at *
      simp_all_arith [hk, hall, hd2, c1, c2, hi, hs, hne, c3]
    · rw [if_neg (fun h => g h.2)]
      have c3 : cdec ((15 : Int) < (v : Int)) = true := cdec_t (by omega)
      show _ = FA.ok false .non _
      generalize l.map (fun c => D.bl (decide (c ∈ digs))) = B at *
      generalize tx (dg v) = t1 at *
      generalize tx l = t at *
      simp_all_arith [hk, hall, hd2, c1, c2, hi, hs, hne, c3]
  · rw [decide_eq_false e] at hne
    rw [if_neg (fun h => e h.1)]
    show _ = FA.ok false .non _
    generalize l.map (fun c => D.bl (decide (c ∈ digs))) = B at *
    generalize tx (dg v) = t1 at *
    generalize tx l = t at *
    simp_all_arith [hk, hall, hd2, c1, c2, hi, hs, hne]
theorem plain_ok (l : List Nat) (hl : l.length ≤ 1000) (ha : Asc l) : fs_plain_number.F [.str (tx l)] = .ok false (pnD (pn l)) [.str (tx l)] := by
  by_cases hg : 1 ≤ l.length ∧ l.length ≤ 2 ∧ ∀ c ∈ l, c ∈ digs
  · obtain ⟨h1, h2, h3⟩ := hg
    match l, h1, h2, h3 with
    | [x], _, _, h3 =>
      obtain ⟨g1, g2⟩ := digs_mem.mp (h3 x (List.mem_cons_self ..))
      obtain ⟨a, rfl⟩ : ∃ a, x = 48 + a := ⟨x - 48, by omega⟩
      have h := plain_mid (l := [48 + a]) (v := a) (by omega) ha (by simp) (by simp) h3 (int_one a (by omega))
      rw [h, pn_one a (by omega), if_pos ⟨show (if a < 10 then [48 + a] else [48 + a / 10, 48 + a % 10]) = [48 + a] from if_pos (by omega), by omega⟩]
    | [x, y], _, _, h3 =>
      obtain ⟨g1, g2⟩ := digs_mem.mp (h3 x (List.mem_cons_self ..))
      obtain ⟨k1, k2⟩ := digs_mem.mp (h3 y (List.mem_cons_of_mem _ (List.mem_cons_self ..)))
      obtain ⟨a, rfl⟩ : ∃ a, x = 48 + a := ⟨x - 48, by omega⟩
      obtain ⟨b, rfl⟩ : ∃ b, y = 48 + b := ⟨y - 48, by omega⟩
      have h := plain_mid (l := [48 + a, 48 + b]) (v := 10 * a + b) (by omega) ha (by simp) (by simp) h3 (int_two a (by omega) b (by omega))
      rw [h, pn_two a (by omega) b (by omega)]
  · have hp : pn l = none := pn_none fun k hk e => hg ⟨by rw [← e]; exact (dg_len k).1, by rw [← e]; exact (dg_len k).2, fun c hc => by
      rw [← e] at hc
      exact digs_mem.mpr (dg_mem (by omega) c hc)⟩
    rw [hp]
    have hk := plain_k l hl
    have hall := dAll_b (fun c => decide (c ∈ digs)) l
    have hd2 := dLen_tx l hl
    rw [eq_plain_number]
    unfold x_plain_number
    show _ = FA.ok false .non _
    by_cases h1 : 1 ≤ l.length
    · have c1 := cdec_t (show (1 : Int) ≤ (l.length : Int) by omega)
      by_cases h2 : l.length ≤ 2
      · have c2 := cdec_t (show (l.length : Int) ≤ 2 by omega)
        have h3 : l.all (fun c => decide (c ∈ digs)) = false := by
          rw [List.all_eq_false]
          refine Classical.byContradiction fun hc => hg ⟨h1, h2, fun c hm => ?_⟩
          refine Classical.byContradiction fun hn => hc ⟨c, hm, ?_⟩
          simpa using hn
        rw [h3] at hall
        generalize l.map (fun c => D.bl (decide (c ∈ digs))) = B at *
        generalize tx l = t at *
        simp_all_arith [hk, hall, hd2, c1, c2]
      · have c2 := cdec_f (show ¬ (l.length : Int) ≤ 2 by omega)
        generalize tx l = t at *
        simp_all_arith [hd2, c1, c2]
    · have c1 := cdec_f (show ¬ (1 : Int) ≤ (l.length : Int) by omega)
      generalize tx l = t at *
      simp_all_arith [hd2, c1]
/-! K32D: read_worth -/
theorem enc_pnD : EqEnc pnD 1 := ⟨fun x => by
  cases x with
  | none => exact ⟨_, rfl, rfl, by simp [PyData.depth]⟩
  | some o => exact enc_nat.py o, fun x y p q h g => by
  cases x with
  | none => cases y with
    | none => cases h; cases g; exact ⟨fun _ => rfl, fun _ => rfl⟩
    | some b =>
      cases h; cases g
      exact ⟨fun z => by simp [PyData.eqv] at z, fun z => by cases z⟩
  | some a => cases y with
    | none =>
      cases h; cases g
      exact ⟨fun z => by simp [PyData.eqv] at z, fun z => by cases z⟩
    | some b =>
      rw [enc_nat.eq a b p q h g]
      exact ⟨fun z => by rw [z], fun z => Option.some.inj z⟩⟩
theorem q_nW : (("Numbered" : Str) == "Worth") = false := by decide +kernel
theorem q_eW : (("Endless" : Str) == "Worth") = false := by decide +kernel
theorem q_eN : (("Endless" : Str) == "Numbered") = false := by decide +kernel
theorem q_xb : (("text" : Str) == "bits") = false := by decide +kernel
theorem q_xn : (("text" : Str) == "number") = false := by decide +kernel
noncomputable def numsW (ws : List (List Nat)) : List Nat := ws.map fun w => (pn w).getD 0
noncomputable def rdW (l w0 : List Nat) (ws : List (List Nat)) : Option Wo :=
  if w0 = endL then (if none ∈ ws.map pn then none else (if txW (.inf (setOf (numsW ws))) = l then some (.inf (setOf (numsW ws))) else none))
  else (pn l).map .num
theorem numsW_lt {ws : List (List Nat)} (h : none ∉ ws.map pn) : ∀ n ∈ numsW ws, n < 16 ∧ ∃ w ∈ ws, dg n = w := fun n hn => by
  obtain ⟨w, hw, rfl⟩ := List.mem_map.mp hn
  cases e : pn w with
  | none => exact absurd (List.mem_map.mpr ⟨w, hw, e⟩) h
  | some k => exact ⟨(pn_some.mp e).1, w, hw, (pn_some.mp e).2⟩
theorem setOf_ok {ns : List Nat} (h : ∀ n ∈ ns, n < 16) : setOf ns ≤ 65535 := by
  have := setOf_lt h
  omega
section
variable {l w0 : List Nat} {ws : List (List Nat)}
theorem read_facts (hl : l.length ≤ 990) (ha : Asc l) (e : spC 32 l = w0 :: ws) :
    fSplit (tx l) [.str " "] = .ow (.lst (tL (w0 :: ws))) ∧ dGi (.lst (tL (w0 :: ws))) (.int 0) = .sh (.str (tx w0)) ∧ dNe (.str (tx w0)) (.str "endless") = .sh (.bl (!decide (w0 = endL))) ∧ ws.length ≤ 991 ∧ (∀ w ∈ ws, w.length ≤ 990 ∧ Asc w) ∧ fSl true false [.lst (tL (w0 :: ws)), .int 1] = .ow (.lst (tL ws)) := by
  have hin : ∀ w ∈ w0 :: ws, w.length ≤ 990 ∧ Asc w := fun w hw => by
    rw [← e] at hw
    exact ⟨Nat.le_trans (spC_wl hw) hl, fun c hc => ha c (spC_mem hw c hc)⟩
  refine ⟨?_, ?_, ?_, ?_, fun w hw => hin w (List.mem_cons_of_mem _ hw), fSl_lo_lst (tL (w0 :: ws)) 1⟩
  · rw [blank_eq, ← e]
    exact split_tx 32 (by omega) l (by omega)
  · rw [dGi_lst]
    exact dIx_nat (r := 0) rfl
  · rw [end_eq]
    exact ne_tx (hin w0 (List.mem_cons_self ..)).2 (by decide : ∀ c ∈ endL, c < 128)
  · have := spC_len 32 l
    rw [e, List.length_cons] at this
    omega
theorem read_k (hws : ws.length ≤ 991) (hw : ∀ w ∈ ws, w.length ≤ 990 ∧ Asc w) (hd : fSl true false [.lst (tL (w0 :: ws)), .int 1] = .ow (.lst (tL ws))) (y2 y4 : Option VM.Slot) :
    k1_read_worth [sh (.str (tx l)), ow (.lst (tL (w0 :: ws))), none, none, none, none] = .ok ⟨.ow, .lst ((ws.map pn).map pnD)⟩ [sh (.str (tx l)), ow (.lst (tL (w0 :: ws))), none, none, none, none] := by
  have hi : iSeq (mN (fSl true false) (lCons (mV 1) (lCons (mC (.int 1)) lNil))) [sh (.str (tx l)), ow (.lst (tL (w0 :: ws))), none, none, none, none] = .ok (ws.map fun w => D.str (tx w)) [sh (.str (tx l)), ow (.lst (tL (w0 :: ws))), none, none, none, none] none := by
    have hd : fSl true false [.lst (tL (w0 :: ws)), .int 1] = .ow (.lst (ws.map fun w => D.str (tx w))) := hd
    generalize tL (w0 :: ws) = A at *
    generalize (ws.map fun w => D.str (tx w)) = B at *
    generalize tx l = t at *
    simp_all_arith [hd]
  rw [List.map_map]
  refine mLc_map (enc := fun w => D.str (tx w)) (f := fun w => pnD (pn w)) (l := ws) (g := gN 5) (m := e1_read_worth) (vs := [5]) (k := none) hi rfl (by omega) rfl rfl fun w hm => ?_
  obtain ⟨h1, h2⟩ := hw w hm
  have hp := plain_ok w (by omega) h2
  refine ⟨[sh (.str (tx l)), ow (.lst (tL (w0 :: ws))), none, none, none, sh (.str (tx w))], rfl, rfl, ?_⟩
  unfold e1_read_worth
  generalize tL (w0 :: ws) = A at *
  generalize tx l = t at *
  generalize tx w = t1 at *
  generalize pnD (pn w) = d at *
  simp_all_arith! [io_plain_number, hp]
theorem read_some (hl : l.length ≤ 990) (ha : Asc l) (e : spC 32 l = w0 :: ws) {w : Wo} (hr : rdW l w0 ws = some w) : w.ok ∧ fs_read_worth.F [.str (tx l)] = .ok true (insW w) [.str (tx l)] := by
  obtain ⟨hsp, hg, hne, hws, hw, hd⟩ := read_facts hl ha e
  have hs : dIsi (.str (tx l)) (.ty "str") = .sh (.bl true) := dIsi_T rfl (by decide +kernel)
  unfold rdW at hr
  by_cases h0 : w0 = endL
  · rw [if_pos h0] at hr
    rw [decide_eq_true h0] at hne
    by_cases h1 : none ∈ ws.map pn
    · rw [if_pos h1] at hr; cases hr
    · rw [if_neg h1] at hr
      by_cases h2 : txW (.inf (setOf (numsW ws))) = l
      · rw [if_pos h2] at hr
        cases hr
        have hlt := fun n hn => (numsW_lt h1 n hn).1
        have hok := setOf_ok hlt
        refine ⟨hok, ?_⟩
        have hk := read_k (l := l) hws hw hd none none
        have hin : dIn false .non (.lst ((ws.map pn).map pnD)) = .sh (.bl false) := by
          rw [dIn_lst]
          have := enc_pnD.inL false none (ws.map pn)
          rwa [cdec_f h1] at this
        have hL : (ws.map pn).map pnD = (numsW ws).map nD := by
          unfold numsW
          rw [List.map_map, List.map_map]
          refine List.map_congr_left fun w hw => ?_
          cases e : pn w with
          | none => exact absurd (List.mem_map.mpr ⟨w, hw, e⟩) h1
          | some k => simp [Function.comp, e, pnD]
        have hso := set_of_eq (numsW ws) hlt
        have hpu : (nD (setOf (numsW ws))).pu = true := rfl
        have hi := initE _ hok
        have ht := textE (setOf (numsW ws))
        have hn2 := ne_tx (a := txW (.inf (setOf (numsW ws)))) (b := l) (txW_asc hok) ha
        rw [decide_eq_true h2] at hn2
        rw [hL] at hk hin
        have hI : insW (.inf (setOf (numsW ws))) = .ins "Endless" [("bits", nD (setOf (numsW ws)))] := rfl
        rw [hI] at hi ht
        rw [hI, eq_read_worth]
        unfold x_read_worth
        clear hL
        generalize (numsW ws).map nD = B at *
        generalize tL (w0 :: ws) = A at *
        generalize nD (setOf (numsW ws)) = b at *
        generalize tx (txW (.inf (setOf (numsW ws)))) = t2 at *
        generalize tx w0 = t0 at *
        generalize tx l = t at *
        simp_all_arith! [hs, hsp, hg, hne, hk, hin, io_set_of, hso, hpu, io_Endless__init, hi, io_Endless__text, ht, q_eW, q_eN, q_xb, hn2, List.lookup_nil]
      · rw [if_neg h2] at hr; cases hr
  · rw [if_neg h0] at hr
    rw [decide_eq_false h0] at hne
    cases ep : pn l with
    | none => rw [ep] at hr; cases hr
    | some n =>
      rw [ep] at hr
      cases hr
      have hp := plain_ok l (by omega) ha
      rw [ep] at hp
      have hn := (pn_some.mp ep).1
      refine ⟨show n ≤ 15 by omega, ?_⟩
      have hi := initN n (by omega)
      have hI : insW (.num n) = .ins "Numbered" [("number", nD n)] := rfl
      have hp : fs_plain_number.F [.str (tx l)] = .ok false (nD n) [.str (tx l)] := hp
      have hin := dIs_int false (n : Int)
      rw [hI] at hi
      rw [hI, eq_read_worth]
      unfold x_read_worth
      generalize tL (w0 :: ws) = A at *
      generalize tx w0 = t0 at *
      generalize tx l = t at *
      simp_all_arith! [hs, hsp, hg, hne, io_plain_number, hp, hin, io_Numbered__init, hi]
theorem read_none (hl : l.length ≤ 990) (ha : Asc l) (e : spC 32 l = w0 :: ws) (hr : rdW l w0 ws = none) : fs_read_worth.F [.str (tx l)] = .ex "NoWorth" (.str (tx l)) [.str (tx l)] := by
  obtain ⟨hsp, hg, hne, hws, hw, hd⟩ := read_facts hl ha e
  have hs : dIsi (.str (tx l)) (.ty "str") = .sh (.bl true) := dIsi_T rfl (by decide +kernel)
  unfold rdW at hr
  by_cases h0 : w0 = endL
  · rw [if_pos h0] at hr
    rw [decide_eq_true h0] at hne
    have hk := read_k (l := l) hws hw hd none none
    by_cases h1 : none ∈ ws.map pn
    · have hin : dIn false .non (.lst ((ws.map pn).map pnD)) = .sh (.bl true) := by
        rw [dIn_lst]
        have := enc_pnD.inL false none (ws.map pn)
        rwa [cdec_t h1] at this
      rw [eq_read_worth]
      unfold x_read_worth
      generalize (ws.map pn).map pnD = B at *
      generalize tL (w0 :: ws) = A at *
      generalize tx w0 = t0 at *
      generalize tx l = t at *
      simp_all_arith [hs, hsp, hg, hne, hk, hin, run_raise]
    · rw [if_neg h1] at hr
      by_cases h2 : txW (.inf (setOf (numsW ws))) = l
      · rw [if_pos h2] at hr; cases hr
      · have hlt := fun n hn => (numsW_lt h1 n hn).1
        have hok := setOf_ok hlt
        have hin : dIn false .non (.lst ((ws.map pn).map pnD)) = .sh (.bl false) := by
          rw [dIn_lst]
          have := enc_pnD.inL false none (ws.map pn)
          rwa [cdec_f h1] at this
        have hL : (ws.map pn).map pnD = (numsW ws).map nD := by
          unfold numsW
          rw [List.map_map, List.map_map]
          refine List.map_congr_left fun w hw => ?_
          cases e : pn w with
          | none => exact absurd (List.mem_map.mpr ⟨w, hw, e⟩) h1
          | some k => simp [Function.comp, e, pnD]
        have hso := set_of_eq (numsW ws) hlt
        have hpu : (nD (setOf (numsW ws))).pu = true := rfl
        have hi := initE _ hok
        have ht := textE (setOf (numsW ws))
        have hn2 := ne_tx (a := txW (.inf (setOf (numsW ws)))) (b := l) (txW_asc hok) ha
        rw [decide_eq_false h2] at hn2
        rw [hL] at hk hin
        have hI : insW (.inf (setOf (numsW ws))) = .ins "Endless" [("bits", nD (setOf (numsW ws)))] := rfl
        rw [hI] at hi ht
        rw [eq_read_worth]
        unfold x_read_worth
        clear hL
        generalize (numsW ws).map nD = B at *
        generalize tL (w0 :: ws) = A at *
        generalize nD (setOf (numsW ws)) = b at *
        generalize tx (txW (.inf (setOf (numsW ws)))) = t2 at *
        generalize tx w0 = t0 at *
        generalize tx l = t at *
        simp_all_arith! [hs, hsp, hg, hne, hk, hin, io_set_of, hso, hpu, io_Endless__init, hi, io_Endless__text, ht, q_eW, q_eN, q_xb, hn2, run_raise, List.lookup_nil]
  · rw [if_neg h0] at hr
    rw [decide_eq_false h0] at hne
    cases ep : pn l with
    | some n => rw [ep] at hr; cases hr
    | none =>
      have hp := plain_ok l (by omega) ha
      rw [ep] at hp
      have hp : fs_plain_number.F [.str (tx l)] = .ok false .non [.str (tx l)] := hp
      have hin := dIs_non false
      rw [eq_read_worth]
      unfold x_read_worth
      generalize tL (w0 :: ws) = A at *
      generalize tx w0 = t0 at *
      generalize tx l = t at *
      simp_all_arith! [hs, hsp, hg, hne, io_plain_number, hp, hin, run_raise]
theorem read_oth {d : D} (h : dIsi d (.ty "str") = .sh (.bl false)) : fs_read_worth.F [d] = .ex "NoWorth" d [d] := by
  rw [eq_read_worth]
  unfold x_read_worth
  simp_all_arith [h, run_raise]
end
/-! K32E: the law's own reading of a text -/
theorem eq_tx {a b : List Nat} (ha : Asc a) (hb : Asc b) : dEq (.str (tx a)) (.str (tx b)) = .sh (.bl (decide (a = b))) := by
  rw [eqS _ _ (asc_ok ha) (asc_ok hb)]
  congr 2
  exact decide_eq_decide.mpr ⟨tx_inj, fun h => by rw [h]⟩
theorem seq_to {a b : Sx} {e e1 : VM.Env} {r : SA} (h : a.run e = .nx e1) (h2 : b.run e1 = r) : (xSeq a b).run e = r := by rw [xSeq_nx h, h2]
theorem fin_one {d r : D} {e : VM.Env} (h : e[0]? = some (sh d)) : fin [false] [d] (.rt ⟨.sh, r⟩ e) = .ok false r [d] := by
  match e, h with
  | x :: es, h => cases h; rfl
noncomputable abbrev Al := { l : List Nat // Asc l }
theorem enc_al : EqEnc (fun z : Al => D.str (tx z.1)) 1 := ⟨fun x => ⟨_, rfl, asc_ok x.2, by simp [PyData.depth]⟩, fun x y p q h g => by
  cases h; cases g
  show (tx x.1 == tx y.1) = true ↔ _
  rw [beq_iff_eq]
  exact ⟨fun h => Subtype.ext (tx_inj h), fun h => by rw [h]⟩⟩
theorem lift_al : ∀ ws : List (List Nat), (∀ w ∈ ws, Asc w) → ∃ zs : List Al, zs.map (·.1) = ws
  | [], _ => ⟨[], rfl⟩
  | w :: ws, h => by
    obtain ⟨zs, e⟩ := lift_al ws fun x hx => h x (List.mem_cons_of_mem _ hx)
    exact ⟨⟨w, h w (List.mem_cons_self ..)⟩ :: zs, by rw [List.map_cons, e]⟩
theorem in_tL {w : List Nat} {ws : List (List Nat)} (hw : Asc w) (hs : ∀ x ∈ ws, Asc x) : dIn false (.str (tx w)) (.lst (tL ws)) = .sh (.bl (cdec (w ∈ ws))) := by
  obtain ⟨zs, rfl⟩ := lift_al ws hs
  have h := enc_al.inL false ⟨w, hw⟩ zs
  have e : tL (zs.map (·.1)) = zs.map fun z : Al => D.str (tx z.1) := by
    unfold tL
    rw [List.map_map]
    rfl
  rw [dIn_lst, e]
  refine h.trans ?_
  congr 2
  exact cdec_congr ⟨fun h => List.mem_map.mpr ⟨_, h, rfl⟩, fun h => by
    obtain ⟨z, hz, ez⟩ := List.mem_map.mp h
    rwa [show (⟨w, hw⟩ : Al) = z from Subtype.ext ez.symm]⟩
noncomputable def memW (ws : List (List Nat)) : List Nat := (List.range 16).filter fun k => cdec (dg k ∈ ws)
theorem memW_mem {ws : List (List Nat)} {k : Nat} : k ∈ memW ws ↔ k < 16 ∧ dg k ∈ ws := by
  unfold memW
  rw [List.mem_filter, List.mem_range]
  exact and_congr_right fun _ => ⟨fun h => of_cdec h, fun h => cdec_t h⟩
noncomputable def dueW (l w0 : List Nat) (ws : List (List Nat)) : Option Wo := match pn l with
  | some k => some (.num k)
  | none => if w0 = endL then (if txW (.inf (setOf (memW ws))) = l then some (.inf (setOf (memW ws))) else none) else none
noncomputable def dueD : Option Wo → D
  | some w => tupW w
  | none => .non
theorem pn_dg {k : Nat} (h : k < 16) : pn (dg k) = some k := pn_some.mpr ⟨h, rfl⟩
theorem spC_txW (b : Nat) : spC 32 (txW (.inf b)) = endL :: (bits16 b).map dg := TL.spl_join (by simp) fun p hp => by
  rcases List.mem_cons.mp hp with rfl | hp
  · decide
  · obtain ⟨n, hn, rfl⟩ := List.mem_map.mp hp
    intro hc
    have := dg_mem (bits_lt hn) 32 hc
    omega
theorem rd_due {l w0 : List Nat} {ws : List (List Nat)} (e : spC 32 l = w0 :: ws) : rdW l w0 ws = dueW l w0 ws := by
  unfold rdW dueW
  by_cases h0 : w0 = endL
  · have hp : pn l = none := pn_none fun k hk ek => by
      have h1 := spC_wl (c := 32) (l := l) (w := w0) (by rw [e]; exact List.mem_cons_self ..)
      have h2 := (dg_len k).2
      have h3 : w0.length = 7 := by rw [h0]; rfl
      rw [← ek] at h1
      omega
    rw [hp]
    dsimp only
    rw [if_pos h0, if_pos h0]
    by_cases h1 : none ∈ ws.map pn
    · rw [if_pos h1, if_neg]
      intro hl
      have h2 := spC_txW (setOf (memW ws))
      rw [hl, e] at h2
      obtain ⟨_, h3⟩ := List.cons.inj h2
      obtain ⟨w, hw, hn⟩ := List.mem_map.mp h1
      rw [h3] at hw
      obtain ⟨n, hn2, rfl⟩ := List.mem_map.mp hw
      rw [pn_dg (bits16_mem.mp hn2).1] at hn
      cases hn
    · rw [if_neg h1]
      have hs : setOf (numsW ws) = setOf (memW ws) := by
        apply Nat.eq_of_testBit_eq
        intro t
        rw [setOf_has, setOf_has]
        refine decide_eq_decide.mpr ?_
        rw [memW_mem]
        constructor
        · intro h
          obtain ⟨h2, w, hw, rfl⟩ := numsW_lt h1 t h
          exact ⟨h2, hw⟩
        · rintro ⟨h2, h3⟩
          exact List.mem_map.mpr ⟨dg t, h3, by rw [pn_dg h2]; rfl⟩
      rw [hs]
  · rw [if_neg h0, if_neg h0]
    cases pn l <;> rfl
section
variable {l w0 : List Nat} {ws : List (List Nat)}
theorem due_l2 (ha : Asc l) : l2__law_due.run [sh (.str (tx l)), none, none, none, none] = (match pn l with
    | some k => .rt ⟨.sh, tupW (.num k)⟩ [sh (.str (tx l)), sh (nD k), none, none, none]
    | none => .nx [sh (.str (tx l)), lastS nD (List.range 16) none, none, none, none]) := by
  have hi : iInts rng1 (lCons (mC (.int 16)) (lNil)) [sh (.str (tx l)), none, none, none, none] = .ok ((List.range 16).map nD) [sh (.str (tx l)), none, none, none, none] none := iInts_r1 (n := 16) rfl (by decide)
  have h := xFor_find (enc := nD) (g := gN 1) (b := b2__law_due) (fun y => [sh (.str (tx l)), y, none, none, none]) (fun k => decide (dg k = l)) (fun k => .rt ⟨.sh, tupW (.num k)⟩ [sh (.str (tx l)), sh (nD k), none, none, none]) (l := List.range 16) (y := none) hi rfl (fun _ => rfl) free_none fun y hy k hk => by
    have hk := List.mem_range.mp hk
    have hs := str_dg (n := k) (by omega)
    have heq := eq_tx (a := l) (b := dg k) ha (fun c hc => by have := dg_mem (n := k) (by omega) c hc; omega)
    refine ⟨[sh (.str (tx l)), sh (nD k), none, none, none], gN_ok rfl hy, fun hp => ⟨?_, .inl ⟨_, _, rfl⟩⟩, fun hp => .inl ?_⟩
    · have hp : dg k = l := of_decide_eq_true hp
      rw [decide_eq_true hp.symm] at heq
      unfold b2__law_due tupW
      generalize tx (dg k) = t1 at *
      generalize tx l = t at *
      simp_all_arith [hs, heq]
    · have hp : ¬ dg k = l := of_decide_eq_false hp
      rw [decide_eq_false (fun h => hp h.symm)] at heq
      unfold b2__law_due
      generalize tx (dg k) = t1 at *
      generalize tx l = t at *
      simp_all_arith [hs, heq]
  unfold l2__law_due pn
  rw [h]
  cases (List.range 16).find? fun k => decide (dg k = l) <;> rfl
theorem due_k (hw : ∀ w ∈ ws, w.length ≤ 990 ∧ Asc w) (hd : fSl true false [.lst (tL (w0 :: ws)), .int 1] = .ow (.lst (tL ws))) (y1 : Option VM.Slot) (f1 : ShO y1) :
    ∃ z1, ShO z1 ∧ k1__law_due [sh (.str (tx l)), y1, ow (.lst (tL (w0 :: ws))), none, none] = .ok ⟨.ow, .lst ((memW ws).map nD)⟩ [sh (.str (tx l)), z1, ow (.lst (tL (w0 :: ws))), none, none] := by
  refine ⟨y1, f1, ?_⟩
  have hi : iInts rng1 (lCons (mC (.int 16)) (lNil)) [sh (.str (tx l)), y1, ow (.lst (tL (w0 :: ws))), none, none] = .ok ((List.range 16).map nD) [sh (.str (tx l)), y1, ow (.lst (tL (w0 :: ws))), none, none] none := iInts_r1 (n := 16) rfl (by decide)
  have key : ∀ k ∈ List.range 16, ∀ e, e = [sh (.str (tx l)), sh (nD k), ow (.lst (tL (w0 :: ws))), none, none] → c1__law_due e = .ok (cdec (dg k ∈ ws)) e := fun k hk e he => by
    subst he
    have hk := List.mem_range.mp hk
    have hs := str_dg (n := k) (by omega)
    have hin := in_tL (w := dg k) (ws := ws) (fun c hc => by have := dg_mem (n := k) (by omega) c hc; omega) (fun x hx => (hw x hx).2)
    unfold c1__law_due
    generalize tL (w0 :: ws) = A at *
    generalize tL ws = B at *
    generalize tx (dg k) = t1 at *
    generalize tx l = t at *
    generalize cdec (dg k ∈ ws) = c at *
    simp_all_arith [hs, hd, hin]
  rcases f1 with rfl | ⟨d1, rfl⟩
  · exact mLc_pure (enc := nD) (p := fun k => cdec (dg k ∈ ws)) (f := nD) (l := List.range 16) (g := gN 1) (c := c1__law_due) (m := e1__law_due) (vs := [1]) hi rfl (by simp) rfl rfl fun k hk => ⟨[sh (.str (tx l)), sh (nD k), ow (.lst (tL (w0 :: ws))), none, none], rfl, rfl, key k hk _ rfl, fun _ => rfl⟩
  · exact mLc_pure (enc := nD) (p := fun k => cdec (dg k ∈ ws)) (f := nD) (l := List.range 16) (g := gN 1) (c := c1__law_due) (m := e1__law_due) (vs := [1]) hi rfl (by simp) rfl rfl fun k hk => ⟨[sh (.str (tx l)), sh (nD k), ow (.lst (tL (w0 :: ws))), none, none], rfl, rfl, key k hk _ rfl, fun _ => rfl⟩
theorem half_step (B k : Nat) : 2 * (B / 2 ^ (k + 1)) + (if B.testBit k = true then 1 else 0) = B / 2 ^ k := by
  have h1 : B / 2 ^ (k + 1) = B / 2 ^ k / 2 := by rw [Nat.pow_succ, Nat.div_div_eq_div_mul]
  have h2 : B.testBit k = decide (B / 2 ^ k % 2 = 1) := Nat.testBit_eq_decide_div_mod_eq
  rw [h1, h2]
  by_cases h : B / 2 ^ k % 2 = 1
  · rw [if_pos (decide_eq_true h)]; omega
  · rw [if_neg (by simpa using h)]; omega
theorem due_l1 (t W : D) (Mm : List Nat) (hM : ∀ k ∈ Mm, k < 16) (hl : Mm.length ≤ 16) (y1 : Option VM.Slot) (f1 : FreeO y1) :
    ∃ a1, l1__law_due.run [sh t, y1, ow W, ow (.lst (Mm.map nD)), sh (nD 0)] = .nx [sh t, a1, ow W, ow (.lst (Mm.map nD)), sh (nD (setOf Mm))] := by
  have hi : iInts rng3 (lCons (mC (.int 15)) (lCons (m1 dNeg (mC (.int 1))) (lCons (m1 dNeg (mC (.int 1))) (lNil)))) [sh t, y1, ow W, ow (.lst (Mm.map nD)), sh (nD 0)] = .ok ((List.range 16).map fun i => nD (15 - i)) [sh t, y1, ow W, ow (.lst (Mm.map nD)), sh (nD 0)] none :=
    iInts_g (is := [15, -1, -1]) rfl rfl (rng3_down (a := 15) (by decide))
  have hlt := setOf_lt hM
  obtain ⟨e', h, a1, _, he⟩ := xFor_nth (b := b1__law_due) (g := gN 1) (enc := fun i => nD (15 - i)) (l := List.range 16) (fun j e => ∃ a1, FreeO a1 ∧ e = [sh t, a1, ow W, ow (.lst (Mm.map nD)), sh (nD (setOf Mm / 2 ^ (16 - j)))]) hi rfl (fun _ _ _ => rfl) ⟨y1, f1, by rw [Nat.div_eq_of_lt hlt]⟩ fun j i e hj ⟨a1, g1, he⟩ => by
    subst he
    have hj16 : j < 16 := by have := lt_of_get hj; rwa [List.length_range] at this
    rw [List.getElem?_range hj16] at hj
    cases hj
    have hin : dIn false (nD (15 - j)) (.lst (Mm.map nD)) = .sh (.bl (cdec (15 - j ∈ Mm))) := by
      rw [dIn_lst]
      exact enc_nat.inL false (15 - j) Mm
    have hb : (setOf Mm).testBit (15 - j) = cdec (15 - j ∈ Mm) := by rw [setOf_has, cdec_eq]
    have hst := half_step (setOf Mm) (15 - j)
    rw [show 15 - j + 1 = 16 - j by omega, hb] at hst
    rw [show 16 - (j + 1) = 15 - j by omega]
    refine ⟨[sh t, sh (nD (15 - j)), ow W, ow (.lst (Mm.map nD)), sh (nD (setOf Mm / 2 ^ (16 - j)))], [sh t, sh (nD (15 - j)), ow W, ow (.lst (Mm.map nD)), sh (nD (setOf Mm / 2 ^ (15 - j)))], gN_ok rfl g1, .inl ?_, sh (nD (15 - j)), free_sh _, rfl⟩
    rw [← hst]
    have hx : setOf Mm / 2 ^ (16 - j) ≤ 65536 := Nat.le_trans (Nat.div_le_self _ _) (by omega)
    clear hst hb hi
    unfold b1__law_due
    generalize setOf Mm / 2 ^ (16 - j) = x at *
    generalize nD (15 - j) = k at *
    generalize Mm.map nD = Ms at *
    have hm : dMul (.int 2) (nD x) = .sh (nD (2 * x)) := by
      rw [dMul_i 2 (x : Int) (cdec_t (.inl (.inl ⟨by omega, by omega⟩)))]
      show RR.sh (.int _) = .sh (.int _)
      rw [Int.natCast_mul]
      rfl
    cases hc : cdec (15 - j ∈ Mm) with
    | true =>
      rw [hc] at hin
      have hI : dInt (.bl true) = .sh (.int 1) := rfl
      have hadd : dAdd (nD (2 * x)) (.int 1) = .sh (nD (2 * x + 1)) := by
        show RR.sh (.int _) = .sh (.int _)
        rw [Int.natCast_add]
        rfl
      rw [if_pos rfl]
      generalize nD (2 * x + 1) = r2 at *
      generalize nD (2 * x) = r1 at *
      generalize nD x = r0 at *
      simp_all_arith [hm, hin, hI, hadd]
    | false =>
      rw [hc] at hin
      have hI : dInt (.bl false) = .sh (.int 0) := rfl
      have hadd : dAdd (nD (2 * x)) (.int 0) = .sh (nD (2 * x + 0)) := by
        show RR.sh (.int _) = .sh (.int _)
        rw [Int.natCast_add]
        rfl
      rw [if_neg (by decide)]
      generalize nD (2 * x + 0) = r2 at *
      generalize nD (2 * x) = r1 at *
      generalize nD x = r0 at *
      simp_all_arith [hm, hin, hI, hadd]
  subst he
  rw [List.length_range] at h
  rw [show setOf Mm / 2 ^ (16 - 16) = setOf Mm by simp] at h
  exact ⟨a1, h⟩
theorem due_ok (hl : l.length ≤ 990) (ha : Asc l) (e : spC 32 l = w0 :: ws) : fs__law_due.F [.str (tx l)] = .ok false (dueD (dueW l w0 ws)) [.str (tx l)] := by
  obtain ⟨hsp, hg, hne, hws, hw, hd⟩ := read_facts hl ha e
  have h2 := due_l2 ha
  rw [eq__law_due]
  unfold x__law_due dueW
  cases ep : pn l with
  | some k =>
    rw [ep] at h2
    dsimp only at h2 ⊢
    rw [xSeq_rt h2]
    rfl
  | none =>
    rw [ep] at h2
    dsimp only at h2 ⊢
    obtain ⟨z1, hz1⟩ : ∃ z1, lastS nD (List.range 16) none = sh z1 := ⟨_, rfl⟩
    rw [hz1] at h2
    obtain ⟨z2, hz2, hk⟩ := due_k (l := l) hw hd (sh z1) (.inr ⟨_, rfl⟩)
    have hM : ∀ k ∈ memW ws, k < 16 := fun k hk => (memW_mem.mp hk).1
    have hml : (memW ws).length ≤ 16 := by
      unfold memW
      exact Nat.le_trans (List.length_filter_le _ _) (by simp)
    obtain ⟨a1, h1⟩ := due_l1 (.str (tx l)) (.lst (tL (w0 :: ws))) (memW ws) hM hml z2 hz2.free
    have hok := setOf_ok hM
    have ht := law_text_ok (w := .inf (setOf (memW ws))) hok
    have hn2 := ne_tx (a := txW (.inf (setOf (memW ws)))) (b := l) (txW_asc hok) ha
    by_cases h0 : w0 = endL
    · rw [decide_eq_true h0] at hne
      rw [if_pos h0]
      have fin1 : ∀ (c : Bool) (r : D), decide (txW (.inf (setOf (memW ws))) = l) = c → (r = if c = true then tupW (.inf (setOf (memW ws))) else .non) → ∃ e1, x__law_due.run [sh (.str (tx l)), none, none, none, none] = .rt ⟨.sh, r⟩ e1 ∧ e1[0]? = some (sh (.str (tx l))) := fun c r hc hr => by
        rw [hc] at hn2
        refine ⟨[sh (.str (tx l)), a1, ow (.lst (tL (w0 :: ws))), ow (.lst ((memW ws).map nD)), sh (nD (setOf (memW ws)))], ?_, rfl⟩
        unfold x__law_due
        refine seq_to h2 ?_
        clear h2 hc
        refine seq_to (e1 := [sh (.str (tx l)), sh z1, ow (.lst (tL (w0 :: ws))), none, none]) ?_ ?_
        · generalize tL (w0 :: ws) = A at *
          generalize tx l = t at *
          simp_all_arith [hsp]
        refine seq_to (e1 := [sh (.str (tx l)), sh z1, ow (.lst (tL (w0 :: ws))), none, none]) ?_ ?_
        · generalize tL (w0 :: ws) = A at *
          generalize tx w0 = t0 at *
          generalize tx l = t at *
          simp_all_arith [hg, hne]
        refine seq_to (e1 := [sh (.str (tx l)), z2, ow (.lst (tL (w0 :: ws))), ow (.lst ((memW ws).map nD)), none]) ?_ ?_
        · generalize tL (w0 :: ws) = A at *
          generalize (memW ws).map nD = Ms at *
          generalize tx l = t at *
          simp_all_arith [hk]
        refine seq_to (e1 := [sh (.str (tx l)), z2, ow (.lst (tL (w0 :: ws))), ow (.lst ((memW ws).map nD)), sh (nD 0)]) rfl ?_
        refine seq_to h1 ?_
        have hT : tupW (.inf (setOf (memW ws))) = .tup [.str "endless", nD (setOf (memW ws))] := rfl
        rw [hT] at ht hr
        subst hr
        clear h1 hk
        generalize tL (w0 :: ws) = A at *
        generalize (memW ws).map nD = Ms at *
        generalize nD (setOf (memW ws)) = b at *
        generalize tx (txW (.inf (setOf (memW ws)))) = t2 at *
        generalize tx l = t at *
        cases c with
        | true =>
          rw [if_pos rfl]
          simp_all_arith! [io__law_text, ht, hn2]
        | false =>
          rw [if_neg (by decide)]
          simp_all_arith! [io__law_text, ht, hn2]
      by_cases h3 : txW (.inf (setOf (memW ws))) = l
      · obtain ⟨e1, hr, he1⟩ := fin1 true _ (decide_eq_true h3) rfl
        rw [if_pos h3]
        unfold x__law_due at hr
        rw [hr]
        exact fin_one he1
      · obtain ⟨e1, hr, he1⟩ := fin1 false _ (decide_eq_false h3) rfl
        rw [if_neg h3]
        unfold x__law_due at hr
        rw [hr]
        exact fin_one he1
    · rw [decide_eq_false h0] at hne
      rw [if_neg h0]
      show _ = FA.ok false .non _
      generalize tL (w0 :: ws) = A at *
      generalize tx w0 = t0 at *
      generalize tx l = t at *
      simp_all_arith [h2, hsp, hg, hne]
end
/-! K32F: a worth looked at -/
theorem toldN (n : Nat) : fs_Numbered__told.F [.ins "Numbered" [("number", nD n)]] = .ok false (.tup [.str "number", nD n]) [.ins "Numbered" [("number", nD n)]] := by
  rw [eq_Numbered__told]; unfold x_Numbered__told; simp_all_arith [ft_n]
theorem toldE (n : Nat) : fs_Endless__told.F [.ins "Endless" [("bits", nD n)]] = .ok false (.tup [.str "endless", nD n]) [.ins "Endless" [("bits", nD n)]] := by
  rw [eq_Endless__told]; unfold x_Endless__told; simp_all_arith [ft_e]
theorem endW (d : D) : fs_Worth__is_endless.F [d] = .ok false (.bl false) [d] := by
  rw [eq_Worth__is_endless]; unfold x_Worth__is_endless; simp_all_arith []
theorem endE (d : D) : fs_Endless__is_endless.F [d] = .ok false (.bl true) [d] := by
  rw [eq_Endless__is_endless]; unfold x_Endless__is_endless; simp_all_arith []
theorem outN (n : Nat) : fs_Numbered__outcome.F [.ins "Numbered" [("number", nD n)]] = .ok false (.str (if n = 0 then "lost" else "won")) [.ins "Numbered" [("number", nD n)]] := by
  rw [eq_Numbered__outcome]
  unfold x_Numbered__outcome
  by_cases h : n = 0
  · have c := cdec_t (show (n : Int) = 0 by omega)
    rw [if_pos h]
    simp_all_arith [ft_n, c]
  · have c := cdec_f (show ¬ (n : Int) = 0 by omega)
    rw [if_neg h]
    simp_all_arith [ft_n, c]
theorem outE (b : Nat) : fs_Endless__outcome.F [.ins "Endless" [("bits", nD b)]] = .ok false (.str (if b % 2 = 1 then "won" else "drawn")) [.ins "Endless" [("bits", nD b)]] := by
  rw [eq_Endless__outcome]
  unfold x_Endless__outcome
  have e1 := bAnd_nat b 1
  have e2 : b &&& 1 = b % 2 := Nat.and_one_is_mod b
  rw [e2] at e1
  have ha : dAnd (nD b) (.int 1) = .sh (nD (b % 2)) := by
    show RR.sh (.int (Builtin.bitAnd (b : Int) ((1 : Nat) : Int))) = _
    rw [e1]
  by_cases h : b % 2 = 1
  · have c : dEq (nD (b % 2)) (.int 1) = .sh (.bl true) := by
      have := enc_nat.dEq (b % 2) 1
      rwa [cdec_t h] at this
    rw [if_pos h]
    generalize nD (b % 2) = r at *
    simp_all_arith [ft_e, ha, c]
  · have c : dEq (nD (b % 2)) (.int 1) = .sh (.bl false) := by
      have := enc_nat.dEq (b % 2) 1
      rwa [cdec_f h] at this
    rw [if_neg h]
    generalize nD (b % 2) = r at *
    simp_all_arith [ft_e, ha, c]
theorem q_isn : (("is_endless" : Str) == "number") = false := by decide +kernel
theorem q_isb : (("is_endless" : Str) == "bits") = false := by decide +kernel
theorem q_tsn : (("told" : Str) == "number") = false := by decide +kernel
theorem q_tsb : (("told" : Str) == "bits") = false := by decide +kernel
theorem q_otn : (("outcome" : Str) == "number") = false := by decide +kernel
theorem q_otb : (("outcome" : Str) == "bits") = false := by decide +kernel
theorem ne_pair (z : Str) (hz : PyData.strOk z = true) (n : Nat) : dNe (.tup [.str z, nD n]) (.tup [.str z, nD n]) = .sh (.bl false) := by
  have := (enc_pair enc_str enc_nat).dNe ((⟨z, hz⟩ : Sg), n) (⟨z, hz⟩, n)
  rwa [cdec_t rfl] at this
theorem law_isN (n : Nat) (h : n ≤ 15) : fs__law_is.F [insW (.num n), tupW (.num n)] = .ok false (.bl true) [insW (.num n), tupW (.num n)] := by
  have hI : insW (.num n) = .ins "Numbered" [("number", nD n)] := rfl
  have hT : tupW (.num n) = .tup [.str "number", nD n] := rfl
  have k1 : dIsiC IT (.ins "Numbered" [("number", nD n)]) (.cls "Numbered") = .sh (.bl true) := rfl
  have k2 : dIsiC IT (.ins "Numbered" [("number", nD n)]) (.cls "Endless") = .sh (.bl false) := rfl
  have k3 : dIsiC IT (.ins "Numbered" [("number", nD n)]) (.cls "Worth") = .sh (.bl true) := rfl
  have g0 : dGi (.tup [.str "number", nD n]) (.int 0) = .sh (.str "number") := rfl
  have g1 : dGi (.tup [.str "number", nD n]) (.int 1) = .sh (nD n) := rfl
  have he : dEq (.str "number") (.str "endless") = .sh (.bl false) := eqS _ _
  have hl : dNe (.lst [.bl true, .bl false, .bl true]) (.lst [.bl true, .bl false, .bl true]) = .sh (.bl false) := by
    have := (enc_lst enc_bl).dNe [true, false, true] [true, false, true]
    rwa [cdec_t rfl] at this
  have hb : dNe (.bl false) (.bl false) = .sh (.bl false) := by
    have := enc_bl.dNe false false
    rwa [cdec_t rfl] at this
  have e1 := endW (.ins "Numbered" [("number", nD n)])
  have t1 := toldN n
  have i1 : dIsi (.tup [.str "number", nD n]) (.ty "tuple") = .sh (.bl true) := dIsi_T rfl (by decide +kernel)
  have i2 : dIsi (nD n) (.ty "bool") = .sh (.bl false) := dIsi_T rfl (by decide +kernel)
  have np := ne_pair "number" (by decide +kernel) n
  have tx1 := textN n h
  have lt := law_text_ok (w := .num n) h
  have ha := txW_asc (w := .num n) h
  have teq := eq_tx ha ha
  rw [decide_eq_true rfl] at teq
  have o1 := outN n
  have hi0 : dInt (.bl false) = .sh (.int 0) := rfl
  have hi1 : dInt (.bl true) = .sh (.int 1) := rfl
  have x0 := dIx_l2_0 (.str "lost") (.str "won")
  have x1 := dIx_l2_1 (.str "lost") (.str "won")
  rw [hI] at tx1
  rw [hT] at lt
  rw [hI, hT, eq__law_is]
  unfold x__law_is
  by_cases h0 : n = 0
  · rw [if_pos h0] at o1
    have hg : dGt (nD n) (.int 0) = .sh (.bl false) := by
      show RR.sh (.bl (cdec ((0 : Int) < (n : Int)))) = _
      rw [cdec_f (by omega)]
    have oe : dEq (.str "lost") (.str "lost") = .sh (.bl true) := eqS _ _
    generalize hTT : D.tup [.str "number", nD n] = T at *
    generalize tx (txW (.num n)) = t at *
    generalize nD n = d at *
    simp_all_arith! [k1, k2, k3, g0, g1, he, hl, hb, io_Worth__is_endless, e1, q_nW, q_isn, hg, hi0, x0, io_Numbered__told, t1, q_tsn, i1, i2, np, io_Numbered__text, tx1, q_xn, io__law_text, lt, teq, io_Numbered__outcome, o1, q_otn, oe, List.lookup_nil]
  · rw [if_neg h0] at o1
    have hg : dGt (nD n) (.int 0) = .sh (.bl true) := by
      show RR.sh (.bl (cdec ((0 : Int) < (n : Int)))) = _
      rw [cdec_t (by omega)]
    have oe : dEq (.str "won") (.str "won") = .sh (.bl true) := eqS _ _
    generalize hTT : D.tup [.str "number", nD n] = T at *
    generalize tx (txW (.num n)) = t at *
    generalize nD n = d at *
    simp_all_arith! [k1, k2, k3, g0, g1, he, hl, hb, io_Worth__is_endless, e1, q_nW, q_isn, hg, hi1, x1, io_Numbered__told, t1, q_tsn, i1, i2, np, io_Numbered__text, tx1, q_xn, io__law_text, lt, teq, io_Numbered__outcome, o1, q_otn, oe, List.lookup_nil]
theorem law_isE (b : Nat) (h : b ≤ 65535) : fs__law_is.F [insW (.inf b), tupW (.inf b)] = .ok false (.bl true) [insW (.inf b), tupW (.inf b)] := by
  have hI : insW (.inf b) = .ins "Endless" [("bits", nD b)] := rfl
  have hT : tupW (.inf b) = .tup [.str "endless", nD b] := rfl
  have k1 : dIsiC IT (.ins "Endless" [("bits", nD b)]) (.cls "Numbered") = .sh (.bl false) := rfl
  have k2 : dIsiC IT (.ins "Endless" [("bits", nD b)]) (.cls "Endless") = .sh (.bl true) := rfl
  have k3 : dIsiC IT (.ins "Endless" [("bits", nD b)]) (.cls "Worth") = .sh (.bl true) := rfl
  have g0 : dGi (.tup [.str "endless", nD b]) (.int 0) = .sh (.str "endless") := rfl
  have g1 : dGi (.tup [.str "endless", nD b]) (.int 1) = .sh (nD b) := rfl
  have he : dEq (.str "endless") (.str "endless") = .sh (.bl true) := eqS _ _
  have hl : dNe (.lst [.bl false, .bl true, .bl true]) (.lst [.bl false, .bl true, .bl true]) = .sh (.bl false) := by
    have := (enc_lst enc_bl).dNe [false, true, true] [false, true, true]
    rwa [cdec_t rfl] at this
  have hb : dNe (.bl true) (.bl true) = .sh (.bl false) := by
    have := enc_bl.dNe true true
    rwa [cdec_t rfl] at this
  have e1 := endE (.ins "Endless" [("bits", nD b)])
  have t1 := toldE b
  have i1 : dIsi (.tup [.str "endless", nD b]) (.ty "tuple") = .sh (.bl true) := dIsi_T rfl (by decide +kernel)
  have i2 : dIsi (nD b) (.ty "bool") = .sh (.bl false) := dIsi_T rfl (by decide +kernel)
  have np := ne_pair "endless" (by decide +kernel) b
  have tx1 := textE b
  have lt := law_text_ok (w := .inf b) h
  have ha := txW_asc (w := .inf b) h
  have teq := eq_tx ha ha
  rw [decide_eq_true rfl] at teq
  have o1 := outE b
  obtain ⟨c0, v0, w0, hg, hi0, hx0⟩ : ∃ (c : Bool) (v : D) (w : Str), dGt (nD b) (.int 0) = .sh (.bl c) ∧ dInt (.bl c) = .sh v ∧ dIx (.lst [.str "lost", .str "won"]) v = .sh (.str w) := by
    by_cases h0 : 0 < b
    · refine ⟨true, .int 1, "won", ?_, rfl, dIx_l2_1 _ _⟩
      show RR.sh (.bl (cdec ((0 : Int) < (b : Int)))) = _
      rw [cdec_t (by omega)]
    · refine ⟨false, .int 0, "lost", ?_, rfl, dIx_l2_0 _ _⟩
      show RR.sh (.bl (cdec ((0 : Int) < (b : Int)))) = _
      rw [cdec_f (by omega)]
  have hm : dMod (nD b) (.int 2) = .sh (nD (b % 2)) := by
    rw [dMod_i (b : Int) 2 (by decide)]
    show RR.sh (.int _) = .sh (.int _)
    rw [Int.natCast_emod]
    rfl
  have x0 := dIx_l2_0 (.str "drawn") (.str "won")
  have x1 := dIx_l2_1 (.str "drawn") (.str "won")
  rw [hI] at tx1
  rw [hT] at lt
  rw [hI, hT, eq__law_is]
  unfold x__law_is
  by_cases h0 : b % 2 = 1
  · rw [if_pos h0] at o1
    rw [h0] at hm
    have hm : dMod (nD b) (.int 2) = .sh (.int 1) := hm
    have oe : dEq (.str "won") (.str "won") = .sh (.bl true) := eqS _ _
    refine congrArg (fin _ _) (?_ : _ = SA.rt ⟨.sh, .bl true⟩ [sh (.ins "Endless" [("bits", nD b)]), sh (.tup [.str "endless", nD b]), ow (.lst [.bl false, .bl true, .bl true]), sh (.bl true), sh (.str "won")])
    generalize hTT : D.tup [.str "endless", nD b] = T at *
    generalize tx (txW (.inf b)) = t at *
    generalize hII : D.ins "Endless" [("bits", nD b)] = I at *
    refine seq_to (e1 := [sh I, sh T, ow (.lst [.bl false, .bl true, .bl true]), none, none]) (by simp_all_arith [k1, k2, k3]) ?_
    refine seq_to (e1 := [sh I, sh T, ow (.lst [.bl false, .bl true, .bl true]), sh (.bl true), none]) (by simp_all_arith [g0, he]) ?_
    refine seq_to (e1 := [sh I, sh T, ow (.lst [.bl false, .bl true, .bl true]), sh (.bl true), none]) ?_ ?_
    · subst hII
      simp_all_arith! [hl, hb, io_Endless__is_endless, e1, q_eW, q_eN, q_isb, List.lookup_nil]
    refine seq_to (e1 := [sh I, sh T, ow (.lst [.bl false, .bl true, .bl true]), sh (.bl true), sh (.str w0)]) (by simp_all_arith [g1, hg, hi0, hx0]) ?_
    refine seq_to (e1 := [sh I, sh T, ow (.lst [.bl false, .bl true, .bl true]), sh (.bl true), sh (.str "won")]) (by simp_all_arith [g1, hm, x1]) ?_
    refine seq_to (e1 := [sh I, sh T, ow (.lst [.bl false, .bl true, .bl true]), sh (.bl true), sh (.str "won")]) ?_ ?_
    · subst hII
      simp_all_arith! [io_Endless__told, t1, q_eW, q_eN, q_tsb, g1, i1, i2, np, List.lookup_nil]
    · subst hII
      simp_all_arith! [io_Endless__text, tx1, q_eW, q_eN, q_xb, io__law_text, lt, teq, io_Endless__outcome, o1, q_otb, oe, List.lookup_nil]
  · rw [if_neg h0] at o1
    rw [show b % 2 = 0 by omega] at hm
    have hm : dMod (nD b) (.int 2) = .sh (.int 0) := hm
    have oe : dEq (.str "drawn") (.str "drawn") = .sh (.bl true) := eqS _ _
    refine congrArg (fin _ _) (?_ : _ = SA.rt ⟨.sh, .bl true⟩ [sh (.ins "Endless" [("bits", nD b)]), sh (.tup [.str "endless", nD b]), ow (.lst [.bl false, .bl true, .bl true]), sh (.bl true), sh (.str "drawn")])
    generalize hTT : D.tup [.str "endless", nD b] = T at *
    generalize tx (txW (.inf b)) = t at *
    generalize hII : D.ins "Endless" [("bits", nD b)] = I at *
    refine seq_to (e1 := [sh I, sh T, ow (.lst [.bl false, .bl true, .bl true]), none, none]) (by simp_all_arith [k1, k2, k3]) ?_
    refine seq_to (e1 := [sh I, sh T, ow (.lst [.bl false, .bl true, .bl true]), sh (.bl true), none]) (by simp_all_arith [g0, he]) ?_
    refine seq_to (e1 := [sh I, sh T, ow (.lst [.bl false, .bl true, .bl true]), sh (.bl true), none]) ?_ ?_
    · subst hII
      simp_all_arith! [hl, hb, io_Endless__is_endless, e1, q_eW, q_eN, q_isb, List.lookup_nil]
    refine seq_to (e1 := [sh I, sh T, ow (.lst [.bl false, .bl true, .bl true]), sh (.bl true), sh (.str w0)]) (by simp_all_arith [g1, hg, hi0, hx0]) ?_
    refine seq_to (e1 := [sh I, sh T, ow (.lst [.bl false, .bl true, .bl true]), sh (.bl true), sh (.str "drawn")]) (by simp_all_arith [g1, hm, x0]) ?_
    refine seq_to (e1 := [sh I, sh T, ow (.lst [.bl false, .bl true, .bl true]), sh (.bl true), sh (.str "drawn")]) ?_ ?_
    · subst hII
      simp_all_arith! [io_Endless__told, t1, q_eW, q_eN, q_tsb, g1, i1, i2, np, List.lookup_nil]
    · subst hII
      simp_all_arith! [io_Endless__text, tx1, q_eW, q_eN, q_xb, io__law_text, lt, teq, io_Endless__outcome, o1, q_otb, oe, List.lookup_nil]
theorem law_is_ok {w : Wo} (h : w.ok) : fs__law_is.F [insW w, tupW w] = .ok false (.bl true) [insW w, tupW w] := by
  cases w with
  | num n => exact law_isN n h
  | inf b => exact law_isE b h
/-! K32G: a text spoilt -/
noncomputable def sgns : List Nat := [48, 49, 50, 51, 52, 53, 54, 55, 56, 57, 32, 45, 101, 120, 44, 43, 95, 69]
theorem sgns_eq : ("0123456789 -ex,+_E" : Str) = tx sgns := by decide +kernel
theorem sgn_at (c : Nat) (h : c < 18) : ∃ s, s < 128 ∧ dIx (.str "0123456789 -ex,+_E") (nD c) = .sh (.str (tx [s])) := by
  have hl : c < sgns.length := h
  refine ⟨sgns[c], ?_, ?_⟩
  · exact (by decide : ∀ x ∈ sgns, x < 128) _ (List.getElem_mem hl)
  · rw [sgns_eq]
    exact dIx_tx _ c _ (List.getElem?_eq_getElem hl) (by simp [sgns])
noncomputable def sufs : List (List Nat) := [[32, 49, 54], [32], [10], [32, 48, 55], [32, 49, 48, 48], [32, 43, 51], [32, 49, 95, 50]]
theorem sufs_eq : [D.str " 16", .str " ", .str "\n", .str " 07", .str " 100", .str " +3", .str " 1_2"] = tL sufs := by
  have e1 : (" 16" : Str) = tx [32, 49, 54] := by decide +kernel
  have e2 : (" " : Str) = tx [32] := by decide +kernel
  have e3 : ("\n" : Str) = tx [10] := by decide +kernel
  have e4 : (" 07" : Str) = tx [32, 48, 55] := by decide +kernel
  have e5 : (" 100" : Str) = tx [32, 49, 48, 48] := by decide +kernel
  have e6 : (" +3" : Str) = tx [32, 43, 51] := by decide +kernel
  have e7 : (" 1_2" : Str) = tx [32, 49, 95, 50] := by decide +kernel
  rw [e1, e2, e3, e4, e5, e6, e7]
  rfl
theorem suf_at (c : Nat) (h : c < 7) : ∃ s, Asc s ∧ s.length ≤ 4 ∧ dIx (.lst [.str " 16", .str " ", .str "\n", .str " 07", .str " 100", .str " +3", .str " 1_2"]) (nD c) = .sh (.str (tx s)) := by
  have hl : c < sufs.length := h
  refine ⟨sufs[c], ?_, ?_, ?_⟩
  · exact (by decide : ∀ x ∈ sufs, ∀ y ∈ x, y < 128) _ (List.getElem_mem hl)
  · exact (by decide : ∀ x ∈ sufs, x.length ≤ 4) _ (List.getElem_mem hl)
  · rw [sufs_eq]
    refine dIx_nat ?_
    unfold tL
    rw [List.getElem?_map, List.getElem?_eq_getElem hl]
    rfl
theorem fSl_last (xs : List D) : fSl true false [.lst xs, .int (-1)] = .ow (.lst (xs.drop (xs.length - 1))) := by
  show sliceD (.lst xs) (some (-1)) none = _
  show RR.ow (.lst (cutD xs (some (-1)) none)) = _
  have n1 : HT.sIx xs.length 0 (some (-1)) = xs.length - 1 := by
    show (if (-1 : Int) < 0 then ((-1 : Int) + (xs.length : Int)).toNat else min (-1 : Int).toNat xs.length) = _
    rw [if_pos (by omega)]
    omega
  unfold VM.cutD
  rw [HT.sIx_none, n1]
  congr 2
  rw [List.take_of_length_le (by simp)]
theorem eq_n (a : Nat) (b : Nat) : dEq (nD a) (.int (b : Int)) = .sh (.bl (decide (a = b))) := by
  have := enc_nat.dEq a b
  rwa [cdec_eq] at this
theorem join_ok {ws : List (List Nat)} (h : ∀ w ∈ ws, Asc w) (hs : (ws.map List.length).sum + ws.length ≤ 300) : fJoin " " [.lst (tL ws)] = .sh (.str (tx (TL.joinL [32] ws))) ∧ Asc (TL.joinL [32] ws) ∧ (TL.joinL [32] ws).length ≤ 300 := by
  refine ⟨?_, fun c hc => ?_, ?_⟩
  · rw [blank_eq]
    exact join_tx _ _ (by rw [List.length_singleton, Nat.mul_one]; omega)
  · rcases joinL_mem _ _ c hc with h1 | ⟨w, hw, h1⟩
    · rw [List.mem_singleton] at h1; omega
    · exact h w hw c h1
  · have := joinL_len [32] ws
    rw [List.length_singleton, Nat.mul_one] at this
    omega
theorem tL_app (a b : List (List Nat)) : tL (a ++ b) = tL a ++ tL b := List.map_append
theorem tL_take (a : List (List Nat)) (k : Nat) : (tL a).take k = tL (a.take k) := (List.map_take ..).symm
theorem tL_drop (a : List (List Nat)) (k : Nat) : (tL a).drop k = tL (a.drop k) := (List.map_drop ..).symm
theorem tL_rev (a : List (List Nat)) : (tL a).reverse = tL a.reverse := (List.map_reverse ..).symm
theorem dAdd_tL (a b : List (List Nat)) (h : a.length + b.length ≤ 1000) : dAdd (.lst (tL a)) (.lst (tL b)) = .ow (.lst (tL (a ++ b))) := by
  rw [tL_app]
  exact if_pos (by rw [sizeLine_eq]; unfold tL; simp only [List.length_map]; omega)
section
variable {l : List Nat}
theorem spoilt_head (q : Src) (hl : l.length ≤ 60) : ∃ (q' : Src) (w at_ s : Nat), w < 8 ∧ s < 128 ∧ ∀ r, (xSeq (xIf (mBl (m2 dEq (mV 2) (mC (.int 0)))) (xSeq (xRet (m2 dAdd (m2 dAdd (mN (fSl false true) (lCons (mV 1) (lCons (mV 3) lNil))) (mV 4)) (mN (fSl true false) (lCons (mV 1) (lCons (mV 3) lNil))))) (xSkip)) (xSkip)) (xSeq (xIf (mBl (m2 dEq (mV 2) (mC (.int 1)))) (xSeq (xRet (m2 dAdd (mN (fSl false true) (lCons (mV 1) (lCons (mV 3) lNil))) (mN (fSl true false) (lCons (mV 1) (lCons (m2 dAdd (mV 3) (mC (.int 1))) lNil))))) (xSkip)) (xSkip)) (xSeq (xIf (mBl (m2 dEq (mV 2) (mC (.int 2)))) (xSeq (xRet (m2 dAdd (m2 dAdd (mN (fSl false true) (lCons (mV 1) (lCons (mV 3) lNil))) (mV 4)) (mN (fSl true false) (lCons (mV 1) (lCons (m2 dAdd (mV 3) (mC (.int 1))) lNil))))) (xSkip)) (xSkip)) (xSeq (xIf (mBl (m2 dEq (mV 2) (mC (.int 3)))) (xSeq (xRet (mTM fJoin (mC (.str " ")) (lCons (m2 dAdd (mN (fSl false true) (lCons (mV 5) (lCons (mC (.int 1)) lNil))) (m1 dRevList (mN (fSl true false) (lCons (mV 5) (lCons (mC (.int 1)) lNil))))) lNil))) (xSkip)) (xSkip)) (xSeq (xIf (mBl (m2 dEq (mV 2) (mC (.int 4)))) (xSeq (xRet (mTM fJoin (mC (.str " ")) (lCons (m2 dAdd (mV 5) (mN (fSl true false) (lCons (mV 5) (lCons (m1 dNeg (mC (.int 1))) lNil)))) lNil))) (xSkip)) (xSkip)) (xSeq (xIf (mBl (m2 dEq (mV 2) (mC (.int 5)))) (xSeq (xRet (m2 dAdd (mV 1) (m2 dIx (mLst (lCons (mF (mC (.str " 16"))) (lCons (mF (mC (.str " "))) (lCons (mF (mC (.str "\n"))) (lCons (mF (mC (.str " 07"))) (lCons (mF (mC (.str " 100"))) (lCons (mF (mC (.str " +3"))) (lCons (mF (mC (.str " 1_2"))) (lNil))))))))) (mCall fs__law_take (lCons (mV 0) (lCons (mT (mC (.int 7))) (lNil))))))) (xSkip)) (xSkip)) (xSeq (xRet (mV 1)) (xSkip)))))))).run [io (srcS q'), sh (.str (tx l)), sh (nD w), sh (nD at_), sh (.str (tx [s])), ow (.lst (tL (spC 32 l)))] = r → x__law_spoilt.run [io (srcS q), sh (.str (tx l)), none, none, none, none] = r := by
  have t1 := take_I q 8 (by omega) (by omega)
  have e1 := tkI_N q 8 (by omega)
  have l1 : tkN q 8 < 8 := tkN_lt q (k := 8) (by omega)
  have t2 := take_I (nxS q 8) ((l.length : Int) + 1) (by omega) (by omega)
  have e2 := tkI_N (nxS q 8) ((l.length : Int) + 1) (by omega)
  have t3 := take_I (nxS (nxS q 8) ((l.length : Int) + 1)) 18 (by omega) (by omega)
  have e3 := tkI_N (nxS (nxS q 8) ((l.length : Int) + 1)) 18 (by omega)
  have l3 : tkN (nxS (nxS q 8) ((l.length : Int) + 1)) 18 < 18 := tkN_lt _ (k := 18) (by omega)
  obtain ⟨s, hs, hx⟩ := sgn_at _ l3
  refine ⟨nxS (nxS (nxS q 8) ((l.length : Int) + 1)) 18, tkN q 8, tkN (nxS q 8) ((l.length : Int) + 1), s, l1, hs, fun r hr => ?_⟩
  have hd := dLen_tx l (by omega)
  have ha : dAdd (nD l.length) (.int 1) = .sh (.int ((l.length : Int) + 1)) := rfl
  have hsp : fSplit (tx l) [.str " "] = .ow (.lst (tL (spC 32 l))) := by
    rw [blank_eq]
    exact split_tx 32 (by omega) l (by omega)
  unfold x__law_spoilt
  generalize nxS (nxS (nxS q 8) ((l.length : Int) + 1)) 18 = q3 at *
  generalize tkN (nxS (nxS q 8) ((l.length : Int) + 1)) 18 = c at *
  generalize tkN (nxS q 8) ((l.length : Int) + 1) = at_ at *
  generalize nxS (nxS q 8) ((l.length : Int) + 1) = q2 at *
  generalize nxS q 8 = q1 at *
  generalize tL (spC 32 l) = A at *
  generalize tkN q 8 = w at *
  refine seq_to (e1 := [io (srcS q1), sh (.str (tx l)), sh (nD w), none, none, none]) ?_ ?_
  · generalize tx l = t at *
    simp_all_arith! [io__law_take, t1, e1]
  refine seq_to (e1 := [io (srcS q2), sh (.str (tx l)), sh (nD w), sh (nD at_), none, none]) ?_ ?_
  · generalize tx l = t at *
    simp_all_arith! [hd, ha, io__law_take, t2, e2]
  refine seq_to (e1 := [io (srcS q3), sh (.str (tx l)), sh (nD w), sh (nD at_), sh (.str (tx [s])), none]) ?_ ?_
  · generalize tx l = t at *
    generalize tx [s] = ts at *
    simp_all_arith! [io__law_take, t3, e3, hx]
  refine seq_to (e1 := [io (srcS q3), sh (.str (tx l)), sh (nD w), sh (nD at_), sh (.str (tx [s])), ow (.lst A)]) ?_ hr
  · generalize tx l = t at *
    generalize tx [s] = ts at *
    simp_all_arith [hsp]
end
/-! K32H: a text spoilt, each way -/
section
variable {l : List Nat}
theorem spoilt_ok (q : Src) (hl : l.length ≤ 60) (ha : Asc l) : ∃ (q' : Src) (l' : List Nat), Asc l' ∧ l'.length ≤ 300 ∧ fs__law_spoilt.F [srcS q, .str (tx l)] = .ok false (.str (tx l')) [srcS q', .str (tx l)] := by
  obtain ⟨q1, w, at_, s, hw, hs, hh⟩ := spoilt_head q hl
  suffices h : ∃ (q' : Src) (l' : List Nat) (e1 : VM.Env), Asc l' ∧ l'.length ≤ 300 ∧ e1[0]? = some (io (srcS q')) ∧ (xSeq (xIf (mBl (m2 dEq (mV 2) (mC (.int 0)))) (xSeq (xRet (m2 dAdd (m2 dAdd (mN (fSl false true) (lCons (mV 1) (lCons (mV 3) lNil))) (mV 4)) (mN (fSl true false) (lCons (mV 1) (lCons (mV 3) lNil))))) (xSkip)) (xSkip)) (xSeq (xIf (mBl (m2 dEq (mV 2) (mC (.int 1)))) (xSeq (xRet (m2 dAdd (mN (fSl false true) (lCons (mV 1) (lCons (mV 3) lNil))) (mN (fSl true false) (lCons (mV 1) (lCons (m2 dAdd (mV 3) (mC (.int 1))) lNil))))) (xSkip)) (xSkip)) (xSeq (xIf (mBl (m2 dEq (mV 2) (mC (.int 2)))) (xSeq (xRet (m2 dAdd (m2 dAdd (mN (fSl false true) (lCons (mV 1) (lCons (mV 3) lNil))) (mV 4)) (mN (fSl true false) (lCons (mV 1) (lCons (m2 dAdd (mV 3) (mC (.int 1))) lNil))))) (xSkip)) (xSkip)) (xSeq (xIf (mBl (m2 dEq (mV 2) (mC (.int 3)))) (xSeq (xRet (mTM fJoin (mC (.str " ")) (lCons (m2 dAdd (mN (fSl false true) (lCons (mV 5) (lCons (mC (.int 1)) lNil))) (m1 dRevList (mN (fSl true false) (lCons (mV 5) (lCons (mC (.int 1)) lNil))))) lNil))) (xSkip)) (xSkip)) (xSeq (xIf (mBl (m2 dEq (mV 2) (mC (.int 4)))) (xSeq (xRet (mTM fJoin (mC (.str " ")) (lCons (m2 dAdd (mV 5) (mN (fSl true false) (lCons (mV 5) (lCons (m1 dNeg (mC (.int 1))) lNil)))) lNil))) (xSkip)) (xSkip)) (xSeq (xIf (mBl (m2 dEq (mV 2) (mC (.int 5)))) (xSeq (xRet (m2 dAdd (mV 1) (m2 dIx (mLst (lCons (mF (mC (.str " 16"))) (lCons (mF (mC (.str " "))) (lCons (mF (mC (.str "\n"))) (lCons (mF (mC (.str " 07"))) (lCons (mF (mC (.str " 100"))) (lCons (mF (mC (.str " +3"))) (lCons (mF (mC (.str " 1_2"))) (lNil))))))))) (mCall fs__law_take (lCons (mV 0) (lCons (mT (mC (.int 7))) (lNil))))))) (xSkip)) (xSkip)) (xSeq (xRet (mV 1)) (xSkip)))))))).run [io (srcS q1), sh (.str (tx l)), sh (nD w), sh (nD at_), sh (.str (tx [s])), ow (.lst (tL (spC 32 l)))] = .rt ⟨.sh, .str (tx l')⟩ e1 by
    obtain ⟨q', l', e1, h1, h2, h3, h4⟩ := h
    refine ⟨q', l', h1, h2, ?_⟩
    rw [eq__law_spoilt, hh _ h4]
    match e1, h3 with
    | x :: es, h3 => cases h3; rfl
  clear hh
  have has : Asc [s] := fun c hc => by rw [List.mem_singleton] at hc; omega
  have c1 : fSl false true [.str (tx l), nD at_] = .sh (.str (tx (l.take at_))) := fSl_hi_tx l at_ (by omega)
  have c2 : fSl true false [.str (tx l), nD at_] = .sh (.str (tx (l.drop at_))) := fSl_lo_tx l at_ (by omega)
  have c3 : fSl true false [.str (tx l), nD (at_ + 1)] = .sh (.str (tx (l.drop (at_ + 1)))) := fSl_lo_tx l (at_ + 1) (by omega)
  have hn : dNeg (.int 1) = .sh (.int (-1)) := rfl
  have ca : dAdd (nD at_) (.int 1) = .sh (nD (at_ + 1)) := by
    show RR.sh (.int _) = .sh (.int _)
    rw [Int.natCast_add]
    rfl
  have lt : (l.take at_).length ≤ 60 := by rw [List.length_take]; omega
  have ld : ∀ k, (l.drop k).length ≤ 60 := fun k => by rw [List.length_drop]; omega
  have hW := spC_len 32 l
  have hWa : ∀ w ∈ spC 32 l, Asc w := fun w hw c hc => ha c (spC_mem hw c hc)
  have hW1 : (spC 32 l).length ≤ 61 := by omega
  rcases (by omega : w = 0 ∨ w = 1 ∨ w = 2 ∨ w = 3 ∨ w = 4 ∨ w = 5 ∨ w = 6 ∨ w = 7) with rfl | rfl | rfl | rfl | rfl | rfl | rfl | rfl
  · have e0 : dEq (nD 0) (.int 0) = .sh (.bl true) := eq_n 0 0
    have a1 := dAdd_tx (l.take at_) [s] (by rw [List.length_singleton]; omega)
    have a2 := dAdd_tx (l.take at_ ++ [s]) (l.drop at_) (by have := ld at_; rw [List.length_append, List.length_singleton]; omega)
    refine ⟨q1, l.take at_ ++ [s] ++ l.drop at_, [io (srcS q1), sh (.str (tx l)), sh (nD 0), sh (nD at_), sh (.str (tx [s])), ow (.lst (tL (spC 32 l)))], ((ha.take _).app has).app (ha.drop _), by have := ld at_; rw [List.length_append, List.length_append, List.length_singleton]; omega, rfl, ?_⟩
    clear hWa hW hW1 lt ld has
    generalize tL (spC 32 l) = A at *
    generalize nD 0 = d at *
    generalize tx (l.take at_ ++ [s] ++ l.drop at_) = r2 at *
    generalize tx (l.take at_ ++ [s]) = r1 at *
    generalize nD at_ = da at *
    generalize tx (l.drop at_) = t2 at *
    generalize tx (l.take at_) = t1 at *
    generalize tx [s] = ts at *
    generalize tx l = t at *
    simp_all_arith [e0, c1, c2, a1, a2]
  · have e0 : dEq (nD 1) (.int 0) = .sh (.bl false) := eq_n 1 0
    have e1 : dEq (nD 1) (.int 1) = .sh (.bl true) := eq_n 1 1
    have a1 := dAdd_tx (l.take at_) (l.drop (at_ + 1)) (by have := ld (at_ + 1); omega)
    refine ⟨q1, l.take at_ ++ l.drop (at_ + 1), [io (srcS q1), sh (.str (tx l)), sh (nD 1), sh (nD at_), sh (.str (tx [s])), ow (.lst (tL (spC 32 l)))], (ha.take _).app (ha.drop _), by have := ld (at_ + 1); rw [List.length_append]; omega, rfl, ?_⟩
    clear hWa hW hW1 lt ld has
    generalize tL (spC 32 l) = A at *
    generalize nD 1 = d at *
    generalize tx (l.take at_ ++ l.drop (at_ + 1)) = r1 at *
    generalize nD (at_ + 1) = da1 at *
    generalize nD at_ = da at *
    generalize tx (l.drop (at_ + 1)) = t2 at *
    generalize tx (l.take at_) = t1 at *
    generalize tx [s] = ts at *
    generalize tx l = t at *
    simp_all_arith [e0, e1, c1, c3, ca, a1]
  · have e0 : dEq (nD 2) (.int 0) = .sh (.bl false) := eq_n 2 0
    have e1 : dEq (nD 2) (.int 1) = .sh (.bl false) := eq_n 2 1
    have e2 : dEq (nD 2) (.int 2) = .sh (.bl true) := eq_n 2 2
    have a1 := dAdd_tx (l.take at_) [s] (by rw [List.length_singleton]; omega)
    have a2 := dAdd_tx (l.take at_ ++ [s]) (l.drop (at_ + 1)) (by have := ld (at_ + 1); rw [List.length_append, List.length_singleton]; omega)
    refine ⟨q1, l.take at_ ++ [s] ++ l.drop (at_ + 1), [io (srcS q1), sh (.str (tx l)), sh (nD 2), sh (nD at_), sh (.str (tx [s])), ow (.lst (tL (spC 32 l)))], ((ha.take _).app has).app (ha.drop _), by have := ld (at_ + 1); rw [List.length_append, List.length_append, List.length_singleton]; omega, rfl, ?_⟩
    clear hWa hW hW1 lt ld has
    generalize tL (spC 32 l) = A at *
    generalize nD 2 = d at *
    generalize tx (l.take at_ ++ [s] ++ l.drop (at_ + 1)) = r2 at *
    generalize tx (l.take at_ ++ [s]) = r1 at *
    generalize nD (at_ + 1) = da1 at *
    generalize nD at_ = da at *
    generalize tx (l.drop (at_ + 1)) = t2 at *
    generalize tx (l.take at_) = t1 at *
    generalize tx [s] = ts at *
    generalize tx l = t at *
    simp_all_arith [e0, e1, e2, c1, c3, ca, a1, a2]
  · have e0 : dEq (nD 3) (.int 0) = .sh (.bl false) := eq_n 3 0
    have e1 : dEq (nD 3) (.int 1) = .sh (.bl false) := eq_n 3 1
    have e2 : dEq (nD 3) (.int 2) = .sh (.bl false) := eq_n 3 2
    have e3 : dEq (nD 3) (.int 3) = .sh (.bl true) := eq_n 3 3
    have j1 : fSl false true [.lst (tL (spC 32 l)), .int 1] = .ow (.lst (tL ((spC 32 l).take 1))) := by rw [← tL_take]; exact fSl_hi_lst _ 1
    have j2 : fSl true false [.lst (tL (spC 32 l)), .int 1] = .ow (.lst (tL ((spC 32 l).drop 1))) := by rw [← tL_drop]; exact fSl_lo_lst _ 1
    have j3 : dRevList (.lst (tL ((spC 32 l).drop 1))) = .ow (.lst (tL ((spC 32 l).drop 1).reverse)) := by rw [← tL_rev]; exact dRevL_l _ (by unfold tL; rw [List.length_map, List.length_drop]; omega)
    have j4 := dAdd_tL ((spC 32 l).take 1) ((spC 32 l).drop 1).reverse (by rw [List.length_reverse, List.length_take, List.length_drop]; omega)
    have hp : ((spC 32 l).take 1 ++ ((spC 32 l).drop 1).reverse).Perm (spC 32 l) := ((List.reverse_perm _).append_left _).trans (by rw [List.take_append_drop])
    have hsum : (((spC 32 l).take 1 ++ ((spC 32 l).drop 1).reverse).map List.length).sum = ((spC 32 l).map List.length).sum := (hp.map _).sum_nat
    have hlen := hp.length_eq
    obtain ⟨j5, j6, j7⟩ := join_ok (ws := (spC 32 l).take 1 ++ ((spC 32 l).drop 1).reverse) (fun w hw => hWa w (hp.mem_iff.mp hw)) (by omega)
    refine ⟨q1, _, [io (srcS q1), sh (.str (tx l)), sh (nD 3), sh (nD at_), sh (.str (tx [s])), ow (.lst (tL (spC 32 l)))], j6, j7, rfl, ?_⟩
    clear hWa hW hW1 lt ld has hp hsum hlen j6 j7
    generalize tx (TL.joinL [32] ((spC 32 l).take 1 ++ ((spC 32 l).drop 1).reverse)) = r at *
    generalize tL ((spC 32 l).take 1 ++ ((spC 32 l).drop 1).reverse) = A4 at *
    generalize tL ((spC 32 l).drop 1).reverse = A3 at *
    generalize tL ((spC 32 l).drop 1) = A2 at *
    generalize tL ((spC 32 l).take 1) = A1 at *
    generalize tL (spC 32 l) = A at *
    generalize nD 3 = d at *
    generalize nD at_ = da at *
    generalize tx [s] = ts at *
    generalize tx l = t at *
    simp_all_arith [e0, e1, e2, e3, j1, j2, j3, j4, j5]
  · have e0 : dEq (nD 4) (.int 0) = .sh (.bl false) := eq_n 4 0
    have e1 : dEq (nD 4) (.int 1) = .sh (.bl false) := eq_n 4 1
    have e2 : dEq (nD 4) (.int 2) = .sh (.bl false) := eq_n 4 2
    have e3 : dEq (nD 4) (.int 3) = .sh (.bl false) := eq_n 4 3
    have e4 : dEq (nD 4) (.int 4) = .sh (.bl true) := eq_n 4 4
    have j1 : fSl true false [.lst (tL (spC 32 l)), .int (-1)] = .ow (.lst (tL ((spC 32 l).drop ((spC 32 l).length - 1)))) := by rw [← tL_drop, fSl_last]; unfold tL; rw [List.length_map]
    have j4 := dAdd_tL (spC 32 l) ((spC 32 l).drop ((spC 32 l).length - 1)) (by rw [List.length_drop]; omega)
    have hsum : (((spC 32 l).drop ((spC 32 l).length - 1)).map List.length).sum ≤ ((spC 32 l).map List.length).sum := by
      conv => rhs; rw [← List.take_append_drop ((spC 32 l).length - 1) (spC 32 l)]
      rw [List.map_append, List.sum_append]
      omega
    obtain ⟨j5, j6, j7⟩ := join_ok (ws := spC 32 l ++ (spC 32 l).drop ((spC 32 l).length - 1)) (fun w hw => (List.mem_append.mp hw).elim (hWa w) fun h => hWa w (List.mem_of_mem_drop h)) (by rw [List.map_append, List.sum_append, List.length_append, List.length_drop]; omega)
    refine ⟨q1, _, [io (srcS q1), sh (.str (tx l)), sh (nD 4), sh (nD at_), sh (.str (tx [s])), ow (.lst (tL (spC 32 l)))], j6, j7, rfl, ?_⟩
    clear hWa hW hW1 lt ld has hsum j6 j7
    generalize tx (TL.joinL [32] (spC 32 l ++ (spC 32 l).drop ((spC 32 l).length - 1))) = r at *
    generalize tL (spC 32 l ++ (spC 32 l).drop ((spC 32 l).length - 1)) = A4 at *
    generalize tL ((spC 32 l).drop ((spC 32 l).length - 1)) = A2 at *
    generalize tL (spC 32 l) = A at *
    generalize nD 4 = d at *
    generalize nD at_ = da at *
    generalize tx [s] = ts at *
    generalize tx l = t at *
    simp_all_arith [e0, e1, e2, e3, e4, hn, j1, j4, j5]
  · have e0 : dEq (nD 5) (.int 0) = .sh (.bl false) := eq_n 5 0
    have e1 : dEq (nD 5) (.int 1) = .sh (.bl false) := eq_n 5 1
    have e2 : dEq (nD 5) (.int 2) = .sh (.bl false) := eq_n 5 2
    have e3 : dEq (nD 5) (.int 3) = .sh (.bl false) := eq_n 5 3
    have e4 : dEq (nD 5) (.int 4) = .sh (.bl false) := eq_n 5 4
    have e5 : dEq (nD 5) (.int 5) = .sh (.bl true) := eq_n 5 5
    have t1 := take_I q1 7 (by omega) (by omega)
    have g1 := tkI_N q1 7 (by omega)
    have l1 : tkN q1 7 < 7 := tkN_lt q1 (k := 7) (by omega)
    obtain ⟨z, z1, z2, z3⟩ := suf_at _ l1
    have a1 := dAdd_tx l z (by omega)
    refine ⟨nxS q1 7, l ++ z, [io (srcS (nxS q1 7)), sh (.str (tx l)), sh (nD 5), sh (nD at_), sh (.str (tx [s])), ow (.lst (tL (spC 32 l)))], ha.app z1, by rw [List.length_append]; omega, rfl, ?_⟩
    clear hWa hW hW1 lt ld has
    generalize tL (spC 32 l) = A at *
    generalize nD 5 = d at *
    generalize nD at_ = da at *
    generalize tx (l ++ z) = r at *
    generalize tx z = tz at *
    generalize tx [s] = ts at *
    generalize tx l = t at *
    generalize nxS q1 7 = q2 at *
    generalize tkN q1 7 = c at *
    simp_all_arith! [e0, e1, e2, e3, e4, e5, io__law_take, t1, g1, z3, a1]
  · have e0 : dEq (nD 6) (.int 0) = .sh (.bl false) := eq_n 6 0
    have e1 : dEq (nD 6) (.int 1) = .sh (.bl false) := eq_n 6 1
    have e2 : dEq (nD 6) (.int 2) = .sh (.bl false) := eq_n 6 2
    have e3 : dEq (nD 6) (.int 3) = .sh (.bl false) := eq_n 6 3
    have e4 : dEq (nD 6) (.int 4) = .sh (.bl false) := eq_n 6 4
    have e5 : dEq (nD 6) (.int 5) = .sh (.bl false) := eq_n 6 5
    refine ⟨q1, l, [io (srcS q1), sh (.str (tx l)), sh (nD 6), sh (nD at_), sh (.str (tx [s])), ow (.lst (tL (spC 32 l)))], ha, by omega, rfl, ?_⟩
    clear hWa hW hW1 lt ld has
    generalize tL (spC 32 l) = A at *
    generalize nD 6 = d at *
    generalize nD at_ = da at *
    generalize tx [s] = ts at *
    generalize tx l = t at *
    simp_all_arith [e0, e1, e2, e3, e4, e5]
  · have e0 : dEq (nD 7) (.int 0) = .sh (.bl false) := eq_n 7 0
    have e1 : dEq (nD 7) (.int 1) = .sh (.bl false) := eq_n 7 1
    have e2 : dEq (nD 7) (.int 2) = .sh (.bl false) := eq_n 7 2
    have e3 : dEq (nD 7) (.int 3) = .sh (.bl false) := eq_n 7 3
    have e4 : dEq (nD 7) (.int 4) = .sh (.bl false) := eq_n 7 4
    have e5 : dEq (nD 7) (.int 5) = .sh (.bl false) := eq_n 7 5
    refine ⟨q1, l, [io (srcS q1), sh (.str (tx l)), sh (nD 7), sh (nD at_), sh (.str (tx [s])), ow (.lst (tL (spC 32 l)))], ha, by omega, rfl, ?_⟩
    clear hWa hW hW1 lt ld has
    generalize tL (spC 32 l) = A at *
    generalize nD 7 = d at *
    generalize nD at_ = da at *
    generalize tx [s] = ts at *
    generalize tx l = t at *
    simp_all_arith [e0, e1, e2, e3, e4, e5]
end
/-! K32I: things refused; the law's turn -/
structure Th (d : D) : Prop where
  n15 : NoN 15 d
  n65 : NoN 65535 d
  ne : d.ne2 = true
  eq : dEq d d = .sh (.bl true)
  isb : ∃ b, dIsi d (.ty "bool") = .sh (.bl b)
theorem th_int {i : Int} (h : ¬ (0 ≤ i ∧ i ≤ 65535)) : Th (.int i) := ⟨.inr ⟨i, rfl, fun z => h ⟨z.1, by omega⟩⟩, .inr ⟨i, rfl, h⟩, rfl, by
  have := enc_int.dEq i i
  rwa [cdec_t rfl] at this, ⟨false, dIsi_T rfl (by decide +kernel)⟩⟩
theorem th_bl (b : Bool) : Th (.bl b) := ⟨.inl (.inl ⟨b, rfl⟩), .inl (.inl ⟨b, rfl⟩), rfl, by
  have := enc_bl.dEq b b
  rwa [cdec_t rfl] at this, ⟨true, dIsi_T rfl (by decide +kernel)⟩⟩
theorem th_oth {d : D} {t : String} (ht : tyOf d = some t) (hi : kitB t "int" = some false) (hb : kitB t "bool" = some false) (ne : d.ne2 = true) (eq : dEq d d = .sh (.bl true)) : Th d :=
  ⟨.inl (.inr (dIsi_T ht hi)), .inl (.inr (dIsi_T ht hi)), ne, eq, ⟨false, dIsi_T ht hb⟩⟩
theorem th_non : Th .non := th_oth rfl (by decide +kernel) (by decide +kernel) rfl (by
  have := enc_pnD.dEq none none
  rwa [cdec_t rfl] at this)
theorem th_str (z : Str) (hz : PyData.strOk z = true) : Th (.str z) := th_oth rfl (by decide +kernel) (by decide +kernel) rfl (by
  rw [eqS z z hz hz, decide_eq_true rfl])
theorem th_lst (l : List Int) (h : D.ne2 (.lst (l.map D.int)) = true) : Th (.lst (l.map D.int)) := th_oth rfl (by decide +kernel) (by decide +kernel) h (by
  have := (enc_lst enc_int).dEq l l
  rwa [cdec_t rfl] at this)
theorem th_tup : Th (.tup []) := th_oth rfl (by decide +kernel) (by decide +kernel) rfl (by
  have := (enc_tup enc_int).dEq [] []
  rwa [cdec_t rfl] at this)
noncomputable def someD (far : Int) : List D := [.non, .bl true, .bl false, .int (-1), .str "3", .lst [.int 3], .tup [], .int far, .int (0 - far)]
theorem some_th {far : Int} (h : 65535 < far) : ∀ d ∈ someD far, Th d := fun d hd => by
  unfold someD at hd
  simp only [List.mem_cons, List.not_mem_nil, or_false] at hd
  rcases hd with rfl | rfl | rfl | rfl | rfl | rfl | rfl | rfl | rfl
  · exact th_non
  · exact th_bl _
  · exact th_bl _
  · exact th_int (by omega)
  · exact th_str _ (by decide +kernel)
  · exact th_lst [3] rfl
  · exact th_tup
  · exact th_int (by omega)
  · exact th_int (by omega)
theorem some_at {far : Int} (h : 65535 < far) (c : Nat) (hc : c < 9) : ∃ d, dGi (.lst (someD far)) (nD c) = .sh d ∧ Th d := by
  have hl : c < (someD far).length := hc
  refine ⟨(someD far)[c], ?_, some_th h _ (List.getElem_mem hl)⟩
  rw [dGi_lst]
  exact dIx_nat (List.getElem?_eq_getElem hl)
theorem lk1 : clo_lam1_lam2_lam3_lam4.lookup ("lam1" : Str) = some fs_lam1 := rfl
theorem lk2 : clo_lam1_lam2_lam3_lam4.lookup ("lam2" : Str) = some fs_lam2 := by
  unfold clo_lam1_lam2_lam3_lam4
  rw [List.lookup_cons, show (("lam2" : Str) == "lam1") = false by decide +kernel]
  rfl
theorem lk3 : clo_lam1_lam2_lam3_lam4.lookup ("lam3" : Str) = some fs_lam3 := by
  unfold clo_lam1_lam2_lam3_lam4
  rw [List.lookup_cons, show (("lam3" : Str) == "lam1") = false by decide +kernel]
  dsimp only
  rw [List.lookup_cons, show (("lam3" : Str) == "lam2") = false by decide +kernel]
  rfl
theorem lk4 : clo_lam1_lam2_lam3_lam4.lookup ("lam4" : Str) = some fs_lam4 := by
  unfold clo_lam1_lam2_lam3_lam4
  rw [List.lookup_cons, show (("lam4" : Str) == "lam1") = false by decide +kernel]
  dsimp only
  rw [List.lookup_cons, show (("lam4" : Str) == "lam2") = false by decide +kernel]
  dsimp only
  rw [List.lookup_cons, show (("lam4" : Str) == "lam3") = false by decide +kernel]
  rfl
theorem ref1 {d : D} (h : NoN 15 d) (ne : d.ne2 = true) (eq : dEq d d = .sh (.bl true)) (isb : ∃ b, dIsi d (.ty "bool") = .sh (.bl b)) : fs__law_refused.F [.exc "" "lam1" (.frl []), d] = .ok false (.bl true) [.exc "" "lam1" (.frl []), d] :=
  let ⟨_, hb⟩ := isb; refused_ok lk1 io_lam1 ne (lam1_ex h) eq hb
theorem ref2 {d : D} (h : NoN 65535 d) (ne : d.ne2 = true) (eq : dEq d d = .sh (.bl true)) (isb : ∃ b, dIsi d (.ty "bool") = .sh (.bl b)) : fs__law_refused.F [.exc "" "lam2" (.frl []), d] = .ok false (.bl true) [.exc "" "lam2" (.frl []), d] :=
  let ⟨_, hb⟩ := isb; refused_ok lk2 io_lam2 ne (lam2_ex h) eq hb
theorem lam_F (z : Str) : (lamFS z).F [] = .ok false (.exc "" z (.frl [])) [] := rfl
theorem lam_io (z : Str) : (lamFS z).io = [] := rfl
noncomputable abbrev riE (src : D) (n b : Nat) (one oth far some_ : D) (y7 y8 y9 : Option VM.Slot) : VM.Env := [io src, sh (nD n), sh (nD b), ow one, ow oth, sh far, ow some_, y7, y8, y9]
theorem b2_run (src : D) (n b : Nat) (one oth far some_ d : D) (y8 y9 : Option VM.Slot) (hr : fs__law_refused.F [.exc "" "lam1" (.frl []), d] = .ok false (.bl true) [.exc "" "lam1" (.frl []), d]) :
    b2__law_right.run (riE src n b one oth far some_ (sh d) y8 y9) = .nx (riE src n b one oth far some_ (sh d) y8 y9) := by
  have hl := lam_F "lam1"
  have io_l := lam_io "lam1"
  unfold b2__law_right riE
  generalize lamFS "lam1" = Lf at *
  generalize D.exc "" "lam1" (.frl []) = L at *
  simp_all_arith! [io_l, hl, io__law_refused, hr]
theorem b1_run (src : D) (n b : Nat) (one oth far some_ d : D) (y8 y9 : Option VM.Slot) (hr : fs__law_refused.F [.exc "" "lam2" (.frl []), d] = .ok false (.bl true) [.exc "" "lam2" (.frl []), d]) :
    b1__law_right.run (riE src n b one oth far some_ (sh d) y8 y9) = .nx (riE src n b one oth far some_ (sh d) y8 y9) := by
  have hl := lam_F "lam2"
  have io_l := lam_io "lam2"
  unfold b1__law_right riE
  generalize lamFS "lam2" = Lf at *
  generalize D.exc "" "lam2" (.frl []) = L at *
  simp_all_arith! [io_l, hl, io__law_refused, hr]
theorem l2_run (q : Src) (n b : Nat) (one oth : D) (far : Int) (hf : 65535 < far) (y7 y8 y9 : Option VM.Slot) (f7 : FreeO y7) :
    ∃ a7, FreeO a7 ∧ l2__law_right.run (riE (srcS q) n b one oth (.int far) (.lst (someD far)) y7 y8 y9) = .nx (riE (srcS (nxS q 9)) n b one oth (.int far) (.lst (someD far)) a7 y8 y9) := by
  have t := take_I q 9 (by omega) (by omega)
  have e := tkI_N q 9 (by omega)
  have l := tkN_lt q (k := 9) (by omega)
  obtain ⟨d, hd, th⟩ := some_at hf (tkN q 9) l
  have hi : iSeq (mLst (lCons (mF (mC (.int 16))) (lCons (mF (m2 dGi (mV 6) (mCall fs__law_take (lCons (mV 0) (lCons (mT (mC (.int 9))) (lNil)))))) (lNil)))) (riE (srcS q) n b one oth (.int far) (.lst (someD far)) y7 y8 y9) = .ok ([D.int 16, d].map fun x => x) (riE (srcS (nxS q 9)) n b one oth (.int far) (.lst (someD far)) y7 y8 y9) none := by
    rw [List.map_id']
    unfold riE
    generalize someD far = S at *
    generalize tkN q 9 = c at *
    generalize nxS q 9 = q1 at *
    simp_all_arith! [io__law_take, t, e, hd]
  obtain ⟨e', h, a7, g7, he⟩ := xFor_nth (b := b2__law_right) (g := gN 7) (fun j e => ∃ a7, FreeO a7 ∧ e = riE (srcS (nxS q 9)) n b one oth (.int far) (.lst (someD far)) a7 y8 y9) hi rfl (fun _ _ _ => rfl) ⟨y7, f7, rfl⟩ fun j x e hj ⟨a7, g7, he⟩ => by
    subst he
    have hx : x = .int 16 ∨ x = d := by
      have := List.mem_of_getElem? hj
      simpa using this
    refine ⟨riE (srcS (nxS q 9)) n b one oth (.int far) (.lst (someD far)) (sh x) y8 y9, _, gN_ok rfl g7, .inl (b2_run _ _ _ _ _ _ _ x y8 y9 ?_), sh x, free_sh _, rfl⟩
    rcases hx with rfl | rfl
    · have h16 : dEq (.int 16) (.int 16) = .sh (.bl true) := by
        have := enc_int.dEq 16 16
        rwa [cdec_t rfl] at this
      exact ref1 (.inr ⟨16, rfl, by omega⟩) rfl h16 ⟨false, dIsi_T rfl (by decide +kernel)⟩
    · exact ref1 th.n15 th.ne th.eq th.isb
  subst he
  exact ⟨a7, g7, h⟩
theorem l1_run (q : Src) (n b : Nat) (one oth : D) (far : Int) (hf : 65535 < far) (y7 y8 y9 : Option VM.Slot) (f7 : FreeO y7) :
    ∃ a7, FreeO a7 ∧ l1__law_right.run (riE (srcS q) n b one oth (.int far) (.lst (someD far)) y7 y8 y9) = .nx (riE (srcS (nxS q 9)) n b one oth (.int far) (.lst (someD far)) a7 y8 y9) := by
  have t := take_I q 9 (by omega) (by omega)
  have e := tkI_N q 9 (by omega)
  have l := tkN_lt q (k := 9) (by omega)
  obtain ⟨d, hd, th⟩ := some_at hf (tkN q 9) l
  have hi : iSeq (mLst (lCons (mF (mC (.int 65536))) (lCons (mF (m2 dGi (mV 6) (mCall fs__law_take (lCons (mV 0) (lCons (mT (mC (.int 9))) (lNil)))))) (lNil)))) (riE (srcS q) n b one oth (.int far) (.lst (someD far)) y7 y8 y9) = .ok ([D.int 65536, d].map fun x => x) (riE (srcS (nxS q 9)) n b one oth (.int far) (.lst (someD far)) y7 y8 y9) none := by
    rw [List.map_id']
    unfold riE
    generalize someD far = S at *
    generalize tkN q 9 = c at *
    generalize nxS q 9 = q1 at *
    simp_all_arith! [io__law_take, t, e, hd]
  obtain ⟨e', h, a7, g7, he⟩ := xFor_nth (b := b1__law_right) (g := gN 7) (fun j e => ∃ a7, FreeO a7 ∧ e = riE (srcS (nxS q 9)) n b one oth (.int far) (.lst (someD far)) a7 y8 y9) hi rfl (fun _ _ _ => rfl) ⟨y7, f7, rfl⟩ fun j x e hj ⟨a7, g7, he⟩ => by
    subst he
    have hx : x = .int 65536 ∨ x = d := by
      have := List.mem_of_getElem? hj
      simpa using this
    refine ⟨riE (srcS (nxS q 9)) n b one oth (.int far) (.lst (someD far)) (sh x) y8 y9, _, gN_ok rfl g7, .inl (b1_run _ _ _ _ _ _ _ x y8 y9 ?_), sh x, free_sh _, rfl⟩
    rcases hx with rfl | rfl
    · have h16 : dEq (.int 65536) (.int 65536) = .sh (.bl true) := by
        have := enc_int.dEq 65536 65536
        rwa [cdec_t rfl] at this
      exact ref2 (.inr ⟨65536, rfl, by omega⟩) rfl h16 ⟨false, dIsi_T rfl (by decide +kernel)⟩
    · exact ref2 th.n65 th.ne th.eq th.isb
  subst he
  exact ⟨a7, g7, h⟩
/-! K32J: the law -/
theorem two_at (c : Nat) (hc : c < 2) : ∃ m : Nat, 0 < m ∧ m ≤ 65536 ∧ dIx (.lst [.int 65536, .int 16]) (nD c) = .sh (nD m) := by
  match c, hc with
  | 0, _ => exact ⟨65536, by omega, by omega, dIx_nat (r := 0) rfl⟩
  | 1, _ => exact ⟨16, by omega, by omega, dIx_nat (r := 1) rfl⟩
theorem w_at (n b c : Nat) (hc : c < 2) (hn : n ≤ 15) (hb : b ≤ 65535) : ∃ w : Wo, w.ok ∧ dIx (.lst [.tup [.str "number", nD n], .tup [.str "endless", nD b]]) (nD c) = .sh (tupW w) := by
  match c, hc with
  | 0, _ => exact ⟨.num n, hn, dIx_nat (r := 0) rfl⟩
  | 1, _ => exact ⟨.inf b, hb, dIx_nat (r := 1) rfl⟩
theorem right_ok (q : Src) : ∃ q' : Src, fs__law_right.F [srcS q] = .ok false (.bl true) [srcS q'] := by
  have t1 := take_I q 16 (by omega) (by omega)
  have e1 := tkI_N q 16 (by omega)
  have l1 : tkN q 16 < 16 := tkN_lt q (k := 16) (by omega)
  generalize tkN q 16 = n at *
  generalize nxS q 16 = q1 at *
  have t2 := take_I q1 2 (by omega) (by omega)
  have e2 := tkI_N q1 2 (by omega)
  have l2 : tkN q1 2 < 2 := tkN_lt q1 (k := 2) (by omega)
  generalize tkN q1 2 = c2 at *
  generalize nxS q1 2 = q2 at *
  obtain ⟨m, hm0, hm1, hm⟩ := two_at c2 l2
  have t3 := take_I q2 (m : Int) (by omega) (by omega)
  have e3 := tkI_N q2 (m : Int) (by omega)
  have l3 : tkN q2 (m : Int) < m := tkN_lt q2 (k := m) hm0
  generalize tkN q2 (m : Int) = b at *
  generalize nxS q2 (m : Int) = q3 at *
  have t4 := take_I q3 9 (by omega) (by omega)
  have e4 := tkI_N q3 9 (by omega)
  generalize tkN q3 9 = c4 at *
  generalize nxS q3 9 = q4 at *
  have hn : n ≤ 15 := by omega
  have hb : b ≤ 65535 := by omega
  have iN := initN n hn
  have iE := initE b hb
  have isN := law_isN n hn
  have isE := law_isE b hb
  have pN : dNe (nD n) (nD n) = .sh (.bl false) := by
    have := enc_nat.dNe n n
    rwa [cdec_t rfl] at this
  have pE : dNe (nD b) (nD b) = .sh (.bl false) := by
    have := enc_nat.dNe b b
    rwa [cdec_t rfl] at this
  have hpow : dPow (.int 10) (.int 20) = .sh (.int 100000000000000000000) := dPow_i 10 20 (cPow_of (by decide) (by decide) (by decide))
  obtain ⟨far, hf, hfar⟩ : ∃ far : Int, 65535 < far ∧ dAdd (.int 100000000000000000000) (nD c4) = .sh (.int far) := ⟨100000000000000000000 + (c4 : Int), by omega, rfl⟩
  have hsub : dSub (.int 0) (.int far) = .sh (.int (0 - far)) := rfl
  have hneg : dNeg (.int 1) = .sh (.int (-1)) := rfl
  have fN := fld_n n
  have fE := fld_e b
  have hIN : insW (.num n) = .ins "Numbered" [("number", nD n)] := rfl
  have hIE : insW (.inf b) = .ins "Endless" [("bits", nD b)] := rfl
  have hTN : tupW (.num n) = .tup [.str "number", nD n] := rfl
  have hTE : tupW (.inf b) = .tup [.str "endless", nD b] := rfl
  rw [hIN] at iN isN
  rw [hIE] at iE isE
  rw [hTN] at isN
  rw [hTE] at isE
  obtain ⟨a7, g7, r2⟩ := l2_run q4 n b (.ins "Numbered" [("number", nD n)]) (.ins "Endless" [("bits", nD b)]) far hf none none none free_none
  obtain ⟨b7, k7, r1⟩ := l1_run (nxS q4 9) n b (.ins "Numbered" [("number", nD n)]) (.ins "Endless" [("bits", nD b)]) far hf a7 none none g7
  generalize nxS q4 9 = q5 at *
  generalize nxS q5 9 = q6 at *
  have t7 := take_I q6 2 (by omega) (by omega)
  have e7 := tkI_N q6 2 (by omega)
  have l7 : tkN q6 2 < 2 := tkN_lt q6 (k := 2) (by omega)
  obtain ⟨w, hw, hwx⟩ := w_at n b _ l7 hn hb
  generalize tkN q6 2 = c7 at *
  generalize nxS q6 2 = q7 at *
  have hlt := law_text_ok hw
  obtain ⟨q8, l, ha, hl, hsp⟩ := spoilt_ok q7 (l := txW w) (txW_len w) (txW_asc hw)
  obtain ⟨w0, ws, hws⟩ : ∃ w0 ws, spC 32 l = w0 :: ws := by
    cases h : spC 32 l with
    | nil => exact absurd h (spC_ne 32 l)
    | cons w0 ws => exact ⟨w0, ws, rfl⟩
  have hdue := due_ok (by omega) ha hws
  have hrd := rd_due hws
  suffices h : ∃ e1, e1[0]? = some (io (srcS q8)) ∧ x__law_right.run [io (srcS q), none, none, none, none, none, none, none, none, none] = .rt ⟨.sh, .bl true⟩ e1 by
    obtain ⟨e1, h1, h2⟩ := h
    refine ⟨q8, ?_⟩
    rw [eq__law_right, h2]
    match e1, h1 with
    | x :: es, h1 => cases h1; rfl
  refine ⟨riE (srcS q8) n b (.ins "Numbered" [("number", nD n)]) (.ins "Endless" [("bits", nD b)]) (.int far) (.lst (someD far)) b7 (sh (.str (tx l))) (sh (dueD (dueW l w0 ws))), rfl, ?_⟩
  unfold x__law_right
  refine seq_to (e1 := [io (srcS q1), sh (nD n), none, none, none, none, none, none, none, none]) ?_ ?_
  · simp_all_arith! [io__law_take, t1, e1]
  refine seq_to (e1 := [io (srcS q3), sh (nD n), sh (nD b), none, none, none, none, none, none, none]) ?_ ?_
  · generalize nD n = dn at *
    simp_all_arith! [io__law_take, t2, e2, hm, t3, e3]
  refine seq_to (e1 := [io (srcS q3), sh (nD n), sh (nD b), ow (.ins "Numbered" [("number", nD n)]), none, none, none, none, none, none]) ?_ ?_
  · generalize nD n = dn at *
    generalize nD b = db at *
    simp_all_arith! [io_Numbered__init, iN]
  refine seq_to (e1 := [io (srcS q3), sh (nD n), sh (nD b), ow (.ins "Numbered" [("number", nD n)]), ow (.ins "Endless" [("bits", nD b)]), none, none, none, none, none]) ?_ ?_
  · generalize nD n = dn at *
    generalize nD b = db at *
    simp_all_arith! [io_Endless__init, iE]
  refine seq_to (e1 := [io (srcS q3), sh (nD n), sh (nD b), ow (.ins "Numbered" [("number", nD n)]), ow (.ins "Endless" [("bits", nD b)]), none, none, none, none, none]) ?_ ?_
  · generalize nD n = dn at *
    generalize nD b = db at *
    simp_all_arith [ft_n, ft_e, pN, pE]
  refine seq_to (e1 := [io (srcS q3), sh (nD n), sh (nD b), ow (.ins "Numbered" [("number", nD n)]), ow (.ins "Endless" [("bits", nD b)]), none, none, none, none, none]) ?_ ?_
  · generalize D.ins "Numbered" [("number", nD n)] = IN at *
    generalize D.ins "Endless" [("bits", nD b)] = IE at *
    generalize nD n = dn at *
    generalize nD b = db at *
    simp_all_arith! [io__law_is, isN, isE]
  refine seq_to (e1 := [io (srcS q4), sh (nD n), sh (nD b), ow (.ins "Numbered" [("number", nD n)]), ow (.ins "Endless" [("bits", nD b)]), sh (.int far), none, none, none, none]) ?_ ?_
  · generalize D.ins "Numbered" [("number", nD n)] = IN at *
    generalize D.ins "Endless" [("bits", nD b)] = IE at *
    generalize nD n = dn at *
    generalize nD b = db at *
    simp_all_arith! [hpow, io__law_take, t4, e4, hfar]
  refine seq_to (e1 := riE (srcS q4) n b (.ins "Numbered" [("number", nD n)]) (.ins "Endless" [("bits", nD b)]) (.int far) (.lst (someD far)) none none none) ?_ ?_
  · unfold riE someD
    generalize D.ins "Numbered" [("number", nD n)] = IN at *
    generalize D.ins "Endless" [("bits", nD b)] = IE at *
    generalize nD n = dn at *
    generalize nD b = db at *
    simp_all_arith [hneg, hsub]
  refine seq_to r2 (seq_to r1 ?_)
  clear r2 r1
  refine seq_to (e1 := riE (srcS q8) n b (.ins "Numbered" [("number", nD n)]) (.ins "Endless" [("bits", nD b)]) (.int far) (.lst (someD far)) b7 (sh (.str (tx l))) none) ?_ ?_
  · unfold riE
    generalize tx (txW w) = tw at *
    generalize tx l = t at *
    generalize tupW w = T at *
    generalize someD far = S at *
    generalize D.ins "Numbered" [("number", nD n)] = IN at *
    generalize D.ins "Endless" [("bits", nD b)] = IE at *
    generalize nD n = dn at *
    generalize nD b = db at *
    simp_all_arith! [io__law_take, t7, e7, hwx, io__law_text, hlt, io__law_spoilt, hsp]
  refine seq_to (e1 := riE (srcS q8) n b (.ins "Numbered" [("number", nD n)]) (.ins "Endless" [("bits", nD b)]) (.int far) (.lst (someD far)) b7 (sh (.str (tx l))) (sh (dueD (dueW l w0 ws)))) ?_ ?_
  · unfold riE
    generalize dueD (dueW l w0 ws) = du at *
    generalize tx l = t at *
    generalize someD far = S at *
    generalize D.ins "Numbered" [("number", nD n)] = IN at *
    generalize D.ins "Endless" [("bits", nD b)] = IE at *
    generalize nD n = dn at *
    generalize nD b = db at *
    simp_all_arith! [io__law_due, hdue]
  cases hd : dueW l w0 ws with
  | none =>
    rw [hd] at hrd
    have hex := read_none (by omega) ha hws hrd
    have hs := asc_ok ha
    have th := th_str (tx l) hs
    obtain ⟨bb, hbb⟩ := th.isb
    have hr := refused_ok lk3 io_lam3 th.ne (lam34_ex hex).1 th.eq hbb
    have hlF := lam_F "lam3"
    have io_l := lam_io "lam3"
    have hnn := dIs_non false
    rw [show dueD none = .non from rfl]
    unfold riE
    generalize lamFS "lam3" = Lf at *
    generalize D.exc "" "lam3" (.frl []) = L at *
    generalize tx l = t at *
    generalize someD far = S at *
    generalize D.ins "Numbered" [("number", nD n)] = IN at *
    generalize D.ins "Endless" [("bits", nD b)] = IE at *
    generalize nD n = dn at *
    generalize nD b = db at *
    simp_all_arith! [hnn, io_l, hlF, io__law_refused, hr]
  | some v =>
    rw [hd] at hrd
    obtain ⟨hv, hrs⟩ := read_some (by omega) ha hws hrd
    have hiv := law_is_ok hv
    have hni : dIs false (tupW v) .non = .sh (.bl false) := by cases v <;> rfl
    rw [show dueD (some v) = tupW v from rfl]
    unfold riE
    generalize insW v = IV at *
    generalize tupW v = TV at *
    generalize tx l = t at *
    generalize someD far = S at *
    generalize D.ins "Numbered" [("number", nD n)] = IN at *
    generalize D.ins "Endless" [("bits", nD b)] = IE at *
    generalize nD n = dn at *
    generalize nD b = db at *
    simp_all_arith! [hni, io_read_worth, hrs, io__law_is, hiv]
theorem law_l2 (xs : List Int) (j : Nat) : b2_law.run [sh (.frl (xs.map D.int)), sh (nD j), none] = .nx [sh (.frl (xs.map D.int)), sh (nD j), none] := by
  obtain ⟨x, hx⟩ := cell_at_I xs j
  obtain ⟨q, hq⟩ := source_I x
  obtain ⟨q', hr⟩ := right_ok q
  unfold b2_law
  simp_all_arith! [io__law_cell_at, hx, io__law_source, hq, io__law_right, hr]
theorem law_l1 (s0 s1 : Option VM.Slot) (d : D) (hr : fs__law_refused.F [.exc "" "lam4" (.frl []), d] = .ok false (.bl true) [.exc "" "lam4" (.frl []), d]) : b1_law.run [s0, s1, sh d] = .nx [s0, s1, sh d] := by
  have hl := lam_F "lam4"
  have io_l := lam_io "lam4"
  unfold b1_law
  generalize lamFS "lam4" = Lf at *
  generalize D.exc "" "lam4" (.frl []) = L at *
  simp_all_arith! [io_l, hl, io__law_refused, hr]
theorem ref4 {d : D} (hex : fs_read_worth.F [d] = .ex "NoWorth" d [d]) (ne : d.ne2 = true) (eq : dEq d d = .sh (.bl true)) (isb : ∃ b, dIsi d (.ty "bool") = .sh (.bl b)) : fs__law_refused.F [.exc "" "lam4" (.frl []), d] = .ok false (.bl true) [.exc "" "lam4" (.frl []), d] :=
  let ⟨_, hb⟩ := isb; refused_ok lk4 io_lam4 ne (lam34_ex hex).2 eq hb
theorem read_empty : fs_read_worth.F [.str ""] = .ex "NoWorth" (.str "") [.str ""] := by
  rw [empty_eq]
  have e : spC 32 [] = [[]] := by unfold spC; rw [TL.spl_nil]
  refine read_none (l := []) (by simp) (fun c hc => nomatch hc) e ?_
  unfold rdW
  rw [if_neg (by decide)]
  have : pn [] = none := pn_none fun k hk e => by
    have := (dg_len k).1
    rw [e] at this
    simp at this
  rw [this]
  rfl
noncomputable def lastD : List D := [.non, .int 7, .bl true, .lst [.str "3"], .tup [.str "number", .int 3], .str ""]
theorem last_ref : ∀ d ∈ lastD, fs__law_refused.F [.exc "" "lam4" (.frl []), d] = .ok false (.bl true) [.exc "" "lam4" (.frl []), d] := fun d hd => by
  unfold lastD at hd
  simp only [List.mem_cons, List.not_mem_nil, or_false] at hd
  rcases hd with rfl | rfl | rfl | rfl | rfl | rfl
  · exact ref4 (read_oth (dIsi_T rfl (by decide +kernel))) rfl th_non.eq th_non.isb
  · refine ref4 (read_oth (dIsi_T rfl (by decide +kernel))) rfl ?_ ⟨false, dIsi_T rfl (by decide +kernel)⟩
    have := enc_int.dEq 7 7
    rwa [cdec_t rfl] at this
  · exact ref4 (read_oth (dIsi_T rfl (by decide +kernel))) rfl (th_bl true).eq (th_bl true).isb
  · refine ref4 (read_oth (dIsi_T rfl (by decide +kernel))) rfl ?_ ⟨false, dIsi_T rfl (by decide +kernel)⟩
    have := (enc_lst enc_str).dEq [(⟨"3", by decide +kernel⟩ : Sg)] [⟨"3", by decide +kernel⟩]
    rw [cdec_t rfl] at this
    exact this
  · refine ref4 (read_oth (dIsi_T rfl (by decide +kernel))) rfl ?_ ⟨false, dIsi_T rfl (by decide +kernel)⟩
    have := (enc_pair enc_str enc_nat).dEq ((⟨"number", by decide +kernel⟩ : Sg), 3) (⟨"number", by decide +kernel⟩, 3)
    rw [cdec_t rfl] at this
    exact this
  · exact ref4 read_empty rfl (th_str "" (by decide +kernel)).eq (th_str "" (by decide +kernel)).isb
theorem law_true (ns : List Int) (hl : ns.length ≤ 63) (hb : ∀ z ∈ ns, Builtin.Int.intBits z ≤ 1048576) : ∃ o, fs_law.F [.frl (ns.map D.int)] = .ok false (.bl true) o := by
  have hN : ∃ n : Nat, n ≤ 40 ∧ iInts rng1 (lCons (m2 dMax (mC (.int 1)) (m2 dMin (mC (.int 30)) (m1 dLen (mV 0)))) (lNil)) [sh (.frl (ns.map D.int)), none, none] = .ok ((List.range n).map nD) [sh (.frl (ns.map D.int)), none, none] none := by
    have e : ∃ n : Nat, n ≤ 40 ∧ (if (if (ns.length : Int) < 30 then (ns.length : Int) else 30) > 1 then (if (ns.length : Int) < 30 then (ns.length : Int) else 30) else 1) = (n : Int) := by
      refine ⟨((if (if (ns.length : Int) < 30 then (ns.length : Int) else 30) > 1 then (if (ns.length : Int) < 30 then (ns.length : Int) else 30) else 1)).toNat, ?_, ?_⟩ <;> (split <;> split <;> omega)
    obtain ⟨n, hn, e⟩ := e
    refine ⟨n, hn, iInts_R ?_ (by omega)⟩
    simp_all_arith [dMax_i, dMin_i, List.length_map]
    rw [e]
  obtain ⟨n, hn, hi⟩ := hN
  obtain ⟨e', h, y, hf, rfl⟩ := xFor_nth (b := b2_law) (g := gN 1) (fun j e => ∃ y, FreeO y ∧ e = [sh (.frl (ns.map D.int)), y, none]) hi rfl (fun _ _ _ => rfl) ⟨none, free_none, rfl⟩ fun j x e hj ⟨y, f1, he⟩ => by
    subst he
    exact ⟨_, _, gN_ok rfl f1, .inl (law_l2 ns x), sh (nD x), free_sh _, rfl⟩
  have h : l2_law.run [sh (.frl (ns.map D.int)), none, none] = _ := h
  have hi2 : iSeq (mLst (lCons (mF (mC .non)) (lCons (mF (mC (.int 7))) (lCons (mF (mC (.bl true))) (lCons (mF (mLst (lCons (mF (mC (.str "3"))) (lNil)))) (lCons (mF (mTup (lCons (mF (mC (.str "number"))) (lCons (mF (mC (.int 3))) (lNil))))) (lCons (mF (mC (.str ""))) (lNil)))))))) [sh (.frl (ns.map D.int)), y, none] = .ok (lastD.map fun x => x) [sh (.frl (ns.map D.int)), y, none] none := by
    rw [List.map_id']
    rfl
  obtain ⟨e2, h2, z, _, rfl⟩ := xFor_nth (b := b1_law) (g := gN 2) (fun j e => ∃ z, FreeO z ∧ e = [sh (.frl (ns.map D.int)), y, z]) hi2 rfl (fun _ _ _ => rfl) ⟨none, free_none, rfl⟩ fun j x e hj ⟨z, f1, he⟩ => by
    subst he
    exact ⟨_, _, gN_ok rfl f1, .inl (law_l1 _ _ x (last_ref x (List.mem_of_getElem? hj))), sh x, free_sh _, rfl⟩
  have h2 : l1_law.run [sh (.frl (ns.map D.int)), y, none] = _ := h2
  refine ⟨[.frl (ns.map D.int)], ?_⟩
  rw [eq_law]
  unfold x_law
  rw [xSeq_nx h, xSeq_nx h2]
  rfl
theorem us_1 {P : (us : List Value) → us.length = 1 → Prop} (h : ∀ a, P [a] rfl) : ∀ us hl, P us hl := fun us hl => match us, hl with | [_], _ => h _
theorem us_2 {P : (us : List Value) → us.length = 2 → Prop} (h : ∀ a b, P [a, b] rfl) : ∀ us hl, P us hl := fun us hl => match us, hl with | [_, _], _ => h _ _
noncomputable def exc0 (K : PySem.W.Frag) : Str → Option (Addr × Str) := excOf FE K
noncomputable def gi0 (K : PySem.W.Frag) (P__law_right : Addr) (P_law : Addr) : Gi := ⟨K, clsAt K, fun z => z.cps[0]?, [(P__law_right, fun _ _ => "_law_right" ++ ".<locals>." ++ "<lambda>"), (P_law, fun _ _ => "law" ++ ".<locals>." ++ "<lambda>")], fun z => if z = "lam1" then some (lamF ("_law_right" ++ ".<locals>.") ex_lam1, []) else if z = "lam2" then some (lamF ("_law_right" ++ ".<locals>.") ex_lam2, []) else if z = "lam3" then some (lamF ("_law_right" ++ ".<locals>.") ex_lam3, []) else if z = "lam4" then some (lamF ("law" ++ ".<locals>.") ex_lam4, []) else none⟩
theorem all_mk {prog : Program} {w : World} {K : PySem.W.Frag} {h : Heap} {mg : Str → Option Value} {fa f_0 f_1 f_3 f_5 f_6 f_7 f_8 f_9 f_10 f_11 f_14 f_15 f_16 f_17 f_18 f_19 f_20 f_21 f_22 f_23 f_24 f_25 f_26 f_27 f_28 f_29 f_30 f_31 f_32 C_Endless C_NoWorth C_Numbered C_Worth C_HeapError fx_NoWorth : Addr} (X : K.In h) (G : h.Ns mainGlobals mg) (hfa : mg "law" = some (.ref fa))
    {od_0 an_0 od_1 an_1 od_3 an_3 od_5 an_5 od_6 an_6 od_7 an_7 od_8 an_8 od_9 an_9 od_10 an_10 od_11 an_11 od_14 an_14 od_15 an_15 od_16 an_16 od_17 an_17 od_18 an_18 od_19 an_19 od_20 an_20 od_21 an_21 od_22 an_22 od_23 an_23 od_24 an_24 od_25 an_25 od_26 an_26 od_27 an_27 od_28 an_28 od_29 an_29 od_30 an_30 od_31 an_31 od_32 an_32 : Option Addr} {sl_0 sl_1 sl_3 sl_5 sl_6 sl_7 sl_8 sl_9 sl_10 sl_11 sl_14 sl_15 sl_16 sl_17 sl_18 sl_19 sl_20 sl_21 sl_22 sl_23 sl_24 sl_25 sl_26 sl_27 sl_28 sl_29 sl_30 sl_31 sl_32 : Array (Option Value)} {oc_0 kV_0 dc_0 pm_0 cd_0 ct_0 oc_1 kV_1 dc_1 pm_1 cd_1 ct_1 oc_3 kV_3 dc_3 pm_3 cd_3 ct_3 oc_5 kV_5 dc_5 pm_5 cd_5 ct_5 oc_6 kV_6 dc_6 pm_6 cd_6 ct_6 oc_7 kV_7 dc_7 pm_7 cd_7 ct_7 oc_8 kV_8 dc_8 pm_8 cd_8 ct_8 oc_9 kV_9 dc_9 pm_9 cd_9 ct_9 oc_10 kV_10 dc_10 pm_10 cd_10 ct_10 oc_11 kV_11 dc_11 pm_11 cd_11 ct_11 oc_14 kV_14 dc_14 pm_14 cd_14 ct_14 oc_15 kV_15 dc_15 pm_15 cd_15 ct_15 oc_16 kV_16 dc_16 pm_16 cd_16 ct_16 oc_17 kV_17 dc_17 pm_17 cd_17 ct_17 oc_18 kV_18 dc_18 pm_18 cd_18 ct_18 oc_19 kV_19 dc_19 pm_19 cd_19 ct_19 oc_20 kV_20 dc_20 pm_20 cd_20 ct_20 oc_21 kV_21 dc_21 pm_21 cd_21 ct_21 oc_22 kV_22 dc_22 pm_22 cd_22 ct_22 oc_23 kV_23 dc_23 pm_23 cd_23 ct_23 oc_24 kV_24 dc_24 pm_24 cd_24 ct_24 oc_25 kV_25 dc_25 pm_25 cd_25 ct_25 oc_26 kV_26 dc_26 pm_26 cd_26 ct_26 oc_27 kV_27 dc_27 pm_27 cd_27 ct_27 oc_28 kV_28 dc_28 pm_28 cd_28 ct_28 oc_29 kV_29 dc_29 pm_29 cd_29 ct_29 oc_30 kV_30 dc_30 pm_30 cd_30 ct_30 oc_31 kV_31 dc_31 pm_31 cd_31 ct_31 oc_32 kV_32 dc_32 pm_32 cd_32 ct_32 : Value} {tk_FIGURES tk_MOST_BITS tk_MOST_NUMBER : Tok}
    {nm_NoWorth q_NoWorth : Str} {N_NoWorth : Addr} {bs_NoWorth bm_NoWorth sub_NoWorth : List Value} {sn_NoWorth : List Str} {ab_NoWorth : Bool} {col_NoWorth : Option Bool} {dd_NoWorth : Option Addr} {k0_NoWorth k1_NoWorth k2_NoWorth k3_NoWorth k5_NoWorth : Option Value} {xod_NoWorth xan_NoWorth : Option Addr} {xsl_NoWorth : Array (Option Value)} {xoc_NoWorth xkV_NoWorth xdc_NoWorth xpm_NoWorth xcd_NoWorth xct_NoWorth : Value}
    {c__law_right P__law_right : Addr} {tcl__law_right : Value} {tod__law_right : Option Addr} {tvs__law_right : Array Value} {tsl__law_right : Array (Option Value)}
    {c_law P_law : Addr} {tcl_law : Value} {tod_law : Option Addr} {tvs_law : Array Value} {tsl_law : Array (Option Value)}
    (a_0 : PySem.W.nsIn K mainGlobals "is_whole" = some (some (.ref f_0)))
    (l_0 : K.lookup f_0 = some ⟨oc_0, od_0, .func (PySem.W.fnOf "is_whole" "is_whole" (defArgs st_is_whole) (defBody st_is_whole) (defScope st_is_whole) .none kV_0 dc_0 pm_0 an_0 cd_0 ct_0), sl_0⟩)
    (c_0 : PySem.W.codeIn K cd_0 "is_whole" = true)
    (k_0 : PySem.W.keepIn K (.ref f_0) = true)
    (l_1 : K.lookup f_1 = some ⟨oc_1, od_1, .func (PySem.W.fnOf "__init__" "Numbered.__init__" (defArgs st_Numbered__init) (defBody st_Numbered__init) (defScope st_Numbered__init) .none kV_1 dc_1 pm_1 an_1 cd_1 ct_1), sl_1⟩)
    (c_1 : PySem.W.codeIn K cd_1 "Numbered.__init__" = true)
    (k_1 : PySem.W.keepIn K (.ref f_1) = true)
    (l_3 : K.lookup f_3 = some ⟨oc_3, od_3, .func (PySem.W.fnOf "__init__" "Endless.__init__" (defArgs st_Endless__init) (defBody st_Endless__init) (defScope st_Endless__init) .none kV_3 dc_3 pm_3 an_3 cd_3 ct_3), sl_3⟩)
    (c_3 : PySem.W.codeIn K cd_3 "Endless.__init__" = true)
    (k_3 : PySem.W.keepIn K (.ref f_3) = true)
    (l_5 : K.lookup f_5 = some ⟨oc_5, od_5, .func (PySem.W.fnOf "text" "Worth.text" (defArgs st_Worth__text) (defBody st_Worth__text) (defScope st_Worth__text) .none kV_5 dc_5 pm_5 an_5 cd_5 ct_5), sl_5⟩)
    (c_5 : PySem.W.codeIn K cd_5 "Worth.text" = true)
    (k_5 : PySem.W.keepIn K (.ref f_5) = true)
    (l_6 : K.lookup f_6 = some ⟨oc_6, od_6, .func (PySem.W.fnOf "text" "Numbered.text" (defArgs st_Numbered__text) (defBody st_Numbered__text) (defScope st_Numbered__text) .none kV_6 dc_6 pm_6 an_6 cd_6 ct_6), sl_6⟩)
    (c_6 : PySem.W.codeIn K cd_6 "Numbered.text" = true)
    (k_6 : PySem.W.keepIn K (.ref f_6) = true)
    (a_7 : PySem.W.nsIn K mainGlobals "numbers_in" = some (some (.ref f_7)))
    (l_7 : K.lookup f_7 = some ⟨oc_7, od_7, .func (PySem.W.fnOf "numbers_in" "numbers_in" (defArgs st_numbers_in) (defBody st_numbers_in) (defScope st_numbers_in) .none kV_7 dc_7 pm_7 an_7 cd_7 ct_7), sl_7⟩)
    (c_7 : PySem.W.codeIn K cd_7 "numbers_in" = true)
    (k_7 : PySem.W.keepIn K (.ref f_7) = true)
    (l_8 : K.lookup f_8 = some ⟨oc_8, od_8, .func (PySem.W.fnOf "text" "Endless.text" (defArgs st_Endless__text) (defBody st_Endless__text) (defScope st_Endless__text) .none kV_8 dc_8 pm_8 an_8 cd_8 ct_8), sl_8⟩)
    (c_8 : PySem.W.codeIn K cd_8 "Endless.text" = true)
    (k_8 : PySem.W.keepIn K (.ref f_8) = true)
    (a_9 : PySem.W.nsIn K mainGlobals "set_of" = some (some (.ref f_9)))
    (l_9 : K.lookup f_9 = some ⟨oc_9, od_9, .func (PySem.W.fnOf "set_of" "set_of" (defArgs st_set_of) (defBody st_set_of) (defScope st_set_of) .none kV_9 dc_9 pm_9 an_9 cd_9 ct_9), sl_9⟩)
    (c_9 : PySem.W.codeIn K cd_9 "set_of" = true)
    (k_9 : PySem.W.keepIn K (.ref f_9) = true)
    (a_10 : PySem.W.nsIn K mainGlobals "plain_number" = some (some (.ref f_10)))
    (l_10 : K.lookup f_10 = some ⟨oc_10, od_10, .func (PySem.W.fnOf "plain_number" "plain_number" (defArgs st_plain_number) (defBody st_plain_number) (defScope st_plain_number) .none kV_10 dc_10 pm_10 an_10 cd_10 ct_10), sl_10⟩)
    (c_10 : PySem.W.codeIn K cd_10 "plain_number" = true)
    (k_10 : PySem.W.keepIn K (.ref f_10) = true)
    (a_11 : PySem.W.nsIn K mainGlobals "read_worth" = some (some (.ref f_11)))
    (l_11 : K.lookup f_11 = some ⟨oc_11, od_11, .func (PySem.W.fnOf "read_worth" "read_worth" (defArgs st_read_worth) (defBody st_read_worth) (defScope st_read_worth) .none kV_11 dc_11 pm_11 an_11 cd_11 ct_11), sl_11⟩)
    (c_11 : PySem.W.codeIn K cd_11 "read_worth" = true)
    (k_11 : PySem.W.keepIn K (.ref f_11) = true)
    (a_14 : PySem.W.nsIn K mainGlobals "_law_refused" = some (some (.ref f_14)))
    (l_14 : K.lookup f_14 = some ⟨oc_14, od_14, .func (PySem.W.fnOf "_law_refused" "_law_refused" (defArgs st__law_refused) (defBody st__law_refused) (defScope st__law_refused) .none kV_14 dc_14 pm_14 an_14 cd_14 ct_14), sl_14⟩)
    (c_14 : PySem.W.codeIn K cd_14 "_law_refused" = true)
    (k_14 : PySem.W.keepIn K (.ref f_14) = true)
    (a_15 : PySem.W.nsIn K mainGlobals "_law_members" = some (some (.ref f_15)))
    (l_15 : K.lookup f_15 = some ⟨oc_15, od_15, .func (PySem.W.fnOf "_law_members" "_law_members" (defArgs st__law_members) (defBody st__law_members) (defScope st__law_members) .none kV_15 dc_15 pm_15 an_15 cd_15 ct_15), sl_15⟩)
    (c_15 : PySem.W.codeIn K cd_15 "_law_members" = true)
    (k_15 : PySem.W.keepIn K (.ref f_15) = true)
    (a_16 : PySem.W.nsIn K mainGlobals "_law_text" = some (some (.ref f_16)))
    (l_16 : K.lookup f_16 = some ⟨oc_16, od_16, .func (PySem.W.fnOf "_law_text" "_law_text" (defArgs st__law_text) (defBody st__law_text) (defScope st__law_text) .none kV_16 dc_16 pm_16 an_16 cd_16 ct_16), sl_16⟩)
    (c_16 : PySem.W.codeIn K cd_16 "_law_text" = true)
    (k_16 : PySem.W.keepIn K (.ref f_16) = true)
    (l_17 : K.lookup f_17 = some ⟨oc_17, od_17, .func (PySem.W.fnOf "outcome" "Worth.outcome" (defArgs st_Worth__outcome) (defBody st_Worth__outcome) (defScope st_Worth__outcome) .none kV_17 dc_17 pm_17 an_17 cd_17 ct_17), sl_17⟩)
    (c_17 : PySem.W.codeIn K cd_17 "Worth.outcome" = true)
    (k_17 : PySem.W.keepIn K (.ref f_17) = true)
    (l_18 : K.lookup f_18 = some ⟨oc_18, od_18, .func (PySem.W.fnOf "outcome" "Numbered.outcome" (defArgs st_Numbered__outcome) (defBody st_Numbered__outcome) (defScope st_Numbered__outcome) .none kV_18 dc_18 pm_18 an_18 cd_18 ct_18), sl_18⟩)
    (c_18 : PySem.W.codeIn K cd_18 "Numbered.outcome" = true)
    (k_18 : PySem.W.keepIn K (.ref f_18) = true)
    (l_19 : K.lookup f_19 = some ⟨oc_19, od_19, .func (PySem.W.fnOf "outcome" "Endless.outcome" (defArgs st_Endless__outcome) (defBody st_Endless__outcome) (defScope st_Endless__outcome) .none kV_19 dc_19 pm_19 an_19 cd_19 ct_19), sl_19⟩)
    (c_19 : PySem.W.codeIn K cd_19 "Endless.outcome" = true)
    (k_19 : PySem.W.keepIn K (.ref f_19) = true)
    (l_20 : K.lookup f_20 = some ⟨oc_20, od_20, .func (PySem.W.fnOf "told" "Worth.told" (defArgs st_Worth__told) (defBody st_Worth__told) (defScope st_Worth__told) .none kV_20 dc_20 pm_20 an_20 cd_20 ct_20), sl_20⟩)
    (c_20 : PySem.W.codeIn K cd_20 "Worth.told" = true)
    (k_20 : PySem.W.keepIn K (.ref f_20) = true)
    (l_21 : K.lookup f_21 = some ⟨oc_21, od_21, .func (PySem.W.fnOf "told" "Numbered.told" (defArgs st_Numbered__told) (defBody st_Numbered__told) (defScope st_Numbered__told) .none kV_21 dc_21 pm_21 an_21 cd_21 ct_21), sl_21⟩)
    (c_21 : PySem.W.codeIn K cd_21 "Numbered.told" = true)
    (k_21 : PySem.W.keepIn K (.ref f_21) = true)
    (l_22 : K.lookup f_22 = some ⟨oc_22, od_22, .func (PySem.W.fnOf "told" "Endless.told" (defArgs st_Endless__told) (defBody st_Endless__told) (defScope st_Endless__told) .none kV_22 dc_22 pm_22 an_22 cd_22 ct_22), sl_22⟩)
    (c_22 : PySem.W.codeIn K cd_22 "Endless.told" = true)
    (k_22 : PySem.W.keepIn K (.ref f_22) = true)
    (l_23 : K.lookup f_23 = some ⟨oc_23, od_23, .func (PySem.W.fnOf "is_endless" "Worth.is_endless" (defArgs st_Worth__is_endless) (defBody st_Worth__is_endless) (defScope st_Worth__is_endless) .none kV_23 dc_23 pm_23 an_23 cd_23 ct_23), sl_23⟩)
    (c_23 : PySem.W.codeIn K cd_23 "Worth.is_endless" = true)
    (k_23 : PySem.W.keepIn K (.ref f_23) = true)
    (l_24 : K.lookup f_24 = some ⟨oc_24, od_24, .func (PySem.W.fnOf "is_endless" "Endless.is_endless" (defArgs st_Endless__is_endless) (defBody st_Endless__is_endless) (defScope st_Endless__is_endless) .none kV_24 dc_24 pm_24 an_24 cd_24 ct_24), sl_24⟩)
    (c_24 : PySem.W.codeIn K cd_24 "Endless.is_endless" = true)
    (k_24 : PySem.W.keepIn K (.ref f_24) = true)
    (a_25 : PySem.W.nsIn K mainGlobals "_law_is" = some (some (.ref f_25)))
    (l_25 : K.lookup f_25 = some ⟨oc_25, od_25, .func (PySem.W.fnOf "_law_is" "_law_is" (defArgs st__law_is) (defBody st__law_is) (defScope st__law_is) .none kV_25 dc_25 pm_25 an_25 cd_25 ct_25), sl_25⟩)
    (c_25 : PySem.W.codeIn K cd_25 "_law_is" = true)
    (k_25 : PySem.W.keepIn K (.ref f_25) = true)
    (a_26 : PySem.W.nsIn K mainGlobals "_law_due" = some (some (.ref f_26)))
    (l_26 : K.lookup f_26 = some ⟨oc_26, od_26, .func (PySem.W.fnOf "_law_due" "_law_due" (defArgs st__law_due) (defBody st__law_due) (defScope st__law_due) .none kV_26 dc_26 pm_26 an_26 cd_26 ct_26), sl_26⟩)
    (c_26 : PySem.W.codeIn K cd_26 "_law_due" = true)
    (k_26 : PySem.W.keepIn K (.ref f_26) = true)
    (a_27 : PySem.W.nsIn K mainGlobals "_law_take" = some (some (.ref f_27)))
    (l_27 : K.lookup f_27 = some ⟨oc_27, od_27, .func (PySem.W.fnOf "_law_take" "_law_take" (defArgs st__law_take) (defBody st__law_take) (defScope st__law_take) .none kV_27 dc_27 pm_27 an_27 cd_27 ct_27), sl_27⟩)
    (c_27 : PySem.W.codeIn K cd_27 "_law_take" = true)
    (k_27 : PySem.W.keepIn K (.ref f_27) = true)
    (a_28 : PySem.W.nsIn K mainGlobals "_law_spoilt" = some (some (.ref f_28)))
    (l_28 : K.lookup f_28 = some ⟨oc_28, od_28, .func (PySem.W.fnOf "_law_spoilt" "_law_spoilt" (defArgs st__law_spoilt) (defBody st__law_spoilt) (defScope st__law_spoilt) .none kV_28 dc_28 pm_28 an_28 cd_28 ct_28), sl_28⟩)
    (c_28 : PySem.W.codeIn K cd_28 "_law_spoilt" = true)
    (k_28 : PySem.W.keepIn K (.ref f_28) = true)
    (a_29 : PySem.W.nsIn K mainGlobals "_law_right" = some (some (.ref f_29)))
    (l_29 : K.lookup f_29 = some ⟨oc_29, od_29, .func (PySem.W.fnOf "_law_right" "_law_right" (defArgs st__law_right) (defBody st__law_right) (defScope st__law_right) .none kV_29 dc_29 pm_29 an_29 cd_29 ct_29), sl_29⟩)
    (c_29 : PySem.W.codeIn K cd_29 "_law_right" = true)
    (k_29 : PySem.W.keepIn K (.ref f_29) = true)
    (a_30 : PySem.W.nsIn K mainGlobals "_law_source" = some (some (.ref f_30)))
    (l_30 : K.lookup f_30 = some ⟨oc_30, od_30, .func (PySem.W.fnOf "_law_source" "_law_source" (defArgs st__law_source) (defBody st__law_source) (defScope st__law_source) .none kV_30 dc_30 pm_30 an_30 cd_30 ct_30), sl_30⟩)
    (c_30 : PySem.W.codeIn K cd_30 "_law_source" = true)
    (k_30 : PySem.W.keepIn K (.ref f_30) = true)
    (a_31 : PySem.W.nsIn K mainGlobals "_law_cell_at" = some (some (.ref f_31)))
    (l_31 : K.lookup f_31 = some ⟨oc_31, od_31, .func (PySem.W.fnOf "_law_cell_at" "_law_cell_at" (defArgs st__law_cell_at) (defBody st__law_cell_at) (defScope st__law_cell_at) .none kV_31 dc_31 pm_31 an_31 cd_31 ct_31), sl_31⟩)
    (c_31 : PySem.W.codeIn K cd_31 "_law_cell_at" = true)
    (k_31 : PySem.W.keepIn K (.ref f_31) = true)
    (a_32 : PySem.W.nsIn K mainGlobals "law" = some (some (.ref f_32)))
    (l_32 : K.lookup f_32 = some ⟨oc_32, od_32, .func (PySem.W.fnOf "law" "law" (defArgs st_law) (defBody st_law) (defScope st_law) .none kV_32 dc_32 pm_32 an_32 cd_32 ct_32), sl_32⟩)
    (c_32 : PySem.W.codeIn K cd_32 "law" = true)
    (k_32 : PySem.W.keepIn K (.ref f_32) = true)
    (aC_Endless : PySem.W.nsIn K mainGlobals "Endless" = some (some (.ref C_Endless)))
    (pg_Endless : PySem.W.plainGet K C_Endless Str.empty = true)
    (hd_Endless : PySem.W.hasDictIn K C_Endless = true)
    (po_Endless : PySem.W.plainOver K C_Endless = true)
    (sa_Endless : PySem.W.findIn K (.ref C_Endless) "__setattr__" = some (some (.builtin "object.__setattr__")))
    (mk_Endless : PySem.W.makesIn K C_Endless = true)
    (kc_Endless : PySem.W.keepIn K (.ref C_Endless) = true)
    (aC_NoWorth : PySem.W.nsIn K mainGlobals "NoWorth" = some (some (.ref C_NoWorth)))
    (aC_Numbered : PySem.W.nsIn K mainGlobals "Numbered" = some (some (.ref C_Numbered)))
    (pg_Numbered : PySem.W.plainGet K C_Numbered Str.empty = true)
    (hd_Numbered : PySem.W.hasDictIn K C_Numbered = true)
    (po_Numbered : PySem.W.plainOver K C_Numbered = true)
    (sa_Numbered : PySem.W.findIn K (.ref C_Numbered) "__setattr__" = some (some (.builtin "object.__setattr__")))
    (mk_Numbered : PySem.W.makesIn K C_Numbered = true)
    (kc_Numbered : PySem.W.keepIn K (.ref C_Numbered) = true)
    (aC_Worth : PySem.W.nsIn K mainGlobals "Worth" = some (some (.ref C_Worth)))
    (pg_Worth : PySem.W.plainGet K C_Worth Str.empty = true)
    (hd_Worth : PySem.W.hasDictIn K C_Worth = true)
    (po_Worth : PySem.W.plainOver K C_Worth = true)
    (sa_Worth : PySem.W.findIn K (.ref C_Worth) "__setattr__" = some (some (.builtin "object.__setattr__")))
    (at_Numbered__init : PySem.W.findIn K (.ref C_Numbered) "__init__" = some (some (.ref f_1)))
    (at_Endless__init : PySem.W.findIn K (.ref C_Endless) "__init__" = some (some (.ref f_3)))
    (at_Worth__text : PySem.W.findIn K (.ref C_Worth) "text" = some (some (.ref f_5)))
    (at_Numbered__text : PySem.W.findIn K (.ref C_Numbered) "text" = some (some (.ref f_6)))
    (at_Endless__text : PySem.W.findIn K (.ref C_Endless) "text" = some (some (.ref f_8)))
    (at_Worth__outcome : PySem.W.findIn K (.ref C_Worth) "outcome" = some (some (.ref f_17)))
    (at_Numbered__outcome : PySem.W.findIn K (.ref C_Numbered) "outcome" = some (some (.ref f_18)))
    (at_Endless__outcome : PySem.W.findIn K (.ref C_Endless) "outcome" = some (some (.ref f_19)))
    (at_Worth__told : PySem.W.findIn K (.ref C_Worth) "told" = some (some (.ref f_20)))
    (at_Numbered__told : PySem.W.findIn K (.ref C_Numbered) "told" = some (some (.ref f_21)))
    (at_Endless__told : PySem.W.findIn K (.ref C_Endless) "told" = some (some (.ref f_22)))
    (at_Worth__is_endless : PySem.W.findIn K (.ref C_Worth) "is_endless" = some (some (.ref f_23)))
    (at_Numbered__is_endless : PySem.W.findIn K (.ref C_Numbered) "is_endless" = some (some (.ref f_23)))
    (at_Endless__is_endless : PySem.W.findIn K (.ref C_Endless) "is_endless" = some (some (.ref f_24)))
    (fn_1 : PySem.W.isFn K (.ref f_1) = true)
    (fn_3 : PySem.W.isFn K (.ref f_3) = true)
    (fn_5 : PySem.W.isFn K (.ref f_5) = true)
    (fn_6 : PySem.W.isFn K (.ref f_6) = true)
    (fn_8 : PySem.W.isFn K (.ref f_8) = true)
    (fn_17 : PySem.W.isFn K (.ref f_17) = true)
    (fn_18 : PySem.W.isFn K (.ref f_18) = true)
    (fn_19 : PySem.W.isFn K (.ref f_19) = true)
    (fn_20 : PySem.W.isFn K (.ref f_20) = true)
    (fn_21 : PySem.W.isFn K (.ref f_21) = true)
    (fn_22 : PySem.W.isFn K (.ref f_22) = true)
    (fn_23 : PySem.W.isFn K (.ref f_23) = true)
    (fn_24 : PySem.W.isFn K (.ref f_24) = true)
    (nf_Endless_bits : PySem.W.findIn K (.ref C_Endless) "bits" = some none)
    (nf_Numbered_number : PySem.W.findIn K (.ref C_Numbered) "number" = some none)
    (cl_Endless : PySem.W.findIn K (.ref C_Endless) "__class__" = some (some (.builtin "object.__class__")))
    (ob_Endless : PySem.W.mroIn K C_Endless (.type "object") = some true)
    (cl_Numbered : PySem.W.findIn K (.ref C_Numbered) "__class__" = some (some (.builtin "object.__class__")))
    (ob_Numbered : PySem.W.mroIn K C_Numbered (.type "object") = some true)
    (is_ty_NoneType_NoWorth : PySem.W.kitOne K (.type "NoneType") (.ref C_NoWorth) = some false)
    (is_Endless_Endless : PySem.W.kitOne K (.ref C_Endless) (.ref C_Endless) = some true)
    (is_Endless_NoWorth : PySem.W.kitOne K (.ref C_Endless) (.ref C_NoWorth) = some false)
    (is_Endless_Numbered : PySem.W.kitOne K (.ref C_Endless) (.ref C_Numbered) = some false)
    (is_Endless_Worth : PySem.W.kitOne K (.ref C_Endless) (.ref C_Worth) = some true)
    (is_Numbered_Endless : PySem.W.kitOne K (.ref C_Numbered) (.ref C_Endless) = some false)
    (is_Numbered_NoWorth : PySem.W.kitOne K (.ref C_Numbered) (.ref C_NoWorth) = some false)
    (is_Numbered_Numbered : PySem.W.kitOne K (.ref C_Numbered) (.ref C_Numbered) = some true)
    (is_Numbered_Worth : PySem.W.kitOne K (.ref C_Numbered) (.ref C_Worth) = some true)
    (aX_NoWorth : PySem.W.nsIn K mainGlobals "NoWorth" = some (some (.ref C_NoWorth)))
    (xl_NoWorth : K.lookup C_NoWorth = some (excClassObj nm_NoWorth q_NoWorth C_NoWorth N_NoWorth bs_NoWorth bm_NoWorth true sn_NoWorth sub_NoWorth ab_NoWorth col_NoWorth dd_NoWorth k0_NoWorth k1_NoWorth k2_NoWorth k3_NoWorth k5_NoWorth "ValueError.__new__"))
    (xv_NoWorth : PySem.HandSPX.refsVE bm_NoWorth = true)
    (xs_NoWorth : PySem.W.findIn K (.ref C_NoWorth) "__setattr__" = some (some (.builtin "object.__setattr__")))
    (xk_NoWorth : PySem.W.keepIn K (.ref C_NoWorth) = true)
    (xg_NoWorth : PySem.W.findIn K (.ref C_NoWorth) "__getattribute__" = some (some (.builtin "BaseException.__getattribute__")))
    (xh_NoWorth : PySem.W.findIn K (.ref C_NoWorth) "__getattr__" = some none)
    (xc_NoWorth : PySem.W.findIn K (.ref C_NoWorth) "__class__" = some (some (.builtin "object.__class__")))
    (xo_NoWorth : PySem.W.mroIn K C_NoWorth (.type "object") = some true)
    (xn_NoWorth : PySem.W.findIn K (.ref C_NoWorth) "found" = some none)
    (xi_NoWorth : PySem.W.findIn K (.ref C_NoWorth) "__init__" = some (some (.ref fx_NoWorth)))
    (xt_NoWorth : PySem.W.typeIn K (.ref fx_NoWorth) = some (.type "function"))
    (fl_NoWorth : K.lookup fx_NoWorth = some ⟨xoc_NoWorth, xod_NoWorth, .func (PySem.W.fnOf "__init__" "NoWorth.__init__" (defArgs st_NoWorth__init) (defBody st_NoWorth__init) (defScope st_NoWorth__init) .none xkV_NoWorth xdc_NoWorth xpm_NoWorth xan_NoWorth xcd_NoWorth xct_NoWorth), xsl_NoWorth⟩)
    (fc_NoWorth : PySem.W.codeIn K xcd_NoWorth "NoWorth.__init__" = true)
    (fk_NoWorth : PySem.W.keepIn K (.ref fx_NoWorth) = true)
    (xe_NoWorth : PySem.W.subIn K (.ref C_NoWorth) (.type "BaseException") = some true)
    (xd_NoWorth : PySem.W.hasDictIn K C_NoWorth = true)
    (xy_NoWorth : PySem.W.typeIn K (.ref C_NoWorth) = some (.type "type"))
    (aX_HeapError : PySem.W.nsIn K mainGlobals "HeapError" = some (some (.ref C_HeapError)))
    (xe_HeapError : PySem.W.subIn K (.ref C_HeapError) (.type "BaseException") = some true)
    (xd_HeapError : PySem.W.hasDictIn K C_HeapError = true)
    (xy_HeapError : PySem.W.typeIn K (.ref C_HeapError) = some (.type "type"))
    (is_x_NoWorth_HeapError : PySem.W.kitOne K (.ref C_NoWorth) (.ref C_HeapError) = some true)
    (is_x_NoWorth_NoWorth : PySem.W.kitOne K (.ref C_NoWorth) (.ref C_NoWorth) = some true)
    (xb_NoWorth_HeapError : PySem.W.subIn K (.ref C_NoWorth) (.ref C_HeapError) = some true)
    (xb_NoWorth_NoWorth : PySem.W.subIn K (.ref C_NoWorth) (.ref C_NoWorth) = some true)
    (he1_ : PySem.W.specialIn K (.ref C_HeapError) "__getattribute__" = some (some (.builtin "type.__getattribute__")))
    (he2_ : PySem.W.readsIn K C_HeapError (.type "type") = true)
    (he3_ : PySem.W.findCls K (.ref C_HeapError) (.type "type") "__init__" = some (.val (.builtin "ValueError.__init__")))
    (gs_ : PySem.W.specialIn K (.builtin "object.__class__") "__get__" = some (some (.builtin "getset_descriptor.__get__")))
    (tk_ : PySem.W.takesIn K (.builtin "object.__class__") = some true)
    (pn__law_right_law : P__law_right ≠ P_law)
    (tc__law_right : cd_29 = .ref c__law_right)
    (tl__law_right : K.lookup c__law_right = some ⟨tcl__law_right, tod__law_right, .fields tvs__law_right, tsl__law_right⟩)
    (tv__law_right : tvs__law_right[11]? = some (.ref P__law_right))
    (th__law_right : PySem.W.codeHdIn K c__law_right P__law_right = true)
    (tn__law_right : K.lookup P__law_right = none)
    (tt__law_right : h.get? P__law_right = some { cls := .none, data := .fields #[] })
    (tc_law : cd_32 = .ref c_law)
    (tl_law : K.lookup c_law = some ⟨tcl_law, tod_law, .fields tvs_law, tsl_law⟩)
    (tv_law : tvs_law[11]? = some (.ref P_law))
    (th_law : PySem.W.codeHdIn K c_law P_law = true)
    (tn_law : K.lookup P_law = none)
    (tt_law : h.get? P_law = some { cls := .none, data := .fields #[] })
    (z0_ : PySem.W.nsIn K mainGlobals "" = some none)
    (z_all : PySem.W.nsIn K mainGlobals "all" = some none)
    (z_bool : PySem.W.nsIn K mainGlobals "bool" = some none)
    (z_int : PySem.W.nsIn K mainGlobals "int" = some none)
    (z_isinstance : PySem.W.nsIn K mainGlobals "isinstance" = some none)
    (z_len : PySem.W.nsIn K mainGlobals "len" = some none)
    (z_list : PySem.W.nsIn K mainGlobals "list" = some none)
    (z_max : PySem.W.nsIn K mainGlobals "max" = some none)
    (z_min : PySem.W.nsIn K mainGlobals "min" = some none)
    (z_range : PySem.W.nsIn K mainGlobals "range" = some none)
    (z_reversed : PySem.W.nsIn K mainGlobals "reversed" = some none)
    (z_str : PySem.W.nsIn K mainGlobals "str" = some none)
    (z_tuple : PySem.W.nsIn K mainGlobals "tuple" = some none)
    (q_FIGURES : PySem.W.nsIn K mainGlobals "FIGURES" = some (some (.str "0123456789" tk_FIGURES)))
    (q_MOST_BITS : PySem.W.nsIn K mainGlobals "MOST_BITS" = some (some (.int 65535 tk_MOST_BITS)))
    (q_MOST_NUMBER : PySem.W.nsIn K mainGlobals "MOST_NUMBER" = some (some (.int 15 tk_MOST_NUMBER)))
    : LawT prog w K mg fa 9 "_law_script" fs_law h := by
  have e := hfa.symm.trans (PySem.W.mg_of X G a_32)
  cases e
  have mf : MgF mg := ⟨PySem.W.mg_none_of X G z_all, PySem.W.mg_none_of X G z_bool, PySem.W.mg_none_of X G z_int, PySem.W.mg_none_of X G z_isinstance, PySem.W.mg_none_of X G z_len, PySem.W.mg_none_of X G z_list, PySem.W.mg_none_of X G z_max, PySem.W.mg_none_of X G z_min, PySem.W.mg_none_of X G z_range, PySem.W.mg_none_of X G z_reversed, PySem.W.mg_none_of X G z_str, PySem.W.mg_none_of X G z_tuple, ⟨_, PySem.W.mg_of X G q_FIGURES⟩, ⟨_, PySem.W.mg_of X G q_MOST_BITS⟩, ⟨_, PySem.W.mg_of X G q_MOST_NUMBER⟩⟩
  have hc_Endless : (gi0 K P__law_right P_law).cls "Endless" = some C_Endless := clsAt_of aC_Endless
  have cl_ok_Endless : Cls K C_Endless := ⟨pg_Endless, hd_Endless, po_Endless, sa_Endless⟩
  have hc_NoWorth : (gi0 K P__law_right P_law).cls "NoWorth" = some C_NoWorth := clsAt_of aC_NoWorth
  have hc_Numbered : (gi0 K P__law_right P_law).cls "Numbered" = some C_Numbered := clsAt_of aC_Numbered
  have cl_ok_Numbered : Cls K C_Numbered := ⟨pg_Numbered, hd_Numbered, po_Numbered, sa_Numbered⟩
  have hc_Worth : (gi0 K P__law_right P_law).cls "Worth" = some C_Worth := clsAt_of aC_Worth
  have cl_ok_Worth : Cls K C_Worth := ⟨pg_Worth, hd_Worth, po_Worth, sa_Worth⟩
  have fo : FieldsOk (gi0 K P__law_right P_law) FT := (FieldsOk.cons hc_Endless cl_ok_Endless nf_Endless_bits (FieldsOk.cons hc_Numbered cl_ok_Numbered nf_Numbered_number FieldsOk.nil))
  have io : IsiOk (gi0 K P__law_right P_law) IT := IsiP.ok (IsiP.cons hc_Endless (u := .ref C_Endless) (congrArg (Option.map fun C => Value.ref C) hc_Endless) ⟨cl_ok_Endless, cl_Endless, ob_Endless⟩ is_Endless_Endless (IsiP.cons hc_Endless (u := .ref C_NoWorth) (congrArg (Option.map fun C => Value.ref C) hc_NoWorth) ⟨cl_ok_Endless, cl_Endless, ob_Endless⟩ is_Endless_NoWorth (IsiP.cons hc_Endless (u := .ref C_Numbered) (congrArg (Option.map fun C => Value.ref C) hc_Numbered) ⟨cl_ok_Endless, cl_Endless, ob_Endless⟩ is_Endless_Numbered (IsiP.cons hc_Endless (u := .ref C_Worth) (congrArg (Option.map fun C => Value.ref C) hc_Worth) ⟨cl_ok_Endless, cl_Endless, ob_Endless⟩ is_Endless_Worth (IsiP.cons hc_Numbered (u := .ref C_Endless) (congrArg (Option.map fun C => Value.ref C) hc_Endless) ⟨cl_ok_Numbered, cl_Numbered, ob_Numbered⟩ is_Numbered_Endless (IsiP.cons hc_Numbered (u := .ref C_NoWorth) (congrArg (Option.map fun C => Value.ref C) hc_NoWorth) ⟨cl_ok_Numbered, cl_Numbered, ob_Numbered⟩ is_Numbered_NoWorth (IsiP.cons hc_Numbered (u := .ref C_Numbered) (congrArg (Option.map fun C => Value.ref C) hc_Numbered) ⟨cl_ok_Numbered, cl_Numbered, ob_Numbered⟩ is_Numbered_Numbered (IsiP.cons hc_Numbered (u := .ref C_Worth) (congrArg (Option.map fun C => Value.ref C) hc_Worth) ⟨cl_ok_Numbered, cl_Numbered, ob_Numbered⟩ is_Numbered_Worth (IsiP.consT (congrArg (Option.map fun C => Value.ref C) hc_NoWorth) is_ty_NoneType_NoWorth IsiP.nil))))))))) gs_ tk_
  have hHe : HeC K mg := ⟨C_HeapError, PySem.W.mg_of X G aX_HeapError, he1_, he2_, he3_⟩
  have hx_NoWorth : exc0 K "NoWorth" = some (C_NoWorth, ("found" : Str)) := excOf_at (FE := FE) rfl (clsAt_of aX_NoWorth)
  have O_NoWorth : OexC K C_NoWorth := ⟨⟨_, _, _, _, _, _, _, _, _, _, _, _, _, _, _, xl_NoWorth, xv_NoWorth⟩, xs_NoWorth, xe_NoWorth, xy_NoWorth, xk_NoWorth⟩
  have XC_NoWorth : ExcC K C_NoWorth := ⟨xg_NoWorth, xh_NoWorth, xe_NoWorth, xd_NoWorth, xc_NoWorth, gs_, tk_, xo_NoWorth⟩
  have FX_NoWorth := fun_mk (st := st_NoWorth__init) fl_NoWorth fc_NoWorth fk_NoWorth
  have BX_NoWorth := FX_NoWorth.binds (ps := ["self", "found"]) fun _ _ _ _ _ _ => us_2 fun _ _ => rfl
  have xfm : ∀ p ∈ FE, ∃ C, clsAt K p.1 = some C ∧ XfC K C ∧ PySem.W.findIn K (.ref C) p.2 = some none := (List.forall_mem_cons.2 ⟨⟨C_NoWorth, clsAt_of aX_NoWorth, ⟨xg_NoWorth, xh_NoWorth, xe_NoWorth, xd_NoWorth⟩, xn_NoWorth⟩, (fun _ h => nomatch h)⟩)
  have xce : ∀ p ∈ CE, ∃ C, clsAt K p.1.1 = some C ∧ ExcC K C ∧ (PySem.W.clsIn K C).isSome = true ∧ ∃ w u, NamC mg p.1.2 w u ∧ PySem.W.kitOne K (.ref C) u = some p.2 ∧ PySem.W.exmOne K (.ref C) u = some p.2 := (List.forall_mem_cons.2 ⟨⟨C_NoWorth, clsAt_of aX_NoWorth, XC_NoWorth, clsIn_exc xl_NoWorth, .ref C_HeapError, .ref C_HeapError, .inl ⟨C_HeapError, rfl, rfl, PySem.W.mg_of X G aX_HeapError⟩, is_x_NoWorth_HeapError, PySem.W.exm_ref xe_HeapError xd_HeapError xy_HeapError xb_NoWorth_HeapError⟩, (List.forall_mem_cons.2 ⟨⟨C_NoWorth, clsAt_of aX_NoWorth, XC_NoWorth, clsIn_exc xl_NoWorth, .ref C_NoWorth, .ref C_NoWorth, .inl ⟨C_NoWorth, rfl, rfl, PySem.W.mg_of X G aX_NoWorth⟩, is_x_NoWorth_NoWorth, PySem.W.exm_ref xe_NoWorth xd_NoWorth xy_NoWorth xb_NoWorth_NoWorth⟩, (fun _ h => nomatch h)⟩)⟩)
  have xf : ∀ P : Pl, P.G = (gi0 K P__law_right P_law) → P.exc = exc0 K → XcF P mg := fun P hG he => ⟨ExFld.of (by rw [hG]; rfl) he xfm, ExIs.of (by rw [hG]; rfl) he xce, fun c C f h => by rw [he] at h; rw [hG]; exact (excOf_inv h).2, ⟨C_HeapError, PySem.W.mg_of X G aX_HeapError⟩⟩
  have ek : ErrK (gi0 K P__law_right P_law) FE CK := ErrK.of xfm (List.forall_mem_cons.2 ⟨⟨C_NoWorth, .ref C_HeapError, clsAt_of aX_NoWorth, XC_NoWorth, clsIn_exc xl_NoWorth, congrArg (Option.map fun C => Value.ref C) (clsAt_of aX_HeapError), is_x_NoWorth_HeapError⟩, (List.forall_mem_cons.2 ⟨⟨C_NoWorth, .ref C_NoWorth, clsAt_of aX_NoWorth, XC_NoWorth, clsIn_exc xl_NoWorth, congrArg (Option.map fun C => Value.ref C) (clsAt_of aX_NoWorth), is_x_NoWorth_NoWorth⟩, (fun _ h => nomatch h)⟩)⟩)
  have cf : ∀ (P : Pl), P.G = (gi0 K P__law_right P_law) → ClF P mg := fun P hG => by
    obtain ⟨PM, PG, PW, PE⟩ := P
    cases hG
    exact ⟨fo, io, ek, fun _ => rfl, ⟨_, hc_Endless, PySem.W.mg_of X G aC_Endless⟩, ⟨_, hc_NoWorth, PySem.W.mg_of X G aC_NoWorth⟩, ⟨_, hc_Numbered, PySem.W.mg_of X G aC_Numbered⟩, ⟨_, hc_Worth, PySem.W.mg_of X G aC_Worth⟩⟩
  have F_0 := fun_mk (st := st_is_whole) l_0 c_0 k_0
  have B_0 := F_0.binds (ps := ["thing"]) fun _ _ _ _ _ _ => us_1 fun _ => rfl
  have F_1 := fun_mk (st := st_Numbered__init) l_1 c_1 k_1
  have B_1 := F_1.binds (ps := ["self", "number"]) fun _ _ _ _ _ _ => us_2 fun _ _ => rfl
  have F_3 := fun_mk (st := st_Endless__init) l_3 c_3 k_3
  have B_3 := F_3.binds (ps := ["self", "bits"]) fun _ _ _ _ _ _ => us_2 fun _ _ => rfl
  have F_5 := fun_mk (st := st_Worth__text) l_5 c_5 k_5
  have B_5 := F_5.binds (ps := ["self"]) fun _ _ _ _ _ _ => us_1 fun _ => rfl
  have F_6 := fun_mk (st := st_Numbered__text) l_6 c_6 k_6
  have B_6 := F_6.binds (ps := ["self"]) fun _ _ _ _ _ _ => us_1 fun _ => rfl
  have F_7 := fun_mk (st := st_numbers_in) l_7 c_7 k_7
  have B_7 := F_7.binds (ps := ["bits"]) fun _ _ _ _ _ _ => us_1 fun _ => rfl
  have F_8 := fun_mk (st := st_Endless__text) l_8 c_8 k_8
  have B_8 := F_8.binds (ps := ["self"]) fun _ _ _ _ _ _ => us_1 fun _ => rfl
  have F_9 := fun_mk (st := st_set_of) l_9 c_9 k_9
  have B_9 := F_9.binds (ps := ["numbers"]) fun _ _ _ _ _ _ => us_1 fun _ => rfl
  have F_10 := fun_mk (st := st_plain_number) l_10 c_10 k_10
  have B_10 := F_10.binds (ps := ["word"]) fun _ _ _ _ _ _ => us_1 fun _ => rfl
  have F_11 := fun_mk (st := st_read_worth) l_11 c_11 k_11
  have B_11 := F_11.binds (ps := ["text"]) fun _ _ _ _ _ _ => us_1 fun _ => rfl
  have F_14 := fun_mk (st := st__law_refused) l_14 c_14 k_14
  have B_14 := F_14.binds (ps := ["_law_make", "_law_thing"]) fun _ _ _ _ _ _ => us_2 fun _ _ => rfl
  have F_15 := fun_mk (st := st__law_members) l_15 c_15 k_15
  have B_15 := F_15.binds (ps := ["_law_bits"]) fun _ _ _ _ _ _ => us_1 fun _ => rfl
  have F_16 := fun_mk (st := st__law_text) l_16 c_16 k_16
  have B_16 := F_16.binds (ps := ["_law_worth"]) fun _ _ _ _ _ _ => us_1 fun _ => rfl
  have F_17 := fun_mk (st := st_Worth__outcome) l_17 c_17 k_17
  have B_17 := F_17.binds (ps := ["self"]) fun _ _ _ _ _ _ => us_1 fun _ => rfl
  have F_18 := fun_mk (st := st_Numbered__outcome) l_18 c_18 k_18
  have B_18 := F_18.binds (ps := ["self"]) fun _ _ _ _ _ _ => us_1 fun _ => rfl
  have F_19 := fun_mk (st := st_Endless__outcome) l_19 c_19 k_19
  have B_19 := F_19.binds (ps := ["self"]) fun _ _ _ _ _ _ => us_1 fun _ => rfl
  have F_20 := fun_mk (st := st_Worth__told) l_20 c_20 k_20
  have B_20 := F_20.binds (ps := ["self"]) fun _ _ _ _ _ _ => us_1 fun _ => rfl
  have F_21 := fun_mk (st := st_Numbered__told) l_21 c_21 k_21
  have B_21 := F_21.binds (ps := ["self"]) fun _ _ _ _ _ _ => us_1 fun _ => rfl
  have F_22 := fun_mk (st := st_Endless__told) l_22 c_22 k_22
  have B_22 := F_22.binds (ps := ["self"]) fun _ _ _ _ _ _ => us_1 fun _ => rfl
  have F_23 := fun_mk (st := st_Worth__is_endless) l_23 c_23 k_23
  have B_23 := F_23.binds (ps := ["self"]) fun _ _ _ _ _ _ => us_1 fun _ => rfl
  have F_24 := fun_mk (st := st_Endless__is_endless) l_24 c_24 k_24
  have B_24 := F_24.binds (ps := ["self"]) fun _ _ _ _ _ _ => us_1 fun _ => rfl
  have F_25 := fun_mk (st := st__law_is) l_25 c_25 k_25
  have B_25 := F_25.binds (ps := ["_law_worth", "_law_due_here"]) fun _ _ _ _ _ _ => us_2 fun _ _ => rfl
  have F_26 := fun_mk (st := st__law_due) l_26 c_26 k_26
  have B_26 := F_26.binds (ps := ["_law_text_here"]) fun _ _ _ _ _ _ => us_1 fun _ => rfl
  have F_27 := fun_mk (st := st__law_take) l_27 c_27 k_27
  have B_27 := F_27.binds (ps := ["_law_source_here", "_law_many"]) fun _ _ _ _ _ _ => us_2 fun _ _ => rfl
  have F_28 := fun_mk (st := st__law_spoilt) l_28 c_28 k_28
  have B_28 := F_28.binds (ps := ["_law_source_here", "_law_text_here"]) fun _ _ _ _ _ _ => us_2 fun _ _ => rfl
  have F_29 := fun_mk (st := st__law_right) l_29 c_29 k_29
  have B_29 := F_29.binds (ps := ["_law_source_here"]) fun _ _ _ _ _ _ => us_1 fun _ => rfl
  have F_30 := fun_mk (st := st__law_source) l_30 c_30 k_30
  have B_30 := F_30.binds (ps := ["_law_cell"]) fun _ _ _ _ _ _ => us_1 fun _ => rfl
  have F_31 := fun_mk (st := st__law_cell_at) l_31 c_31 k_31
  have B_31 := F_31.binds (ps := ["_law_script", "_law_k"]) fun _ _ _ _ _ _ => us_2 fun _ _ => rfl
  have F_32 := fun_mk (st := st_law) l_32 c_32 k_32
  have B_32 := F_32.binds (ps := ["_law_script"]) fun _ _ _ _ _ _ => us_1 fun _ => rfl
  refine ⟨PySem.W.fnOf "law" "law" (defArgs st_law) (defBody st_law) (defScope st_law) .none kV_32 dc_32 pm_32 an_32 cd_32 ct_32, exc0 K, (gi0 K P__law_right P_law), [(c__law_right, P__law_right), (c_law, P_law)], rfl, rfl, (List.forall_mem_cons.2 ⟨tt__law_right, (List.forall_mem_cons.2 ⟨tt_law, (fun _ h => nomatch h)⟩)⟩), (List.forall_mem_cons.2 ⟨tn__law_right, (List.forall_mem_cons.2 ⟨tn_law, (fun _ h => nomatch h)⟩)⟩), (List.forall_mem_cons.2 ⟨PySem.W.codeHd_of_K X th__law_right, (List.forall_mem_cons.2 ⟨PySem.W.codeHd_of_K X th_law, (fun _ h => nomatch h)⟩)⟩), fun s v => .of_eq rfl, fun base _ _ TB => ?_⟩
  have h0c : (gi0 K P__law_right P_law).cls "" = none := clsAt_no z0_
  have R_NoWorth : FnOk prog w K mg base (L2.CX prog w) 1 fx_NoWorth _ ["self", "found"] (spEx C_NoWorth "found") := exInit_ok (st := st_NoWorth__init) O_NoWorth xn_NoWorth hHe FX_NoWorth ⟨rfl, rfl, rfl, by decide +kernel, rfl, by decide +kernel, by decide +kernel⟩ rfl rfl rfl rfl (by decide) (by decide) fun _ => ⟨_, rfl⟩
  have T_0 : FnOkG prog w K mg base (L2.CX prog w) 1 f_0 _ ["thing"] (spOf (exc0 K) (gi0 K P__law_right P_law) fs_is_whole) := fn_okX (prog := prog) (w := w) (K := K) (mg := mg) (base := base) (exc := exc0 K) (G := (gi0 K P__law_right P_law)) (k := 0) rfl fs_is_whole (x_is_whole) F_0 sc_is_whole (by first | rfl | (rw [io_is_whole]; rfl)) (fun P hG he fr fn A tp cx => by
      obtain ⟨PM, PG, PW, PE⟩ := P
      cases hG
      cases he
      exact b_is_whole fr mf fn (cf _ rfl)) (fun ds _ => .inr rfl) (asgOk_ok rfl)
  have T_1 : FnOkG prog w K mg base (L2.CX prog w) 3 f_1 _ ["self", "number"] (spOf (exc0 K) (gi0 K P__law_right P_law) fs_Numbered__init) := fn_okX (prog := prog) (w := w) (K := K) (mg := mg) (base := base) (exc := exc0 K) (G := (gi0 K P__law_right P_law)) (k := 2) rfl fs_Numbered__init (x_Numbered__init) F_1 sc_Numbered__init (by first | rfl | (rw [io_Numbered__init]; rfl)) (fun P hG he fr fn A tp cx => by
      obtain ⟨PM, PG, PW, PE⟩ := P
      cases hG
      cases he
      exact b_Numbered__init fr mf fn (cf _ rfl) (AtX.fn A T_0 (by first | decide | omega) (PySem.W.mg_of X G a_0) k_0 B_0) (AtX.rz A hx_NoWorth O_NoWorth xi_NoWorth xt_NoWorth R_NoWorth (by first | decide | omega) (PySem.W.mg_of X G aX_NoWorth) BX_NoWorth)) (fun ds _ => .inr rfl) (asgOk_ok rfl)
  have T_2 : ∀ f cl c, NOkG prog w K mg base (L2.CX prog w) 5 f (lamF ("_law_right" ++ ".<locals>.") ex_lam1 cl c) ["_law_found"] [] (fun ws vs H Q E => vs.length = 1 ∧ spOf (exc0 K) (gi0 K P__law_right P_law) fs_lam1 (vs ++ ws) H Q E) := fun f cl c => fn_okL (F := (lamF ("_law_right" ++ ".<locals>.") ex_lam1 cl c)) (G := (gi0 K P__law_right P_law)) (exc := exc0 K) rfl fs_lam1 m_lam1 (e := lamBody ex_lam1) rfl rfl sc_lam1 (fun _ _ us hl => match us, hl with | [_], _ => rfl) (by first | rfl | (rw [io_lam1]; rfl)) (fun P hG he fr A tp => by
      obtain ⟨PM, PG, PW, PE⟩ := P
      cases hG
      cases he
      exact b_lam1 fr mf (cf _ rfl) (AtX.mk A hc_Numbered ⟨mk_Numbered, at_Numbered__init, fn_1, kc_Numbered⟩ T_1 (by first | decide | omega) (PySem.W.mg_of X G aC_Numbered) B_1)) (fun ds _ => .inr rfl) (asgOk_ok rfl)
  have T_3 : FnOkG prog w K mg base (L2.CX prog w) 3 f_3 _ ["self", "bits"] (spOf (exc0 K) (gi0 K P__law_right P_law) fs_Endless__init) := fn_okX (prog := prog) (w := w) (K := K) (mg := mg) (base := base) (exc := exc0 K) (G := (gi0 K P__law_right P_law)) (k := 2) rfl fs_Endless__init (x_Endless__init) F_3 sc_Endless__init (by first | rfl | (rw [io_Endless__init]; rfl)) (fun P hG he fr fn A tp cx => by
      obtain ⟨PM, PG, PW, PE⟩ := P
      cases hG
      cases he
      exact b_Endless__init fr mf fn (cf _ rfl) (AtX.fn A T_0 (by first | decide | omega) (PySem.W.mg_of X G a_0) k_0 B_0) (AtX.rz A hx_NoWorth O_NoWorth xi_NoWorth xt_NoWorth R_NoWorth (by first | decide | omega) (PySem.W.mg_of X G aX_NoWorth) BX_NoWorth)) (fun ds _ => .inr rfl) (asgOk_ok rfl)
  have T_4 : ∀ f cl c, NOkG prog w K mg base (L2.CX prog w) 5 f (lamF ("_law_right" ++ ".<locals>.") ex_lam2 cl c) ["_law_found"] [] (fun ws vs H Q E => vs.length = 1 ∧ spOf (exc0 K) (gi0 K P__law_right P_law) fs_lam2 (vs ++ ws) H Q E) := fun f cl c => fn_okL (F := (lamF ("_law_right" ++ ".<locals>.") ex_lam2 cl c)) (G := (gi0 K P__law_right P_law)) (exc := exc0 K) rfl fs_lam2 m_lam2 (e := lamBody ex_lam2) rfl rfl sc_lam2 (fun _ _ us hl => match us, hl with | [_], _ => rfl) (by first | rfl | (rw [io_lam2]; rfl)) (fun P hG he fr A tp => by
      obtain ⟨PM, PG, PW, PE⟩ := P
      cases hG
      cases he
      exact b_lam2 fr mf (cf _ rfl) (AtX.mk A hc_Endless ⟨mk_Endless, at_Endless__init, fn_3, kc_Endless⟩ T_3 (by first | decide | omega) (PySem.W.mg_of X G aC_Endless) B_3)) (fun ds _ => .inr rfl) (asgOk_ok rfl)
  have T_5 : FnOkG prog w K mg base (L2.CX prog w) 1 f_5 _ ["self"] (spOf (exc0 K) (gi0 K P__law_right P_law) fs_Worth__text) := fn_okX (prog := prog) (w := w) (K := K) (mg := mg) (base := base) (exc := exc0 K) (G := (gi0 K P__law_right P_law)) (k := 0) rfl fs_Worth__text (x_Worth__text) F_5 sc_Worth__text (by first | rfl | (rw [io_Worth__text]; rfl)) (fun P hG he fr fn A tp cx => by
      obtain ⟨PM, PG, PW, PE⟩ := P
      cases hG
      cases he
      exact b_Worth__text fr mf fn (cf _ rfl)) (fun ds _ => .inr rfl) (asgOk_ok rfl)
  have T_6 : FnOkG prog w K mg base (L2.CX prog w) 1 f_6 _ ["self"] (spOf (exc0 K) (gi0 K P__law_right P_law) fs_Numbered__text) := fn_okX (prog := prog) (w := w) (K := K) (mg := mg) (base := base) (exc := exc0 K) (G := (gi0 K P__law_right P_law)) (k := 0) rfl fs_Numbered__text (x_Numbered__text) F_6 sc_Numbered__text (by first | rfl | (rw [io_Numbered__text]; rfl)) (fun P hG he fr fn A tp cx => by
      obtain ⟨PM, PG, PW, PE⟩ := P
      cases hG
      cases he
      exact b_Numbered__text fr mf fn (cf _ rfl)) (fun ds _ => .inr rfl) (asgOk_ok rfl)
  have T_7 : FnOkG prog w K mg base (L2.CX prog w) 1 f_7 _ ["bits"] (spOf (exc0 K) (gi0 K P__law_right P_law) fs_numbers_in) := fn_okX (prog := prog) (w := w) (K := K) (mg := mg) (base := base) (exc := exc0 K) (G := (gi0 K P__law_right P_law)) (k := 0) rfl fs_numbers_in (x_numbers_in) F_7 sc_numbers_in (by first | rfl | (rw [io_numbers_in]; rfl)) (fun P hG he fr fn A tp cx => by
      obtain ⟨PM, PG, PW, PE⟩ := P
      cases hG
      cases he
      exact b_numbers_in fr mf fn (cf _ rfl)) (fun ds _ => .inr rfl) (asgOk_ok rfl)
  have T_8 : FnOkG prog w K mg base (L2.CX prog w) 2 f_8 _ ["self"] (spOf (exc0 K) (gi0 K P__law_right P_law) fs_Endless__text) := fn_okX (prog := prog) (w := w) (K := K) (mg := mg) (base := base) (exc := exc0 K) (G := (gi0 K P__law_right P_law)) (k := 1) rfl fs_Endless__text (x_Endless__text) F_8 sc_Endless__text (by first | rfl | (rw [io_Endless__text]; rfl)) (fun P hG he fr fn A tp cx => by
      obtain ⟨PM, PG, PW, PE⟩ := P
      cases hG
      cases he
      exact b_Endless__text fr mf fn (cf _ rfl) (AtX.fn A T_7 (by first | decide | omega) (PySem.W.mg_of X G a_7) k_7 B_7)) (fun ds _ => .inr rfl) (asgOk_ok rfl)
  have T_9 : FnOkG prog w K mg base (L2.CX prog w) 1 f_9 _ ["numbers"] (spOf (exc0 K) (gi0 K P__law_right P_law) fs_set_of) := fn_okX (prog := prog) (w := w) (K := K) (mg := mg) (base := base) (exc := exc0 K) (G := (gi0 K P__law_right P_law)) (k := 0) rfl fs_set_of (x_set_of) F_9 sc_set_of (by first | rfl | (rw [io_set_of]; rfl)) (fun P hG he fr fn A tp cx => by
      obtain ⟨PM, PG, PW, PE⟩ := P
      cases hG
      cases he
      exact b_set_of fr mf fn (cf _ rfl)) (fun ds _ => .inr rfl) (asgOk_ok rfl)
  have T_10 : FnOkG prog w K mg base (L2.CX prog w) 1 f_10 _ ["word"] (spOf (exc0 K) (gi0 K P__law_right P_law) fs_plain_number) := fn_okX (prog := prog) (w := w) (K := K) (mg := mg) (base := base) (exc := exc0 K) (G := (gi0 K P__law_right P_law)) (k := 0) rfl fs_plain_number (x_plain_number) F_10 sc_plain_number (by first | rfl | (rw [io_plain_number]; rfl)) (fun P hG he fr fn A tp cx => by
      obtain ⟨PM, PG, PW, PE⟩ := P
      cases hG
      cases he
      exact b_plain_number fr mf fn (cf _ rfl)) (fun ds _ => .inr rfl) (asgOk_ok rfl)
  have T_11 : FnOkG prog w K mg base (L2.CX prog w) 5 f_11 _ ["text"] (spOf (exc0 K) (gi0 K P__law_right P_law) fs_read_worth) := fn_okX (prog := prog) (w := w) (K := K) (mg := mg) (base := base) (exc := exc0 K) (G := (gi0 K P__law_right P_law)) (k := 4) rfl fs_read_worth (x_read_worth) F_11 sc_read_worth (by first | rfl | (rw [io_read_worth]; rfl)) (fun P hG he fr fn A tp cx => by
      obtain ⟨PM, PG, PW, PE⟩ := P
      cases hG
      cases he
      exact b_read_worth fr mf fn (cf _ rfl) (AtX.fn A T_9 (by first | decide | omega) (PySem.W.mg_of X G a_9) k_9 B_9) (AtX.fn A T_10 (by first | decide | omega) (PySem.W.mg_of X G a_10) k_10 B_10) (AtX.mk A hc_Endless ⟨mk_Endless, at_Endless__init, fn_3, kc_Endless⟩ T_3 (by first | decide | omega) (PySem.W.mg_of X G aC_Endless) B_3) (AtX.mk A hc_Numbered ⟨mk_Numbered, at_Numbered__init, fn_1, kc_Numbered⟩ T_1 (by first | decide | omega) (PySem.W.mg_of X G aC_Numbered) B_1) (MethFact.cons hc_Worth (AtX.meth A cl_ok_Worth ⟨at_Worth__text, fn_5, k_5⟩ T_5 (by first | decide | omega) B_5) (MethFact.cons hc_Numbered (AtX.meth A cl_ok_Numbered ⟨at_Numbered__text, fn_6, k_6⟩ T_6 (by first | decide | omega) B_6) (MethFact.cons hc_Endless (AtX.meth A cl_ok_Endless ⟨at_Endless__text, fn_8, k_8⟩ T_8 (by first | decide | omega) B_8) MethFact.nil))) (AtX.rz A hx_NoWorth O_NoWorth xi_NoWorth xt_NoWorth R_NoWorth (by first | decide | omega) (PySem.W.mg_of X G aX_NoWorth) BX_NoWorth)) (fun ds _ => .inr rfl) (asgOk_ok rfl)
  have T_12 : ∀ f cl c, NOkG prog w K mg base (L2.CX prog w) 6 f (lamF ("_law_right" ++ ".<locals>.") ex_lam3 cl c) ["_law_found"] [] (fun ws vs H Q E => vs.length = 1 ∧ spOf (exc0 K) (gi0 K P__law_right P_law) fs_lam3 (vs ++ ws) H Q E) := fun f cl c => fn_okL (F := (lamF ("_law_right" ++ ".<locals>.") ex_lam3 cl c)) (G := (gi0 K P__law_right P_law)) (exc := exc0 K) rfl fs_lam3 m_lam3 (e := lamBody ex_lam3) rfl rfl sc_lam3 (fun _ _ us hl => match us, hl with | [_], _ => rfl) (by first | rfl | (rw [io_lam3]; rfl)) (fun P hG he fr A tp => by
      obtain ⟨PM, PG, PW, PE⟩ := P
      cases hG
      cases he
      exact b_lam3 fr mf (cf _ rfl) (AtX.fn A T_11 (by first | decide | omega) (PySem.W.mg_of X G a_11) k_11 B_11)) (fun ds _ => .inr rfl) (asgOk_ok rfl)
  have T_13 : ∀ f cl c, NOkG prog w K mg base (L2.CX prog w) 6 f (lamF ("law" ++ ".<locals>.") ex_lam4 cl c) ["_law_found"] [] (fun ws vs H Q E => vs.length = 1 ∧ spOf (exc0 K) (gi0 K P__law_right P_law) fs_lam4 (vs ++ ws) H Q E) := fun f cl c => fn_okL (F := (lamF ("law" ++ ".<locals>.") ex_lam4 cl c)) (G := (gi0 K P__law_right P_law)) (exc := exc0 K) rfl fs_lam4 m_lam4 (e := lamBody ex_lam4) rfl rfl sc_lam4 (fun _ _ us hl => match us, hl with | [_], _ => rfl) (by first | rfl | (rw [io_lam4]; rfl)) (fun P hG he fr A tp => by
      obtain ⟨PM, PG, PW, PE⟩ := P
      cases hG
      cases he
      exact b_lam4 fr mf (cf _ rfl) (AtX.fn A T_11 (by first | decide | omega) (PySem.W.mg_of X G a_11) k_11 B_11)) (fun ds _ => .inr rfl) (asgOk_ok rfl)
  have T_14 : FnOkG prog w K mg base (L2.CX prog w) 7 f_14 _ ["_law_make", "_law_thing"] (spOf (exc0 K) (gi0 K P__law_right P_law) fs__law_refused) := fn_okX (prog := prog) (w := w) (K := K) (mg := mg) (base := base) (exc := exc0 K) (G := (gi0 K P__law_right P_law)) (k := 6) rfl fs__law_refused (x__law_refused) F_14 sc__law_refused (by first | rfl | (rw [io__law_refused]; rfl)) (fun P hG he fr fn A tp cx => by
      obtain ⟨PM, PG, PW, PE⟩ := P
      cases hG
      cases he
      exact b__law_refused fr mf fn (cf _ rfl) (clo_cons (clo_one (AtX.clo A (mk := lamF ("_law_right" ++ ".<locals>.") ex_lam1) rfl (fun _ _ => ⟨rfl, rfl⟩) (fun f cl c => T_2 f cl c) (by first | decide | omega) (by first | rfl | (rw [io_lam1]; rfl)))) (clo_cons (clo_one (AtX.clo A (mk := lamF ("_law_right" ++ ".<locals>.") ex_lam2) rfl (fun _ _ => ⟨rfl, rfl⟩) (fun f cl c => T_4 f cl c) (by first | decide | omega) (by first | rfl | (rw [io_lam2]; rfl)))) (clo_cons (clo_one (AtX.clo A (mk := lamF ("_law_right" ++ ".<locals>.") ex_lam3) rfl (fun _ _ => ⟨rfl, rfl⟩) (fun f cl c => T_12 f cl c) (by first | decide | omega) (by first | rfl | (rw [io_lam3]; rfl)))) (clo_cons (clo_one (AtX.clo A (mk := lamF ("law" ++ ".<locals>.") ex_lam4) rfl (fun _ _ => ⟨rfl, rfl⟩) (fun f cl c => T_13 f cl c) (by first | decide | omega) (by first | rfl | (rw [io_lam4]; rfl)))) clo_nil)))) h0c (xf _ rfl rfl) tp) (fun ds _ => .inr rfl) (asgOk_ok rfl)
  have T_15 : FnOkG prog w K mg base (L2.CX prog w) 1 f_15 _ ["_law_bits"] (spOf (exc0 K) (gi0 K P__law_right P_law) fs__law_members) := fn_okX (prog := prog) (w := w) (K := K) (mg := mg) (base := base) (exc := exc0 K) (G := (gi0 K P__law_right P_law)) (k := 0) rfl fs__law_members (x__law_members) F_15 sc__law_members (by first | rfl | (rw [io__law_members]; rfl)) (fun P hG he fr fn A tp cx => by
      obtain ⟨PM, PG, PW, PE⟩ := P
      cases hG
      cases he
      exact b__law_members fr mf fn (cf _ rfl)) (fun ds _ => .inr rfl) (asgOk_ok rfl)
  have T_16 : FnOkG prog w K mg base (L2.CX prog w) 2 f_16 _ ["_law_worth"] (spOf (exc0 K) (gi0 K P__law_right P_law) fs__law_text) := fn_okX (prog := prog) (w := w) (K := K) (mg := mg) (base := base) (exc := exc0 K) (G := (gi0 K P__law_right P_law)) (k := 1) rfl fs__law_text (x__law_text) F_16 sc__law_text (by first | rfl | (rw [io__law_text]; rfl)) (fun P hG he fr fn A tp cx => by
      obtain ⟨PM, PG, PW, PE⟩ := P
      cases hG
      cases he
      exact b__law_text fr mf fn (cf _ rfl) (AtX.fn A T_15 (by first | decide | omega) (PySem.W.mg_of X G a_15) k_15 B_15)) (fun ds _ => .inr rfl) (asgOk_ok rfl)
  have T_17 : FnOkG prog w K mg base (L2.CX prog w) 1 f_17 _ ["self"] (spOf (exc0 K) (gi0 K P__law_right P_law) fs_Worth__outcome) := fn_okX (prog := prog) (w := w) (K := K) (mg := mg) (base := base) (exc := exc0 K) (G := (gi0 K P__law_right P_law)) (k := 0) rfl fs_Worth__outcome (x_Worth__outcome) F_17 sc_Worth__outcome (by first | rfl | (rw [io_Worth__outcome]; rfl)) (fun P hG he fr fn A tp cx => by
      obtain ⟨PM, PG, PW, PE⟩ := P
      cases hG
      cases he
      exact b_Worth__outcome fr mf fn (cf _ rfl)) (fun ds _ => .inr rfl) (asgOk_ok rfl)
  have T_18 : FnOkG prog w K mg base (L2.CX prog w) 1 f_18 _ ["self"] (spOf (exc0 K) (gi0 K P__law_right P_law) fs_Numbered__outcome) := fn_okX (prog := prog) (w := w) (K := K) (mg := mg) (base := base) (exc := exc0 K) (G := (gi0 K P__law_right P_law)) (k := 0) rfl fs_Numbered__outcome (x_Numbered__outcome) F_18 sc_Numbered__outcome (by first | rfl | (rw [io_Numbered__outcome]; rfl)) (fun P hG he fr fn A tp cx => by
      obtain ⟨PM, PG, PW, PE⟩ := P
      cases hG
      cases he
      exact b_Numbered__outcome fr mf fn (cf _ rfl)) (fun ds _ => .inr rfl) (asgOk_ok rfl)
  have T_19 : FnOkG prog w K mg base (L2.CX prog w) 1 f_19 _ ["self"] (spOf (exc0 K) (gi0 K P__law_right P_law) fs_Endless__outcome) := fn_okX (prog := prog) (w := w) (K := K) (mg := mg) (base := base) (exc := exc0 K) (G := (gi0 K P__law_right P_law)) (k := 0) rfl fs_Endless__outcome (x_Endless__outcome) F_19 sc_Endless__outcome (by first | rfl | (rw [io_Endless__outcome]; rfl)) (fun P hG he fr fn A tp cx => by
      obtain ⟨PM, PG, PW, PE⟩ := P
      cases hG
      cases he
      exact b_Endless__outcome fr mf fn (cf _ rfl)) (fun ds _ => .inr rfl) (asgOk_ok rfl)
  have T_20 : FnOkG prog w K mg base (L2.CX prog w) 1 f_20 _ ["self"] (spOf (exc0 K) (gi0 K P__law_right P_law) fs_Worth__told) := fn_okX (prog := prog) (w := w) (K := K) (mg := mg) (base := base) (exc := exc0 K) (G := (gi0 K P__law_right P_law)) (k := 0) rfl fs_Worth__told (x_Worth__told) F_20 sc_Worth__told (by first | rfl | (rw [io_Worth__told]; rfl)) (fun P hG he fr fn A tp cx => by
      obtain ⟨PM, PG, PW, PE⟩ := P
      cases hG
      cases he
      exact b_Worth__told fr mf fn (cf _ rfl)) (fun ds _ => .inr rfl) (asgOk_ok rfl)
  have T_21 : FnOkG prog w K mg base (L2.CX prog w) 1 f_21 _ ["self"] (spOf (exc0 K) (gi0 K P__law_right P_law) fs_Numbered__told) := fn_okX (prog := prog) (w := w) (K := K) (mg := mg) (base := base) (exc := exc0 K) (G := (gi0 K P__law_right P_law)) (k := 0) rfl fs_Numbered__told (x_Numbered__told) F_21 sc_Numbered__told (by first | rfl | (rw [io_Numbered__told]; rfl)) (fun P hG he fr fn A tp cx => by
      obtain ⟨PM, PG, PW, PE⟩ := P
      cases hG
      cases he
      exact b_Numbered__told fr mf fn (cf _ rfl)) (fun ds _ => .inr rfl) (asgOk_ok rfl)
  have T_22 : FnOkG prog w K mg base (L2.CX prog w) 1 f_22 _ ["self"] (spOf (exc0 K) (gi0 K P__law_right P_law) fs_Endless__told) := fn_okX (prog := prog) (w := w) (K := K) (mg := mg) (base := base) (exc := exc0 K) (G := (gi0 K P__law_right P_law)) (k := 0) rfl fs_Endless__told (x_Endless__told) F_22 sc_Endless__told (by first | rfl | (rw [io_Endless__told]; rfl)) (fun P hG he fr fn A tp cx => by
      obtain ⟨PM, PG, PW, PE⟩ := P
      cases hG
      cases he
      exact b_Endless__told fr mf fn (cf _ rfl)) (fun ds _ => .inr rfl) (asgOk_ok rfl)
  have T_23 : FnOkG prog w K mg base (L2.CX prog w) 1 f_23 _ ["self"] (spOf (exc0 K) (gi0 K P__law_right P_law) fs_Worth__is_endless) := fn_okX (prog := prog) (w := w) (K := K) (mg := mg) (base := base) (exc := exc0 K) (G := (gi0 K P__law_right P_law)) (k := 0) rfl fs_Worth__is_endless (x_Worth__is_endless) F_23 sc_Worth__is_endless (by first | rfl | (rw [io_Worth__is_endless]; rfl)) (fun P hG he fr fn A tp cx => by
      obtain ⟨PM, PG, PW, PE⟩ := P
      cases hG
      cases he
      exact b_Worth__is_endless fr mf fn (cf _ rfl)) (fun ds _ => .inr rfl) (asgOk_ok rfl)
  have T_24 : FnOkG prog w K mg base (L2.CX prog w) 1 f_24 _ ["self"] (spOf (exc0 K) (gi0 K P__law_right P_law) fs_Endless__is_endless) := fn_okX (prog := prog) (w := w) (K := K) (mg := mg) (base := base) (exc := exc0 K) (G := (gi0 K P__law_right P_law)) (k := 0) rfl fs_Endless__is_endless (x_Endless__is_endless) F_24 sc_Endless__is_endless (by first | rfl | (rw [io_Endless__is_endless]; rfl)) (fun P hG he fr fn A tp cx => by
      obtain ⟨PM, PG, PW, PE⟩ := P
      cases hG
      cases he
      exact b_Endless__is_endless fr mf fn (cf _ rfl)) (fun ds _ => .inr rfl) (asgOk_ok rfl)
  have T_25 : FnOkG prog w K mg base (L2.CX prog w) 3 f_25 _ ["_law_worth", "_law_due_here"] (spOf (exc0 K) (gi0 K P__law_right P_law) fs__law_is) := fn_okX (prog := prog) (w := w) (K := K) (mg := mg) (base := base) (exc := exc0 K) (G := (gi0 K P__law_right P_law)) (k := 2) rfl fs__law_is (x__law_is) F_25 sc__law_is (by first | rfl | (rw [io__law_is]; rfl)) (fun P hG he fr fn A tp cx => by
      obtain ⟨PM, PG, PW, PE⟩ := P
      cases hG
      cases he
      exact b__law_is fr mf fn (cf _ rfl) (AtX.fn A T_16 (by first | decide | omega) (PySem.W.mg_of X G a_16) k_16 B_16) (MethFact.cons hc_Worth (AtX.meth A cl_ok_Worth ⟨at_Worth__text, fn_5, k_5⟩ T_5 (by first | decide | omega) B_5) (MethFact.cons hc_Numbered (AtX.meth A cl_ok_Numbered ⟨at_Numbered__text, fn_6, k_6⟩ T_6 (by first | decide | omega) B_6) (MethFact.cons hc_Endless (AtX.meth A cl_ok_Endless ⟨at_Endless__text, fn_8, k_8⟩ T_8 (by first | decide | omega) B_8) MethFact.nil))) (MethFact.cons hc_Worth (AtX.meth A cl_ok_Worth ⟨at_Worth__outcome, fn_17, k_17⟩ T_17 (by first | decide | omega) B_17) (MethFact.cons hc_Numbered (AtX.meth A cl_ok_Numbered ⟨at_Numbered__outcome, fn_18, k_18⟩ T_18 (by first | decide | omega) B_18) (MethFact.cons hc_Endless (AtX.meth A cl_ok_Endless ⟨at_Endless__outcome, fn_19, k_19⟩ T_19 (by first | decide | omega) B_19) MethFact.nil))) (MethFact.cons hc_Worth (AtX.meth A cl_ok_Worth ⟨at_Worth__told, fn_20, k_20⟩ T_20 (by first | decide | omega) B_20) (MethFact.cons hc_Numbered (AtX.meth A cl_ok_Numbered ⟨at_Numbered__told, fn_21, k_21⟩ T_21 (by first | decide | omega) B_21) (MethFact.cons hc_Endless (AtX.meth A cl_ok_Endless ⟨at_Endless__told, fn_22, k_22⟩ T_22 (by first | decide | omega) B_22) MethFact.nil))) (MethFact.cons hc_Worth (AtX.meth A cl_ok_Worth ⟨at_Worth__is_endless, fn_23, k_23⟩ T_23 (by first | decide | omega) B_23) (MethFact.cons hc_Numbered (AtX.meth A cl_ok_Numbered ⟨at_Numbered__is_endless, fn_23, k_23⟩ T_23 (by first | decide | omega) B_23) (MethFact.cons hc_Endless (AtX.meth A cl_ok_Endless ⟨at_Endless__is_endless, fn_24, k_24⟩ T_24 (by first | decide | omega) B_24) MethFact.nil)))) (fun ds _ => .inr rfl) (asgOk_ok rfl)
  have T_26 : FnOkG prog w K mg base (L2.CX prog w) 3 f_26 _ ["_law_text_here"] (spOf (exc0 K) (gi0 K P__law_right P_law) fs__law_due) := fn_okX (prog := prog) (w := w) (K := K) (mg := mg) (base := base) (exc := exc0 K) (G := (gi0 K P__law_right P_law)) (k := 2) rfl fs__law_due (x__law_due) F_26 sc__law_due (by first | rfl | (rw [io__law_due]; rfl)) (fun P hG he fr fn A tp cx => by
      obtain ⟨PM, PG, PW, PE⟩ := P
      cases hG
      cases he
      exact b__law_due fr mf fn (cf _ rfl) (AtX.fn A T_16 (by first | decide | omega) (PySem.W.mg_of X G a_16) k_16 B_16)) (fun ds _ => .inr rfl) (asgOk_ok rfl)
  have T_27 : FnOkG prog w K mg base (L2.CX prog w) 1 f_27 _ ["_law_source_here", "_law_many"] (spOf (exc0 K) (gi0 K P__law_right P_law) fs__law_take) := fn_okX (prog := prog) (w := w) (K := K) (mg := mg) (base := base) (exc := exc0 K) (G := (gi0 K P__law_right P_law)) (k := 0) rfl fs__law_take (x__law_take) F_27 sc__law_take (by first | rfl | (rw [io__law_take]; rfl)) (fun P hG he fr fn A tp cx => by
      obtain ⟨PM, PG, PW, PE⟩ := P
      cases hG
      cases he
      exact b__law_take fr mf fn (cf _ rfl)) (fun ds _ => .inr rfl) (asgOk_ok rfl)
  have T_28 : FnOkG prog w K mg base (L2.CX prog w) 2 f_28 _ ["_law_source_here", "_law_text_here"] (spOf (exc0 K) (gi0 K P__law_right P_law) fs__law_spoilt) := fn_okX (prog := prog) (w := w) (K := K) (mg := mg) (base := base) (exc := exc0 K) (G := (gi0 K P__law_right P_law)) (k := 1) rfl fs__law_spoilt (x__law_spoilt) F_28 sc__law_spoilt (by first | rfl | (rw [io__law_spoilt]; rfl)) (fun P hG he fr fn A tp cx => by
      obtain ⟨PM, PG, PW, PE⟩ := P
      cases hG
      cases he
      exact b__law_spoilt fr mf fn (cf _ rfl) (AtX.fn A T_27 (by first | decide | omega) (PySem.W.mg_of X G a_27) k_27 B_27)) (fun ds _ => .inr rfl) (asgOk_ok rfl)
  have T_29 : FnOkG prog w K mg base (L2.CX prog w) 8 f_29 _ ["_law_source_here"] (spOf (exc0 K) (gi0 K P__law_right P_law) fs__law_right) := fn_okX (prog := prog) (w := w) (K := K) (mg := mg) (base := base) (exc := exc0 K) (G := (gi0 K P__law_right P_law)) (k := 7) rfl fs__law_right (x__law_right) F_29 sc__law_right (by first | rfl | (rw [io__law_right]; rfl)) (fun P hG he fr fn A tp cx => by
      obtain ⟨PM, PG, PW, PE⟩ := P
      cases hG
      cases he
      exact b__law_right fr mf fn (cf _ rfl) (AtX.fn A T_25 (by first | decide | omega) (PySem.W.mg_of X G a_25) k_25 B_25) (AtX.fn A T_11 (by first | decide | omega) (PySem.W.mg_of X G a_11) k_11 B_11) (AtX.fn A T_14 (by first | decide | omega) (PySem.W.mg_of X G a_14) k_14 B_14) (AtX.fn A T_26 (by first | decide | omega) (PySem.W.mg_of X G a_26) k_26 B_26) (AtX.fn A T_28 (by first | decide | omega) (PySem.W.mg_of X G a_28) k_28 B_28) (AtX.fn A T_16 (by first | decide | omega) (PySem.W.mg_of X G a_16) k_16 B_16) (AtX.fn A T_27 (by first | decide | omega) (PySem.W.mg_of X G a_27) k_27 B_27) (AtX.mk A hc_Endless ⟨mk_Endless, at_Endless__init, fn_3, kc_Endless⟩ T_3 (by first | decide | omega) (PySem.W.mg_of X G aC_Endless) B_3) (AtX.mk A hc_Numbered ⟨mk_Numbered, at_Numbered__init, fn_1, kc_Numbered⟩ T_1 (by first | decide | omega) (PySem.W.mg_of X G aC_Numbered) B_1) (AtX.lam A cx tc__law_right (TB (c__law_right, P__law_right) (by simp)) h0c (by simp [gi0]) (by simp [gi0, pn__law_right_law, Ne.symm pn__law_right_law]) (fun _ _ => rfl) rfl) (AtX.lam A cx tc__law_right (TB (c__law_right, P__law_right) (by simp)) h0c (by simp [gi0]) (by simp [gi0, pn__law_right_law, Ne.symm pn__law_right_law]) (fun _ _ => rfl) rfl) (AtX.lam A cx tc__law_right (TB (c__law_right, P__law_right) (by simp)) h0c (by simp [gi0]) (by simp [gi0, pn__law_right_law, Ne.symm pn__law_right_law]) (fun _ _ => rfl) rfl)) (fun ds _ => .inr rfl) (asgOk_ok rfl)
  have T_30 : FnOkG prog w K mg base (L2.CX prog w) 1 f_30 _ ["_law_cell"] (spOf (exc0 K) (gi0 K P__law_right P_law) fs__law_source) := fn_okX (prog := prog) (w := w) (K := K) (mg := mg) (base := base) (exc := exc0 K) (G := (gi0 K P__law_right P_law)) (k := 0) rfl fs__law_source (x__law_source) F_30 sc__law_source (by first | rfl | (rw [io__law_source]; rfl)) (fun P hG he fr fn A tp cx => by
      obtain ⟨PM, PG, PW, PE⟩ := P
      cases hG
      cases he
      exact b__law_source fr mf fn (cf _ rfl)) (fun ds _ => .inr rfl) (asgOk_ok rfl)
  have T_31 : FnOkG prog w K mg base (L2.CX prog w) 1 f_31 _ ["_law_script", "_law_k"] (spOf (exc0 K) (gi0 K P__law_right P_law) fs__law_cell_at) := fn_okX (prog := prog) (w := w) (K := K) (mg := mg) (base := base) (exc := exc0 K) (G := (gi0 K P__law_right P_law)) (k := 0) rfl fs__law_cell_at (x__law_cell_at) F_31 sc__law_cell_at (by first | rfl | (rw [io__law_cell_at]; rfl)) (fun P hG he fr fn A tp cx => by
      obtain ⟨PM, PG, PW, PE⟩ := P
      cases hG
      cases he
      exact b__law_cell_at fr mf fn (cf _ rfl)) (fun ds _ => .inr rfl) (asgOk_ok rfl)
  exact fn_okX (prog := prog) (w := w) (K := K) (mg := mg) (base := base) (exc := exc0 K) (G := (gi0 K P__law_right P_law)) (k := 8) rfl fs_law (x_law) F_32 sc_law (by first | rfl | (rw [io_law]; rfl)) (fun P hG he fr fn A tp cx => by
      obtain ⟨PM, PG, PW, PE⟩ := P
      cases hG
      cases he
      exact b_law fr mf fn (cf _ rfl) (AtX.fn A T_14 (by first | decide | omega) (PySem.W.mg_of X G a_14) k_14 B_14) (AtX.fn A T_29 (by first | decide | omega) (PySem.W.mg_of X G a_29) k_29 B_29) (AtX.fn A T_30 (by first | decide | omega) (PySem.W.mg_of X G a_30) k_30 B_30) (AtX.fn A T_31 (by first | decide | omega) (PySem.W.mg_of X G a_31) k_31 B_31) (AtX.lam A cx tc_law (TB (c_law, P_law) (by simp)) h0c (by simp [gi0]) (by simp [gi0, pn__law_right_law, Ne.symm pn__law_right_law]) (fun _ _ => rfl) rfl)) (fun ds _ => .inr rfl) (asgOk_ok rfl)
end VL
open PySem PySem.W PyProof.Rows
set_option maxHeartbeats 0 in
theorem PySem.Challenge.cw_ringheaps_k32_worths_told_and_read_holds : PySem.Challenge.rw_ringheaps_k32_worths_told_and_read.Holds := by
  w_on; o_law; k_head; (case hw => w_witness2)
  k_fill
  refine VM.walk_ofGT (l := PySem.Challenge.rw_ringheaps_k32_worths_told_and_read) (n := 63) (k := 9) (x := "_law_script") (fs := VL.fs_law) rfl (by decide) rfl ⟨⟨rfl, by decide, by decide⟩, rfl⟩ (fun w h Y => PySem.W.km_in_of Y) VL.io_law (fun ns hl hb => VL.law_true ns hl hb) ?F (fun _ _ _ _ _ h => by
    obtain ⟨_, _, _, _, _, _, _, _, _, _, _, _, z⟩ := h
    exact z.elim)
  case F =>
    intro w mg fa h Y KX G hmg
    have hT8 := PySem.W.km_tabs_of Y
    refine' VL.all_mk KX G hmg ?a_0 ?l_0 ?c_0 ?k_0 ?l_1 ?c_1 ?k_1 ?l_3 ?c_3 ?k_3 ?l_5 ?c_5 ?k_5 ?l_6 ?c_6 ?k_6 ?a_7 ?l_7 ?c_7 ?k_7 ?l_8 ?c_8 ?k_8 ?a_9 ?l_9 ?c_9 ?k_9 ?a_10 ?l_10 ?c_10 ?k_10 ?a_11 ?l_11 ?c_11 ?k_11 ?a_14 ?l_14 ?c_14 ?k_14 ?a_15 ?l_15 ?c_15 ?k_15 ?a_16 ?l_16 ?c_16 ?k_16 ?l_17 ?c_17 ?k_17 ?l_18 ?c_18 ?k_18 ?l_19 ?c_19 ?k_19 ?l_20 ?c_20 ?k_20 ?l_21 ?c_21 ?k_21 ?l_22 ?c_22 ?k_22 ?l_23 ?c_23 ?k_23 ?l_24 ?c_24 ?k_24 ?a_25 ?l_25 ?c_25 ?k_25 ?a_26 ?l_26 ?c_26 ?k_26 ?a_27 ?l_27 ?c_27 ?k_27 ?a_28 ?l_28 ?c_28 ?k_28 ?a_29 ?l_29 ?c_29 ?k_29 ?a_30 ?l_30 ?c_30 ?k_30 ?a_31 ?l_31 ?c_31 ?k_31 ?a_32 ?l_32 ?c_32 ?k_32 ?aC_Endless ?pg_Endless ?hd_Endless ?po_Endless ?sa_Endless ?mk_Endless ?kc_Endless ?aC_NoWorth ?aC_Numbered ?pg_Numbered ?hd_Numbered ?po_Numbered ?sa_Numbered ?mk_Numbered ?kc_Numbered ?aC_Worth ?pg_Worth ?hd_Worth ?po_Worth ?sa_Worth ?at_Numbered__init ?at_Endless__init ?at_Worth__text ?at_Numbered__text ?at_Endless__text ?at_Worth__outcome ?at_Numbered__outcome ?at_Endless__outcome ?at_Worth__told ?at_Numbered__told ?at_Endless__told ?at_Worth__is_endless ?at_Numbered__is_endless ?at_Endless__is_endless ?fn_1 ?fn_3 ?fn_5 ?fn_6 ?fn_8 ?fn_17 ?fn_18 ?fn_19 ?fn_20 ?fn_21 ?fn_22 ?fn_23 ?fn_24 ?nf_Endless_bits ?nf_Numbered_number ?cl_Endless ?ob_Endless ?cl_Numbered ?ob_Numbered ?is_ty_NoneType_NoWorth ?is_Endless_Endless ?is_Endless_NoWorth ?is_Endless_Numbered ?is_Endless_Worth ?is_Numbered_Endless ?is_Numbered_NoWorth ?is_Numbered_Numbered ?is_Numbered_Worth ?aX_NoWorth ?xl_NoWorth ?xv_NoWorth ?xs_NoWorth ?xk_NoWorth ?xg_NoWorth ?xh_NoWorth ?xc_NoWorth ?xo_NoWorth ?xn_NoWorth ?xi_NoWorth ?xt_NoWorth ?fl_NoWorth ?fc_NoWorth ?fk_NoWorth ?xe_NoWorth ?xd_NoWorth ?xy_NoWorth ?aX_HeapError ?xe_HeapError ?xd_HeapError ?xy_HeapError ?is_x_NoWorth_HeapError ?is_x_NoWorth_NoWorth ?xb_NoWorth_HeapError ?xb_NoWorth_NoWorth ?he1_ ?he2_ ?he3_ ?gs_ ?tk_ ?pn__law_right_law ?tc__law_right ?tl__law_right ?tv__law_right ?th__law_right ?tn__law_right ?tt__law_right ?tc_law ?tl_law ?tv_law ?th_law ?tn_law ?tt_law ?z0_ ?z_all ?z_bool ?z_int ?z_isinstance ?z_len ?z_list ?z_max ?z_min ?z_range ?z_reversed ?z_str ?z_tuple ?q_FIGURES ?q_MOST_BITS ?q_MOST_NUMBER
    (case a_0 => k_is); (case a_7 => k_is); (case a_9 => k_is); (case a_10 => k_is); (case a_11 => k_is); (case a_14 => k_is); (case a_15 => k_is); (case a_16 => k_is); (case a_25 => k_is); (case a_26 => k_is); (case a_27 => k_is); (case a_28 => k_is); (case a_29 => k_is); (case a_30 => k_is); (case a_31 => k_is); (case a_32 => k_is); (case aC_Endless => k_is); (case aC_NoWorth => k_is); (case aC_Numbered => k_is); (case aC_Worth => k_is); (case aX_NoWorth => k_is); (case aX_HeapError => k_is); (case at_Numbered__init => k_is); (case at_Endless__init => k_is); (case at_Worth__text => k_is); (case at_Numbered__text => k_is); (case at_Endless__text => k_is); (case at_Worth__outcome => k_is); (case at_Numbered__outcome => k_is); (case at_Endless__outcome => k_is); (case at_Worth__told => k_is); (case at_Numbered__told => k_is); (case at_Endless__told => k_is); (case at_Worth__is_endless => k_is); (case at_Numbered__is_endless => k_is); (case at_Endless__is_endless => k_is); (case xl_NoWorth => k_is); (case xi_NoWorth => k_is); (case l_0 => k_is); (case c_0 => k_is); (case k_0 => k_is); (case l_1 => k_is); (case c_1 => k_is); (case k_1 => k_is); (case l_3 => k_is); (case c_3 => k_is); (case k_3 => k_is); (case l_5 => k_is); (case c_5 => k_is); (case k_5 => k_is); (case l_6 => k_is); (case c_6 => k_is); (case k_6 => k_is); (case l_7 => k_is); (case c_7 => k_is); (case k_7 => k_is); (case l_8 => k_is); (case c_8 => k_is); (case k_8 => k_is); (case l_9 => k_is); (case c_9 => k_is); (case k_9 => k_is); (case l_10 => k_is); (case c_10 => k_is); (case k_10 => k_is); (case l_11 => k_is); (case c_11 => k_is); (case k_11 => k_is); (case l_14 => k_is); (case c_14 => k_is); (case k_14 => k_is); (case l_15 => k_is); (case c_15 => k_is); (case k_15 => k_is); (case l_16 => k_is); (case c_16 => k_is); (case k_16 => k_is); (case l_17 => k_is); (case c_17 => k_is); (case k_17 => k_is); (case l_18 => k_is); (case c_18 => k_is); (case k_18 => k_is); (case l_19 => k_is); (case c_19 => k_is); (case k_19 => k_is); (case l_20 => k_is); (case c_20 => k_is); (case k_20 => k_is); (case l_21 => k_is); (case c_21 => k_is); (case k_21 => k_is); (case l_22 => k_is); (case c_22 => k_is); (case k_22 => k_is); (case l_23 => k_is); (case c_23 => k_is); (case k_23 => k_is); (case l_24 => k_is); (case c_24 => k_is); (case k_24 => k_is); (case l_25 => k_is); (case c_25 => k_is); (case k_25 => k_is); (case l_26 => k_is); (case c_26 => k_is); (case k_26 => k_is); (case l_27 => k_is); (case c_27 => k_is); (case k_27 => k_is); (case l_28 => k_is); (case c_28 => k_is); (case k_28 => k_is); (case l_29 => k_is); (case c_29 => k_is); (case k_29 => k_is); (case l_30 => k_is); (case c_30 => k_is); (case k_30 => k_is); (case l_31 => k_is); (case c_31 => k_is); (case k_31 => k_is); (case l_32 => k_is); (case c_32 => k_is); (case k_32 => k_is); (case pg_Endless => k_is); (case hd_Endless => k_is); (case po_Endless => k_is); (case sa_Endless => k_is); (case mk_Endless => k_is); (case kc_Endless => k_is); (case pg_Numbered => k_is); (case hd_Numbered => k_is); (case po_Numbered => k_is); (case sa_Numbered => k_is); (case mk_Numbered => k_is); (case kc_Numbered => k_is); (case pg_Worth => k_is); (case hd_Worth => k_is); (case po_Worth => k_is); (case sa_Worth => k_is); (case fn_1 => k_is); (case fn_3 => k_is); (case fn_5 => k_is); (case fn_6 => k_is); (case fn_8 => k_is); (case fn_17 => k_is); (case fn_18 => k_is); (case fn_19 => k_is); (case fn_20 => k_is); (case fn_21 => k_is); (case fn_22 => k_is); (case fn_23 => k_is); (case fn_24 => k_is); (case nf_Endless_bits => k_is); (case nf_Numbered_number => k_is); (case cl_Endless => k_is); (case ob_Endless => k_is); (case cl_Numbered => k_is); (case ob_Numbered => k_is); (case is_ty_NoneType_NoWorth => kit_is); (case is_Endless_Endless => kit_is); (case is_Endless_NoWorth => kit_is); (case is_Endless_Numbered => kit_is); (case is_Endless_Worth => kit_is); (case is_Numbered_Endless => kit_is); (case is_Numbered_NoWorth => kit_is); (case is_Numbered_Numbered => kit_is); (case is_Numbered_Worth => kit_is); (case xs_NoWorth => k_is); (case xk_NoWorth => k_is); (case xg_NoWorth => k_is); (case xh_NoWorth => k_is); (case xc_NoWorth => k_is); (case xo_NoWorth => k_is); (case xn_NoWorth => k_is); (case xt_NoWorth => k_is); (case fl_NoWorth => k_is); (case fc_NoWorth => k_is); (case fk_NoWorth => k_is); (case xe_NoWorth => k_is); (case xd_NoWorth => k_is); (case xy_NoWorth => k_is); (case xe_HeapError => k_is); (case xd_HeapError => k_is); (case xy_HeapError => k_is); (case is_x_NoWorth_HeapError => kit_is); (case is_x_NoWorth_NoWorth => kit_is); (case xb_NoWorth_HeapError => k_is); (case xb_NoWorth_NoWorth => k_is); (case he1_ => k_is); (case he2_ => k_is); (case he3_ => k_is); (case gs_ => k_is); (case tk_ => k_is); (case z0_ => k_is); (case z_all => k_is); (case z_bool => k_is); (case z_int => k_is); (case z_isinstance => k_is); (case z_len => k_is); (case z_list => k_is); (case z_max => k_is); (case z_min => k_is); (case z_range => k_is); (case z_reversed => k_is); (case z_str => k_is); (case z_tuple => k_is); (case q_FIGURES => k_is); (case q_MOST_BITS => k_is); (case q_MOST_NUMBER => k_is); (case xv_NoWorth => rfl); (case tc__law_right => rfl); (case tc_law => rfl); (case tl__law_right => k_is); (case tl_law => k_is); (case tv__law_right => rfl); (case tv_law => rfl); (case th__law_right => kernel_rfl); (case tn__law_right => kernel_rfl); (case th_law => kernel_rfl); (case tn_law => kernel_rfl); (case tt__law_right => exact hT8 _ (by first | k_mem | simp)); (case tt_law => exact hT8 _ (by first | k_mem | simp)); (case pn__law_right_law => decide)
