import PyProof.Rows.All
import Wide.All
import OpenK.AllK
import Wide.FinOn
import HandS.ForExc
import HandS.ForMost
import HandS.IsInst
import HandS.Wide
import HandS.Walk
import HandS.Zip
import HandS.Flow
import HandS.TupAny
import HandS.TupMul
import HandS.Style
import HandS.NoneIn
import HandS.WordsExc
import HandS.CallSlots
import HandS.Defaults
import HandS.MakeKw
import HandS.MakeKwOnly
import HandS.RaiseMore
import PyProof.ReprRoads
import HandS.Iter
import KE.GoesEnum
import OpenK.KOps
import KE.KFmtOwn
import HandS.More
import HandS.OwnEq
import HandS.Conv
import HandS.FStr
import HandS.Ends
import PySem.Challenge.RW_rowabove_k21_tables_by_rules
set_option Elab.async false
set_option linter.all false
set_option maxRecDepth 100000
set_option maxHeartbeats 4000000
/-! VSa: frozen data, trees, what stands for them in HandS's heap, the frame rule. -/
namespace VS
open PySem PySem.Spec PyProof.Rows L2

/-- frozen data -/
inductive D where
  | non | bl (b : Bool) | int (i : Int) | str (s : Str) | tup (ds : List D) | lst (ds : List D) | obj (c : Str) (ds : List D) | ro (ds : List D)
/-- trees: leaf is frozen, node is a list that one slot owns, ins an instance that one slot owns -/
inductive T where
  | leaf (d : D) | node (ts : List T) | ins (c : Str) (ts : List T)
mutual
def frz : T → D
  | .leaf d => d
  | .node ts => .lst (frzL ts)
  | .ins c ts => .obj c (frzL ts)
def frzL : List T → List D
  | [] => []
  | t :: ts => frz t :: frzL ts
end
theorem frzL_map : ∀ ts : List T, frzL ts = ts.map frz
  | [] => by simp [frzL]
  | t :: ts => by simp [frzL, frzL_map ts]
@[simp] theorem frz_leaf (d : D) : frz (.leaf d) = d := by simp [frz]
@[simp] theorem frz_node (ts : List T) : frz (.node ts) = .lst (ts.map frz) := by simp [frz, frzL_map]
@[simp] theorem frz_ins (c : Str) (ts : List T) : frz (.ins c ts) = .obj c (ts.map frz) := by simp [frz, frzL_map]

/-- a class of the text: its object, its fields in the order in which __init__ stores them, is it an exception -/
structure CInfo where
  addr : Addr
  flds : List Str
  exn : Bool
abbrev GEnv := Str → Option CInfo
/-- an exception's own object, held as a value -/
def exT (a : Addr) (C : Addr) (d : Option Addr) : HO := .ext fun h => ∃ (oe : Obj) (vs : Array Value), h.get? a = some oe ∧ Zc (.ref C) d oe ∧ oe.data = .fields vs

section
variable (K : PySem.W.Frag) (G : GEnv) (Φ : Hp)
/-- v stands for d, all of it frozen -/
inductive Rep : D → V → Prop
  | non : Rep .non .non
  | bl (b : Bool) : Rep (.bl b) (.bl b)
  | int (i : Int) : Rep (.int i) (.int i)
  | str (s : Str) : Rep (.str s) (.str s)
  | tup {ds : List D} {a : Addr} {vs : List V} (h : SqT K Φ a vs) (hl : ds.length = vs.length) (hk : ∀ (k : Nat) (d : D) (v : V), ds[k]? = some d → vs[k]? = some v → Rep d v) : Rep (.tup ds) (.ref a)
  | lst {ds : List D} {a : Addr} {vs : List V} (h : Φ a = some (.lst vs)) (hl : ds.length = vs.length) (hk : ∀ (k : Nat) (d : D) (v : V), ds[k]? = some d → vs[k]? = some v → Rep d v) : Rep (.lst ds) (.ref a)
  | ro {ds : List D} {a : Addr} {vs : List V} (h : SqL K Φ a vs) (hl : ds.length = vs.length) (hk : ∀ (k : Nat) (d : D) (v : V), ds[k]? = some d → vs[k]? = some v → Rep d v) : Rep (.ro ds) (.ref a)
  | obj {c : Str} {ci : CInfo} {ds : List D} {a dx : Addr} {vs : List V} (hc : G c = some ci) (he : ci.exn = false) (h : Φ a = some (.ins ci.addr dx (ci.flds.zip vs))) (hl : ds.length = vs.length)
      (hf : vs.length ≤ ci.flds.length) (hk : ∀ (k : Nat) (d : D) (v : V), ds[k]? = some d → vs[k]? = some v → Rep d v) : Rep (.obj c ds) (.ref a)
  | exn {c : Str} {ci : CInfo} {ds : List D} {a dx : Addr} {vs : List V} (hc : G c = some ci) (he : ci.exn = true) (h : Φ a = some (exT a ci.addr (some dx))) (hx : Φ dx = some (.xd (ci.flds.zip vs))) (hl : ds.length = vs.length)
      (hf : vs.length = ci.flds.length) (hk : ∀ (k : Nat) (d : D) (v : V), ds[k]? = some d → vs[k]? = some v → Rep d v) : Rep (.obj c ds) (.ref a)
  | exn0 {c : Str} {ci : CInfo} {a : Addr} (hc : G c = some ci) (he : ci.exn = true) (h : Φ a = some (exT a ci.addr none)) : Rep (.obj c []) (.ref a)
def RepL (ds : List D) (vs : List V) : Prop := ds.length = vs.length ∧ ∀ (k : Nat) (d : D) (v : V), ds[k]? = some d → vs[k]? = some v → Rep K G Φ d v
variable (H : Hp)
/-- v stands for the tree t; the addresses that it owns lie in F -/
inductive Own : T → V → (Addr → Prop) → Prop
  | leaf {d : D} {v : V} {F : Addr → Prop} (h : Rep K G Φ d v) : Own (.leaf d) v F
  | node {ts : List T} {a : Addr} {vs : List V} {F : Addr → Prop} (Fs : Nat → Addr → Prop) (ha : F a) (h : H a = some (.lst vs)) (hl : ts.length = vs.length)
      (hk : ∀ (k : Nat) (t : T) (v : V), ts[k]? = some t → vs[k]? = some v → Own t v (Fs k)) (hs : ∀ k b, Fs k b → F b ∧ b ≠ a) (hd : ∀ j k b, j ≠ k → Fs j b → ¬ Fs k b) : Own (.node ts) (.ref a) F
  | ins {c : Str} {ci : CInfo} {ts : List T} {a dx : Addr} {vs : List V} {F : Addr → Prop} (Fs : Nat → Addr → Prop) (ha : F a) (hc : G c = some ci) (he : ci.exn = false) (h : H a = some (.ins ci.addr dx (ci.flds.zip vs))) (hl : ts.length = vs.length)
      (hf : vs.length ≤ ci.flds.length) (hk : ∀ (k : Nat) (t : T) (v : V), ts[k]? = some t → vs[k]? = some v → Own t v (Fs k)) (hs : ∀ k b, Fs k b → F b ∧ b ≠ a) (hd : ∀ j k b, j ≠ k → Fs j b → ¬ Fs k b) : Own (.ins c ts) (.ref a) F
end

section
variable {K : PySem.W.Frag} {G : GEnv} {Φ Φ' H H' : Hp} {F F' : Addr → Prop} {d : D} {t : T} {v : V}
theorem same_sqT (e : Same Φ Φ') {a : Addr} {xs : List V} (h : SqT K Φ a xs) : SqT K Φ' a xs := by
  rcases h with (h | ⟨o, h⟩) | h
  · exact .inl (.inl (e _ _ h))
  · exact .inl (.inr ⟨o, e _ _ h⟩)
  · exact .inr h
theorem Rep.mono (r : Rep K G Φ d v) (e : Same Φ Φ') : Rep K G Φ' d v := by
  induction r with
  | non => exact .non
  | bl b => exact .bl b
  | int i => exact .int i
  | str s => exact .str s
  | tup h hl hk ih => exact .tup (same_sqT e h) hl ih
  | lst h hl hk ih => exact .lst (e _ _ h) hl ih
  | ro h hl hk ih => exact .ro (e.seq h) hl ih
  | obj hc he h hl hf hk ih => exact .obj hc he (e _ _ h) hl hf ih
  | exn hc he h hx hl hf hk ih => exact .exn hc he (e _ _ h) (e _ _ hx) hl hf ih
  | exn0 hc he h => exact .exn0 hc he (e _ _ h)
theorem RepL.mono {ds : List D} {vs : List V} (r : RepL K G Φ ds vs) (e : Same Φ Φ') : RepL K G Φ' ds vs := ⟨r.1, fun k d v h1 h2 => (r.2 k d v h1 h2).mono e⟩
theorem RepL.nil : RepL K G Φ [] [] := ⟨rfl, fun k d v h _ => by simp at h⟩
theorem RepL.cons {ds : List D} {vs : List V} (r : Rep K G Φ d v) (rs : RepL K G Φ ds vs) : RepL K G Φ (d :: ds) (v :: vs) := by
  refine ⟨by rw [List.length_cons, List.length_cons, rs.1], fun k d' v' h1 h2 => ?_⟩
  cases k with
  | zero => simp at h1 h2; subst h1; subst h2; exact r
  | succ k => exact rs.2 k d' v' (by simpa using h1) (by simpa using h2)
theorem RepL.cases_cons {d : D} {ds : List D} {vs : List V} (r : RepL K G Φ (d :: ds) vs) : ∃ v vr, vs = v :: vr ∧ Rep K G Φ d v ∧ RepL K G Φ ds vr := by
  obtain ⟨hl, hk⟩ := r
  cases vs with
  | nil => simp at hl
  | cons v vr => exact ⟨v, vr, rfl, hk 0 d v rfl rfl, by simpa using hl, fun k d' v' h1 h2 => hk (k + 1) d' v' (by simpa using h1) (by simpa using h2)⟩
theorem RepL.cases_nil {vs : List V} (r : RepL K G Φ [] vs) : vs = [] := by
  obtain ⟨hl, _⟩ := r
  cases vs with
  | nil => rfl
  | cons v vr => simp at hl
theorem RepL.get {ds : List D} {vs : List V} (r : RepL K G Φ ds vs) {k : Nat} {d : D} (h : ds[k]? = some d) : ∃ v, vs[k]? = some v ∧ Rep K G Φ d v := by
  have hk : k < ds.length := (List.getElem?_eq_some_iff.mp h).1
  have hv : vs[k]? = some (vs[k]'(by rw [← r.1]; exact hk)) := List.getElem?_eq_getElem _
  exact ⟨_, hv, r.2 k d _ h hv⟩
theorem RepL.append {ds es : List D} {vs ws : List V} (r : RepL K G Φ ds vs) (s : RepL K G Φ es ws) : RepL K G Φ (ds ++ es) (vs ++ ws) := by
  refine ⟨by rw [List.length_append, List.length_append, r.1, s.1], fun k d v h1 h2 => ?_⟩
  by_cases hk : k < ds.length
  · rw [List.getElem?_append_left hk] at h1
    rw [List.getElem?_append_left (by rw [← r.1]; exact hk)] at h2
    exact r.2 k d v h1 h2
  · rw [List.getElem?_append_right (by omega)] at h1
    rw [List.getElem?_append_right (by rw [← r.1]; omega), ← r.1] at h2
    exact s.2 _ d v h1 h2
theorem RepL.one (r : Rep K G Φ d v) : RepL K G Φ [d] [v] := RepL.cons r RepL.nil
theorem RepL.drop {ds : List D} {vs : List V} (r : RepL K G Φ ds vs) (n : Nat) : RepL K G Φ (ds.drop n) (vs.drop n) :=
  ⟨by rw [List.length_drop, List.length_drop, r.1], fun k d v h1 h2 => r.2 (n + k) d v (by rw [← List.getElem?_drop]; exact h1) (by rw [← List.getElem?_drop]; exact h2)⟩
theorem RepL.take {ds : List D} {vs : List V} (r : RepL K G Φ ds vs) (n : Nat) : RepL K G Φ (ds.take n) (vs.take n) := by
  refine ⟨by rw [List.length_take, List.length_take, r.1], fun k d v h1 h2 => ?_⟩
  have hk : k < n := by
    have := (List.getElem?_eq_some_iff.mp h1).1
    rw [List.length_take] at this
    omega
  rw [List.getElem?_take_of_lt hk] at h1 h2
  exact r.2 k d v h1 h2
theorem RepL.reverse {ds : List D} {vs : List V} (r : RepL K G Φ ds vs) : RepL K G Φ ds.reverse vs.reverse := by
  refine ⟨by rw [List.length_reverse, List.length_reverse, r.1], fun k d v h1 h2 => ?_⟩
  have hk : k < ds.length := by
    have := (List.getElem?_eq_some_iff.mp h1).1
    rwa [List.length_reverse] at this
  rw [List.getElem?_reverse hk] at h1
  rw [List.getElem?_reverse (by rw [← r.1]; exact hk), ← r.1] at h2
  exact r.2 _ d v h1 h2

theorem Own.mono (o : Own K G Φ H t v F) (e : Same Φ Φ') (k : ∀ b x, F b → H b = some x → H' b = some x) (s : ∀ b, F b → F' b) : Own K G Φ' H' t v F' := by
  induction o generalizing F' with
  | leaf h => exact .leaf (h.mono e)
  | node Fs ha h hl hk hs hd ih =>
    exact .node Fs (s _ ha) (k _ _ ha h) hl (fun j t v h1 h2 => ih j t v h1 h2 (fun b x hb q => k b x (hs j b hb).1 q) fun b hb => hb) (fun j b hb => ⟨s b (hs j b hb).1, (hs j b hb).2⟩) hd
  | ins Fs ha hc he h hl hf hk hs hd ih =>
    exact .ins Fs (s _ ha) hc he (k _ _ ha h) hl hf (fun j t v h1 h2 => ih j t v h1 h2 (fun b x hb q => k b x (hs j b hb).1 q) fun b hb => hb) (fun j b hb => ⟨s b (hs j b hb).1, (hs j b hb).2⟩) hd
theorem Own.wide (o : Own K G Φ H t v F) (s : ∀ b, F b → F' b) : Own K G Φ H t v F' := o.mono (Same.refl Φ) (fun _ _ _ h => h) s
/-- frozen: in any frozen heap that holds the owned addresses as they stand -/
theorem Own.frz (o : Own K G Φ H t v F) (e : Same Φ Φ') (k : ∀ b x, F b → H b = some x → Φ' b = some x) : Rep K G Φ' (frz t) v := by
  induction o with
  | leaf h => rw [frz_leaf]; exact h.mono e
  | node Fs ha h hl hk hs hd ih =>
    rw [frz_node]
    refine .lst (k _ _ ha h) (by rw [List.length_map]; exact hl) fun j d v h1 h2 => ?_
    rw [List.getElem?_map] at h1
    obtain ⟨t, ht, rfl⟩ := Option.map_eq_some_iff.mp h1
    exact ih j t v ht h2 fun b x hb q => k b x (hs j b hb).1 q
  | ins Fs ha hc he h hl hf hk hs hd ih =>
    rw [frz_ins]
    refine .obj hc he (k _ _ ha h) (by rw [List.length_map]; exact hl) hf fun j d v h1 h2 => ?_
    rw [List.getElem?_map] at h1
    obtain ⟨t, ht, rfl⟩ := Option.map_eq_some_iff.mp h1
    exact ih j t v ht h2 fun b x hb q => k b x (hs j b hb).1 q
/-- seen in the whole heap -/
theorem Own.snap (o : Own K G Φ H t v F) (e : Same Φ H) : Rep K G H (VS.frz t) v := o.frz e fun _ _ _ h => h
end

/-- the frozen heap with F frozen, too -/
noncomputable def frzH (Φ H : Hp) (F : Addr → Prop) : Hp := fun b => match Φ b with
  | some o => some o
  | none => by classical exact if F b then H b else none
section
variable {Φ H : Hp} {F : Addr → Prop}
theorem frzH_same : Same Φ (frzH Φ H F) := fun b o h => by unfold frzH; rw [h]
theorem frzH_sub (e : Same Φ H) : Same (frzH Φ H F) H := fun b o h => by
  unfold frzH at h
  cases q : Φ b with
  | some u => rw [q] at h; exact (e b u q).trans h
  | none =>
    rw [q] at h
    dsimp only at h
    split at h
    · exact h
    · cases h
theorem frzH_at (e : Same Φ H) : ∀ b x, F b → H b = some x → frzH Φ H F b = some x := fun b x hb h => by
  unfold frzH
  cases q : Φ b with
  | some u => exact (e b u q).symm.trans h
  | none => dsimp only; rw [if_pos hb]; exact h
theorem frzH_or : ∀ b o, frzH Φ H F b = some o → Φ b = some o ∨ F b := fun b o h => by
  unfold frzH at h
  cases q : Φ b with
  | some u => rw [q] at h; exact .inl h
  | none =>
    rw [q] at h
    dsimp only at h
    split at h
    · next hb => exact .inr hb
    · cases h
end

/-- what a step may change: F is owned ahead of it, F' behind it -/
structure Frm (Φ H : Hp) (F : Addr → Prop) (Φ' H' : Hp) (F' : Addr → Prop) : Prop where
  phi : Same Φ Φ'
  keep : ∀ b o, H b = some o → ¬ F b → H' b = some o
  foot : ∀ b, F' b → F b ∨ H b = none
  froz : ∀ b o, Φ' b = some o → Φ b = some o ∨ F b ∨ H b = none
section
variable {Φ H Φ1 H1 Φ2 H2 : Hp} {F F1 F2 E : Addr → Prop}
theorem Frm.refl : Frm Φ H F Φ H F := ⟨Same.refl Φ, fun _ _ h _ => h, fun _ h => .inl h, fun _ _ h => .inl h⟩
theorem Frm.back (a : Frm Φ H F Φ1 H1 F1) {b : Addr} (h : F1 b ∨ H1 b = none) : F b ∨ H b = none := by
  rcases h with h | h
  · exact a.foot b h
  · by_cases hb : F b
    · exact .inl hb
    · refine .inr ?_
      cases q : H b with
      | none => rfl
      | some o => rw [a.keep b o q hb] at h; cases h
theorem Frm.trans (a : Frm Φ H F Φ1 H1 F1) (c : Frm Φ1 H1 F1 Φ2 H2 F2) : Frm Φ H F Φ2 H2 F2 where
  phi := a.phi.trans c.phi
  keep := fun b o h hb => c.keep b o (a.keep b o h hb) fun z => by
    rcases a.foot b z with q | q
    · exact hb q
    · rw [q] at h; cases h
  foot := fun b h => a.back (c.foot b h)
  froz := fun b o h => by
    rcases c.froz b o h with q | q
    · exact a.froz b o q
    · exact .inr (a.back q)
/-- a bystander E is kept apart -/
theorem Frm.more (a : Frm Φ H F Φ1 H1 F1) : Frm Φ H (fun b => E b ∨ F b) Φ1 H1 (fun b => E b ∨ F1 b) where
  phi := a.phi
  keep := fun b o h hb => a.keep b o h fun z => hb (.inr z)
  foot := fun b h => by
    rcases h with h | h
    · exact .inl (.inl h)
    · rcases a.foot b h with q | q
      · exact .inl (.inr q)
      · exact .inr q
  froz := fun b o h => by
    rcases a.froz b o h with q | q | q
    · exact .inl q
    · exact .inr (.inl (.inr q))
    · exact .inr (.inr q)
/-- less behind it -/
theorem Frm.less (a : Frm Φ H F Φ1 H1 F1) (s : ∀ b, F2 b → F1 b) : Frm Φ H F Φ1 H1 F2 := ⟨a.phi, a.keep, fun b h => a.foot b (s b h), a.froz⟩
/-- a wider licence ahead of it -/
theorem Frm.wide (a : Frm Φ H F Φ1 H1 F1) (s : ∀ b, F b → F2 b) : Frm Φ H F2 Φ1 H1 F1 := ⟨a.phi, fun b o h hb => a.keep b o h fun z => hb (s b z), fun b h => (a.foot b h).imp (s b) id, fun b o h => (a.froz b o h).imp id (Or.imp (s b) id)⟩
/-- only new things -/
theorem Frm.grow (e : ∀ b o, H b = some o → H1 b = some o) : Frm Φ H F Φ H1 F := ⟨Same.refl Φ, fun b o h _ => e b o h, fun _ h => .inl h, fun _ _ h => .inl h⟩
end
end VS
/-! VSb: slots, results, operands, argument lists. -/
namespace VS
open PySem PySem.Spec PyProof.Rows L2

/-- a slot: nothing known, a tree, a tree that a loop walks (read only) -/
inductive SV where
  | un | tr (t : T) | lk (t : T)
abbrev Sl := List SV
inductive Out (α : Type) where
  | ok (a : α) (s : Sl) | er (x : D) (s : Sl) | bad
/-- an operand: a value, or the root of a slot -/
inductive Op where
  | vl (t : T) | rt (i : Nat)
def treeAt (s : Sl) (i : Nat) : Option T := match s[i]? with
  | some (.tr t) => some t
  | some (.lk t) => some t
  | _ => none
def Ft (F : Nat → Addr → Prop) : Addr → Prop := fun b => ∃ i, F i b
def no : Addr → Prop := fun _ => False
def updF (F : Nat → Addr → Prop) (i : Nat) (E : Addr → Prop) : Nat → Addr → Prop := fun j => if j = i then E else F j
theorem updF_same {F : Nat → Addr → Prop} {i : Nat} {E : Addr → Prop} : updF F i E i = E := if_pos rfl
theorem updF_ne {F : Nat → Addr → Prop} {i j : Nat} {E : Addr → Prop} (h : j ≠ i) : updF F i E j = F j := if_neg h

section
variable (K : PySem.W.Frag) (G : GEnv)
structure StR (Φ H : Hp) (σ : L2.St) (s : Sl) (F : Nat → Addr → Prop) : Prop where
  same : Same Φ H
  slot : ∀ i t, treeAt s i = some t → ∃ v, σ[i]? = some (some v) ∧ Own K G Φ H t v (F i)
  dis : ∀ i j b, i ≠ j → F i b → ¬ F j b
  unf : ∀ i b, F i b → Φ b = none
  live : ∀ i b, F i b → ∃ o, H b = some o
  len : s.length = σ.length
/-- E: apart from the slots, not frozen, there -/
structure TmpR (Φ H : Hp) (F : Nat → Addr → Prop) (E : Addr → Prop) : Prop where
  unf : ∀ b, E b → Φ b = none
  live : ∀ b, E b → ∃ o, H b = some o
  apart : ∀ i b, E b → ¬ F i b
structure OpsR (Φ H : Hp) (σ : L2.St) (F : Nat → Addr → Prop) (ops : List Op) (vs : List V) (Es : Nat → Addr → Prop) : Prop where
  len : ops.length = vs.length
  vl : ∀ (k : Nat) (t : T) (v : V), ops[k]? = some (.vl t) → vs[k]? = some v → Own K G Φ H t v (Es k)
  rt : ∀ (k i : Nat) (v : V), ops[k]? = some (.rt i) → vs[k]? = some v → σ[i]? = some (some v)
  dis : ∀ j k b, j ≠ k → Es j b → ¬ Es k b
  tmp : ∀ k, TmpR Φ H F (Es k)
/-- an exception in flight -/
inductive ExcR (Φ : Hp) : D → Value → Option Addr → Prop
  | some {c : Str} {ci : CInfo} {ds : List D} {dx : Addr} {vs : List V} (hc : G c = some ci) (he : ci.exn = true) (hx : Φ dx = some (.xd (ci.flds.zip vs))) (hf : vs.length = ci.flds.length) (hr : RepL K G Φ ds vs) : ExcR Φ (.obj c ds) (.ref ci.addr) (some dx)
  | none {c : Str} {ci : CInfo} (hc : G c = some ci) (he : ci.exn = true) : ExcR Φ (.obj c []) (.ref ci.addr) Option.none

/-- what is wanted behind an error -/
def postE (W : WX) (Φ H : Hp) (σ : L2.St) (L : Addr → Prop) (x : D) (s : Sl) : Prop :=
  ∀ cls d H' Φ' F', ExcR K G Φ' x cls d → StR K G Φ' H' σ s F' → Frm Φ H L Φ' H' (Ft F') → W cls d σ H'
/-- what is wanted behind an operand -/
def postO (W : WX) (Q : VK) (Φ H : Hp) (σ : L2.St) (L : Addr → Prop) : Out Op → Prop
  | .ok (.vl t) s => ∀ v H' Φ' F' E, StR K G Φ' H' σ s F' → Own K G Φ' H' t v E → TmpR Φ' H' F' E → Frm Φ H L Φ' H' (fun b => E b ∨ Ft F' b) → Q v H'
  | .ok (.rt i) s => ∀ v H' Φ' F', StR K G Φ' H' σ s F' → σ[i]? = some (some v) → Frm Φ H L Φ' H' (Ft F') → Q v H'
  | .er x s => postE K G W Φ H σ L x s
  | .bad => False
def tO (W : WX) (ev : Sl → Out Op) : TE := fun σ H Q => ∃ Φ s F, StR K G Φ H σ s F ∧ postO K G W Q Φ H σ (Ft F) (ev s)
/-- what operands own, and the slots -/
def OpF (Es : Nat → Addr → Prop) (F : Nat → Addr → Prop) : Addr → Prop := fun b => (∃ k, Es k b) ∨ Ft F b
def postA (W : WX) (Q : List V → Hp → Prop) (Φ H : Hp) (σ : L2.St) (L : Addr → Prop) : Out (List Op) → Prop
  | .ok ops s => ∀ vs H' Φ' F' Es, StR K G Φ' H' σ s F' → OpsR K G Φ' H' σ F' ops vs Es → Frm Φ H L Φ' H' (OpF Es F') → Q vs H'
  | .er x s => postE K G W Φ H σ L x s
  | .bad => False
end

def evAs : List (Sl → Out Op) → Sl → Out (List Op)
  | [], s => .ok [] s
  | f :: fs, s => match f s with
    | .ok o s1 => match evAs fs s1 with
      | .ok os s2 => .ok (o :: os) s2
      | .er x s2 => .er x s2
      | .bad => .bad
    | .er x s1 => .er x s1
    | .bad => .bad
/-- the reading of a list of operands -/
def tArgs (K : PySem.W.Frag) (G : GEnv) (W : WX) : List (Sl → Out Op) → TA
  | [] => tNil
  | f :: fs => tCons (tO K G W f) (tArgs K G W fs)

section
variable {K : PySem.W.Frag} {G : GEnv} {W : WX} {Φ H Φ1 H1 Φ2 H2 : Hp} {σ : L2.St} {s s1 s2 : Sl} {F F1 F2 : Nat → Addr → Prop} {E E1 : Addr → Prop}

theorem StR.at_ (r : StR K G Φ H σ s F) {i : Nat} {t : T} {v : V} (h : treeAt s i = some t) (hv : σ[i]? = some (some v)) : Own K G Φ H t v (F i) := by
  obtain ⟨w, h1, h2⟩ := r.slot i t h
  rw [hv] at h1
  cases h1
  exact h2
/-- a temporary stays under a step of the slots -/
theorem TmpR.step (t : TmpR Φ H F E) (f : Frm Φ H (Ft F) Φ1 H1 E1) (hF : ∀ i b, F1 i b → E1 b) : TmpR Φ1 H1 F1 E := by
  have nf : ∀ b, E b → ¬ Ft F b := fun b h ⟨i, hi⟩ => t.apart i b h hi
  refine ⟨fun b h => ?_, fun b h => ?_, fun i b h hi => ?_⟩
  · cases q : Φ1 b with
    | none => rfl
    | some o =>
      obtain ⟨x, hx⟩ := t.live b h
      rcases f.froz b o q with z | z | z
      · rw [t.unf b h] at z; cases z
      · exact (nf b h z).elim
      · rw [hx] at z; cases z
  · obtain ⟨x, hx⟩ := t.live b h
    exact ⟨x, f.keep b x hx (nf b h)⟩
  · obtain ⟨x, hx⟩ := t.live b h
    rcases f.foot b (hF i b hi) with z | z
    · exact nf b h z
    · rw [hx] at z; cases z
theorem Own.step {t : T} {v : V} (o : Own K G Φ H t v E) (t' : TmpR Φ H F E) (f : Frm Φ H (Ft F) Φ1 H1 E1) : Own K G Φ1 H1 t v E :=
  o.mono f.phi (fun b x hb h => f.keep b x h fun ⟨i, hi⟩ => t'.apart i b hb hi) fun _ h => h

theorem OpsR.nil : OpsR K G Φ H σ F [] [] (fun _ => no) :=
  ⟨rfl, fun k t v h => by simp at h, fun k i v h => by simp at h, fun _ _ _ _ h => h.elim, fun _ => ⟨fun _ h => h.elim, fun _ h => h.elim, fun _ _ h => h.elim⟩⟩
def consF (E : Addr → Prop) (Es : Nat → Addr → Prop) : Nat → Addr → Prop
  | 0 => E
  | k + 1 => Es k
theorem OpsR.cons {ops : List Op} {vs : List V} {Es : Nat → Addr → Prop} (r : OpsR K G Φ H σ F ops vs Es) {o : Op} {v : V} (hv : ∀ t, o = .vl t → Own K G Φ H t v E) (hr : ∀ i, o = .rt i → σ[i]? = some (some v)) (ht : TmpR Φ H F E)
    (hd : ∀ k b, E b → ¬ Es k b) : OpsR K G Φ H σ F (o :: ops) (v :: vs) (consF E Es) := by
  refine ⟨by rw [List.length_cons, List.length_cons, r.len], fun k t w h1 h2 => ?_, fun k i w h1 h2 => ?_, fun j k b hjk h1 h2 => ?_, fun k => ?_⟩
  · cases k with
    | zero =>
      simp at h1 h2
      subst h2
      exact hv t h1
    | succ k => exact r.vl k t w (by simpa using h1) (by simpa using h2)
  · cases k with
    | zero =>
      simp at h1 h2
      subst h2
      exact hr i h1
    | succ k => exact r.rt k i w (by simpa using h1) (by simpa using h2)
  · cases j with
    | zero =>
      cases k with
      | zero => exact hjk rfl
      | succ k => exact hd k b h1 h2
    | succ j =>
      cases k with
      | zero => exact hd j b h2 h1
      | succ k => exact r.dis j k b (fun e => hjk (by rw [e])) h1 h2
  · cases k with
    | zero => exact ht
    | succ k => exact r.tmp k
theorem TmpR.no : TmpR Φ H F VS.no := ⟨fun _ h => h.elim, fun _ h => h.elim, fun _ _ h => h.elim⟩

theorem postE.shift {Q : VK} {L L1 : Addr → Prop} {x : D} (f : Frm Φ H L Φ1 H1 L1) (p : postE K G W Φ H σ L x s) : postE K G W Φ1 H1 σ L1 x s := fun cls d H' Φ' F' ex st fr => p cls d H' Φ' F' ex st (f.trans fr)
theorem postO.shift {Q : VK} {L L1 : Addr → Prop} {o : Out Op} (f : Frm Φ H L Φ1 H1 L1) (p : postO K G W Q Φ H σ L o) : postO K G W Q Φ1 H1 σ L1 o := by
  cases o with
  | ok o s =>
    cases o with
    | vl t => exact fun v H' Φ' F' E st ow tm fr => p v H' Φ' F' E st ow tm (f.trans fr)
    | rt i => exact fun v H' Φ' F' st hv fr => p v H' Φ' F' st hv (f.trans fr)
  | er x s => exact postE.shift (Q := Q) f p
  | bad => exact p

theorem args_ok : ∀ (fs : List (Sl → Out Op)) (Q : List V → Hp → Prop) (Φ H : Hp) (s : Sl) (F : Nat → Addr → Prop), StR K G Φ H σ s F → postA K G W Q Φ H σ (Ft F) (evAs fs s) → tArgs K G W fs σ H Q
  | [], Q, Φ, H, s, F, st, p => p [] H Φ F (fun _ => no) st OpsR.nil (by
      have e : OpF (fun _ => VS.no) F = Ft F := funext fun b => propext ⟨fun h => h.elim (fun ⟨_, z⟩ => z.elim) id, .inr⟩
      show Frm Φ H (Ft F) Φ H (OpF (fun _ => VS.no) F)
      rw [e]
      exact Frm.refl)
  | f :: fs, Q, Φ, H, s, F, st, p => by
    show tO K G W f σ H fun x H1 => tArgs K G W fs σ H1 fun xs H2 => Q (x :: xs) H2
    refine ⟨Φ, s, F, st, ?_⟩
    unfold evAs at p
    cases q : f s with
    | bad => rw [q] at p; exact p.elim
    | er x s1 => rw [q] at p; exact p
    | ok o s1 =>
      rw [q] at p
      dsimp only at p
      -- the rest behind the first operand: v its value, E what it owns
      have rest : ∀ (v : V) (H1 Φ1 : Hp) (F1 : Nat → Addr → Prop) (E : Addr → Prop), StR K G Φ1 H1 σ s1 F1 → (∀ t, o = .vl t → Own K G Φ1 H1 t v E) → (∀ i, o = .rt i → σ[i]? = some (some v)) → TmpR Φ1 H1 F1 E →
          Frm Φ H (Ft F) Φ1 H1 (fun b => E b ∨ Ft F1 b) → tArgs K G W fs σ H1 fun xs H2 => Q (v :: xs) H2 := by
        intro v H1 Φ1 F1 E st1 hv hr tm fr
        refine args_ok fs _ Φ1 H1 s1 F1 st1 ?_
        cases q2 : evAs fs s1 with
        | bad => rw [q2] at p; exact p.elim
        | er x s2 =>
          rw [q2] at p
          intro cls d H' Φ' F' ex st' fr'
          exact p cls d H' Φ' F' ex st' ((fr.trans fr'.more).less fun b h => .inr h)
        | ok os s2 =>
          rw [q2] at p
          intro vs H' Φ' F' Es st' ops fr'
          have tm' : TmpR Φ' H' F' E := tm.step fr' fun i b h => .inr ⟨i, h⟩
          have dj : ∀ k b, E b → ¬ Es k b := fun k b h1 h2 => by
            obtain ⟨x, hx⟩ := tm.live b h1
            rcases fr'.foot b (.inl ⟨k, h2⟩) with ⟨i, z⟩ | z
            · exact tm.apart i b h1 z
            · rw [hx] at z; cases z
          refine p (v :: vs) H' Φ' F' (consF E Es) st' (ops.cons (fun t e => (hv t e).step tm fr') hr tm' dj) ((fr.trans fr'.more).less fun b h => ?_)
          rcases h with ⟨k, h⟩ | h
          · cases k with
            | zero => exact .inl h
            | succ k => exact .inr (.inl ⟨k, h⟩)
          · exact .inr (.inr h)
      cases o with
      | vl t =>
        intro v H1 Φ1 F1 E st1 ow tm fr
        exact rest v H1 Φ1 F1 E st1 (fun t' e => by cases e; exact ow) (fun i e => by cases e) tm fr
      | rt i =>
        intro v H1 Φ1 F1 st1 hv fr
        exact rest v H1 Φ1 F1 VS.no st1 (fun t' e => by cases e) (fun j e => by cases e; exact hv) TmpR.no (fr.less fun b h => h.elim (fun z => z.elim) id)

/-! ### snapshots -/
def snapOp (s : Sl) : Op → Option D
  | .vl t => some (frz t)
  | .rt i => (treeAt s i).map frz
def snapOps (s : Sl) : List Op → Option (List D)
  | [] => some []
  | o :: os => match snapOp s o, snapOps s os with
    | some d, some ds => some (d :: ds)
    | _, _ => none
theorem OpsR.tail {o : Op} {ops : List Op} {v : V} {vs : List V} {Es : Nat → Addr → Prop} (r : OpsR K G Φ H σ F (o :: ops) (v :: vs) Es) : OpsR K G Φ H σ F ops vs (fun k => Es (k + 1)) :=
  ⟨by simpa using r.len, fun k t w h1 h2 => r.vl (k + 1) t w (by simpa using h1) (by simpa using h2), fun k i w h1 h2 => r.rt (k + 1) i w (by simpa using h1) (by simpa using h2),
    fun j k b hjk => r.dis (j + 1) (k + 1) b (fun e => hjk (Nat.succ.inj e)), fun k => r.tmp (k + 1)⟩
theorem OpsR.snap : ∀ {ops : List Op} {vs : List V} {ds : List D} {Es : Nat → Addr → Prop}, StR K G Φ H σ s F → OpsR K G Φ H σ F ops vs Es → snapOps s ops = some ds → RepL K G H ds vs
  | [], vs, ds, Es, st, r, e => by
    have : vs = [] := by
      have := r.len
      cases vs with
      | nil => rfl
      | cons v vs => simp at this
    subst this
    simp [snapOps] at e
    subst e
    exact RepL.nil
  | o :: ops, [], ds, Es, st, r, e => by
    have := r.len
    simp at this
  | o :: ops, v :: vs, ds, Es, st, r, e => by
    unfold snapOps at e
    split at e
    · next d ds' h1 h2 =>
      cases e
      refine RepL.cons ?_ (OpsR.snap st r.tail h2)
      cases o with
      | vl t =>
        cases h1
        exact (r.vl 0 t v rfl rfl).snap st.same
      | rt i =>
        obtain ⟨t, ht, rfl⟩ := Option.map_eq_some_iff.mp (show (treeAt s i).map VS.frz = some d from h1)
        exact (st.at_ ht (r.rt 0 i v rfl rfl)).snap st.same
    · cases e

/-! ### slots changed -/
theorem treeAt_set {i j : Nat} {x : SV} : treeAt (s.set i x) j = if i = j ∧ j < s.length then (match x with | .un => none | .tr t => some t | .lk t => some t) else treeAt s j := by
  unfold treeAt
  by_cases hij : i = j
  · subst hij
    by_cases hl : i < s.length
    · rw [List.getElem?_set_self hl, if_pos ⟨rfl, hl⟩]
      cases x <;> rfl
    · rw [if_neg (fun z => hl z.2), List.getElem?_eq_none (by simpa using hl), List.getElem?_eq_none (by simpa using hl)]
  · rw [List.getElem?_set_ne hij, if_neg (fun z => hij z.1)]
theorem treeAt_lt {i : Nat} {t : T} (h : treeAt s i = some t) : i < s.length := by
  unfold treeAt at h
  cases q : s[i]? with
  | none => rw [q] at h; cases h
  | some x => exact (List.getElem?_eq_some_iff.mp q).1
/-- the tree of slot i is another one now, at the same value; what it owns is E -/
theorem StR.put (r : StR K G Φ H σ s F) {i : Nat} {t t' : T} {v : V} (ht : treeAt s i = some t) (hv : σ[i]? = some (some v)) (x : SV) (hx : x = .tr t' ∨ x = .lk t') (e : Same Φ Φ1) (e1 : Same Φ1 H1)
    (ow : Own K G Φ1 H1 t' v E) (tm : ∀ b, E b → Φ1 b = none ∧ (∃ o, H1 b = some o) ∧ ∀ j, j ≠ i → ¬ F j b) (kp : ∀ j b o, j ≠ i → F j b → H b = some o → H1 b = some o) (kf : ∀ j b, j ≠ i → F j b → Φ1 b = none) :
    StR K G Φ1 H1 σ (s.set i x) (updF F i E) := by
  have hi := treeAt_lt ht
  refine ⟨e1, fun j u hj => ?_, fun j k b hjk h1 h2 => ?_, fun j b h => ?_, fun j b h => ?_, by rw [List.length_set]; exact r.len⟩
  · rw [treeAt_set] at hj
    by_cases hij : i = j
    · subst hij
      rw [if_pos ⟨rfl, hi⟩] at hj
      have hu : u = t' := by
        rcases hx with rfl | rfl
        · exact (Option.some.inj hj).symm
        · exact (Option.some.inj hj).symm
      subst hu
      rw [updF_same]
      exact ⟨v, hv, ow⟩
    · rw [if_neg (fun z => hij z.1)] at hj
      obtain ⟨w, h1, h2⟩ := r.slot j u hj
      rw [updF_ne (Ne.symm hij)]
      exact ⟨w, h1, h2.mono e (fun b o hb q => kp j b o (Ne.symm hij) hb q) fun _ h => h⟩
  · by_cases ha : j = i
    · subst ha
      rw [updF_same] at h1
      rw [updF_ne (Ne.symm hjk)] at h2
      exact (tm b h1).2.2 k (Ne.symm hjk) h2
    · rw [updF_ne ha] at h1
      by_cases hb : k = i
      · subst hb
        rw [updF_same] at h2
        exact (tm b h2).2.2 j hjk h1
      · rw [updF_ne hb] at h2
        exact r.dis j k b hjk h1 h2
  · by_cases ha : j = i
    · subst ha
      rw [updF_same] at h
      exact (tm b h).1
    · rw [updF_ne ha] at h
      exact kf j b ha h
  · by_cases ha : j = i
    · subst ha
      rw [updF_same] at h
      exact (tm b h).2.1
    · rw [updF_ne ha] at h
      obtain ⟨o, ho⟩ := r.live j b h
      exact ⟨o, kp j b o ha h ho⟩
/-- slot i is frozen -/
theorem StR.freeze (r : StR K G Φ H σ s F) {i : Nat} {t : T} (ht : treeAt s i = some t) (x : SV) (hx : x = .tr (.leaf (frz t)) ∨ x = .lk (.leaf (frz t))) :
    ∃ Φ', StR K G Φ' H σ (s.set i x) (updF F i no) ∧ Frm Φ H (Ft F) Φ' H (Ft (updF F i no)) ∧ (∀ v, σ[i]? = some (some v) → Rep K G Φ' (frz t) v) ∧ (∀ b o, Φ' b = some o → Φ b = some o ∨ F i b) := by
  obtain ⟨v, hv, ow⟩ := r.slot i t ht
  have rp : Rep K G (frzH Φ H (F i)) (frz t) v := ow.frz frzH_same (frzH_at r.same)
  refine ⟨frzH Φ H (F i), r.put (t' := .leaf (frz t)) (E := no) ht hv x hx frzH_same (frzH_sub r.same) (.leaf rp) (fun b h => h.elim) (fun j b o _ _ h => h) fun j b hj h => ?_, ⟨frzH_same, fun b o h _ => h, fun b h => ?_, fun b o h => ?_⟩, fun w hw => ?_, frzH_or⟩
  · cases q : frzH Φ H (F i) b with
    | none => rfl
    | some o =>
      rcases frzH_or b o q with z | z
      · rw [r.unf j b h] at z; cases z
      · exact (r.dis j i b hj h z).elim
  · obtain ⟨j, hj⟩ := h
    by_cases ha : j = i
    · subst ha
      rw [updF_same] at hj
      exact hj.elim
    · rw [updF_ne ha] at hj
      exact .inl ⟨j, hj⟩
  · rcases frzH_or b o h with z | z
    · exact .inl z
    · exact .inr (.inl ⟨i, z⟩)
  · rw [hv] at hw
    cases hw
    exact rp
end
end VS
/-! VSc: expressions: the finishing step, primitives, sequences. -/
namespace VS
open PySem PySem.Spec PyProof.Rows L2

abbrev VO (X : Cx) (G : GEnv) (W : WX) (e : Expr) (ev : Sl → Out Op) : Prop := PE X e (tO X.K G W ev)
theorem pe_imp {X : Cx} {e : Expr} {t t' : TE} (h : PE X e t) (i : ∀ σ H Q, t' σ H Q → t σ H Q) : PE X e t' := ⟨fun pins s σ H Q I q => h.run pins s σ H Q I (i σ H Q q)⟩
theorem pt_imp {X : Cx} {e : Expr} {t t' : TT} (h : PT X e t) (i : ∀ σ H Q, t' σ H Q → t σ H Q) : PT X e t' := ⟨fun pins s σ H Q I q => h.run pins s σ H Q I (i σ H Q q)⟩
theorem pa_imp {X : Cx} {e : List Expr} {t t' : TA} (h : PA X e t) (i : ∀ σ H Q, t' σ H Q → t σ H Q) : PA X e t' := ⟨fun pos pins s σ H Q I q => h.run pos pins s σ H Q I (i σ H Q q)⟩

abbrev Fin1 := List Op → Sl → Out Op
def FinOk (K : PySem.W.Frag) (G : GEnv) (W : WX) (r : List V → Hp → VK → Prop) (fin : Fin1) : Prop :=
  ∀ (Φ H : Hp) (σ : L2.St) (s : Sl) (F : Nat → Addr → Prop) (ops : List Op) (vs : List V) (Es : Nat → Addr → Prop) (Q : VK), StR K G Φ H σ s F → OpsR K G Φ H σ F ops vs Es → postO K G W Q Φ H σ (OpF Es F) (fin ops s) → r vs H Q
def evF (fs : List (Sl → Out Op)) (fin : Fin1) : Sl → Out Op := fun s => match evAs fs s with
  | .ok ops s1 => fin ops s1
  | .er x s1 => .er x s1
  | .bad => .bad

section
variable {X : Cx} {K : PySem.W.Frag} {G : GEnv} {W : WX} {e : Expr} {fs : List (Sl → Out Op)} {r : List V → Hp → VK → Prop} {fin : Fin1}
theorem evF_args (hf : FinOk K G W r fin) {σ : L2.St} {H : Hp} {Q : VK} (h : tO K G W (evF fs fin) σ H Q) : tArgs K G W fs σ H fun vs H1 => r vs H1 Q := by
  obtain ⟨Φ, s, F, st, p⟩ := h
  refine args_ok fs _ Φ H s F st ?_
  unfold evF at p
  cases q : evAs fs s with
  | bad => rw [q] at p; exact p.elim
  | er x s1 => rw [q] at p; exact p
  | ok ops s1 =>
    rw [q] at p
    intro vs H' Φ' F' Es st' ops' fr
    exact hf Φ' H' σ s1 F' ops vs Es Q st' ops' (postO.shift fr p)
theorem vo_fin (hp : PE X e fun σ H Q => tArgs X.K G W fs σ H fun vs H1 => r vs H1 Q) (hf : FinOk X.K G W r fin) : VO X G W e (evF fs fin) := pe_imp hp fun σ H Q h => evF_args hf h
end

/-! ### scalars -/
inductive S0 where
  | non | bl (b : Bool) | int (i : Int) | str (s : Str)
def S0.toD : S0 → D
  | .non => .non
  | .bl b => .bl b
  | .int i => .int i
  | .str s => .str s
def S0.toV : S0 → V
  | .non => .non
  | .bl b => .bl b
  | .int i => .int i
  | .str s => .str s
theorem S0.rep {K : PySem.W.Frag} {G : GEnv} {Φ : Hp} (x : S0) : Rep K G Φ x.toD x.toV := by
  cases x with
  | non => exact .non
  | bl b => exact .bl b
  | int i => exact .int i
  | str s => exact .str s
theorem S0.repL {K : PySem.W.Frag} {G : GEnv} {Φ : Hp} : ∀ xs : List S0, RepL K G Φ (xs.map S0.toD) (xs.map S0.toV)
  | [] => RepL.nil
  | x :: xs => RepL.cons x.rep (S0.repL xs)

section
variable {K : PySem.W.Frag} {G : GEnv} {W : WX} {Φ H H1 : Hp} {σ : L2.St} {s : Sl} {F : Nat → Addr → Prop}
theorem StR.grow (r : StR K G Φ H σ s F) (e : Same H H1) : StR K G Φ H1 σ s F :=
  ⟨r.same.trans e, fun i t h => (r.slot i t h).imp fun v q => ⟨q.1, q.2.mono (Same.refl Φ) (fun b x _ h => e b x h) fun _ h => h⟩, r.dis, r.unf, fun i b h => (r.live i b h).imp fun o q => e b o q, r.len⟩
theorem leafs_own {Φ H : Hp} {ds : List D} {vs : List V} {a : Addr} {E : Addr → Prop} (ha : E a) (h : H a = some (.lst vs)) (r : RepL K G Φ ds vs) : Own K G Φ H (.node (ds.map .leaf)) (.ref a) E := by
  refine .node (fun _ => no) ha h (by rw [List.length_map]; exact r.1) (fun k t v h1 h2 => ?_) (fun k b z => z.elim) fun j k b _ z => z.elim
  rw [List.getElem?_map] at h1
  obtain ⟨d, hd, rfl⟩ := Option.map_eq_some_iff.mp h1
  exact .leaf (r.2 k d v hd h2)
/-- the end of an operation: nothing is kept of the operands, the heap has grown, the value is frozen -/
theorem fin_val {Q : VK} {L : Addr → Prop} {d : D} {v : V} (st : StR K G Φ H σ s F) (hL : ∀ b, Ft F b → L b) (p : postO K G W Q Φ H σ L (.ok (.vl (.leaf d)) s)) (e : Same H H1) (r : Rep K G Φ d v) : Q v H1 :=
  p v H1 Φ F no (st.grow e) (.leaf r) TmpR.no ((Frm.grow (F := L) e).less fun b h => h.elim (fun z => z.elim) (hL b))
/-- .. a new list -/
theorem fin_lst {Q : VK} {L : Addr → Prop} {ds : List D} {vs : List V} {a : Addr} (st : StR K G Φ H σ s F) (hL : ∀ b, Ft F b → L b) (p : postO K G W Q Φ H σ L (.ok (.vl (.node (ds.map .leaf))) s)) (e : Same H H1) (na : H a = none)
    (ha : H1 a = some (.lst vs)) (r : RepL K G Φ ds vs) : Q (.ref a) H1 := by
  refine p (.ref a) H1 Φ F (fun b => b = a) (st.grow e) (leafs_own rfl ha r) ⟨fun b h => ?_, fun b h => ⟨.lst vs, by rw [h]; exact ha⟩, fun i b h z => ?_⟩ ⟨Same.refl Φ, fun b o h _ => e b o h, fun b h => ?_, fun b o h => .inl h⟩
  · rw [h]; exact st.same.free na
  · obtain ⟨o, ho⟩ := st.live i b z
    rw [h, na] at ho
    cases ho
  · rcases h with h | h
    · exact .inr (by rw [h]; exact na)
    · exact .inl (hL b h)
/-- .. a new tuple -/
theorem fin_tup {Q : VK} {L : Addr → Prop} {ds : List D} {vs : List V} {a : Addr} (st : StR K G Φ H σ s F) (hL : ∀ b, Ft F b → L b) (p : postO K G W Q Φ H σ L (.ok (.vl (.leaf (.tup ds))) s)) (e : Same H H1) (na : H a = none)
    (ha : H1 a = some (.tup vs)) (r : RepL K G Φ ds vs) : Q (.ref a) H1 := by
  have nΦ : Φ a = none := st.same.free na
  have s1 : Same Φ (upd Φ a (.tup vs)) := fun b o h => by rw [upd_ne (ne_of_none h nΦ)]; exact h
  have s2 : Same (upd Φ a (.tup vs)) H1 := fun b o h => by
    by_cases hb : b = a
    · subst hb
      rw [upd_same] at h
      cases h
      exact ha
    · rw [upd_ne hb] at h
      exact e b o (st.same b o h)
  have st1 := st.grow e
  refine p (.ref a) H1 (upd Φ a (.tup vs)) F no ⟨s2, fun i t h => ?_, st1.dis, fun i b h => ?_, st1.live, st1.len⟩ (.leaf (.tup (SqT.of upd_same) r.1 (r.mono s1).2)) TmpR.no ⟨s1, fun b o h _ => e b o h, fun b h => ?_, fun b o h => ?_⟩
  · obtain ⟨v, h1, h2⟩ := st1.slot i t h
    exact ⟨v, h1, h2.mono s1 (fun _ _ _ h => h) fun _ h => h⟩
  · obtain ⟨o, ho⟩ := st.live i b h
    rw [upd_ne (ne_of_none ho na)]
    exact st.unf i b h
  · rcases h with h | h
    · exact h.elim
    · exact .inl (hL b h)
  · by_cases hb : b = a
    · exact .inr (.inr (by rw [hb]; exact na))
    · rw [upd_ne hb] at h
      exact .inl h
end

/-! ### primitives: by snapshots -/
inductive B where
  | sc (x : S0) | nl (xs : List S0) | bad
def finP (bi : List D → B) : Fin1 := fun ops s => match snapOps s ops with
  | some ds => match bi ds with
    | .sc x => .ok (.vl (.leaf x.toD)) s
    | .nl xs => .ok (.vl (.node ((xs.map S0.toD).map .leaf))) s
    | .bad => .bad
  | none => .bad
def wantB : B → Hp → VK → Prop
  | .sc x, H, Q => ∀ H', Same H H' → Q x.toV H'
  | .nl xs, H, Q => ∀ p H', Same H H' → H p = none → H' p = some (.lst (xs.map S0.toV)) → Q (.ref p) H'
  | .bad, _, _ => False
def Prim (K : PySem.W.Frag) (G : GEnv) (r : List V → Hp → VK → Prop) (bi : List D → B) : Prop :=
  ∀ (vs : List V) (ds : List D) (H : Hp) (Q : VK) (b : B), RepL K G H ds vs → bi ds = b → wantB b H Q → r vs H Q
theorem opF_slots {Es F : Nat → Addr → Prop} : ∀ b, Ft F b → OpF Es F b := fun _ h => .inr h
section
variable {K : PySem.W.Frag} {G : GEnv} {W : WX} {r : List V → Hp → VK → Prop} {bi : List D → B}
theorem fin_prim (h : Prim K G r bi) : FinOk K G W r (finP bi) := by
  intro Φ H σ s F ops vs Es Q st or p
  unfold finP at p
  cases q : snapOps s ops with
  | none => rw [q] at p; exact p.elim
  | some ds =>
    rw [q] at p
    dsimp only at p
    refine h vs ds H Q (bi ds) (or.snap st q) rfl ?_
    cases q2 : bi ds with
    | bad => rw [q2] at p; exact p.elim
    | sc x =>
      rw [q2] at p
      exact fun H' e => fin_val st opF_slots p e x.rep
    | nl xs =>
      rw [q2] at p
      exact fun a H' e na ha => fin_lst st opF_slots p e na ha (S0.repL xs)
end

/-! ### sequences: what is told shares the items -/
def isLeaf : T → Bool
  | .leaf _ => true
  | _ => false
def soft1 (t : T) : T := match t with
  | .node ts => if ts.all isLeaf then t else .node (ts.map fun t => .leaf (frz t))
  | _ => t
def softV : SV → SV
  | .tr t => .tr (soft1 t)
  | .lk t => .lk (soft1 t)
  | .un => .un
def soft (s : Sl) : Op → Sl
  | .vl _ => s
  | .rt i => match s[i]? with
    | some x => s.set i (softV x)
    | none => s
def softs (s : Sl) : List Op → Sl
  | [] => s
  | o :: os => softs (soft s o) os
/-- the items of a list are frozen, the list may not be; all else is frozen but an owned instance -/
def KidR (K : PySem.W.Frag) (G : GEnv) (Φ H : Hp) : D → V → Prop
  | .lst ds, v => ∃ a ws, v = .ref a ∧ H a = some (.lst ws) ∧ RepL K G Φ ds ws
  | .obj _ _, _ => True
  | d, v => Rep K G Φ d v
inductive SQ where
  | lst (es : List D) | tup (es : List D) | val (d : D) | bad
def finS (q : List D → SQ) : Fin1 := fun ops s => match snapOps s ops with
  | some ds => match q ds with
    | .lst es => .ok (.vl (.node (es.map .leaf))) (softs s ops)
    | .tup es => .ok (.vl (.leaf (.tup es))) (softs s ops)
    | .val d => .ok (.vl (.leaf d)) (softs s ops)
    | .bad => .bad
  | none => .bad
def wantS (K : PySem.W.Frag) (G : GEnv) (Φ : Hp) : SQ → Hp → VK → Prop
  | .lst es, H, Q => ∀ ws p H', RepL K G Φ es ws → Same H H' → H p = none → H' p = some (.lst ws) → Q (.ref p) H'
  | .tup es, H, Q => (∀ ws p H', RepL K G Φ es ws → Same H H' → H p = none → H' p = some (.tup ws) → Q (.ref p) H') ∧ ∀ v H', Rep K G Φ (.tup es) v → Same H H' → Q v H'
  | .val d, H, Q => ∀ v H', Rep K G Φ d v → Same H H' → Q v H'
  | .bad, _, _ => False
/-- the operands: their items frozen, all seen in the heap -/
def KidL (K : PySem.W.Frag) (G : GEnv) (Φ H : Hp) (ds : List D) (vs : List V) : Prop :=
  ds.length = vs.length ∧ ∀ (k : Nat) (d : D) (v : V), ds[k]? = some d → vs[k]? = some v → KidR K G Φ H d v ∧ Rep K G H d v
def PrimS (K : PySem.W.Frag) (G : GEnv) (r : List V → Hp → VK → Prop) (q : List D → SQ) : Prop :=
  ∀ (Φ H : Hp) (vs : List V) (ds : List D) (Q : VK) (b : SQ), Same Φ H → KidL K G Φ H ds vs → q ds = b → wantS K G Φ b H Q → r vs H Q

section
variable {K : PySem.W.Frag} {G : GEnv} {W : WX} {Φ Φ1 H H1 : Hp} {σ : L2.St} {s : Sl} {F : Nat → Addr → Prop} {d : D} {v : V}
theorem KidR.mono (h : KidR K G Φ H d v) (e : Same Φ Φ1) (e1 : Same H H1) : KidR K G Φ1 H1 d v := by
  cases d with
  | lst ds =>
    obtain ⟨a, ws, h1, h2, h3⟩ := h
    exact ⟨a, ws, h1, e1 _ _ h2, h3.mono e⟩
  | obj c ds => exact True.intro
  | non => exact Rep.mono (d := .non) h e
  | bl b => exact Rep.mono (d := .bl b) h e
  | int b => exact Rep.mono (d := .int b) h e
  | str b => exact Rep.mono (d := .str b) h e
  | tup b => exact Rep.mono (d := .tup b) h e
  | ro b => exact Rep.mono (d := .ro b) h e
theorem KidR.of_rep (h : Rep K G Φ d v) (e : Same Φ H) : KidR K G Φ H d v := by
  cases h with
  | lst h hl hk => exact ⟨_, _, rfl, e _ _ h, hl, hk⟩
  | non => exact .non
  | bl b => exact .bl b
  | int i => exact .int i
  | str s => exact .str s
  | tup h hl hk => exact .tup h hl hk
  | ro h hl hk => exact .ro h hl hk
  | obj hc he h hl hf hk => exact True.intro
  | exn hc he h hx hl hf hk => exact True.intro
  | exn0 hc he h => exact True.intro
theorem frz_soft1 (t : T) : frz (soft1 t) = frz t := by
  cases t with
  | leaf d => rfl
  | ins c ts => rfl
  | node ts =>
    unfold soft1
    dsimp only
    split
    · rfl
    · rw [frz_node, frz_node, List.map_map]
      congr 1
theorem allLeaf {ts : List T} (h : ts.all isLeaf = true) : ts = (ts.map frz).map .leaf := by
  induction ts with
  | nil => rfl
  | cons t ts ih =>
    rw [List.all_cons, Bool.and_eq_true] at h
    rw [List.map_cons, List.map_cons, ← ih h.2]
    cases t with
    | leaf d => rw [frz_leaf]
    | node ts => simp [isLeaf] at h
    | ins c ts => simp [isLeaf] at h
/-- a tree whose items are frozen (a list), in the heap with E frozen but for the list itself -/
theorem Own.soft {t : T} {E : Addr → Prop} (o : Own K G Φ H t v E) (e : Same Φ H) (un : ∀ b, E b → Φ b = none) :
    ∃ (Φ' : Hp) (E' : Addr → Prop), Same Φ Φ' ∧ Same Φ' H ∧ Own K G Φ' H (soft1 t) v E' ∧ (∀ b, E' b → E b ∧ Φ' b = none) ∧ (∀ b o, Φ' b = some o → Φ b = some o ∨ E b) ∧ KidR K G Φ' H (VS.frz t) v := by
  cases o with
  | leaf h => exact ⟨Φ, E, Same.refl Φ, e, .leaf h, fun b hb => ⟨hb, un b hb⟩, fun b o h => .inl h, by rw [frz_leaf]; exact KidR.of_rep h e⟩
  | ins Fs ha hc he h hl hf hk hs hd => exact ⟨Φ, E, Same.refl Φ, e, .ins Fs ha hc he h hl hf hk hs hd, fun b hb => ⟨hb, un b hb⟩, fun b o h => .inl h, by rw [frz_ins]; exact True.intro⟩
  | @node ts a vs _ Fs ha h hl hk hs hd =>
    by_cases hal : ts.all isLeaf = true
    · refine ⟨Φ, E, Same.refl Φ, e, ?_, fun b hb => ⟨hb, un b hb⟩, fun b o h => .inl h, ?_⟩
      · unfold soft1
        dsimp only
        rw [if_pos hal]
        exact .node Fs ha h hl hk hs hd
      · rw [frz_node]
        refine ⟨a, vs, rfl, h, by rw [List.length_map]; exact hl, fun k d w h1 h2 => ?_⟩
        rw [List.getElem?_map] at h1
        obtain ⟨t, ht, rfl⟩ := Option.map_eq_some_iff.mp h1
        have hlf : isLeaf t = true := List.all_eq_true.mp hal t (List.mem_of_getElem? ht)
        have ow := hk k t w ht h2
        cases ow with
        | leaf hh => rw [frz_leaf]; exact hh
        | node _ _ _ _ _ _ _ => simp [isLeaf] at hlf
        | ins _ _ _ _ _ _ _ _ _ => simp [isLeaf] at hlf
    · have E1 : ∀ b, (E b ∧ b ≠ a) → E b := fun b h => h.1
      have sub : Same (frzH Φ H fun b => E b ∧ b ≠ a) H := frzH_sub e
      have rp : RepL K G (frzH Φ H fun b => E b ∧ b ≠ a) (ts.map VS.frz) vs := ⟨by rw [List.length_map]; exact hl, fun k d w h1 h2 => by
        rw [List.getElem?_map] at h1
        obtain ⟨t, ht, rfl⟩ := Option.map_eq_some_iff.mp h1
        exact (hk k t w ht h2).frz frzH_same fun b x hb q => frzH_at e b x (hs k b hb) q⟩
      refine ⟨frzH Φ H fun b => E b ∧ b ≠ a, fun b => b = a, frzH_same, sub, ?_, fun b hb => ⟨by rw [hb]; exact ha, ?_⟩, fun b o h => (frzH_or b o h).imp id fun z => z.1, ?_⟩
      · unfold soft1
        dsimp only
        rw [if_neg hal, show (ts.map fun t => T.leaf (VS.frz t)) = (ts.map VS.frz).map .leaf by rw [List.map_map]; rfl]
        exact leafs_own rfl h rp
      · cases q : frzH Φ H (fun b => E b ∧ b ≠ a) b with
        | none => rfl
        | some o =>
          rcases frzH_or b o q with z | z
          · rw [hb, un a ha] at z; cases z
          · exact (z.2 hb).elim
      · rw [frz_node]
        exact ⟨a, vs, rfl, h, rp⟩
theorem treeAt_get {i : Nat} {t : T} (h : treeAt s i = some t) : s[i]? = some (.tr t) ∨ s[i]? = some (.lk t) := by
  unfold treeAt at h
  cases q : s[i]? with
  | none => rw [q] at h; cases h
  | some x =>
    rw [q] at h
    cases x with
    | un => cases h
    | tr u => cases h; exact .inl rfl
    | lk u => cases h; exact .inr rfl
/-- one operand is made soft -/
theorem soft_ok {o : Op} {E : Addr → Prop} (st : StR K G Φ H σ s F) (tm : TmpR Φ H F E) (hv : ∀ t, o = .vl t → Own K G Φ H t v E) (hr : ∀ i, o = .rt i → σ[i]? = some (some v)) (hd : snapOp s o = some d) :
    ∃ Φ' F', StR K G Φ' H σ (soft s o) F' ∧ Frm Φ H (fun b => E b ∨ Ft F b) Φ' H (Ft F') ∧ KidR K G Φ' H d v ∧ (∀ i b, F' i b → F i b) ∧ (∀ b o, Φ' b = some o → Φ b = some o ∨ E b ∨ Ft F b) := by
  cases o with
  | vl t =>
    cases hd
    obtain ⟨Φ', E', s1, s2, ow, e1, e2, kd⟩ := (hv t rfl).soft st.same tm.unf
    refine ⟨Φ', F, ⟨s2, fun i u h => ?_, st.dis, fun i b h => ?_, st.live, st.len⟩, ⟨s1, fun b o h _ => h, fun b h => .inl (.inr h), fun b o h => ?_⟩, kd, fun i b h => h, fun b o h => (e2 b o h).imp id .inl⟩
    · obtain ⟨w, h1, h2⟩ := st.slot i u h
      exact ⟨w, h1, h2.mono s1 (fun _ _ _ h => h) fun _ h => h⟩
    · cases q : Φ' b with
      | none => rfl
      | some o =>
        rcases e2 b o q with z | z
        · rw [st.unf i b h] at z; cases z
        · exact (tm.apart i b z h).elim
    · rcases e2 b o h with z | z
      · exact .inl z
      · exact .inr (.inl (.inl z))
  | rt i =>
    obtain ⟨t, ht, rfl⟩ := Option.map_eq_some_iff.mp (show (treeAt s i).map frz = some d from hd)
    have hvi := hr i rfl
    have ow := st.at_ ht hvi
    obtain ⟨Φ', E', s1, s2, ow', e1, e2, kd⟩ := ow.soft st.same (st.unf i)
    have hset : ∃ x, soft s (.rt i) = s.set i x ∧ (x = .tr (soft1 t) ∨ x = .lk (soft1 t)) := by
      show ∃ x, (match s[i]? with | some x => s.set i (softV x) | none => s) = s.set i x ∧ _
      rcases treeAt_get ht with q | q
      · rw [q]; exact ⟨_, rfl, .inl rfl⟩
      · rw [q]; exact ⟨_, rfl, .inr rfl⟩
    obtain ⟨x, hx1, hx2⟩ := hset
    rw [hx1]
    refine ⟨Φ', updF F i E', st.put ht hvi x hx2 s1 s2 ow' (fun b hb => ⟨(e1 b hb).2, st.live i b (e1 b hb).1, fun j hj => st.dis i j b (Ne.symm hj) (e1 b hb).1⟩) (fun j b o _ _ h => h) (fun j b hj h => ?_), ⟨s1, fun b o h _ => h, fun b h => ?_, fun b o h => ?_⟩, kd, fun j b h => ?_, fun b o h => (e2 b o h).imp id fun z => .inr ⟨i, z⟩⟩
    · cases q : Φ' b with
      | none => rfl
      | some o =>
        rcases e2 b o q with z | z
        · rw [st.unf j b h] at z; cases z
        · exact (st.dis j i b hj h z).elim
    · obtain ⟨j, hj⟩ := h
      by_cases ha : j = i
      · subst ha
        rw [updF_same] at hj
        exact .inl (.inr ⟨j, (e1 b hj).1⟩)
      · rw [updF_ne ha] at hj
        exact .inl (.inr ⟨j, hj⟩)
    · rcases e2 b o h with z | z
      · exact .inl z
      · exact .inr (.inl (.inr ⟨i, z⟩))
    · by_cases ha : j = i
      · subst ha
        rw [updF_same] at h
        exact (e1 b h).1
      · rw [updF_ne ha] at h
        exact h
theorem snap_soft {o p : Op} : snapOp (soft s o) p = snapOp s p := by
  cases p with
  | vl t => rfl
  | rt j =>
    cases o with
    | vl t => rfl
    | rt i =>
      show (treeAt (match s[i]? with | some x => s.set i (softV x) | none => s) j).map frz = (treeAt s j).map frz
      cases q : s[i]? with
      | none => rfl
      | some x =>
        dsimp only
        rw [treeAt_set]
        by_cases h : i = j ∧ j < s.length
        · rw [if_pos h]
          obtain ⟨h1, h2⟩ := h
          subst h1
          unfold treeAt
          rw [q]
          cases x with
          | un => rfl
          | tr t => show some (frz (soft1 t)) = some (frz t); rw [frz_soft1]
          | lk t => show some (frz (soft1 t)) = some (frz t); rw [frz_soft1]
        · rw [if_neg h]
theorem snaps_soft {o : Op} : ∀ ops : List Op, snapOps (soft s o) ops = snapOps s ops
  | [] => rfl
  | p :: ps => by
    unfold snapOps
    rw [snap_soft, snaps_soft ps]
theorem softs_ok : ∀ {ops : List Op} {s : Sl} {Φ : Hp} {F : Nat → Addr → Prop} {vs : List V} {Es : Nat → Addr → Prop} {ds : List D}, StR K G Φ H σ s F → OpsR K G Φ H σ F ops vs Es → snapOps s ops = some ds →
    ∃ Φ' F', StR K G Φ' H σ (softs s ops) F' ∧ Frm Φ H (OpF Es F) Φ' H (Ft F') ∧ (∀ (k : Nat) (d : D) (v : V), ds[k]? = some d → vs[k]? = some v → KidR K G Φ' H d v)
  | [], s, Φ, F, vs, Es, ds, st, or, e => by
    simp [snapOps] at e
    subst e
    exact ⟨Φ, F, st, Frm.refl.less fun b h => .inr h, fun k d v h => by simp at h⟩
  | o :: ops, s, Φ, F, [], Es, ds, st, or, e => by
    have := or.len
    simp at this
  | o :: ops, s, Φ, F, v :: vs, Es, ds, st, or, e => by
    unfold snapOps at e
    split at e
    · next d ds' h1 h2 =>
      cases e
      obtain ⟨Φ1, F1, st1, fr1, kd1, sub1, froz1⟩ := soft_ok st (or.tmp 0) (fun t e => or.vl 0 t v (by rw [e]; rfl) rfl) (fun i e => or.rt 0 i v (by rw [e]; rfl) rfl) h1
      have ph : Same Φ Φ1 := fr1.phi
      have or1 : OpsR K G Φ1 H σ F1 ops vs (fun k => Es (k + 1)) := by
        have t := or.tail
        refine ⟨t.len, fun k u w h1 h2 => (t.vl k u w h1 h2).mono ph (fun _ _ _ h => h) fun _ h => h, t.rt, t.dis, fun k => ⟨fun b h => ?_, (t.tmp k).live, fun i b h z => (t.tmp k).apart i b h (sub1 i b z)⟩⟩
        cases q : Φ1 b with
        | none => rfl
        | some x =>
          rcases froz1 b x q with z | z | ⟨i, z⟩
          · rw [(t.tmp k).unf b h] at z; cases z
          · exact (or.dis 0 (k + 1) b (by omega) z h).elim
          · exact ((t.tmp k).apart i b h z).elim
      obtain ⟨Φ2, F2, st2, fr2, kd2⟩ := softs_ok st1 or1 (by rw [snaps_soft]; exact h2)
      have f1 : Frm Φ H (OpF Es F) Φ1 H (OpF (fun k => Es (k + 1)) F1) := by
        have w := fr1.wide (F2 := OpF Es F) fun b h => h.elim (fun z => .inl ⟨0, z⟩) .inr
        refine ⟨w.phi, w.keep, fun b h => ?_, w.froz⟩
        rcases h with ⟨k, h⟩ | h
        · exact .inl (.inl ⟨k + 1, h⟩)
        · exact w.foot b h
      refine ⟨Φ2, F2, st2, f1.trans fr2, fun k d' v' h1' h2' => ?_⟩
      cases k with
      | zero =>
        simp at h1' h2'
        subst h1'
        subst h2'
        exact kd1.mono fr2.phi (Same.refl H)
      | succ k => exact kd2 k d' v' (by simpa using h1') (by simpa using h2')
    · cases e
theorem fin_seq {r : List V → Hp → VK → Prop} {q : List D → SQ} (h : PrimS K G r q) : FinOk K G W r (finS q) := by
  intro Φ H σ s F ops vs Es Q st or p
  unfold finS at p
  cases hq : snapOps s ops with
  | none => rw [hq] at p; exact p.elim
  | some ds =>
    rw [hq] at p
    dsimp only at p
    have rl := or.snap st hq
    obtain ⟨Φ', F', st', fr, kd⟩ := softs_ok st or hq
    refine h Φ' H vs ds Q (q ds) st'.same ⟨rl.1, fun k d v h1 h2 => ⟨kd k d v h1 h2, rl.2 k d v h1 h2⟩⟩ rfl ?_
    cases q2 : q ds with
    | bad => rw [q2] at p; exact p.elim
    | lst es =>
      rw [q2] at p
      exact fun ws a H' rp e na ha => fin_lst st' (fun _ h => h) (postO.shift fr p) e na ha rp
    | tup es =>
      rw [q2] at p
      exact ⟨fun ws a H' rp e na ha => fin_tup st' (fun _ h => h) (postO.shift fr p) e na ha rp, fun v H' rp e => fin_val st' (fun _ h => h) (postO.shift fr p) e rp⟩
    | val d =>
      rw [q2] at p
      exact fun v H' rp e => fin_val st' (fun _ h => h) (postO.shift fr p) e rp
end
end VS
/-! VSd: rules: names, constants, argument lists, operators, subscripts, displays, built-ins. -/
namespace VS
open PySem PySem.Spec PyProof.Rows L2

/-! ### names, constants -/
def evName (i : Nat) : Sl → Out Op := fun s => match treeAt s i with
  | some (.leaf d) => .ok (.vl (.leaf d)) s
  | some _ => .ok (.rt i) s
  | none => .bad
def evC (d : D) : Sl → Out Op := fun s => .ok (.vl (.leaf d)) s
section
variable {X : Cx} {G : GEnv} {W : WX} {e : Expr} {pos : Pos}
theorem vo_name {i : Nat} {x : Str} (hN : X.N[i]? = some x) (hv : Vis X.env.scope x) (hd : (x == ("__debug__" : Str)) = false) (hcd : (x == ("__classdict__" : Str)) = false) : VO X G W (.Name x pos) (evName i) := by
  refine pe_imp (pe_var hN hv hd hcd) fun σ H Q h => ?_
  obtain ⟨Φ, s, F, st, p⟩ := h
  unfold evName at p
  cases q : treeAt s i with
  | none => rw [q] at p; exact p.elim
  | some t =>
    rw [q] at p
    obtain ⟨v, hv, ow⟩ := st.slot i t q
    refine ⟨v, hv, ?_⟩
    cases t with
    | leaf d =>
      cases ow with
      | leaf r => exact p v H Φ F no st (.leaf r) TmpR.no (Frm.refl.less fun b h => h.elim (fun z => z.elim) id)
    | node ts => exact p v H Φ F st hv Frm.refl
    | ins c ts => exact p v H Φ F st hv Frm.refl
theorem vo_const {d : D} {v : V} (h : PE X e (tC v)) (r : ∀ Φ, Rep X.K G Φ d v) : VO X G W e (evC d) := by
  refine pe_imp h fun σ H Q h => ?_
  obtain ⟨Φ, s, F, st, p⟩ := h
  exact p v H Φ F no st (.leaf (r Φ)) TmpR.no (Frm.refl.less fun b h => h.elim (fun z => z.elim) id)
end

/-! ### argument lists -/
def notStar : Expr → Bool
  | .Starred .. => false
  | _ => true
theorem star_of {e : Expr} {es : List Expr} {env : Env} (h : notStar e = true) : starEach (e :: es) env = (false, eval e env) :: starEach es env := by
  cases e <;> first | rfl | exact absurd h (by simp [notStar])
theorem star_any {env : Env} {pos : Pos} : ∀ {es : List Expr}, es.all notStar = true → (backTo pos (starEach es env)).any (·.1) = false
  | [], _ => rfl
  | e :: es, h => by
    rw [List.all_cons, Bool.and_eq_true] at h
    rw [star_of h.1]
    show (false || (backTo pos (starEach es env)).any (·.1)) = false
    rw [star_any h.2]
    rfl
inductive VOs (X : Cx) (G : GEnv) (W : WX) : List Expr → List (Sl → Out Op) → Prop
  | nil : VOs X G W [] []
  | cons {e : Expr} {es : List Expr} {f : Sl → Out Op} {fs : List (Sl → Out Op)} (h : VO X G W e f) (r : VOs X G W es fs) : VOs X G W (e :: es) (f :: fs)
section
variable {X : Cx} {G : GEnv} {W : WX}
theorem pa_of : ∀ {es : List Expr} {fs : List (Sl → Out Op)}, VOs X G W es fs → es.all notStar = true → PA X es (tArgs X.K G W fs)
  | _, _, .nil, _ => pa_nil
  | _, _, .cons h r, hs => by
    rw [List.all_cons, Bool.and_eq_true] at hs
    exact pa_cons h (pa_of r hs.2) (star_of hs.1)
end

/-! ### operators by values -/
def lift2 (r : R2) : List V → Hp → VK → Prop := fun vs H Q => match vs with
  | [x, y] => r x y H Q
  | _ => False
def lift1 (r : V → Hp → VK → Prop) : List V → Hp → VK → Prop := fun vs H Q => match vs with
  | [x] => r x H Q
  | _ => False
def orR (r r' : List V → Hp → VK → Prop) : List V → Hp → VK → Prop := fun vs H Q => r vs H Q ∨ r' vs H Q
def finIf (c : List D → Bool) (f g : Fin1) : Fin1 := fun ops s => match snapOps s ops with
  | some ds => if c ds = true then f ops s else g ops s
  | none => .bad
section
variable {K : PySem.W.Frag} {G : GEnv} {W : WX} {r r' : List V → Hp → VK → Prop} {f g : Fin1} {c : List D → Bool}
theorem fin_or (h : FinOk K G W r f) (h' : FinOk K G W r' g) : FinOk K G W (orR r r') (finIf c f g) := by
  intro Φ H σ s F ops vs Es Q st or p
  unfold finIf at p
  cases q : snapOps s ops with
  | none => rw [q] at p; exact p.elim
  | some ds =>
    rw [q] at p
    dsimp only at p
    split at p
    · exact .inl (h Φ H σ s F ops vs Es Q st or p)
    · exact .inr (h' Φ H σ s F ops vs Es Q st or p)
theorem fin_imp (h : FinOk K G W r f) (i : ∀ vs H Q, r vs H Q → r' vs H Q) : FinOk K G W r' f := fun Φ H σ s F ops vs Es Q st or p => i vs H Q (h Φ H σ s F ops vs Es Q st or p)
theorem lift2_or {r r' : R2} (vs : List V) (H : Hp) (Q : VK) (h : orR (lift2 r) (lift2 r') vs H Q) : lift2 (fun x y H Q => r x y H Q ∨ r' x y H Q) vs H Q := by
  rcases h with h | h
  · cases vs with
    | nil => exact h
    | cons x vs =>
      cases vs with
      | nil => exact h
      | cons y vs =>
        cases vs with
        | nil => exact .inl h
        | cons z vs => exact h
  · cases vs with
    | nil => exact h
    | cons x vs =>
      cases vs with
      | nil => exact h
      | cons y vs =>
        cases vs with
        | nil => exact .inr h
        | cons z vs => exact h
end
/-- an operator's road: a rule by values, how it is finished -/
structure Road (X : Cx) (G : GEnv) (W : WX) (f : Value → Value → Sem Value) (fin : Fin1) : Prop where
  ex : ∃ r : R2, OpR X f r ∧ FinOk X.K G W (lift2 r) fin
theorem Road.or {X : Cx} {G : GEnv} {W : WX} {f : Value → Value → Sem Value} {p q : Fin1} {c : List D → Bool} (a : Road X G W f p) (b : Road X G W f q) : Road X G W f (finIf c p q) := by
  obtain ⟨r, h1, h2⟩ := a.ex
  obtain ⟨r', h1', h2'⟩ := b.ex
  exact ⟨_, h1.or h1', fin_imp (fin_or h2 h2') lift2_or⟩
section
variable {X : Cx} {G : GEnv} {W : WX} {a b : Expr} {fa fb : Sl → Out Op} {pos : Pos} {fin : Fin1}
theorem vo_bin {op : Operator} (h : Road X G W (binaryOp op) fin) (ha : VO X G W a fa) (hb : VO X G W b fb) : VO X G W (.BinOp a op b pos) (evF [fa, fb] fin) := by
  obtain ⟨r, ho, hf⟩ := h.ex
  exact vo_fin (r := lift2 r) (pe_op ho ha hb) hf
theorem vo_cmp {op : CmpOp} (h : Road X G W (compareOp op) fin) (ha : VO X G W a fa) (hb : VO X G W b fb) (hm : behindInMarks op b = false) : VO X G W (.Compare a [op] [b] pos) (evF [fa, fb] fin) := by
  obtain ⟨r, ho, hf⟩ := h.ex
  exact vo_fin (r := lift2 r) (pe_cmpR ho ha hb hm) hf
theorem vo_un {op : UnaryOp} {r : V → Hp → VK → Prop} (ho : UnR X (unaryOp op) r) (hf : FinOk X.K G W (lift1 r) fin) (ha : VO X G W a fa) : VO X G W (.UnaryOp op a pos) (evF [fa] fin) :=
  vo_fin (r := lift1 r) (pe_un ho ha) hf
end

/-! ### what the snapshots tell of the values -/
section
variable {K : PySem.W.Frag} {G : GEnv} {Φ : Hp}
theorem repL2 {a b : D} {vs : List V} (r : RepL K G Φ [a, b] vs) : ∃ x y, vs = [x, y] ∧ Rep K G Φ a x ∧ Rep K G Φ b y := by
  obtain ⟨x, vr, rfl, hx, r⟩ := r.cases_cons
  obtain ⟨y, vr, rfl, hy, r⟩ := r.cases_cons
  obtain rfl := r.cases_nil
  exact ⟨x, y, rfl, hx, hy⟩
theorem repL1 {a : D} {vs : List V} (r : RepL K G Φ [a] vs) : ∃ x, vs = [x] ∧ Rep K G Φ a x := by
  obtain ⟨x, vr, rfl, hx, r⟩ := r.cases_cons
  obtain rfl := r.cases_nil
  exact ⟨x, rfl, hx⟩
theorem len2 {a b : D} {vs : List V} (h : [a, b].length = vs.length) : ∃ x y, vs = [x, y] := by
  cases vs with
  | nil => simp at h
  | cons x vs =>
    cases vs with
    | nil => simp at h
    | cons y vs =>
      cases vs with
      | nil => exact ⟨x, y, rfl⟩
      | cons z vs => simp at h
theorem len1 {a : D} {vs : List V} (h : [a].length = vs.length) : ∃ x, vs = [x] := by
  cases vs with
  | nil => simp at h
  | cons x vs =>
    cases vs with
    | nil => exact ⟨x, rfl⟩
    | cons z vs => simp at h
theorem rep_int {i : Int} {v : V} (r : Rep K G Φ (.int i) v) : v = .int i := by cases r; rfl
theorem rep_str {i : Str} {v : V} (r : Rep K G Φ (.str i) v) : v = .str i := by cases r; rfl
theorem rep_bl {i : Bool} {v : V} (r : Rep K G Φ (.bl i) v) : v = .bl i := by cases r; rfl
theorem rep_non {v : V} (r : Rep K G Φ .non v) : v = .non := by cases r; rfl
end

/-! ### whole numbers -/
def bI (C : Int → Int → Bool) (g : Int → Int → S0) : List D → B
  | [.int i, .int j] => if C i j = true then .sc (g i j) else .bad
  | _ => .bad
theorem prim_int {K : PySem.W.Frag} {G : GEnv} {C : Int → Int → Prop} {Cb : Int → Int → Bool} {g : Int → Int → V} {g' : Int → Int → S0} (hC : ∀ i j, Cb i j = true → C i j) (hg : ∀ i j, (g' i j).toV = g i j) : Prim K G (lift2 (rI C g)) (bI Cb g') := by
  intro vs ds H Q b r e w
  unfold bI at e
  split at e
  · next i j =>
    obtain ⟨x, y, rfl, hx, hy⟩ := repL2 r
    split at e
    · next hc =>
      subst e
      refine ⟨i, j, rep_int hx, rep_int hy, hC i j hc, ?_⟩
      rw [← hg]
      exact w H (Same.refl H)
    · subst e
      exact w.elim
  · subst e
    exact w.elim
theorem prim_int0 {K : PySem.W.Frag} {G : GEnv} {g : Int → Int → V} {g' : Int → Int → S0} (hg : ∀ i j, (g' i j).toV = g i j) : Prim K G (lift2 (rI0 g)) (bI (fun _ _ => true) g') := by
  intro vs ds H Q b r e w
  unfold bI at e
  split at e
  · next i j =>
    obtain ⟨x, y, rfl, hx, hy⟩ := repL2 r
    rw [if_pos rfl] at e
    subst e
    refine ⟨i, j, rep_int hx, rep_int hy, ?_⟩
    rw [← hg]
    exact w H (Same.refl H)
  · subst e
    exact w.elim
/-- may two numbers be multiplied -/
def mulOk (i j : Int) : Bool := decide (i.natAbs.log2 + j.natAbs.log2 < 134000000)
theorem mulOk_ok {i j : Int} (h : mulOk i j = true) : IntMulOk i j := by
  have h3 := of_decide_eq_true h
  have b : ∀ x : Int, Builtin.Int.intBits x ≤ x.natAbs.log2 + 1 := fun x => by
    unfold Builtin.Int.intBits
    split <;> omega
  have h1 := b i
  have h2 := b j
  have e : bitsLine = 134217728 := by decide
  unfold IntMulOk
  intro z
  rw [Bool.and_eq_true] at z
  have z2 := z.2
  unfold Builtin.Int.intTooBig at z2
  have z3 := of_decide_eq_true z2
  rw [e] at z3
  omega
def divOk (j : Int) : Bool := decide (j ≠ 0) && decide (j.natAbs.log2 < 9000)
section
variable {X : Cx} {G : GEnv} {W : WX}
theorem op_mulV : OpR X (binaryOp .Mult) (rI (fun i j => mulOk i j = true) fun i j => .int (i * j)) := opI fun _ _ _ _ _ _ _ hc q => mul_int q (mulOk_ok hc)
theorem op_fdivV : OpR X (binaryOp .FloorDiv) (rI (fun _ j => divOk j = true) fun i j => .int (i.fdiv j)) := opI fun i j _ _ _ _ _ hc q => by
  rw [divOk, Bool.and_eq_true] at hc
  exact floordiv_int (of_decide_eq_true hc.1) q (.inl (PyProof.noPylong_of_log2 (of_decide_eq_true hc.2)))
theorem road_prim {f : Value → Value → Sem Value} {r : R2} {bi : List D → B} (ho : OpR X f r) (h : Prim X.K G (lift2 r) bi) : Road X G W f (finP bi) := ⟨r, ho, fin_prim h⟩
theorem road_seq {f : Value → Value → Sem Value} {r : R2} {q : List D → SQ} (ho : OpR X f r) (h : PrimS X.K G (lift2 r) q) : Road X G W f (finS q) := ⟨r, ho, fin_seq h⟩
end
def bAdd := bI (fun _ _ => true) fun i j => .int (i + j)
def bSub := bI (fun _ _ => true) fun i j => .int (i - j)
def bMul := bI mulOk fun i j => .int (i * j)
def bDiv := bI (fun _ j => divOk j) fun i j => .int (i.fdiv j)
def bMod := bI (fun _ j => decide (j ≠ 0)) fun i j => .int (i.fmod j)
def bPow := bI (fun i j => decide (0 ≤ j) && decide (j ≤ 1000000) && decide (i.natAbs < 2 ^ 64)) fun i j => .int (i ^ j.toNat)
section
variable {X : Cx} {G : GEnv} {W : WX}
theorem road_sub : Road X G W (binaryOp .Sub) (finP bSub) := road_prim op_sub (prim_int0 fun _ _ => rfl)
theorem road_div : Road X G W (binaryOp .FloorDiv) (finP bDiv) := road_prim op_fdivV (prim_int (fun _ _ h => h) fun _ _ => rfl)
theorem road_mod : Road X G W (binaryOp .Mod) (finP bMod) := road_prim op_modN (prim_int (fun _ _ h => of_decide_eq_true h) fun _ _ => rfl)
theorem road_pow : Road X G W (binaryOp .Pow) (finP bPow) := road_prim op_pow (prim_int (fun i j h => by
  rw [Bool.and_eq_true, Bool.and_eq_true] at h
  exact ⟨of_decide_eq_true h.1.1, of_decide_eq_true h.1.2, of_decide_eq_true h.2⟩) fun _ _ => rfl)
end

/-! ### + of texts, lists, tuples -/
def bAddS : List D → B
  | [.str x, .str y] => if x.length + y.length ≤ sizeLine then .sc (.str (x ++ y)) else .bad
  | _ => .bad
def qCat : List D → SQ
  | [.lst xs, .lst ys] => if xs.length + ys.length ≤ sizeLine then .lst (xs ++ ys) else .bad
  | _ => .bad
def qCatT : List D → SQ
  | [.tup xs, .tup ys] => if xs.length + ys.length ≤ sizeLine then .tup (xs ++ ys) else .bad
  | _ => .bad
def isI2 : List D → Bool
  | [.int _, _] => true
  | _ => false
def isS2 : List D → Bool
  | [.str _, _] => true
  | _ => false
def isL2 : List D → Bool
  | [.lst _, _] => true
  | _ => false
def finAdd : Fin1 := finIf isI2 (finP bAdd) (finIf isS2 (finP bAddS) (finIf isL2 (finS qCat) (finS qCatT)))
theorem KidL.two {K : PySem.W.Frag} {G : GEnv} {Φ H : Hp} {a b : D} {vs : List V} (k : KidL K G Φ H [a, b] vs) : ∃ x y, vs = [x, y] ∧ KidR K G Φ H a x ∧ KidR K G Φ H b y ∧ Rep K G H a x ∧ Rep K G H b y := by
  obtain ⟨x, y, rfl⟩ := len2 k.1
  exact ⟨x, y, rfl, (k.2 0 a x rfl rfl).1, (k.2 1 b y rfl rfl).1, (k.2 0 a x rfl rfl).2, (k.2 1 b y rfl rfl).2⟩
theorem KidL.one {K : PySem.W.Frag} {G : GEnv} {Φ H : Hp} {a : D} {vs : List V} (k : KidL K G Φ H [a] vs) : ∃ x, vs = [x] ∧ KidR K G Φ H a x ∧ Rep K G H a x := by
  obtain ⟨x, rfl⟩ := len1 k.1
  exact ⟨x, rfl, (k.2 0 a x rfl rfl).1, (k.2 0 a x rfl rfl).2⟩
theorem rep_tupK {K : PySem.W.Frag} {G : GEnv} {Φ : Hp} {ds : List D} {v : V} (r : Rep K G Φ (.tup ds) v) : ∃ a vs, v = .ref a ∧ SqT K Φ a vs ∧ RepL K G Φ ds vs := by
  cases r with
  | tup h hl hk => exact ⟨_, _, rfl, h, hl, hk⟩
theorem rep_lstK {K : PySem.W.Frag} {G : GEnv} {Φ : Hp} {ds : List D} {v : V} (r : Rep K G Φ (.lst ds) v) : ∃ a vs, v = .ref a ∧ Φ a = some (.lst vs) ∧ RepL K G Φ ds vs := by
  cases r with
  | lst h hl hk => exact ⟨_, _, rfl, h, hl, hk⟩
section
variable {X : Cx} {G : GEnv} {W : WX}
theorem new_same {H : Hp} {p : Addr} {o : HO} (h : H p = none) : Same H (upd H p o) := fun b x e => by
  rw [upd_ne (ne_of_none e h)]
  exact e
theorem road_addS : Road X G W (binaryOp .Add) (finP bAddS) := road_prim op_add_str (by
  intro vs ds H Q b r e w
  unfold bAddS at e
  split at e
  · next x y =>
    obtain ⟨u, v, rfl, hx, hy⟩ := repL2 r
    split at e
    · next hc =>
      subst e
      exact ⟨x, y, rep_str hx, rep_str hy, hc, w H (Same.refl H)⟩
    · subst e; exact w.elim
  · subst e; exact w.elim)
theorem road_cat : Road X G W (binaryOp .Add) (finS qCat) := road_seq op_cat (by
  intro Φ H vs ds Q b sm k e w
  unfold qCat at e
  split at e
  · next xs ys =>
    obtain ⟨u, v, rfl, ⟨a, ws, rfl, h1, r1⟩, ⟨a', ws', rfl, h2, r2⟩, _, _⟩ := k.two
    split at e
    · next hc =>
      subst e
      exact ⟨a, a', ws, ws', rfl, rfl, h1, h2, by rw [← r1.1, ← r2.1]; exact hc, fun p np => w _ p _ (r1.append r2) (new_same np) np upd_same⟩
    · subst e; exact w.elim
  · subst e; exact w.elim)
theorem road_catT : Road X G W (binaryOp .Add) (finS qCatT) := road_seq op_catA (by
  intro Φ H vs ds Q b sm k e w
  unfold qCatT at e
  split at e
  · next xs ys =>
    obtain ⟨u, v, rfl, k1, k2, _, _⟩ := k.two
    obtain ⟨a, ws, rfl, h1, r1⟩ := rep_tupK k1
    obtain ⟨a', ws', rfl, h2, r2⟩ := rep_tupK k2
    split at e
    · next hc =>
      subst e
      refine ⟨a, a', ws, ws', rfl, rfl, same_sqT sm h1, same_sqT sm h2, by rw [← r1.1, ← r2.1]; exact hc, fun hz => ?_, fun _ hz => ?_, fun _ _ p np => w.1 _ p _ (r1.append r2) (new_same np) np upd_same⟩
      · subst hz
        have : xs = [] := by
          have := r1.1
          cases xs with
          | nil => rfl
          | cons x xs => simp at this
        subst this
        exact w.2 _ H k2 (Same.refl H)
      · subst hz
        have : ys = [] := by
          have := r2.1
          cases ys with
          | nil => rfl
          | cons x xs => simp at this
        subst this
        rw [List.append_nil] at w
        exact w.2 _ H k1 (Same.refl H)
    · subst e; exact w.elim
  · subst e; exact w.elim)
theorem road_addI : Road X G W (binaryOp .Add) (finP bAdd) := road_prim op_add (prim_int0 fun _ _ => rfl)
theorem road_add : Road X G W (binaryOp .Add) finAdd := road_addI.or (road_addS.or (road_cat.or road_catT))
end

/-! ### * of numbers, of lists, of texts -/
/-- within 2 ^ 62; told by the logarithm, which the kernel leaves alone at an open number -/
def in62 (i : Int) : Bool := decide (i.natAbs.log2 < 61)
theorem in62_ok {i : Int} (h : in62 i = true) : -(2 ^ 62) ≤ i ∧ i < 2 ^ 62 := by
  have h1 : i.natAbs.log2 < 61 := of_decide_eq_true h
  have h2 : i.natAbs < 2 ^ 61 := by
    by_cases h0 : i.natAbs = 0
    · rw [h0]; decide
    · exact (Nat.log2_lt h0).mp h1
  omega
theorem in62_of {i : Int} (h : i.natAbs < 2 ^ 61) : in62 i = true := by
  refine decide_eq_true ?_
  by_cases h0 : i.natAbs = 0
  · rw [h0]; decide
  · exact (Nat.log2_lt h0).mpr h
def qRep : List D → SQ
  | [.lst xs, .int k] => if xs.length * k.toNat ≤ sizeLine ∧ in62 k = true then .lst (List.replicate k.toNat xs).flatten else .bad
  | _ => .bad
def isII : List D → Bool
  | [.int _, .int _] => true
  | _ => false
def finMul : Fin1 := finIf isII (finP bMul) (finS qRep)
theorem repL_rep {K : PySem.W.Frag} {G : GEnv} {Φ : Hp} {ds : List D} {vs : List V} (r : RepL K G Φ ds vs) : ∀ n : Nat, RepL K G Φ (List.replicate n ds).flatten (List.replicate n vs).flatten
  | 0 => RepL.nil
  | n + 1 => by
    rw [List.replicate_succ, List.replicate_succ, List.flatten_cons, List.flatten_cons]
    exact r.append (repL_rep r n)
section
variable {X : Cx} {G : GEnv} {W : WX}
theorem road_mulI : Road X G W (binaryOp .Mult) (finP bMul) := road_prim op_mulV (prim_int (fun _ _ h => h) fun _ _ => rfl)
theorem road_rep : Road X G W (binaryOp .Mult) (finS qRep) := road_seq op_rep (by
  intro Φ H vs ds Q b sm k e w
  unfold qRep at e
  split at e
  · next xs n =>
    obtain ⟨u, v, rfl, ⟨a, ws, rfl, h1, r1⟩, k2, _, _⟩ := k.two
    have hv : v = .int n := rep_int k2
    split at e
    · next hc =>
      subst e
      have h62 := in62_ok hc.2
      exact ⟨a, n, ws, rfl, hv, h1, by omega, by omega, by rw [← r1.1]; exact hc.1, fun p np => w _ p _ (repL_rep r1 _) (new_same np) np upd_same⟩
    · subst e; exact w.elim
  · subst e; exact w.elim)
theorem road_mul : Road X G W (binaryOp .Mult) finMul := road_mulI.or road_rep
end

/-! ### comparisons of numbers; is -/
def bLt := bI (fun _ _ => true) fun i j => .bl (decide (i < j))
def bLe := bI (fun _ _ => true) fun i j => .bl (decide (i ≤ j))
def bGt := bI (fun _ _ => true) fun i j => .bl (decide (j < i))
def bGe := bI (fun _ _ => true) fun i j => .bl (decide (j ≤ i))
section
variable {X : Cx} {G : GEnv} {W : WX}
theorem road_lt : Road X G W (compareOp .Lt) (finP bLt) := road_prim op_lt (prim_int0 fun _ _ => rfl)
theorem road_le : Road X G W (compareOp .LtE) (finP bLe) := road_prim op_le (prim_int0 fun _ _ => rfl)
theorem road_gt : Road X G W (compareOp .Gt) (finP bGt) := road_prim op_gt (prim_int0 fun _ _ => rfl)
theorem road_ge : Road X G W (compareOp .GtE) (finP bGe) := road_prim op_ge (prim_int0 fun _ _ => rfl)
end
def isNonD : D → Bool
  | .non => true
  | _ => false
/-- is, beside None or of truths -/
def bIs (neg : Bool) : List D → B
  | [.bl a, .bl b] => .sc (.bl (decide (a = b) ^^ neg))
  | [d, .non] => .sc (.bl (isNonD d ^^ neg))
  | _ => .bad
theorem isNon_rep {K : PySem.W.Frag} {G : GEnv} {Φ : Hp} {d : D} {v : V} (r : Rep K G Φ d v) : decide (v = .non) = isNonD d := by
  cases r <;> simp [isNonD]
section
variable {X : Cx} {G : GEnv} {W : WX}
theorem prim_is {K : PySem.W.Frag} {neg : Bool} : Prim K G (lift2 fun x y H Q => (∃ a b, x = .bl a ∧ y = .bl b ∧ Q (.bl (decide (a = b) ^^ neg)) H) ∨ (y = .non ∧ Q (.bl (decide (x = .non) ^^ neg)) H)) (bIs neg) := by
  intro vs ds H Q b r e w
  unfold bIs at e
  split at e
  · next x y =>
    subst e
    obtain ⟨u, v, rfl, hx, hy⟩ := repL2 r
    exact .inl ⟨x, y, rep_bl hx, rep_bl hy, w H (Same.refl H)⟩
  · next d _ =>
    subst e
    obtain ⟨u, v, rfl, hx, hy⟩ := repL2 r
    refine .inr ⟨rep_non hy, ?_⟩
    rw [isNon_rep hx]
    exact w H (Same.refl H)
  · subst e; exact w.elim
theorem road_is : Road X G W (compareOp .Is) (finP (bIs false)) := by
  refine road_prim (r := fun x y H Q => (∃ a b, x = .bl a ∧ y = .bl b ∧ Q (.bl (decide (a = b) ^^ false)) H) ∨ (y = .non ∧ Q (.bl (decide (x = .non) ^^ false)) H)) ?_ prim_is
  intro pins s σ H x y v u Q I rx ry h
  simp only [Bool.xor_false] at h
  rcases h with h | h
  · exact op_isBl pins s σ H x y v u Q I rx ry h
  · exact op_isN pins s σ H x y v u Q I rx ry h
theorem road_isnot : Road X G W (compareOp .IsNot) (finP (bIs true)) := by
  refine road_prim (r := fun x y H Q => (∃ a b, x = .bl a ∧ y = .bl b ∧ Q (.bl (decide (a = b) ^^ true)) H) ∨ (y = .non ∧ Q (.bl (decide (x = .non) ^^ true)) H)) ?_ prim_is
  intro pins s σ H x y v u Q I rx ry h
  simp only [Bool.xor_true] at h
  rcases h with h | h
  · exact op_notBl pins s σ H x y v u Q I rx ry h
  · exact op_notN pins s σ H x y v u Q I rx ry h
end

/-! ### subscripts -/
def notSlice : Expr → Bool
  | .Slice .. => false
  | _ => true
theorem plainIx {b : Expr} (h : notSlice b = true) : PlainIx b := by
  intro o i
  cases b <;> first | rfl | exact absurd h (by simp [notSlice])
def qIx : List D → SQ
  | [.lst ds, .int i] => match atI ds i with
    | some d => .val d
    | none => .bad
  | [.tup ds, .int i] => match atI ds i with
    | some d => .val d
    | none => .bad
  | [.ro ds, .int i] => match atI ds i with
    | some d => .val d
    | none => .bad
  | [.str z, .int i] => match atI z.cps.toList i with
    | some c => if z.length ≤ sizeLine then .val (.str ⟨#[c]⟩) else .bad
    | none => .bad
  | _ => .bad
theorem repL_atI {K : PySem.W.Frag} {G : GEnv} {Φ : Hp} {ds : List D} {vs : List V} (r : RepL K G Φ ds vs) {i : Int} {d : D} (h : atI ds i = some d) : ∃ v, atI vs i = some v ∧ Rep K G Φ d v := by
  unfold atI at h ⊢
  rw [← r.1]
  cases q : ixN ds.length i with
  | none => rw [q] at h; cases h
  | some j =>
    rw [q] at h
    exact r.get h
section
variable {X : Cx} {G : GEnv} {W : WX} {a b : Expr} {fa fb : Sl → Out Op} {pos : Pos}
theorem fin_ix {K : PySem.W.Frag} : FinOk K G W (lift2 (rIx K)) (finS qIx) := fin_seq (by
  intro Φ H vs ds Q b sm k e w
  unfold qIx at e
  split at e
  · next xs i =>
    obtain ⟨u, v, rfl, ⟨a, ws, rfl, h1, r1⟩, k2, _, _⟩ := k.two
    have hv : v = .int i := rep_int k2
    split at e
    · next d hd =>
      subst e
      obtain ⟨z, hz, rz⟩ := repL_atI r1 hd
      exact .inl ⟨a, ws, i, z, rfl, hv, SqL.of h1, hz, w z H rz (Same.refl H)⟩
    · subst e; exact w.elim
  · next xs i =>
    obtain ⟨u, v, rfl, k1, k2, _, _⟩ := k.two
    obtain ⟨a, ws, rfl, h1, r1⟩ := rep_tupK k1
    have hv : v = .int i := rep_int k2
    split at e
    · next d hd =>
      subst e
      obtain ⟨z, hz, rz⟩ := repL_atI r1 hd
      exact .inr (.inl ⟨a, ws, i, z, rfl, hv, same_sqT sm h1, hz, w z H rz (Same.refl H)⟩)
    · subst e; exact w.elim
  · next xs i =>
    obtain ⟨u, v, rfl, k1, k2, _, _⟩ := k.two
    have hv : v = .int i := rep_int k2
    have k1' : Rep K G Φ (.ro xs) u := k1
    split at e
    · next d hd =>
      subst e
      cases k1' with
      | ro h1 hl hk =>
        obtain ⟨z, hz, rz⟩ := repL_atI ⟨hl, hk⟩ hd
        exact .inl ⟨_, _, i, z, rfl, hv, sm.seq h1, hz, w z H rz (Same.refl H)⟩
    · subst e; exact w.elim
  · next z i =>
    obtain ⟨u, v, rfl, k1, k2, _, _⟩ := k.two
    have hv : v = .int i := rep_int k2
    have hu : u = .str z := rep_str k1
    split at e
    · next c hc =>
      split at e
      · next hz =>
        subst e
        exact .inr (.inr ⟨z, i, c, hu, hv, hz, hc, w _ H (.str _) (Same.refl H)⟩)
      · subst e; exact w.elim
    · subst e; exact w.elim
  · subst e; exact w.elim)
theorem vo_ix (ha : VO X G W a fa) (hb : VO X G W b fb) (hs : notSlice b = true) : VO X G W (.Subscript a b pos) (evF [fa, fb] (finS qIx)) :=
  vo_fin (r := lift2 (rIx X.K)) (pe_ix ix_seq ha hb (plainIx hs)) fin_ix
end

/-! ### slices -/
def evInt (f : Sl → Out Op) : Sl → Out Op := fun s => match f s with
  | .ok (.vl (.leaf (.int i))) s1 => .ok (.vl (.leaf (.int i))) s1
  | .er x s1 => .er x s1
  | _ => .bad
section
variable {K : PySem.W.Frag} {G : GEnv} {W : WX} {f : Sl → Out Op}
theorem tO_mono {σ : L2.St} {H : Hp} {Q Q' : VK} (h : tO K G W f σ H Q) (i : ∀ v H, Q v H → Q' v H) : tO K G W f σ H Q' := by
  obtain ⟨Φ, s, F, st, p⟩ := h
  refine ⟨Φ, s, F, st, ?_⟩
  cases q : f s with
  | bad => rw [q] at p; exact p
  | er x s1 => rw [q] at p; exact p
  | ok o s1 =>
    rw [q] at p
    cases o with
    | vl t => exact fun v H' Φ' F' E st' ow tm fr => i _ _ (p v H' Φ' F' E st' ow tm fr)
    | rt j => exact fun v H' Φ' F' st' hv fr => i _ _ (p v H' Φ' F' st' hv fr)
def tIntO (K : PySem.W.Frag) (G : GEnv) (W : WX) (f : Sl → Out Op) : TO := fun σ H Q => tO K G W (evInt f) σ H fun v H1 => ∀ i, v = .int i → Q (some i) H1
theorem po_int {X : Cx} {e : Expr} (h : VO X G W e f) : PO X (some e) (tIntO X.K G W f) := by
  refine ⟨fun pins s σ H Q I hq => (po_some h).run pins s σ H Q I ?_⟩
  obtain ⟨Φ, s, F, st, p⟩ := hq
  refine ⟨Φ, s, F, st, ?_⟩
  unfold evInt at p
  cases q : f s with
  | bad => rw [q] at p; exact p
  | er x s1 => rw [q] at p; exact p
  | ok o s1 =>
    rw [q] at p
    cases o with
    | rt j => exact p.elim
    | vl t =>
      cases t with
      | node ts => exact p.elim
      | ins c ts => exact p.elim
      | leaf d =>
        cases d with
        | int i =>
          intro v H' Φ' F' E st' ow tm fr
          have hv : v = .int i := by
            cases ow with
            | leaf r => exact rep_int r
          exact ⟨i, hv, p v H' Φ' F' E st' ow tm fr i hv⟩
        | non => exact p.elim
        | bl _ => exact p.elim
        | str _ => exact p.elim
        | tup _ => exact p.elim
        | lst _ => exact p.elim
        | obj _ _ => exact p.elim
        | ro _ => exact p.elim
end
def cutD (xs : List D) (lo hi : Option Int) : List D := (xs.drop (HT.sIx xs.length 0 lo)).take (HT.sIx xs.length xs.length hi - HT.sIx xs.length 0 lo)
def qCutD (d : D) (lo hi : Option Int) : SQ := match d with
  | .lst ds => .lst (cutD ds lo hi)
  | .tup ds => .tup (cutD ds lo hi)
  | .str z => if z.length ≤ sizeLine then .val (.str (cutS z lo hi)) else .bad
  | _ => .bad
def qCut (wl wh : Bool) : List D → SQ
  | [d, .int i, .int j] => if wl && wh then qCutD d (some i) (some j) else .bad
  | [d, .int i] => if wl && !wh then qCutD d (some i) none else if !wl && wh then qCutD d none (some i) else .bad
  | [d] => if !wl && !wh then qCutD d none none else .bad
  | _ => .bad
def rSl (K : PySem.W.Frag) : V → Option Int → Option Int → Hp → VK → Prop := fun x lo hi H Q => rSlL K x lo hi H Q ∨ rSlA K x lo hi H Q ∨ rSlS x lo hi H Q
theorem sl_all {X : Cx} : SlR X (rSl X.K) := sl_list.or (sl_tupA.or sl_str)
theorem repL_cut {K : PySem.W.Frag} {G : GEnv} {Φ : Hp} {ds : List D} {vs : List V} (r : RepL K G Φ ds vs) (lo hi : Option Int) : RepL K G Φ (cutD ds lo hi) (cutV vs lo hi) := by
  unfold cutD cutV
  rw [← r.1]
  exact (r.drop _).take _
theorem cut_ok {K : PySem.W.Frag} {G : GEnv} {Φ H : Hp} {d : D} {v : V} {lo hi : Option Int} {Q : VK} {b : SQ} (sm : Same Φ H) (k : KidR K G Φ H d v) (e : qCutD d lo hi = b) (w : wantS K G Φ b H Q) : rSl K v lo hi H Q := by
  unfold qCutD at e
  split at e
  · next ds =>
    subst e
    obtain ⟨a, ws, rfl, h1, r1⟩ := k
    exact .inl ⟨a, ws, rfl, SqL.of h1, fun p np => w _ p _ (repL_cut r1 lo hi) (new_same np) np upd_same⟩
  · next ds =>
    subst e
    obtain ⟨a, ws, rfl, h1, r1⟩ := rep_tupK k
    refine .inr (.inl ⟨a, ws, rfl, same_sqT sm h1, fun hw => ?_, fun _ p np => w.1 _ p _ (repL_cut r1 lo hi) (new_same np) np upd_same⟩)
    have : cutD ds lo hi = ds := by
      unfold cutD
      rw [r1.1, hw.1, hw.2, List.drop_zero, Nat.sub_zero, ← r1.1]
      exact List.take_length
    rw [this] at w
    exact w.2 _ H k (Same.refl H)
  · next z =>
    split at e
    · next hz =>
      subst e
      exact .inr (.inr ⟨z, rep_str k, hz, w _ H (.str _) (Same.refl H)⟩)
    · subst e; exact w.elim
  · subst e; exact w.elim
theorem KidL.cons {K : PySem.W.Frag} {G : GEnv} {Φ H : Hp} {a : D} {ds : List D} {vs : List V} (k : KidL K G Φ H (a :: ds) vs) : ∃ x vr, vs = x :: vr ∧ KidR K G Φ H a x ∧ KidL K G Φ H ds vr := by
  cases vs with
  | nil => have := k.1; simp at this
  | cons x vr => exact ⟨x, vr, rfl, (k.2 0 a x rfl rfl).1, by have := k.1; simpa using this, fun j d v h1 h2 => k.2 (j + 1) d v (by simpa using h1) (by simpa using h2)⟩
section
variable {X : Cx} {G : GEnv} {W : WX} {a l u : Expr} {fa fl fu : Sl → Out Op} {pos p2 : Pos}
theorem vo_cut2 (ha : VO X G W a fa) (hl : VO X G W l fl) (hu : VO X G W u fu) : VO X G W (.Subscript a (.Slice (some l) (some u) none p2) pos) (evF [fa, evInt fl, evInt fu] (finS (qCut true true))) := by
  refine vo_fin (r := fun vs H Q => match vs with | [x, y, z] => ∀ i j, y = .int i → z = .int j → rSl X.K x (some i) (some j) H Q | _ => False) (pe_imp (pe_slice sl_all ha (po_int hl) (po_int hu)) fun σ H Q h => ?_) (fin_seq ?_)
  · refine tO_mono h fun x H1 h => tO_mono h fun y H2 h => ?_
    exact fun i hi => tO_mono h fun z H3 h j hj => h i j hi hj
  · intro Φ H vs ds Q b sm k e w
    unfold qCut at e
    split at e
    · next d i j =>
      obtain ⟨x, vr, rfl, k1, k⟩ := k.cons
      obtain ⟨y, vr, rfl, k2, k⟩ := k.cons
      obtain ⟨z, vr, rfl, k3, k⟩ := k.cons
      have : vr = [] := by
        have := k.1
        cases vr with
        | nil => rfl
        | cons _ _ => simp at this
      subst this
      intro i' j' hy hz
      have e1 : y = .int i := rep_int k2
      have e2 : z = .int j := rep_int k3
      rw [hy] at e1
      rw [hz] at e2
      cases e1
      cases e2
      exact cut_ok sm k1 e w
    · exact (by simp at e; subst e; exact w.elim)
    · exact (by simp at e; subst e; exact w.elim)
    · subst e; exact w.elim
theorem vo_cutL (ha : VO X G W a fa) (hl : VO X G W l fl) : VO X G W (.Subscript a (.Slice (some l) none none p2) pos) (evF [fa, evInt fl] (finS (qCut true false))) := by
  refine vo_fin (r := fun vs H Q => match vs with | [x, y] => ∀ i, y = .int i → rSl X.K x (some i) none H Q | _ => False) (pe_imp (pe_slice sl_all ha (po_int hl) po_none) fun σ H Q h => ?_) (fin_seq ?_)
  · exact tO_mono h fun x H1 h => tO_mono h fun y H2 h i hi => h i hi
  · intro Φ H vs ds Q b sm k e w
    unfold qCut at e
    split at e
    · exact (by simp at e; subst e; exact w.elim)
    · next d i =>
      obtain ⟨x, vr, rfl, k1, k⟩ := k.cons
      obtain ⟨y, rfl, k2, _⟩ := k.one
      intro i' hy
      have e1 : y = .int i := rep_int k2
      rw [hy] at e1
      cases e1
      exact cut_ok sm k1 (by simpa using e) w
    · exact (by simp at e; subst e; exact w.elim)
    · subst e; exact w.elim
theorem vo_cutU (ha : VO X G W a fa) (hu : VO X G W u fu) : VO X G W (.Subscript a (.Slice none (some u) none p2) pos) (evF [fa, evInt fu] (finS (qCut false true))) := by
  refine vo_fin (r := fun vs H Q => match vs with | [x, y] => ∀ i, y = .int i → rSl X.K x none (some i) H Q | _ => False) (pe_imp (pe_slice sl_all ha po_none (po_int hu)) fun σ H Q h => ?_) (fin_seq ?_)
  · exact tO_mono h fun x H1 h => tO_mono h fun y H2 h i hi => h i hi
  · intro Φ H vs ds Q b sm k e w
    unfold qCut at e
    split at e
    · exact (by simp at e; subst e; exact w.elim)
    · next d i =>
      obtain ⟨x, vr, rfl, k1, k⟩ := k.cons
      obtain ⟨y, rfl, k2, _⟩ := k.one
      intro i' hy
      have e1 : y = .int i := rep_int k2
      rw [hy] at e1
      cases e1
      exact cut_ok sm k1 (by simpa using e) w
    · exact (by simp at e; subst e; exact w.elim)
    · subst e; exact w.elim
end
def qRev : List D → SQ
  | [.lst ds] => .lst ds.reverse
  | _ => .bad
section
variable {X : Cx} {G : GEnv} {W : WX} {a : Expr} {fa : Sl → Out Op} {k : Nat} {p1 p2 p3 pos : Pos}
theorem vo_rev (ha : VO X G W a fa) : VO X G W (.Subscript a (.Slice none none (some (.UnaryOp .USub (.Constant (.int 1) k p1) p2)) p3) pos) (evF [fa] (finS qRev)) := by
  refine vo_fin (r := lift1 fun x H Q => ∃ a xs, x = .ref a ∧ SqL X.K H a xs ∧ ∀ p, H p = none → Q (.ref p) (upd H p (.lst xs.reverse))) (pe_revL ha) (fin_seq ?_)
  intro Φ H vs ds Q b sm k e w
  unfold qRev at e
  split at e
  · next ds =>
    subst e
    obtain ⟨x, rfl, ⟨a, ws, rfl, h1, r1⟩, _⟩ := k.one
    exact ⟨a, ws, rfl, SqL.of h1, fun p np => w _ p _ r1.reverse (new_same np) np upd_same⟩
  · subst e; exact w.elim
end
end VS
/-! VSe: values settled (frozen or moved), displays, built-in functions, tests. -/
namespace VS
open PySem PySem.Spec PyProof.Rows L2

/-! ### operands settled: a slot's tree that is told on is frozen -/
def frzSV : SV → SV
  | .tr t => .tr (.leaf (frz t))
  | .lk t => .lk (.leaf (frz t))
  | .un => .un
def settle1 (s : Sl) : Op → Option (T × Sl)
  | .vl t => some (t, s)
  | .rt i => match treeAt s i, s[i]? with
    | some t, some x => some (.leaf (frz t), s.set i (frzSV x))
    | _, _ => none
def settle (s : Sl) : List Op → Option (List T × Sl)
  | [] => some ([], s)
  | o :: os => match settle1 s o with
    | some (t, s1) => match settle s1 os with
      | some (ts, s2) => some (t :: ts, s2)
      | none => none
    | none => none
section
variable {K : PySem.W.Frag} {G : GEnv} {W : WX} {Φ H : Hp} {σ : L2.St} {s s1 : Sl} {F : Nat → Addr → Prop}
/-- trees in a row, each with what it owns -/
structure TrsR (K : PySem.W.Frag) (G : GEnv) (Φ H : Hp) (F : Nat → Addr → Prop) (ts : List T) (vs : List V) (Es : Nat → Addr → Prop) : Prop where
  len : ts.length = vs.length
  own : ∀ (k : Nat) (t : T) (v : V), ts[k]? = some t → vs[k]? = some v → Own K G Φ H t v (Es k)
  dis : ∀ j k b, j ≠ k → Es j b → ¬ Es k b
  tmp : ∀ k, TmpR Φ H F (Es k)
theorem TrsR.cons {ts : List T} {vs : List V} {Es : Nat → Addr → Prop} (r : TrsR K G Φ H F ts vs Es) {t : T} {v : V} {E : Addr → Prop} (hv : Own K G Φ H t v E) (ht : TmpR Φ H F E) (hd : ∀ k b, E b → ¬ Es k b) : TrsR K G Φ H F (t :: ts) (v :: vs) (consF E Es) := by
  refine ⟨by rw [List.length_cons, List.length_cons, r.len], fun k t w h1 h2 => ?_, fun j k b hjk h1 h2 => ?_, fun k => ?_⟩
  · cases k with
    | zero =>
      simp at h1 h2
      subst h1
      subst h2
      exact hv
    | succ k => exact r.own k t w (by simpa using h1) (by simpa using h2)
  · cases j with
    | zero =>
      cases k with
      | zero => exact hjk rfl
      | succ k => exact hd k b h1 h2
    | succ j =>
      cases k with
      | zero => exact hd j b h2 h1
      | succ k => exact r.dis j k b (fun e => hjk (by rw [e])) h1 h2
  · cases k with
    | zero => exact ht
    | succ k => exact r.tmp k
theorem TrsR.tail {t : T} {ts : List T} {v : V} {vs : List V} {Es : Nat → Addr → Prop} (r : TrsR K G Φ H F (t :: ts) (v :: vs) Es) : TrsR K G Φ H F ts vs (fun k => Es (k + 1)) :=
  ⟨by simpa using r.len, fun k t w h1 h2 => r.own (k + 1) t w (by simpa using h1) (by simpa using h2), fun j k b hjk => r.dis (j + 1) (k + 1) b (fun e => hjk (Nat.succ.inj e)), fun k => r.tmp (k + 1)⟩
theorem settle1_ok {o : Op} {v : V} {E : Addr → Prop} {t : T} (st : StR K G Φ H σ s F) (tm : TmpR Φ H F E) (hv : ∀ t, o = .vl t → Own K G Φ H t v E) (hr : ∀ i, o = .rt i → σ[i]? = some (some v)) (h : settle1 s o = some (t, s1)) :
    ∃ Φ' F' E', StR K G Φ' H σ s1 F' ∧ Own K G Φ' H t v E' ∧ TmpR Φ' H F' E' ∧ Frm Φ H (fun b => E b ∨ Ft F b) Φ' H (fun b => E' b ∨ Ft F' b) ∧ (∀ b, E' b → E b) ∧ (∀ i b, F' i b → F i b) ∧ (∀ b o, Φ' b = some o → Φ b = some o ∨ Ft F b) := by
  cases o with
  | vl u =>
    cases h
    exact ⟨Φ, F, E, st, hv t rfl, tm, Frm.refl, fun b h => h, fun i b h => h, fun b o h => .inl h⟩
  | rt i =>
    unfold settle1 at h
    dsimp only at h
    cases q : treeAt s i with
    | none => rw [q] at h; cases h
    | some u =>
      rw [q] at h
      have hg : s[i]? = some (.tr u) ∨ s[i]? = some (.lk u) := treeAt_get q
      have key : ∀ x, s[i]? = some x → (frzSV x = .tr (.leaf (frz u)) ∨ frzSV x = .lk (.leaf (frz u))) := fun x hx => by
        rcases hg with z | z
        · rw [hx] at z; cases z; exact .inl rfl
        · rw [hx] at z; cases z; exact .inr rfl
      cases q2 : s[i]? with
      | none => rw [q2] at h; cases h
      | some x =>
        rw [q2] at h
        cases h
        obtain ⟨Φ', st', fr, rp, fz⟩ := st.freeze q (frzSV x) (key x q2)
        refine ⟨Φ', updF F i no, no, st', .leaf (rp v (hr i rfl)), TmpR.no, ⟨fr.phi, fun b o h hb => h, fun b h => ?_, fun b o h => ?_⟩, fun b h => h.elim, fun j b h => ?_, fun b o h => (fz b o h).imp id fun z => ⟨i, z⟩⟩
        · rcases h with h | h
          · exact h.elim
          · exact (fr.foot b h).imp .inr id
        · exact (fr.froz b o h).imp id (Or.imp .inr id)
        · by_cases ha : j = i
          · subst ha
            rw [updF_same] at h
            exact h.elim
          · rw [updF_ne ha] at h
            exact h
theorem settle_ok : ∀ {ops : List Op} {s s' : Sl} {Φ : Hp} {F : Nat → Addr → Prop} {vs : List V} {Es : Nat → Addr → Prop} {ts : List T}, StR K G Φ H σ s F → OpsR K G Φ H σ F ops vs Es → settle s ops = some (ts, s') →
    ∃ Φ' F' Es', StR K G Φ' H σ s' F' ∧ TrsR K G Φ' H F' ts vs Es' ∧ Frm Φ H (OpF Es F) Φ' H (OpF Es' F') ∧ (∀ k b, Es' k b → Es k b) ∧ (∀ i b, F' i b → F i b) ∧ (∀ b o, Φ' b = some o → Φ b = some o ∨ Ft F b)
  | [], s, s', Φ, F, vs, Es, ts, st, or, h => by
    cases h
    have : vs = [] := by
      have := or.len
      cases vs with
      | nil => rfl
      | cons _ _ => simp at this
    subst this
    exact ⟨Φ, F, fun _ => no, st, ⟨rfl, fun k t v h => by simp at h, fun _ _ _ _ h => h.elim, fun _ => TmpR.no⟩, Frm.refl.less fun b h => h.elim (fun ⟨_, z⟩ => z.elim) .inr, fun _ _ h => h.elim, fun _ _ h => h, fun _ _ h => .inl h⟩
  | o :: ops, s, s', Φ, F, [], Es, ts, st, or, h => by
    have := or.len
    simp at this
  | o :: ops, s, s', Φ, F, v :: vs, Es, ts, st, or, h => by
    unfold settle at h
    cases q : settle1 s o with
    | none => rw [q] at h; cases h
    | some p =>
      obtain ⟨t, s1⟩ := p
      rw [q] at h
      dsimp only at h
      cases q2 : settle s1 ops with
      | none => rw [q2] at h; cases h
      | some p2 =>
        obtain ⟨tr, s2⟩ := p2
        rw [q2] at h
        cases h
        obtain ⟨Φ1, F1, E1, st1, ow1, tm1, fr1, e1, f1, z1⟩ := settle1_ok st (or.tmp 0) (fun t e => or.vl 0 t v (by rw [e]; rfl) rfl) (fun i e => or.rt 0 i v (by rw [e]; rfl) rfl) q
        have or1 : OpsR K G Φ1 H σ F1 ops vs (fun k => Es (k + 1)) := by
          have t := or.tail
          refine ⟨t.len, fun k u w h1 h2 => (t.vl k u w h1 h2).mono fr1.phi (fun _ _ _ h => h) fun _ h => h, t.rt, t.dis, fun k => ⟨fun b h => ?_, (t.tmp k).live, fun i b h z => (t.tmp k).apart i b h (f1 i b z)⟩⟩
          cases q : Φ1 b with
          | none => rfl
          | some x =>
            rcases z1 b x q with z | ⟨i, z⟩
            · rw [(t.tmp k).unf b h] at z; cases z
            · exact ((t.tmp k).apart i b h z).elim
        obtain ⟨Φ2, F2, Es2, st2, tr2, fr2, e2, f2, z2⟩ := settle_ok st1 or1 q2
        have dj : ∀ k b, E1 b → ¬ Es2 k b := fun k b h1 h2 => or.dis 0 (k + 1) b (by omega) (e1 b h1) (e2 k b h2)
        have tm2 : TmpR Φ2 H F2 E1 := ⟨fun b h => by
          cases q : Φ2 b with
          | none => rfl
          | some x =>
            rcases z2 b x q with z | ⟨i, z⟩
            · rw [tm1.unf b h] at z; cases z
            · exact (tm1.apart i b h z).elim, tm1.live, fun i b h z => tm1.apart i b h (f2 i b z)⟩
        refine ⟨Φ2, F2, consF E1 Es2, st2, tr2.cons (ow1.mono fr2.phi (fun _ _ _ h => h) fun _ h => h) tm2 dj, ⟨fr1.phi.trans fr2.phi, fun b o h _ => h, fun b h => ?_, fun b o h => ?_⟩, fun k b h => ?_, fun i b h => f1 i b (f2 i b h), fun b o h => ?_⟩
        · rcases h with ⟨k, h⟩ | ⟨i, h⟩
          · cases k with
            | zero => exact .inl (.inl ⟨0, e1 b h⟩)
            | succ k => exact .inl (.inl ⟨k + 1, e2 k b h⟩)
          · exact .inl (.inr ⟨i, f1 i b (f2 i b h)⟩)
        · rcases z2 b o h with z | ⟨i, z⟩
          · rcases z1 b o z with z | z
            · exact .inl z
            · exact .inr (.inl (.inr z))
          · exact .inr (.inl (.inr ⟨i, f1 i b z⟩))
        · cases k with
          | zero => exact e1 b h
          | succ k => exact e2 k b h
        · rcases z2 b o h with z | ⟨i, z⟩
          · exact z1 b o z
          · exact .inr ⟨i, f1 i b z⟩
/-- all the trees frozen -/
theorem TrsR.frz {ts : List T} {vs : List V} {Es : Nat → Addr → Prop} (st : StR K G Φ H σ s F) (r : TrsR K G Φ H F ts vs Es) :
    ∃ Φ', StR K G Φ' H σ s F ∧ RepL K G Φ' (ts.map VS.frz) vs ∧ Frm Φ H (OpF Es F) Φ' H (Ft F) := by
  have nF : ∀ i b, F i b → ¬ ∃ k, Es k b := fun i b h ⟨k, z⟩ => (r.tmp k).apart i b z h
  refine ⟨frzH Φ H fun b => ∃ k, Es k b, ⟨frzH_sub st.same, fun i t h => ?_, st.dis, fun i b h => ?_, st.live, st.len⟩, ⟨by rw [List.length_map]; exact r.len, fun k d v h1 h2 => ?_⟩, ⟨frzH_same, fun b o h _ => h, fun b h => .inl (.inr h), fun b o h => ?_⟩⟩
  · obtain ⟨v, h1, h2⟩ := st.slot i t h
    exact ⟨v, h1, h2.mono frzH_same (fun _ _ _ h => h) fun _ h => h⟩
  · cases q : frzH Φ H (fun b => ∃ k, Es k b) b with
    | none => rfl
    | some o =>
      rcases frzH_or b o q with z | z
      · rw [st.unf i b h] at z; cases z
      · exact (nF i b h z).elim
  · rw [List.getElem?_map] at h1
    obtain ⟨t, ht, rfl⟩ := Option.map_eq_some_iff.mp h1
    exact (r.own k t v ht h2).frz frzH_same fun b x hb q => frzH_at st.same b x ⟨k, hb⟩ q
  · rcases frzH_or b o h with z | z
    · exact .inl z
    · exact .inr (.inl (.inl z))
end

/-! ### displays -/
def finList : Fin1 := fun ops s => match settle s ops with
  | some (ts, s1) => if ts.length ≤ sizeLine then .ok (.vl (.node ts)) s1 else .bad
  | none => .bad
def finTup : Fin1 := fun ops s => match settle s ops with
  | some (ts, s1) => if ts.length ≤ sizeLine then .ok (.vl (.leaf (.tup (ts.map frz)))) s1 else .bad
  | none => .bad
section
variable {X : Cx} {K : PySem.W.Frag} {G : GEnv} {W : WX} {es : List Expr} {fs : List (Sl → Out Op)} {pos : Pos}
theorem fin_list : FinOk K G W (fun vs H Q => vs.length ≤ sizeLine ∧ ∀ p, H p = none → Q (.ref p) (upd H p (.lst vs))) finList := by
  intro Φ H σ s F ops vs Es Q st or p
  unfold finList at p
  cases q : settle s ops with
  | none => rw [q] at p; exact p.elim
  | some z =>
    obtain ⟨ts, s1⟩ := z
    rw [q] at p
    dsimp only at p
    split at p
    · next hz =>
      obtain ⟨Φ', F', Es', st', tr, fr, _, _, _⟩ := settle_ok st or q
      refine ⟨by rw [← tr.len]; exact hz, fun a na => ?_⟩
      have ngA : ∀ b, (∃ k, Es' k b) → b ≠ a := fun b ⟨k, h⟩ e => by
        obtain ⟨o, ho⟩ := (tr.tmp k).live b h
        rw [e, na] at ho
        cases ho
      have sm : Same H (upd H a (.lst vs)) := new_same na
      refine p (.ref a) (upd H a (.lst vs)) Φ' F' (fun b => b = a ∨ ∃ k, Es' k b) (st'.grow sm) (.node Es' (.inl rfl) upd_same tr.len (fun k t v h1 h2 => (tr.own k t v h1 h2).mono (Same.refl _) (fun b x _ h => sm b x h) fun _ h => h) (fun k b h => ⟨.inr ⟨k, h⟩, ngA b ⟨k, h⟩⟩) tr.dis)
        ⟨fun b h => ?_, fun b h => ?_, fun i b h z => ?_⟩ (fr.trans ⟨Same.refl _, fun b o h _ => sm b o h, fun b h => ?_, fun b o h => .inl h⟩)
      · rcases h with h | ⟨k, h⟩
        · rw [h]; exact st'.same.free na
        · exact (tr.tmp k).unf b h
      · rcases h with h | ⟨k, h⟩
        · exact ⟨_, by rw [h]; exact upd_same⟩
        · obtain ⟨o, ho⟩ := (tr.tmp k).live b h
          exact ⟨o, sm b o ho⟩
      · rcases h with h | ⟨k, h⟩
        · obtain ⟨o, ho⟩ := st'.live i b z
          rw [h, na] at ho
          cases ho
        · exact (tr.tmp k).apart i b h z
      · rcases h with (h | h) | h
        · exact .inr (by rw [h]; exact na)
        · exact .inl (.inl h)
        · exact .inl (.inr h)
    · exact p.elim
theorem fin_tupD : FinOk K G W (fun vs H Q => vs.length ≤ sizeLine ∧ ∀ p, H p = none → Q (.ref p) (upd H p (.tup vs))) finTup := by
  intro Φ H σ s F ops vs Es Q st or p
  unfold finTup at p
  cases q : settle s ops with
  | none => rw [q] at p; exact p.elim
  | some z =>
    obtain ⟨ts, s1⟩ := z
    rw [q] at p
    dsimp only at p
    split at p
    · next hz =>
      obtain ⟨Φ', F', Es', st', tr, fr, _, _, _⟩ := settle_ok st or q
      obtain ⟨Φ2, st2, rp, fr2⟩ := tr.frz st'
      exact ⟨by rw [← tr.len]; exact hz, fun a na => fin_tup st2 (fun _ h => h) (postO.shift (fr.trans fr2) p) (new_same na) na upd_same rp⟩
    · exact p.elim
theorem vo_list (h : VOs X G W es fs) (hs : es.all notStar = true) : VO X G W (.List es pos) (evF fs finList) := vo_fin (pe_lst (pa_of h hs)) fin_list
theorem vo_tup {k : Nat} (h : VOs X G W es fs) (hs : es.all notStar = true) : VO X G W (.Tuple es k pos) (evF fs finTup) := vo_fin (pe_tup (pa_of h hs)) fin_tupD
end

/-! ### a call of a built-in -/
section
variable {X : Cx} {G : GEnv} {W : WX} {e : Expr} {es : List Expr} {f : Sl → Out Op} {fs : List (Sl → Out Op)} {p pos : Pos} {x : Str} {id T : String} {r : List V → Hp → VK → Prop} {fin : Fin1}
theorem vo_callB (hc : CallR X (.builtin id) r) (hf : FinOk X.K G W r fin) (hg : Gl X x) (hm : X.mg x = none) (hv : bootBuiltins x = some (.builtin id)) (h : VOs X G W (e :: es) fs) (hs : (e :: es).all notStar = true) (hn : x ≠ "__name__") (hdb : (x == ("__debug__" : Str)) = false) :
    VO X G W (.Call (.Name x p) (e :: es) [] pos) (evF fs fin) := by
  have hs' := hs
  rw [List.all_cons, Bool.and_eq_true] at hs'
  exact vo_fin (pe_callB hc hg hm hv (pa_of h hs) hn hdb (star_of hs'.1) (star_any hs'.2)) hf
theorem vo_callT (hc : CallR X (.type T) r) (hf : FinOk X.K G W r fin) (hg : Gl X x) (hm : X.mg x = none) (hv : bootBuiltins x = some (.type T)) (h : VOs X G W (e :: es) fs) (hs : (e :: es).all notStar = true) (hn : x ≠ "__name__") (hdb : (x == ("__debug__" : Str)) = false) :
    VO X G W (.Call (.Name x p) (e :: es) [] pos) (evF fs fin) := by
  have hs' := hs
  rw [List.all_cons, Bool.and_eq_true] at hs'
  exact vo_fin (pe_callTy hc hg hm hv (pa_of h hs) hn hdb (star_of hs'.1) (star_any hs'.2)) hf
end
def bLen : List D → B
  | [.lst ds] => .sc (.int ds.length)
  | [.tup ds] => .sc (.int ds.length)
  | [.ro ds] => .sc (.int ds.length)
  | [.str z] => if z.length ≤ sizeLine then .sc (.int z.length) else .bad
  | _ => .bad
theorem rep_len {K : PySem.W.Frag} {G : GEnv} {H : Hp} {ds : List D} {v : V} (r : Rep K G H (.lst ds) v ∨ Rep K G H (.tup ds) v ∨ Rep K G H (.ro ds) v) : LenV K v H ds.length := by
  rcases r with r | r | r
  · cases r with
    | lst h hl hk => exact .inl ⟨_, SqL.of h, hl⟩
  · cases r with
    | tup h hl hk => exact .inr ⟨_, h, hl⟩
  · cases r with
    | ro h hl hk => exact .inl ⟨_, h, hl⟩
theorem prim_len {K : PySem.W.Frag} {G : GEnv} : Prim K G (fun xs H Q => ∃ x n, xs = [x] ∧ LenV K x H n ∧ Q (.int n) H) bLen := by
  intro vs ds H Q b r e w
  unfold bLen at e
  split at e
  · subst e
    obtain ⟨x, rfl, hx⟩ := repL1 r
    exact ⟨x, _, rfl, rep_len (.inl hx), w H (Same.refl H)⟩
  · subst e
    obtain ⟨x, rfl, hx⟩ := repL1 r
    exact ⟨x, _, rfl, rep_len (.inr (.inl hx)), w H (Same.refl H)⟩
  · subst e
    obtain ⟨x, rfl, hx⟩ := repL1 r
    exact ⟨x, _, rfl, rep_len (.inr (.inr hx)), w H (Same.refl H)⟩
  · next z =>
    split at e
    · next hz =>
      subst e
      obtain ⟨x, rfl, hx⟩ := repL1 r
      obtain rfl := rep_str hx
      exact ⟨_, z.length, rfl, ⟨hz, rfl⟩, w H (Same.refl H)⟩
    · subst e; exact w.elim
  · subst e; exact w.elim
/-- lists of numbers, of truths, of texts -/
def all? {α : Type} (f : D → Option α) : List D → Option (List α)
  | [] => some []
  | d :: ds => match f d, all? f ds with
    | some a, some r => some (a :: r)
    | _, _ => none
def int? : D → Option Int
  | .int i => some i
  | _ => none
def bl? : D → Option Bool
  | .bl i => some i
  | _ => none
def str? : D → Option Str
  | .str i => some i
  | _ => none
abbrev ints? := all? int?
abbrev bls? := all? bl?
abbrev strs? := all? str?
section
variable {K : PySem.W.Frag} {G : GEnv} {Φ : Hp}
theorem all_vals {α : Type} {f : D → Option α} {g : α → V} (hf : ∀ d a v, f d = some a → Rep K G Φ d v → v = g a) : ∀ {ds : List D} {ns : List α} {vs : List V}, all? f ds = some ns → RepL K G Φ ds vs → vs = ns.map g
  | [], ns, vs, h, r => by
    cases h
    exact r.cases_nil
  | d :: ds, ns, vs, h, r => by
    obtain ⟨v, vr, rfl, hv, r⟩ := r.cases_cons
    unfold all? at h
    split at h
    · next a t h1 h2 =>
      cases h
      rw [all_vals hf h2 r, hf d a v h1 hv]
      rfl
    · cases h
theorem ints_vals {ds : List D} {ns : List Int} {vs : List V} (h : ints? ds = some ns) (r : RepL K G Φ ds vs) : vs = ns.map V.int := all_vals (fun d a v h r => by
  unfold int? at h
  split at h
  · cases h; exact rep_int r
  · cases h) h r
theorem bls_vals {ds : List D} {ns : List Bool} {vs : List V} (h : bls? ds = some ns) (r : RepL K G Φ ds vs) : vs = ns.map V.bl := all_vals (fun d a v h r => by
  unfold bl? at h
  split at h
  · cases h; exact rep_bl r
  · cases h) h r
theorem strs_vals {ds : List D} {ns : List Str} {vs : List V} (h : strs? ds = some ns) (r : RepL K G Φ ds vs) : vs = ns.map V.str := all_vals (fun d a v h r => by
  unfold str? at h
  split at h
  · cases h; exact rep_str r
  · cases h) h r
end
def bSum : List D → B
  | [.lst ds] => match ints? ds with
    | some ns => .sc (.int ns.sum)
    | none => .bad
  | _ => .bad
def bAll : List D → B
  | [.lst ds] => match bls? ds with
    | some ns => .sc (.bl (ns.all id))
    | none => .bad
  | _ => .bad
theorem rep_lstV {K : PySem.W.Frag} {G : GEnv} {Φ : Hp} {ds : List D} {v : V} (r : Rep K G Φ (.lst ds) v) : ∃ a vs, v = .ref a ∧ SqL K Φ a vs ∧ RepL K G Φ ds vs := by
  cases r with
  | lst h hl hk => exact ⟨_, _, rfl, SqL.of h, hl, hk⟩
theorem prim_sum {K : PySem.W.Frag} {G : GEnv} : Prim K G (rSum K) bSum := by
  intro vs ds H Q b r e w
  unfold bSum at e
  split at e
  · split at e
    · next ns hn =>
      subst e
      obtain ⟨x, rfl, hx⟩ := repL1 r
      obtain ⟨a, ws, rfl, hs, rw'⟩ := rep_lstV hx
      rw [ints_vals hn rw'] at hs
      exact ⟨a, ns, rfl, hs, w H (Same.refl H)⟩
    · subst e; exact w.elim
  · subst e; exact w.elim
theorem prim_all {K : PySem.W.Frag} {G : GEnv} : Prim K G (rAll K) bAll := by
  intro vs ds H Q b r e w
  unfold bAll at e
  split at e
  · split at e
    · next ns hn =>
      subst e
      obtain ⟨x, rfl, hx⟩ := repL1 r
      obtain ⟨a, ws, rfl, hs, rw'⟩ := rep_lstV hx
      rw [bls_vals hn rw'] at hs
      exact ⟨a, ns, rfl, hs, w H (Same.refl H)⟩
    · subst e; exact w.elim
  · subst e; exact w.elim
def bAbs : List D → B
  | [.int i] => .sc (.int (if i < 0 then -i else i))
  | _ => .bad
theorem prim_abs {K : PySem.W.Frag} {G : GEnv} : Prim K G (fun xs H Q => ∃ i, xs = [.int i] ∧ Q (.int (if i < 0 then -i else i)) H) bAbs := by
  intro vs ds H Q b r e w
  unfold bAbs at e
  split at e
  · subst e
    obtain ⟨x, rfl, hx⟩ := repL1 r
    obtain rfl := rep_int hx
    exact ⟨_, rfl, w H (Same.refl H)⟩
  · subst e; exact w.elim
def bMax : List D → B
  | [.int i, .int j] => .sc (.int (if j > i then j else i))
  | _ => .bad
def bMin : List D → B
  | [.int i, .int j] => .sc (.int (if j < i then j else i))
  | _ => .bad
theorem prim_max {K : PySem.W.Frag} {G : GEnv} : Prim K G (fun xs H Q => ∃ i j, xs = [.int i, .int j] ∧ Q (.int (if j > i then j else i)) H) bMax := by
  intro vs ds H Q b r e w
  unfold bMax at e
  split at e
  · subst e
    obtain ⟨x, y, rfl, hx, hy⟩ := repL2 r
    rw [rep_int hx, rep_int hy]
    exact ⟨_, _, rfl, w H (Same.refl H)⟩
  · subst e; exact w.elim
theorem prim_min {K : PySem.W.Frag} {G : GEnv} : Prim K G (fun xs H Q => ∃ i j, xs = [.int i, .int j] ∧ Q (.int (if j < i then j else i)) H) bMin := by
  intro vs ds H Q b r e w
  unfold bMin at e
  split at e
  · subst e
    obtain ⟨x, y, rfl, hx, hy⟩ := repL2 r
    rw [rep_int hx, rep_int hy]
    exact ⟨_, _, rfl, w H (Same.refl H)⟩
  · subst e; exact w.elim
def bInt : List D → B
  | [.int i] => .sc (.int i)
  | [.bl k] => .sc (.int (if k then 1 else 0))
  | _ => .bad
theorem prim_intc {K : PySem.W.Frag} {G : GEnv} : Prim K G (fun xs H Q => (∃ i, xs = [.int i] ∧ Q (.int i) H) ∨ ∃ k, xs = [.bl k] ∧ Q (.int (if k then 1 else 0)) H) bInt := by
  intro vs ds H Q b r e w
  unfold bInt at e
  split at e
  · subst e
    obtain ⟨x, rfl, hx⟩ := repL1 r
    obtain rfl := rep_int hx
    exact .inl ⟨_, rfl, w H (Same.refl H)⟩
  · subst e
    obtain ⟨x, rfl, hx⟩ := repL1 r
    obtain rfl := rep_bl hx
    exact .inr ⟨_, rfl, w H (Same.refl H)⟩
  · subst e; exact w.elim
def qListOf : List D → SQ
  | [.lst ds] => .lst ds
  | [.tup ds] => .lst ds
  | _ => .bad
def qTupOf : List D → SQ
  | [.lst ds] => .tup ds
  | [.tup ds] => .val (.tup ds)
  | _ => .bad
theorem prim_listOf {K : PySem.W.Frag} {G : GEnv} : PrimS K G (fun xs H Q => ∃ p ys, xs = [.ref p] ∧ (SqL K H p ys ∨ SqT K H p ys) ∧ ∀ l, H l = none → Q (.ref l) (upd H l (.lst ys))) qListOf := by
  intro Φ H vs ds Q b sm k e w
  unfold qListOf at e
  split at e
  · subst e
    obtain ⟨x, rfl, ⟨a, ws, rfl, h1, r1⟩, _⟩ := k.one
    exact ⟨a, ws, rfl, .inl (SqL.of h1), fun p np => w _ p _ r1 (new_same np) np upd_same⟩
  · subst e
    obtain ⟨x, rfl, k1, _⟩ := k.one
    obtain ⟨a, ws, rfl, h1, r1⟩ := rep_tupK k1
    exact ⟨a, ws, rfl, .inr (same_sqT sm h1), fun p np => w _ p _ r1 (new_same np) np upd_same⟩
  · subst e; exact w.elim
theorem prim_tupOf {K : PySem.W.Frag} {G : GEnv} : PrimS K G (fun xs H Q => ∃ p ys, xs = [.ref p] ∧ ((SqL K H p ys ∧ ∀ l, H l = none → Q (.ref l) (upd H l (.tup ys))) ∨ (SqT K H p ys ∧ Q (.ref p) H))) qTupOf := by
  intro Φ H vs ds Q b sm k e w
  unfold qTupOf at e
  split at e
  · subst e
    obtain ⟨x, rfl, ⟨a, ws, rfl, h1, r1⟩, _⟩ := k.one
    exact ⟨a, ws, rfl, .inl ⟨SqL.of h1, fun p np => w.1 _ p _ r1 (new_same np) np upd_same⟩⟩
  · subst e
    obtain ⟨x, rfl, k1, _⟩ := k.one
    obtain ⟨a, ws, hv, h1, r1⟩ := rep_tupK k1
    subst hv
    exact ⟨a, ws, rfl, .inr ⟨same_sqT sm h1, w _ H k1 (Same.refl H)⟩⟩
  · subst e; exact w.elim
end VS
/-! VSf: tests, truth, statements without loops. -/
namespace VS
open PySem PySem.Spec PyProof.Rows L2

/-! ### truth -/
def truD : D → Option Bool
  | .non => some false
  | .bl b => some b
  | .int i => some (i != 0)
  | .str y => if y.length ≤ sizeLine then some ((y.length : Int) != 0) else none
  | .lst ds => some (!ds.isEmpty)
  | .tup ds => some (!ds.isEmpty)
  | .ro ds => some (!ds.isEmpty)
  | .obj _ _ => none
theorem isEmpty_len {α β : Type} {xs : List α} {ys : List β} (h : xs.length = ys.length) : xs.isEmpty = ys.isEmpty := by
  cases xs <;> cases ys <;> simp_all
theorem tru_rep {K : PySem.W.Frag} {G : GEnv} {H : Hp} {d : D} {v : V} {k : Bool} (r : Rep K G H d v) (h : truD d = some k) : TruV K v H k := by
  cases r with
  | non => cases h; exact rfl
  | bl b => cases h; exact rfl
  | int i => cases h; exact rfl
  | str s =>
    simp only [truD] at h
    split at h
    · next hz => cases h; exact ⟨hz, rfl⟩
    · cases h
  | tup hs hl hk => cases h; exact .inr (.inl ⟨_, hs, by rw [isEmpty_len hl]⟩)
  | lst hs hl hk => cases h; exact .inl ⟨_, SqL.of hs, by rw [isEmpty_len hl]⟩
  | ro hs hl hk => cases h; exact .inl ⟨_, hs, by rw [isEmpty_len hl]⟩
  | obj _ _ _ _ _ _ => cases h
  | exn _ _ _ _ _ _ _ => cases h
  | exn0 _ _ _ => cases h

/-! ### tests -/
def postT (K : PySem.W.Frag) (G : GEnv) (W : WX) (Q : Bool → Hp → Prop) (Φ H : Hp) (σ : L2.St) (L : Addr → Prop) : Out Bool → Prop
  | .ok b s => ∀ H' Φ' F', StR K G Φ' H' σ s F' → Frm Φ H L Φ' H' (Ft F') → Q b H'
  | .er x s => postE K G W Φ H σ L x s
  | .bad => False
def tT (K : PySem.W.Frag) (G : GEnv) (W : WX) (ev : Sl → Out Bool) : TT := fun σ H Q => ∃ Φ s F, StR K G Φ H σ s F ∧ postT K G W Q Φ H σ (Ft F) (ev s)
abbrev VT (X : Cx) (G : GEnv) (W : WX) (e : Expr) (ev : Sl → Out Bool) : Prop := PT X e (tT X.K G W ev)
abbrev VW (X : Cx) (G : GEnv) (W : WX) (e : Expr) (ev : Sl → Out Bool) : Prop := PW X e (tT X.K G W ev)
def evTru (f : Sl → Out Op) : Sl → Out Bool := fun s => match f s with
  | .ok o s1 => match snapOp s1 o with
    | some d => match truD d with
      | some b => .ok b s1
      | none => .bad
    | none => .bad
  | .er x s1 => .er x s1
  | .bad => .bad
def evNotB (f : Sl → Out Bool) : Sl → Out Bool := fun s => match f s with
  | .ok b s1 => .ok (!b) s1
  | .er x s1 => .er x s1
  | .bad => .bad
def evAndB (f g : Sl → Out Bool) : Sl → Out Bool := fun s => match f s with
  | .ok true s1 => g s1
  | .ok false s1 => .ok false s1
  | .er x s1 => .er x s1
  | .bad => .bad
def evOrB (f g : Sl → Out Bool) : Sl → Out Bool := fun s => match f s with
  | .ok true s1 => .ok true s1
  | .ok false s1 => g s1
  | .er x s1 => .er x s1
  | .bad => .bad
section
variable {X : Cx} {K : PySem.W.Frag} {G : GEnv} {W : WX} {Φ H Φ1 H1 : Hp} {σ : L2.St} {s : Sl} {F : Nat → Addr → Prop} {L L1 : Addr → Prop}
theorem postT.shift {Q : Bool → Hp → Prop} {o : Out Bool} (f : Frm Φ H L Φ1 H1 L1) (p : postT K G W Q Φ H σ L o) : postT K G W Q Φ1 H1 σ L1 o := by
  cases o with
  | ok b s => exact fun H' Φ' F' st fr => p H' Φ' F' st (f.trans fr)
  | er x s => exact postE.shift (Q := fun _ _ => True) f p
  | bad => exact p
/-- behind an operand whose truth is asked -/
theorem tru_ok' {f : Sl → Out Op} {Q : Bool → Hp → Prop} (h : tT K G W (evTru f) σ H Q) : tO K G W f σ H fun x H' => ∃ k, TruV K x H' k ∧ Q k H' := by
  obtain ⟨Φ, s, F, st, p⟩ := h
  refine ⟨Φ, s, F, st, ?_⟩
  unfold evTru at p
  cases q : f s with
  | bad => rw [q] at p; exact p
  | er x s1 => rw [q] at p; exact p
  | ok o s1 =>
    rw [q] at p
    dsimp only at p
    cases o with
    | vl t =>
      intro v H' Φ' F' E st' ow tm fr
      change postT K G W Q Φ H σ (Ft F) (match truD (frz t) with | some b => Out.ok b s1 | none => Out.bad) at p
      cases q2 : truD (frz t) with
      | none => rw [q2] at p; exact p.elim
      | some b =>
        rw [q2] at p
        exact ⟨b, tru_rep (ow.snap st'.same) q2, p H' Φ' F' st' (fr.less fun b h => .inr h)⟩
    | rt i =>
      intro v H' Φ' F' st' hv fr
      change postT K G W Q Φ H σ (Ft F) (match (treeAt s1 i).map frz with | some d => (match truD d with | some b => Out.ok b s1 | none => Out.bad) | none => Out.bad) at p
      cases q3 : treeAt s1 i with
      | none => rw [q3] at p; exact p.elim
      | some t =>
        rw [q3] at p
        change postT K G W Q Φ H σ (Ft F) (match truD (frz t) with | some b => Out.ok b s1 | none => Out.bad) at p
        cases q2 : truD (frz t) with
        | none => rw [q2] at p; exact p.elim
        | some b =>
          rw [q2] at p
          exact ⟨b, tru_rep ((st'.at_ q3 hv).snap st'.same) q2, p H' Φ' F' st' fr⟩
def plainTest : Expr → Bool
  | .UnaryOp .Not .. => false
  | .BoolOp .. => false
  | .IfExp .. => false
  | .Compare .. => false
  | _ => true
theorem plain_true {e : Expr} {env : Env} (h : plainTest e = true) (whole : Sem Value) : isTrue e env whole = (do let v ← whole; standAt e.pos; holding [v] (truthy v)) := by
  cases e with
  | UnaryOp op x p => cases op <;> first | rfl | exact absurd h (by simp [plainTest])
  | BoolOp op es p => exact absurd h (by simp [plainTest])
  | IfExp a b c p => exact absurd h (by simp [plainTest])
  | Compare a b c p => exact absurd h (by simp [plainTest])
  | _ => rfl
theorem vt_truth {e : Expr} {f : Sl → Out Op} (h : VO X G W e f) (hp : plainTest e = true) : VT X G W e (evTru f) :=
  pt_imp (pt_truth h fun whole => plain_true hp whole) fun σ H Q h => tru_ok' h
theorem tT_not {f : Sl → Out Bool} {Q : Bool → Hp → Prop} (h : tT K G W (evNotB f) σ H Q) : tT K G W f σ H fun c H1 => Q (!c) H1 := by
  obtain ⟨Φ, s, F, st, p⟩ := h
  refine ⟨Φ, s, F, st, ?_⟩
  unfold evNotB at p
  cases q : f s with
  | bad => rw [q] at p; exact p
  | er x s1 => rw [q] at p; exact p
  | ok b s1 => rw [q] at p; exact p
theorem vt_not {e : Expr} {f : Sl → Out Bool} {pos : Pos} (h : VT X G W e f) : VT X G W (.UnaryOp .Not e pos) (evNotB f) := pt_imp (pt_not h) fun σ H Q h => tT_not h
theorem tT_and {f g : Sl → Out Bool} {Q : Bool → Hp → Prop} (h : tT K G W (evAndB f g) σ H Q) : tT K G W f σ H fun c H1 => if c = true then tT K G W g σ H1 Q else Q false H1 := by
  obtain ⟨Φ, s, F, st, p⟩ := h
  refine ⟨Φ, s, F, st, ?_⟩
  unfold evAndB at p
  cases q : f s with
  | bad => rw [q] at p; exact p
  | er x s1 => rw [q] at p; exact p
  | ok b s1 =>
    rw [q] at p
    cases b with
    | true =>
      intro H' Φ' F' st' fr
      rw [if_pos rfl]
      exact ⟨Φ', s1, F', st', postT.shift fr p⟩
    | false =>
      intro H' Φ' F' st' fr
      rw [if_neg Bool.false_ne_true]
      exact p H' Φ' F' st' fr
theorem tT_or {f g : Sl → Out Bool} {Q : Bool → Hp → Prop} (h : tT K G W (evOrB f g) σ H Q) : tT K G W f σ H fun c H1 => if c = true then Q true H1 else tT K G W g σ H1 Q := by
  obtain ⟨Φ, s, F, st, p⟩ := h
  refine ⟨Φ, s, F, st, ?_⟩
  unfold evOrB at p
  cases q : f s with
  | bad => rw [q] at p; exact p
  | er x s1 => rw [q] at p; exact p
  | ok b s1 =>
    rw [q] at p
    cases b with
    | false =>
      intro H' Φ' F' st' fr
      rw [if_neg Bool.false_ne_true]
      exact ⟨Φ', s1, F', st', postT.shift fr p⟩
    | true =>
      intro H' Φ' F' st' fr
      rw [if_pos rfl]
      exact p H' Φ' F' st' fr
def evBoolB (op : BoolOp) : List (Sl → Out Bool) → Sl → Out Bool
  | [] => fun _ => .bad
  | [f] => f
  | f :: fs => match op with
    | .And => evAndB f (evBoolB op fs)
    | .Or => evOrB f (evBoolB op fs)
inductive VTs (X : Cx) (G : GEnv) (W : WX) : List Expr → List (Sl → Out Bool) → Prop
  | nil : VTs X G W [] []
  | cons {e : Expr} {es : List Expr} {f : Sl → Out Bool} {fs : List (Sl → Out Bool)} (h : VT X G W e f) (r : VTs X G W es fs) : VTs X G W (e :: es) (f :: fs)
theorem vw_bool {op : BoolOp} {pos : Pos} : ∀ {es : List Expr} {fs : List (Sl → Out Bool)}, VTs X G W es fs → VW X G W (.BoolOp op es pos) (evBoolB op fs)
  | _, _, .nil => ⟨fun whole pins s σ H Q I h => by obtain ⟨_, _, _, _, p⟩ := h; exact p.elim⟩
  | _, _, .cons (fs := []) h .nil => match op with
    | .And => pw_and1 h
    | .Or => pw_or1 h
  | _, _, .cons h (.cons h2 r) => match op with
    | .And => ⟨fun whole pins s σ H Q I q => (pw_and h (vw_bool (.cons h2 r))).run whole pins s σ H Q I (tT_and q)⟩
    | .Or => ⟨fun whole pins s σ H Q I q => (pw_or h (vw_bool (.cons h2 r))).run whole pins s σ H Q I (tT_or q)⟩
/-- a comparison as a test: its value is a truth -/
def evTest (f : Sl → Out Op) : Sl → Out Bool := fun s => match f s with
  | .ok (.vl (.leaf (.bl b))) s1 => .ok b s1
  | .er x s1 => .er x s1
  | _ => .bad
theorem tT_test {f : Sl → Out Op} {Q : Bool → Hp → Prop} (h : tT K G W (evTest f) σ H Q) : tO K G W f σ H fun x H1 => ∃ k, x = .bl k ∧ Q k H1 := by
  obtain ⟨Φ, s, F, st, p⟩ := h
  refine ⟨Φ, s, F, st, ?_⟩
  unfold evTest at p
  cases q : f s with
  | bad => rw [q] at p; exact p
  | er x s1 => rw [q] at p; exact p
  | ok o s1 =>
    rw [q] at p
    cases o with
    | rt j => exact p.elim
    | vl t =>
      cases t with
      | node ts => exact p.elim
      | ins c ts => exact p.elim
      | leaf d =>
        cases d with
        | bl b =>
          intro v H' Φ' F' E st' ow tm fr
          have hv : v = .bl b := by
            cases ow with
            | leaf r => exact rep_bl r
          exact ⟨b, hv, p H' Φ' F' st' (fr.less fun b h => .inr h)⟩
        | non => exact p.elim
        | int _ => exact p.elim
        | str _ => exact p.elim
        | tup _ => exact p.elim
        | lst _ => exact p.elim
        | obj _ _ => exact p.elim
        | ro _ => exact p.elim
variable {a b c : Expr} {fa fb fc : Sl → Out Op} {pos : Pos} {fin fin' : Fin1}
theorem vt_cmp {op : CmpOp} (h : Road X G W (compareOp op) fin) (ha : VO X G W a fa) (hb : VO X G W b fb) (hm : behindInMarks op b = false) : VT X G W (.Compare a [op] [b] pos) (evTest (evF [fa, fb] fin)) := by
  obtain ⟨r, ho, hf⟩ := h.ex
  refine pt_imp (pt_cmpR ho ha hb hm) fun σ H Q h => ?_
  exact evF_args (r := lift2 r) (fs := [fa, fb]) hf (tT_test h)

/-! ### chains of two comparisons; the middle one is a value or a name -/
def evChain (fa fb fc : Sl → Out Op) (fin fin' : Fin1) : Sl → Out Op := fun s => match evAs [fa, fb] s with
  | .ok [oa, ob] s1 => match fin [oa, ob] s1 with
    | .ok (.vl (.leaf (.bl true))) s2 => match ob with
      | .vl (.leaf (.int i)) => match fc s2 with
        | .ok oc s3 => fin' [.vl (.leaf (.int i)), oc] s3
        | .er x s3 => .er x s3
        | .bad => .bad
      | _ => .bad
    | .ok (.vl (.leaf (.bl false))) s2 => .ok (.vl (.leaf (.bl false))) s2
    | .er x s2 => .er x s2
    | _ => .bad
  | .er x s1 => .er x s1
  | _ => .bad
theorem evAs_two {s1 : Sl} {ops : List Op} (h : evAs [fa, fb] s = .ok ops s1) : ∃ oa ob, ops = [oa, ob] := by
  unfold evAs at h
  split at h
  · unfold evAs at h
    split at h
    · next h2 =>
      split at h2
      · unfold evAs at h2
        cases h2
        cases h
        exact ⟨_, _, rfl⟩
      · cases h2
      · cases h2
    · cases h
    · cases h
  · cases h
  · cases h
theorem chain_ok {r r' : R2} (hf : FinOk K G W (lift2 r) fin) (hf' : FinOk K G W (lift2 r') fin') {Q : VK} (h : tO K G W (evChain fa fb fc fin fin') σ H Q) : tChain r r' (tO K G W fa) (tO K G W fb) (tO K G W fc) σ H Q := by
  obtain ⟨Φ, s, F, st, p⟩ := h
  unfold evChain at p
  have goal : tArgs K G W [fa, fb] σ H fun vs H2 => lift2 (fun x y H2 Q => r x y H2 fun z H3 => ∃ k, z = .bl k ∧ if k = true then tO K G W fc σ H3 fun w H4 => r' y w H4 Q else Q (.bl false) H3) vs H2 Q := by
    refine args_ok [fa, fb] _ Φ H s F st ?_
    cases q : evAs [fa, fb] s with
    | bad => rw [q] at p; exact p
    | er x s1 => rw [q] at p; exact p
    | ok ops s1 =>
      obtain ⟨oa, ob, rfl⟩ := evAs_two q
      rw [q] at p
      dsimp only at p
      intro vs H' Φ' F' Es st' or fr
      obtain ⟨x, y, rfl⟩ : ∃ x y, vs = [x, y] := by
        have := or.len
        match vs, this with
        | [x, y], _ => exact ⟨x, y, rfl⟩
      show r x y H' _
      refine hf Φ' H' σ s1 F' [oa, ob] [x, y] Es (fun z H3 => ∃ k, z = .bl k ∧ if k = true then tO K G W fc σ H3 fun w H4 => r' y w H4 Q else Q (.bl false) H3) st' or ?_
      cases q2 : fin [oa, ob] s1 with
      | bad => rw [q2] at p; exact p
      | er x s2 => rw [q2] at p; exact postE.shift (Q := Q) fr p
      | ok o s2 =>
        rw [q2] at p
        cases o with
        | rt j => exact p.elim
        | vl t =>
          cases t with
          | node ts => exact p.elim
          | ins c ts => exact p.elim
          | leaf d =>
            cases d with
            | bl b =>
              cases b with
              | false =>
                intro v H3 Φ3 F3 E3 st3 ow3 tm3 fr3
                have hv : v = .bl false := by
                  cases ow3 with
                  | leaf r => exact rep_bl r
                refine ⟨false, hv, ?_⟩
                rw [if_neg Bool.false_ne_true]
                exact p (.bl false) H3 Φ3 F3 no st3 (.leaf (.bl false)) TmpR.no ((fr.trans fr3).less fun b h => h.elim (fun z => z.elim) .inr)
              | true =>
                dsimp only at p
                cases ob with
                | rt j => exact p.elim
                | vl tb =>
                  cases tb with
                  | node ts => exact p.elim
                  | ins c ts => exact p.elim
                  | leaf db =>
                    cases db with
                    | int i =>
                      dsimp only at p
                      intro v H3 Φ3 F3 E3 st3 ow3 tm3 fr3
                      have hv : v = .bl true := by
                        cases ow3 with
                        | leaf r => exact rep_bl r
                      have hy : y = .int i := by
                        have ow := or.vl 1 (.leaf (.int i)) y rfl rfl
                        cases ow with
                        | leaf r => exact rep_int r
                      subst hy
                      refine ⟨true, hv, ?_⟩
                      rw [if_pos rfl]
                      refine ⟨Φ3, s2, F3, st3, ?_⟩
                      have fr4 : Frm Φ H (Ft F) Φ3 H3 (Ft F3) := (fr.trans fr3).less fun b h => .inr h
                      cases q3 : fc s2 with
                      | bad => rw [q3] at p; exact p
                      | er x s3 => rw [q3] at p; exact postE.shift (Q := Q) fr4 p
                      | ok oc s3 =>
                        rw [q3] at p
                        dsimp only at p
                        have fin2 : ∀ (w : V) (H4 Φ4 : Hp) (F4 : Nat → Addr → Prop) (E4 : Addr → Prop), StR K G Φ4 H4 σ s3 F4 → (∀ t, oc = .vl t → Own K G Φ4 H4 t w E4) → (∀ i, oc = .rt i → σ[i]? = some (some w)) → TmpR Φ4 H4 F4 E4 → Frm Φ3 H3 (Ft F3) Φ4 H4 (fun b => E4 b ∨ Ft F4 b) → r' (.int i) w H4 Q := by
                          intro w H4 Φ4 F4 E4 st4 hv4 hr4 tm4 fr5
                          have or4 : OpsR K G Φ4 H4 σ F4 [oc] [w] (consF E4 fun _ => no) := OpsR.nil.cons hv4 hr4 tm4 fun k b _ z => z.elim
                          have or5 : OpsR K G Φ4 H4 σ F4 [.vl (.leaf (.int i)), oc] [.int i, w] (consF no (consF E4 fun _ => no)) := or4.cons (fun t e => by cases e; exact .leaf (.int i)) (fun j e => by cases e) TmpR.no fun k b z => z.elim
                          refine hf' Φ4 H4 σ s3 F4 [.vl (.leaf (.int i)), oc] [.int i, w] _ Q st4 or5 (postO.shift ((fr4.trans fr5).less fun b h => ?_) p)
                          rcases h with ⟨k, h⟩ | h
                          · match k, h with
                            | 0, h => exact h.elim
                            | 1, h => exact .inl h
                            | k + 2, h => exact h.elim
                          · exact .inr h
                        cases oc with
                        | vl t => exact fun w H4 Φ4 F4 E4 st4 ow4 tm4 fr5 => fin2 w H4 Φ4 F4 E4 st4 (fun t' e => by cases e; exact ow4) (fun i e => by cases e) tm4 fr5
                        | rt j => exact fun w H4 Φ4 F4 st4 hv4 fr5 => fin2 w H4 Φ4 F4 no st4 (fun t' e => by cases e) (fun i e => by cases e; exact hv4) TmpR.no (fr5.less fun b h => h.elim (fun z => z.elim) id)
                    | non => exact p.elim
                    | bl _ => exact p.elim
                    | str _ => exact p.elim
                    | tup _ => exact p.elim
                    | lst _ => exact p.elim
                    | obj _ _ => exact p.elim
                    | ro _ => exact p.elim
            | non => exact p.elim
            | int _ => exact p.elim
            | str _ => exact p.elim
            | tup _ => exact p.elim
            | lst _ => exact p.elim
            | obj _ _ => exact p.elim
            | ro _ => exact p.elim
  exact goal
def noSet : Expr → Bool
  | .Set .. => false
  | _ => true
theorem noMark {op : CmpOp} {e : Expr} (h : noSet e = true) : behindInMarks op e = false := by
  cases e <;> first | rfl | exact absurd h (by simp [noSet])
theorem vo_chain {op op' : CmpOp} (h : Road X G W (compareOp op) fin) (h' : Road X G W (compareOp op') fin') (ha : VO X G W a fa) (hb : VO X G W b fb) (hc : VO X G W c fc) (hm : noSet c = true) :
    VO X G W (.Compare a [op, op'] [b, c] pos) (evChain fa fb fc fin fin') := by
  obtain ⟨r, ho, hf⟩ := h.ex
  obtain ⟨r', ho', hf'⟩ := h'.ex
  exact pe_imp (pe_chain ho ho' ha hb hc (show behindInMarks op' c = false from noMark hm)) fun σ H Q h => chain_ok hf hf' h
theorem vt_chain {op op' : CmpOp} (h : Road X G W (compareOp op) fin) (h' : Road X G W (compareOp op') fin') (ha : VO X G W a fa) (hb : VO X G W b fb) (hc : VO X G W c fc) (hm : noSet c = true) :
    VT X G W (.Compare a [op, op'] [b, c] pos) (evTest (evChain fa fb fc fin fin')) := by
  obtain ⟨r, ho, hf⟩ := h.ex
  obtain ⟨r', ho', hf'⟩ := h'.ex
  exact pt_imp (pt_chain ho ho' ha hb hc (show behindInMarks op' c = false from noMark hm)) fun σ H Q h => chain_ok hf hf' (tT_test h)

/-! ### and, or, not as values -/
def evAndV (f g : Sl → Out Op) : Sl → Out Op := fun s => match f s with
  | .ok o s1 => match (snapOp s1 o).bind truD with
    | some true => g s1
    | some false => .ok o s1
    | none => .bad
  | .er x s1 => .er x s1
  | .bad => .bad
def evOrV (f g : Sl → Out Op) : Sl → Out Op := fun s => match f s with
  | .ok o s1 => match (snapOp s1 o).bind truD with
    | some true => .ok o s1
    | some false => g s1
    | none => .bad
  | .er x s1 => .er x s1
  | .bad => .bad
theorem snap_tru {o : Op} {v : V} {E : Addr → Prop} {k : Bool} (st : StR K G Φ H σ s F) (hv : ∀ t, o = .vl t → Own K G Φ H t v E) (hr : ∀ i, o = .rt i → σ[i]? = some (some v)) (h : (snapOp s o).bind truD = some k) : TruV K v H k := by
  obtain ⟨d, h1, h2⟩ := Option.bind_eq_some_iff.mp h
  cases o with
  | vl t =>
    cases h1
    exact tru_rep ((hv t rfl).snap st.same) h2
  | rt i =>
    obtain ⟨t, ht, rfl⟩ := Option.map_eq_some_iff.mp (show (treeAt s i).map frz = some d from h1)
    exact tru_rep ((st.at_ ht (hr i rfl)).snap st.same) h2
/-- an operand's post, both kinds at once -/
theorem postO_of {Q : VK} {o : Op} (h : ∀ (v : V) (H' Φ' : Hp) (F' : Nat → Addr → Prop) (E : Addr → Prop), StR K G Φ' H' σ s F' → (∀ t, o = .vl t → Own K G Φ' H' t v E) → (∀ i, o = .rt i → σ[i]? = some (some v)) → TmpR Φ' H' F' E → Frm Φ H L Φ' H' (fun b => E b ∨ Ft F' b) → Q v H') :
    postO K G W Q Φ H σ L (.ok o s) := by
  cases o with
  | vl t => exact fun v H' Φ' F' E st ow tm fr => h v H' Φ' F' E st (fun t' e => by cases e; exact ow) (fun i e => by cases e) tm fr
  | rt i => exact fun v H' Φ' F' st hv fr => h v H' Φ' F' no st (fun t' e => by cases e) (fun j e => by cases e; exact hv) TmpR.no (fr.less fun b h => h.elim (fun z => z.elim) id)
theorem postO_use {Q : VK} {o : Op} (p : postO K G W Q Φ H σ L (.ok o s)) {v : V} {H' Φ' : Hp} {F' : Nat → Addr → Prop} {E : Addr → Prop} (st : StR K G Φ' H' σ s F') (hv : ∀ t, o = .vl t → Own K G Φ' H' t v E) (hr : ∀ i, o = .rt i → σ[i]? = some (some v)) (tm : TmpR Φ' H' F' E)
    (fr : Frm Φ H L Φ' H' (fun b => E b ∨ Ft F' b)) : Q v H' := by
  cases o with
  | vl t => exact p v H' Φ' F' E st (hv t rfl) tm fr
  | rt i => exact p v H' Φ' F' st (hr i rfl) (fr.less fun b h => .inr h)
theorem tO_andV {Q : VK} (h : tO K G W (evAndV fa fb) σ H Q) : tAndT K (tO K G W fa) (tO K G W fb) σ H Q := by
  obtain ⟨Φ, s, F, st, p⟩ := h
  refine ⟨Φ, s, F, st, ?_⟩
  unfold evAndV at p
  cases q : fa s with
  | bad => rw [q] at p; exact p
  | er x s1 => rw [q] at p; exact p
  | ok o s1 =>
    rw [q] at p
    dsimp only at p
    refine postO_of fun v H' Φ' F' E st' hv hr tm fr => ?_
    cases q2 : (snapOp s1 o).bind truD with
    | none => rw [q2] at p; exact p.elim
    | some k =>
      rw [q2] at p
      refine ⟨k, snap_tru st' hv hr q2, ?_⟩
      cases k with
      | true =>
        rw [if_pos rfl]
        exact ⟨Φ', s1, F', st', postO.shift (fr.less fun b h => .inr h) p⟩
      | false =>
        rw [if_neg Bool.false_ne_true]
        exact postO_use p st' hv hr tm fr
theorem tO_orV {Q : VK} (h : tO K G W (evOrV fa fb) σ H Q) : tOrT K (tO K G W fa) (tO K G W fb) σ H Q := by
  obtain ⟨Φ, s, F, st, p⟩ := h
  refine ⟨Φ, s, F, st, ?_⟩
  unfold evOrV at p
  cases q : fa s with
  | bad => rw [q] at p; exact p
  | er x s1 => rw [q] at p; exact p
  | ok o s1 =>
    rw [q] at p
    dsimp only at p
    refine postO_of fun v H' Φ' F' E st' hv hr tm fr => ?_
    cases q2 : (snapOp s1 o).bind truD with
    | none => rw [q2] at p; exact p.elim
    | some k =>
      rw [q2] at p
      refine ⟨k, snap_tru st' hv hr q2, ?_⟩
      cases k with
      | false =>
        rw [if_neg Bool.false_ne_true]
        exact ⟨Φ', s1, F', st', postO.shift (fr.less fun b h => .inr h) p⟩
      | true =>
        rw [if_pos rfl]
        exact postO_use p st' hv hr tm fr
def evBoolV (op : BoolOp) : List (Sl → Out Op) → Sl → Out Op
  | [] => fun _ => .bad
  | [f] => f
  | f :: fs => match op with
    | .And => evAndV f (evBoolV op fs)
    | .Or => evOrV f (evBoolV op fs)
theorem vo_bool {op : BoolOp} : ∀ {es : List Expr} {fs : List (Sl → Out Op)}, VOs X G W es fs → VO X G W (.BoolOp op es pos) (evBoolV op fs)
  | _, _, .nil => ⟨fun pins s σ H Q I h => by obtain ⟨_, _, _, _, p⟩ := h; exact p.elim⟩
  | _, _, .cons (fs := []) h .nil => pe_one h
  | _, _, .cons h (.cons h2 r) => match op with
    | .And => pe_imp (pe_andT h (vo_bool (.cons h2 r))) fun σ H Q h => tO_andV h
    | .Or => pe_imp (pe_orT h (vo_bool (.cons h2 r))) fun σ H Q h => tO_orV h
def bNot : List D → B
  | [d] => match truD d with
    | some b => .sc (.bl (!b))
    | none => .bad
  | _ => .bad
def finNot : Fin1 := finP bNot
theorem vo_not (ha : VO X G W a fa) : VO X G W (.UnaryOp .Not a pos) (evF [fa] finNot) := by
  refine vo_fin (r := lift1 fun x H Q => ∃ k, TruV X.K x H k ∧ Q (.bl (!k)) H) (pe_notT ha) (fin_prim ?_)
  intro vs ds H Q b r e w
  unfold bNot at e
  split at e
  · next d =>
    split at e
    · next k hk =>
      subst e
      obtain ⟨x, rfl, hx⟩ := repL1 r
      exact ⟨k, tru_rep hx hk, w H (Same.refl H)⟩
    · subst e; exact w.elim
  · subst e; exact w.elim
def bNeg : List D → B
  | [.int i] => .sc (.int (-i))
  | _ => .bad
def finNeg : Fin1 := finP bNeg
theorem vo_neg (ha : VO X G W a fa) : VO X G W (.UnaryOp .USub a pos) (evF [fa] finNeg) := by
  refine vo_un un_neg (fin_prim ?_) ha
  intro vs ds H Q b r e w
  unfold bNeg at e
  split at e
  · next i =>
    subst e
    obtain ⟨x, rfl, hx⟩ := repL1 r
    exact ⟨i, rep_int hx, w H (Same.refl H)⟩
  · subst e; exact w.elim
end
end VS
/-! VSg: what is walked; comprehensions. -/
namespace VS
open PySem PySem.Spec PyProof.Rows L2

/-! ### what a loop walks: its items, and the slots that must stay as they are -/
abbrev Src := List (Nat × T)
def SrcOk (src : Src) (s : Sl) (σ σ1 : L2.St) : Prop := ∀ p ∈ src, treeAt s p.1 = some p.2 ∧ σ[p.1]? = σ1[p.1]?
structure WalkOk (K : PySem.W.Frag) (G : GEnv) (Φ1 : Hp) (σ1 : L2.St) (J : It) (ds : List D) (src : Src) : Prop where
  go : ∀ (k : Nat) (Φ H : Hp) (σ : L2.St) (s : Sl) (F : Nat → Addr → Prop), k < ds.length → Same Φ1 Φ → StR K G Φ H σ s F → SrcOk src s σ σ1 → J.go k H
  stop : ∀ (Φ H : Hp) (σ : L2.St) (s : Sl) (F : Nat → Addr → Prop), Same Φ1 Φ → StR K G Φ H σ s F → SrcOk src s σ σ1 → J.stop ds.length H
  yld : ∀ (k : Nat) (Φ H : Hp) (σ : L2.St) (s : Sl) (F : Nat → Addr → Prop) (x : V) (H' : Hp) (d : D), ds[k]? = some d → Same Φ1 Φ → StR K G Φ H σ s F → SrcOk src s σ σ1 → J.yld k H x H' →
    ∃ Φ', Same Φ Φ' ∧ Same H H' ∧ Same Φ' H' ∧ (∀ b o, Φ' b = some o → Φ b = some o ∨ H b = none) ∧ Rep K G Φ' d x
structure Walked where
  ds : List D
  src : Src
def tI (K : PySem.W.Frag) (G : GEnv) (W : WX) (ev : Sl → Out Walked) : TI := fun σ H R => ∃ Φ s F, StR K G Φ H σ s F ∧ match ev s with
  | .ok w s1 => ∀ J H1 Φ1 F1, StR K G Φ1 H1 σ s1 F1 → Frm Φ H (Ft F) Φ1 H1 (Ft F1) → (∀ p ∈ w.src, treeAt s1 p.1 = some p.2) → WalkOk K G Φ1 σ J w.ds w.src → R J H1
  | .er x s1 => postE K G W Φ H σ (Ft F) x s1
  | .bad => False
abbrev VI (X : Cx) (G : GEnv) (W : WX) (tg iter : Expr) (ev : Sl → Out Walked) : Prop := PI X tg iter (tI X.K G W ev)
theorem pi_imp {X : Cx} {tg e : Expr} {t t' : TI} (h : PI X tg e t) (i : ∀ σ H R, t' σ H R → t σ H R) : PI X tg e t' := ⟨fun pins s σ H R I q => h.run pins s σ H R I (i σ H R q)⟩

/-- a list or tuple that can be read as long as the slots of src stay -/
def SeqOk (K : PySem.W.Frag) (G : GEnv) (Φ1 : Hp) (σ1 : L2.St) (tp : Bool) (v : V) (ds : List D) (src : Src) : Prop :=
  ∀ (Φ H : Hp) (σ : L2.St) (s : Sl) (F : Nat → Addr → Prop), Same Φ1 Φ → StR K G Φ H σ s F → SrcOk src s σ σ1 → ∃ a ws, v = .ref a ∧ (if tp = true then SqT K H a ws else SqL K H a ws) ∧ RepL K G Φ ds ws
def iterSrc (s : Sl) : Op → Option (Bool × List D × Src × Sl)
  | .vl (.leaf (.lst ds)) => some (false, ds, [], s)
  | .vl (.leaf (.ro ds)) => some (false, ds, [], s)
  | .vl (.leaf (.tup ds)) => some (true, ds, [], s)
  | .vl (.node ts) => some (false, ts.map frz, [], s)
  | .rt i => match treeAt (soft s (.rt i)) i with
    | some (.node ts) => some (false, ts.map frz, [(i, .node ts)], soft s (.rt i))
    | _ => none
  | _ => none
section
variable {X : Cx} {K : PySem.W.Frag} {G : GEnv} {W : WX} {Φ H Φ1 H1 : Hp} {σ : L2.St} {s s1 : Sl} {F : Nat → Addr → Prop} {L : Addr → Prop}
theorem SeqOk.mono {tp : Bool} {v : V} {ds : List D} {src : Src} (h : SeqOk K G Φ σ tp v ds src) (e : Same Φ Φ1) : SeqOk K G Φ1 σ tp v ds src := fun Φ2 H2 σ2 s2 F2 e2 st so => h Φ2 H2 σ2 s2 F2 (e.trans e2) st so
theorem soft1_node {t : T} {ts : List T} (h : soft1 t = .node ts) : ts.all isLeaf = true := by
  unfold soft1 at h
  split at h
  · split at h
    · next hl => cases h; exact hl
    · cases h
      rw [List.all_map]
      exact List.all_eq_true.mpr fun t _ => rfl
  · next hn => exact absurd h (hn ts)
theorem iterSrc_ok {o : Op} {v : V} {E : Addr → Prop} {tp : Bool} {ds : List D} {src : Src} (st : StR K G Φ H σ s F) (tm : TmpR Φ H F E) (hv : ∀ t, o = .vl t → Own K G Φ H t v E) (hr : ∀ i, o = .rt i → σ[i]? = some (some v)) (h : iterSrc s o = some (tp, ds, src, s1)) :
    ∃ Φ' F', StR K G Φ' H σ s1 F' ∧ Frm Φ H (fun b => E b ∨ Ft F b) Φ' H (Ft F') ∧ SeqOk K G Φ' σ tp v ds src ∧ (∀ p ∈ src, treeAt s1 p.1 = some p.2) ∧ (∀ i b, F' i b → F i b) ∧ (∀ b o, Φ' b = some o → Φ b = some o ∨ E b ∨ Ft F b) := by
  have frozen : ∀ d, o = .vl (.leaf d) → Rep K G Φ d v := fun d e => by
    have ow := hv _ e
    cases ow with
    | leaf r => exact r
  have base : Frm Φ H (fun b => E b ∨ Ft F b) Φ H (Ft F) := Frm.refl.less fun b h => .inr h
  cases o with
  | vl t =>
    cases t with
    | leaf d =>
      cases d with
      | lst es =>
        cases h
        have rp := frozen _ rfl
        cases rp with
        | lst h1 hl hk => exact ⟨Φ, F, st, base, fun Φ2 H2 σ2 s2 F2 e2 st2 so => ⟨_, _, rfl, by rw [if_neg Bool.false_ne_true]; exact SqL.of (st2.same _ _ (e2 _ _ h1)), RepL.mono (ds := _) ⟨hl, hk⟩ e2⟩, fun p hp => (nomatch hp), fun _ _ h => h, fun _ _ h => .inl h⟩
      | ro es =>
        cases h
        have rp := frozen _ rfl
        cases rp with
        | ro h1 hl hk => exact ⟨Φ, F, st, base, fun Φ2 H2 σ2 s2 F2 e2 st2 so => ⟨_, _, rfl, by rw [if_neg Bool.false_ne_true]; exact st2.same.seq (e2.seq h1), RepL.mono (ds := _) ⟨hl, hk⟩ e2⟩, fun p hp => (nomatch hp), fun _ _ h => h, fun _ _ h => .inl h⟩
      | tup es =>
        cases h
        have rp := frozen _ rfl
        cases rp with
        | tup h1 hl hk => exact ⟨Φ, F, st, base, fun Φ2 H2 σ2 s2 F2 e2 st2 so => ⟨_, _, rfl, by rw [if_pos rfl]; exact same_sqT st2.same (same_sqT e2 h1), RepL.mono (ds := _) ⟨hl, hk⟩ e2⟩, fun p hp => (nomatch hp), fun _ _ h => h, fun _ _ h => .inl h⟩
      | non => cases h
      | bl _ => cases h
      | int _ => cases h
      | str _ => cases h
      | obj _ _ => cases h
    | ins c ts => cases h
    | node ts =>
      cases h
      have ow := hv _ rfl
      have rp : Rep K G (frzH Φ H E) (.lst (ts.map frz)) v := by
        have := ow.frz (Φ' := frzH Φ H E) frzH_same (frzH_at st.same)
        rwa [frz_node] at this
      cases rp with
      | @lst _ a vs h1 hl hk =>
        refine ⟨frzH Φ H E, F, ⟨frzH_sub st.same, fun i t h => ?_, st.dis, fun i b h => ?_, st.live, st.len⟩, ⟨frzH_same, fun b o h _ => h, fun b h => .inl (.inr h), fun b o h => ?_⟩, fun Φ2 H2 σ2 s2 F2 e2 st2 so => ⟨a, vs, rfl, by rw [if_neg Bool.false_ne_true]; exact SqL.of (st2.same _ _ (e2 _ _ h1)), (show RepL K G _ (ts.map frz) vs from ⟨hl, hk⟩).mono e2⟩, fun p hp => (nomatch hp), fun _ _ h => h, fun b o h => ?_⟩
        · obtain ⟨w, h1, h2⟩ := st.slot i t h
          exact ⟨w, h1, h2.mono frzH_same (fun _ _ _ h => h) fun _ h => h⟩
        · cases q : frzH Φ H E b with
          | none => rfl
          | some o =>
            rcases frzH_or b o q with z | z
            · rw [st.unf i b h] at z; cases z
            · exact (tm.apart i b z h).elim
        · rcases frzH_or b o h with z | z
          · exact .inl z
          · exact .inr (.inl (.inl z))
        · rcases frzH_or b o h with z | z
          · exact .inl z
          · exact .inr (.inl z)
  | rt i =>
    unfold iterSrc at h
    dsimp only at h
    cases q : treeAt (soft s (.rt i)) i with
    | none => rw [q] at h; cases h
    | some t =>
      rw [q] at h
      cases t with
      | leaf d => cases h
      | ins c ts => cases h
      | node ts =>
        cases h
        obtain ⟨t0, ht0⟩ : ∃ t0, treeAt s i = some t0 := by
          cases q0 : treeAt s i with
          | some t0 => exact ⟨t0, rfl⟩
          | none =>
            exfalso
            unfold soft at q
            dsimp only at q
            unfold treeAt at q0
            cases q1 : s[i]? with
            | none => rw [q1] at q; dsimp only at q; unfold treeAt at q; rw [q1] at q; cases q
            | some x =>
              rw [q1] at q q0
              cases x with
              | un =>
                dsimp only [softV] at q
                rw [treeAt_set] at q
                split at q
                · cases q
                · unfold treeAt at q; rw [q1] at q; cases q
              | tr u => cases q0
              | lk u => cases q0
        obtain ⟨Φ', F', st', fr, kd, sub, fz⟩ := soft_ok (E := E) st tm hv hr (d := frz t0) (by show (treeAt s i).map frz = some (frz t0); rw [ht0]; rfl)
        have hts : ts.all isLeaf = true := by
          have hlt := treeAt_lt ht0
          unfold soft at q
          dsimp only at q
          rcases treeAt_get ht0 with z | z
          · rw [z] at q
            dsimp only [softV] at q
            rw [treeAt_set, if_pos ⟨rfl, hlt⟩] at q
            exact soft1_node (Option.some.inj q)
          · rw [z] at q
            dsimp only [softV] at q
            rw [treeAt_set, if_pos ⟨rfl, hlt⟩] at q
            exact soft1_node (Option.some.inj q)
        refine ⟨Φ', F', st', fr, fun Φ2 H2 σ2 s2 F2 e2 st2 so => ?_, fun p hp => ?_, sub, fz⟩
        · obtain ⟨h1, h2⟩ := so (i, .node ts) (List.mem_singleton.mpr rfl)
          have ow := st2.at_ h1 (by rw [h2]; exact hr i rfl)
          cases ow with
          | @node _ a vs _ Fs ha h hl hk hs hd =>
            refine ⟨a, vs, rfl, by rw [if_neg Bool.false_ne_true]; exact SqL.of h, by rw [List.length_map]; exact hl, fun k d w g1 g2 => ?_⟩
            rw [List.getElem?_map] at g1
            obtain ⟨t, ht, rfl⟩ := Option.map_eq_some_iff.mp g1
            have hlf : isLeaf t = true := List.all_eq_true.mp hts t (List.mem_of_getElem? ht)
            have ow2 := hk k t w ht g2
            cases ow2 with
            | leaf hh => rw [frz_leaf]; exact hh
            | node _ _ _ _ _ _ _ => simp [isLeaf] at hlf
            | ins _ _ _ _ _ _ _ _ _ => simp [isLeaf] at hlf
        · rw [List.mem_singleton] at hp
          subst hp
          exact q
/-- an item that is there already -/
theorem yld_at {d : D} {x : V} (st : StR K G Φ H σ s F) (r : Rep K G Φ d x) : ∃ Φ', Same Φ Φ' ∧ Same H H ∧ Same Φ' H ∧ (∀ b o, Φ' b = some o → Φ b = some o ∨ H b = none) ∧ Rep K G Φ' d x :=
  ⟨Φ, Same.refl Φ, Same.refl H, st.same, fun b o h => .inl h, r⟩
theorem walk_seq {tp : Bool} {a : Addr} {ds : List D} {src : Src} (h : SeqOk K G Φ1 σ tp (.ref a) ds src) : WalkOk K G Φ1 σ (if tp = true then Itt K a else Itl K a) ds src := by
  cases tp with
  | false =>
    rw [if_neg Bool.false_ne_true]
    refine ⟨fun k Φ H σ2 s F hk e st so => ?_, fun Φ H σ2 s F e st so => ?_, fun k Φ H σ2 s F x H' d hd e st so y => ?_⟩
    · obtain ⟨a', ws, ea, hq, r⟩ := h Φ H σ2 s F e st so
      cases ea
      rw [if_neg Bool.false_ne_true] at hq
      obtain ⟨v, hv, _⟩ := r.get (List.getElem?_eq_getElem hk)
      exact ⟨ws, v, hq, hv⟩
    · obtain ⟨a', ws, ea, hq, r⟩ := h Φ H σ2 s F e st so
      cases ea
      rw [if_neg Bool.false_ne_true] at hq
      exact ⟨ws, hq, by rw [r.1]; exact Nat.le_refl _⟩
    · obtain ⟨a', ws, ea, hq, r⟩ := h Φ H σ2 s F e st so
      cases ea
      rw [if_neg Bool.false_ne_true] at hq
      obtain ⟨rfl, hy⟩ := y
      obtain ⟨v, hv, rv⟩ := r.get hd
      rw [hy ws hq] at hv
      cases hv
      exact yld_at st rv
  | true =>
    rw [if_pos rfl]
    refine ⟨fun k Φ H σ2 s F hk e st so => ?_, fun Φ H σ2 s F e st so => ?_, fun k Φ H σ2 s F x H' d hd e st so y => ?_⟩
    · obtain ⟨a', ws, ea, hq, r⟩ := h Φ H σ2 s F e st so
      cases ea
      rw [if_pos rfl] at hq
      obtain ⟨v, hv, _⟩ := r.get (List.getElem?_eq_getElem hk)
      exact ⟨ws, v, hq, hv⟩
    · obtain ⟨a', ws, ea, hq, r⟩ := h Φ H σ2 s F e st so
      cases ea
      rw [if_pos rfl] at hq
      exact ⟨ws, hq, by rw [r.1]; exact Nat.le_refl _⟩
    · obtain ⟨a', ws, ea, hq, r⟩ := h Φ H σ2 s F e st so
      cases ea
      rw [if_pos rfl] at hq
      obtain ⟨rfl, hy⟩ := y
      obtain ⟨v, hv, rv⟩ := r.get hd
      rw [hy ws hq] at hv
      cases hv
      exact yld_at st rv

/-! ### a list or a tuple -/
def evIterSeq (f : Sl → Out Op) : Sl → Out Walked := fun s => match f s with
  | .ok o s1 => match iterSrc s1 o with
    | some (_, ds, src, s2) => .ok ⟨ds, src⟩ s2
    | none => .bad
  | .er x s1 => .er x s1
  | .bad => .bad
theorem pi_or {tg e : Expr} {t t' : TI} (h : PI X tg e t) (h' : PI X tg e t') : PI X tg e fun σ H R => t σ H R ∨ t' σ H R := ⟨fun pins s σ H R I q => q.elim (h.run pins s σ H R I) (h'.run pins s σ H R I)⟩
/-- a list or a tuple, which of the two is seen when it is there -/
def iSeq (K : PySem.W.Frag) (t : TE) : TI := fun σ H R => t σ H fun x H1 => (∃ a, x = .ref a ∧ (∃ xs, SqL K H1 a xs) ∧ R (Itl K a) H1) ∨ ∃ a, x = .ref a ∧ (∃ xs, SqT K H1 a xs) ∧ R (Itt K a) H1
theorem pi_seq {tg l : Expr} {tl : TE} (hl : PE X l tl) : PI X tg l (iSeq X.K tl) := by
  refine ⟨fun pins s σ H R I h => ?_⟩
  refine thn (hl.run pins s σ H _ I h) fun v s1 ⟨x, H1, I1, r1, q1⟩ => ?_
  have new1 : ∀ b ∈ [s1.heap.objs.size], FpOk X pins H1 b := fun b hb => by
    rw [List.mem_singleton] at hb
    rw [hb]
    exact I1.fpOk (Nat.le_refl _) (I1.hok.fresh (Nat.le_refl _))
  rcases q1 with ⟨a, rfl, ⟨xs, hq⟩, q⟩ | ⟨a, rfl, ⟨xs, hq⟩, q⟩
  · obtain rfl : v = Value.ref a := r1
    obtain ⟨_, _, p, _⟩ := I1.list hq
    exact wpAny_pyIter_list p.isList ⟨_, _, _, _, H1, rfl, I1.kept (t' := s1.toks) (fun _ _ e => Heap.get?_push_of_some _ e), turn_list a _, ⟨_, Heap.get?_push_size _ rfl, rfl, rfl⟩, new1, q⟩
  · obtain rfl : v = Value.ref a := r1
    obtain ⟨its, _, p, _⟩ := I1.tuple hq
    exact wpAny_pyIter_tuple (show s1.heap.IsTuple a its.toArray from p) ⟨_, _, _, _, H1, rfl, I1.kept (t' := s1.toks) (fun _ _ e => Heap.get?_push_of_some _ e), turn_tuple a _, ⟨_, Heap.get?_push_size _ rfl, rfl, rfl⟩, new1, q⟩
theorem vi_seq {tg e : Expr} {f : Sl → Out Op} (h : VO X G W e f) : VI X G W tg e (evIterSeq f) := by
  refine pi_imp (pi_seq h) fun σ H R q => ?_
  obtain ⟨Φ, s, F, st, p⟩ := q
  refine ⟨Φ, s, F, st, ?_⟩
  unfold evIterSeq at p
  cases q : f s with
  | bad => rw [q] at p; exact p
  | er x s1 => rw [q] at p; exact p
  | ok o s1 =>
    rw [q] at p
    dsimp only at p
    refine postO_of fun v H' Φ' F' E st' hv hr tm fr => ?_
    cases q2 : iterSrc s1 o with
    | none => rw [q2] at p; exact p.elim
    | some z =>
      obtain ⟨tp, ds, src, s2⟩ := z
      rw [q2] at p
      dsimp only at p
      obtain ⟨Φ2, F2, st2, fr2, sq, hs, _, _⟩ := iterSrc_ok st' tm hv hr q2
      obtain ⟨a, ws, rfl, hq, rp⟩ := sq Φ2 H' σ s2 F2 (Same.refl Φ2) st2 fun z hz => ⟨hs z hz, rfl⟩
      have go := p (if tp = true then Itt X.K a else Itl X.K a) H' Φ2 F2 st2 (fr.trans fr2) hs (walk_seq sq)
      cases tp with
      | false => exact .inl ⟨a, rfl, ⟨ws, hq⟩, go⟩
      | true => exact .inr ⟨a, rfl, ⟨ws, hq⟩, go⟩

/-! ### ranges -/
def rangeD (lo : Int) (n : Nat) : List D := (List.range n).map fun k => .int (lo + (k : Nat))
theorem walk_rng {lo : Int} {n : Nat} {src : Src} : WalkOk K G Φ1 σ (Itr lo n) (rangeD lo n) src := by
  have hl : (rangeD lo n).length = n := by unfold rangeD; rw [List.length_map, List.length_range]
  refine ⟨fun k Φ H σ2 s F hk e st so => by rw [hl] at hk; exact hk, fun Φ H σ2 s F e st so => by rw [hl]; exact Nat.le_refl n, fun k Φ H σ2 s F x H' d hd e st so y => ?_⟩
  obtain ⟨rfl, rfl⟩ := y
  unfold rangeD at hd
  rw [List.getElem?_map] at hd
  obtain ⟨j, hj, rfl⟩ := Option.map_eq_some_iff.mp hd
  obtain ⟨hlt, hj⟩ := List.getElem?_eq_some_iff.mp hj
  rw [List.getElem_range] at hj
  subst hj
  exact yld_at st (.int _)
def evRange (fs : List (Sl → Out Op)) : Sl → Out Walked := fun s => match evAs fs s with
  | .ok ops s1 => match snapOps s1 ops with
    | some [.int j] => if in62 j && decide (j.toNat ≤ sizeLine) then .ok ⟨rangeD 0 j.toNat, []⟩ s1 else .bad
    | some [.int i, .int j] => if in62 i && in62 j && decide ((j - i).toNat ≤ sizeLine) then .ok ⟨rangeD i (j - i).toNat, []⟩ s1 else .bad
    | _ => .bad
  | .er x s1 => .er x s1
  | .bad => .bad
theorem range_ok {fs : List (Sl → Out Op)} {R : It → Hp → Prop} (h : tI K G W (evRange fs) σ H R) :
    tArgs K G W fs σ H fun vs H1 => (∃ j : Int, vs = [.int j] ∧ -(2 ^ 62) ≤ j ∧ j < 2 ^ 62 ∧ R (Itr 0 j.toNat) H1) ∨ (∃ i j : Int, vs = [.int i, .int j] ∧ (-(2 ^ 62) ≤ i ∧ i < 2 ^ 62 ∧ -(2 ^ 62) ≤ j ∧ j < 2 ^ 62) ∧ R (Itr i (j - i).toNat) H1) := by
  obtain ⟨Φ, s, F, st, p⟩ := h
  refine args_ok fs _ Φ H s F st ?_
  unfold evRange at p
  cases q : evAs fs s with
  | bad => rw [q] at p; exact p
  | er x s1 => rw [q] at p; exact p
  | ok ops s1 =>
    rw [q] at p
    dsimp only at p
    intro vs H' Φ' F' Es st' or fr
    have fr' : Frm Φ H (Ft F) Φ' H' (Ft F') := fr.less fun b h => .inr h
    split at p
    · next w s2 e =>
      split at e
      · next j hj =>
        split at e
        · next hc =>
          cases e
          rw [Bool.and_eq_true] at hc
          obtain ⟨v, rfl, hv⟩ := repL1 (or.snap st' hj)
          obtain ⟨h1, h2⟩ := in62_ok hc.1
          exact .inl ⟨j, by rw [rep_int hv], h1, h2, p _ H' Φ' F' st' fr' (fun z hz => nomatch hz) walk_rng⟩
        · cases e
      · next i j hj =>
        split at e
        · next hc =>
          cases e
          rw [Bool.and_eq_true, Bool.and_eq_true] at hc
          obtain ⟨v, w, rfl, hv, hw⟩ := repL2 (or.snap st' hj)
          obtain ⟨h1, h2⟩ := in62_ok hc.1.1
          obtain ⟨h3, h4⟩ := in62_ok hc.1.2
          exact .inr ⟨i, j, by rw [rep_int hv, rep_int hw], ⟨h1, h2, h3, h4⟩, p _ H' Φ' F' st' fr' (fun z hz => nomatch hz) walk_rng⟩
        · cases e
      · cases e
    · next x s2 e =>
      split at e
      · split at e <;> cases e
      · split at e <;> cases e
      · cases e
    · exact p.elim
theorem vi_range1 {tg a : Expr} {f : Sl → Out Op} {p pos : Pos} (hg : Gl X "range") (hm : X.mg "range" = none) (h : VO X G W a f) (hs : notStar a = true) : VI X G W tg (.Call (.Name "range" p) [a] [] pos) (evRange [f]) := by
  refine pi_imp (pi_range1 hg hm (pa_of (.cons h .nil) (by rw [List.all_cons, hs]; rfl)) (star_of hs)) fun σ H R q => ?_
  refine tO_mono (range_ok q) fun v H1 z => ?_
  rcases z with z | ⟨i, j, e, _⟩
  · exact z
  · simp at e
theorem vi_range2 {tg a b : Expr} {f g : Sl → Out Op} {p pos : Pos} (hg : Gl X "range") (hm : X.mg "range" = none) (h : VO X G W a f) (h2 : VO X G W b g) (hs : notStar a = true) (hs2 : notStar b = true) : VI X G W tg (.Call (.Name "range" p) [a, b] [] pos) (evRange [f, g]) := by
  refine pi_imp (pi_range2 hg hm (pa_of (.cons h (.cons h2 .nil)) (by rw [List.all_cons, List.all_cons, hs, hs2]; rfl)) ((star_of hs).trans (by rw [star_of hs2]; rfl)) (star_of hs2)) fun σ H R q => ?_
  refine tO_mono (range_ok q) fun v H1 z => tO_mono z fun w H2 z => ?_
  rcases z with ⟨j, e, _⟩ | z
  · simp at e
  · exact z
end
end VS
/-! VSh: targets, comprehensions. -/
namespace VS
open PySem PySem.Spec PyProof.Rows L2

/-! ### equal trees, seen -/
mutual
def beqD : D → D → Bool
  | .non, .non => true
  | .bl a, .bl b => a == b
  | .int a, .int b => a == b
  | .str a, .str b => decide (a = b)
  | .tup a, .tup b => beqDL a b
  | .lst a, .lst b => beqDL a b
  | .ro a, .ro b => beqDL a b
  | .obj c a, .obj e b => decide (c = e) && beqDL a b
  | _, _ => false
def beqDL : List D → List D → Bool
  | [], [] => true
  | a :: as, b :: bs => beqD a b && beqDL as bs
  | _, _ => false
end
mutual
theorem beqD_refl : ∀ d : D, beqD d d = true
  | .non => rfl
  | .bl a => by simp [beqD]
  | .int a => by simp [beqD]
  | .str a => by simp [beqD]
  | .tup a => by simp [beqD, beqDL_refl a]
  | .lst a => by simp [beqD, beqDL_refl a]
  | .ro a => by simp [beqD, beqDL_refl a]
  | .obj c a => by simp [beqD, beqDL_refl a]
theorem beqDL_refl : ∀ d : List D, beqDL d d = true
  | [] => rfl
  | a :: as => by simp [beqDL, beqD_refl a, beqDL_refl as]
end
mutual
theorem beqD_eq : ∀ a b : D, beqD a b = true → a = b
  | .non, b, h => by cases b <;> simp_all [beqD]
  | .bl a, b, h => by cases b <;> simp_all [beqD]
  | .int a, b, h => by cases b <;> simp_all [beqD]
  | .str a, b, h => by cases b <;> simp_all [beqD]
  | .tup a, b, h => by
    cases b with
    | tup b => rw [beqDL_eq a b (by simpa [beqD] using h)]
    | _ => simp [beqD] at h
  | .lst a, b, h => by
    cases b with
    | lst b => rw [beqDL_eq a b (by simpa [beqD] using h)]
    | _ => simp [beqD] at h
  | .ro a, b, h => by
    cases b with
    | ro b => rw [beqDL_eq a b (by simpa [beqD] using h)]
    | _ => simp [beqD] at h
  | .obj c a, b, h => by
    cases b with
    | obj e b =>
      have h' : c = e ∧ beqDL a b = true := by simpa [beqD] using h
      rw [h'.1, beqDL_eq a b h'.2]
    | _ => simp [beqD] at h
theorem beqDL_eq : ∀ a b : List D, beqDL a b = true → a = b
  | [], b, h => by cases b <;> simp_all [beqDL]
  | a :: as, b, h => by
    cases b with
    | nil => simp [beqDL] at h
    | cons b bs =>
      have h' : beqD a b = true ∧ beqDL as bs = true := by simpa [beqDL] using h
      rw [beqD_eq a b h'.1, beqDL_eq as bs h'.2]
end
mutual
def beqT : T → T → Bool
  | .leaf a, .leaf b => beqD a b
  | .node a, .node b => beqTL a b
  | .ins c a, .ins e b => decide (c = e) && beqTL a b
  | _, _ => false
def beqTL : List T → List T → Bool
  | [], [] => true
  | a :: as, b :: bs => beqT a b && beqTL as bs
  | _, _ => false
end
mutual
theorem beqT_refl : ∀ d : T, beqT d d = true
  | .leaf a => by simp [beqT, beqD_refl]
  | .node a => by simp [beqT, beqTL_refl a]
  | .ins c a => by simp [beqT, beqTL_refl a]
theorem beqTL_refl : ∀ d : List T, beqTL d d = true
  | [] => rfl
  | a :: as => by simp [beqTL, beqT_refl a, beqTL_refl as]
end
mutual
theorem beqT_eq : ∀ a b : T, beqT a b = true → a = b
  | .leaf a, b, h => by
    cases b with
    | leaf b => rw [beqD_eq a b (by simpa [beqT] using h)]
    | _ => simp [beqT] at h
  | .node a, b, h => by
    cases b with
    | node b => rw [beqTL_eq a b (by simpa [beqT] using h)]
    | _ => simp [beqT] at h
  | .ins c a, b, h => by
    cases b with
    | ins e b =>
      have h' : c = e ∧ beqTL a b = true := by simpa [beqT] using h
      rw [h'.1, beqTL_eq a b h'.2]
    | _ => simp [beqT] at h
theorem beqTL_eq : ∀ a b : List T, beqTL a b = true → a = b
  | [], b, h => by cases b <;> simp_all [beqTL]
  | a :: as, b, h => by
    cases b with
    | nil => simp [beqTL] at h
    | cons b bs =>
      have h' : beqT a b = true ∧ beqTL as bs = true := by simpa [beqTL] using h
      rw [beqT_eq a b h'.1, beqTL_eq as bs h'.2]
end
def srcB : Src → Sl → Bool
  | [], _ => true
  | (i, t) :: r, s => (match treeAt s i with
    | some u => beqT u t
    | none => false) && srcB r s
theorem srcB_ok : ∀ {src : Src} {s : Sl}, srcB src s = true → ∀ p ∈ src, treeAt s p.1 = some p.2
  | [], s, _, p, hp => nomatch hp
  | (i, t) :: r, s, h, p, hp => by
    unfold srcB at h
    rw [Bool.and_eq_true] at h
    rcases List.mem_cons.mp hp with e | hp
    · subst e
      cases q : treeAt s i with
      | none => rw [q] at h; exact absurd h.1 Bool.false_ne_true
      | some u =>
        rw [q] at h
        rw [beqT_eq u t h.1]
    · exact srcB_ok h.2 p hp

/-! ### targets -/
inductive Pat where
  | nm (i : Nat) | tp (is : List Nat)
def Pat.slots : Pat → List Nat
  | .nm i => [i]
  | .tp is => is
def bindL (s : Sl) : List Nat → List T → Option Sl
  | [], [] => some s
  | i :: is, t :: ts => if i < s.length then bindL (s.set i (.tr t)) is ts else none
  | _, _ => none
/-- what a target makes of a tree: a list's trees are handed on, a frozen thing's are frozen -/
def bindP (p : Pat) (t : T) (s : Sl) : Option Sl := match p with
  | .nm i => if i < s.length then some (s.set i (.tr t)) else none
  | .tp is => match t with
    | .leaf (.tup ds) => bindL s is (ds.map .leaf)
    | .leaf (.lst ds) => bindL s is (ds.map .leaf)
    | .node ts => bindL s is ts
    | _ => none
section
variable {X : Cx} {K : PySem.W.Frag} {G : GEnv} {W : WX} {Φ H Φ1 H1 : Hp} {σ : L2.St} {s s1 : Sl} {F : Nat → Addr → Prop} {L : Addr → Prop}
theorem treeAt_none {i : Nat} (h : s.length ≤ i) : treeAt s i = none := by
  unfold treeAt
  rw [List.getElem?_eq_none h]
/-- slot i is stored: the tree t, at v -/
theorem StR.store (r : StR K G Φ H σ s F) {i : Nat} {t : T} {v : V} {E : Addr → Prop} (hi : i < s.length) (ow : Own K G Φ H t v E) (tm : TmpR Φ H F E) : StR K G Φ H (σ.set i (some v)) (s.set i (.tr t)) (updF F i E) := by
  refine ⟨r.same, fun j u hj => ?_, fun j k b hjk h1 h2 => ?_, fun j b h => ?_, fun j b h => ?_, by rw [List.length_set, List.length_set]; exact r.len⟩
  · rw [treeAt_set] at hj
    by_cases hij : i = j
    · subst hij
      rw [if_pos ⟨rfl, hi⟩] at hj
      cases hj
      rw [updF_same]
      exact ⟨v, List.getElem?_set_self (by rw [← r.len]; exact hi), ow⟩
    · rw [if_neg (fun z => hij z.1)] at hj
      obtain ⟨w, h1, h2⟩ := r.slot j u hj
      rw [updF_ne (Ne.symm hij)]
      exact ⟨w, by rw [List.getElem?_set_ne hij]; exact h1, h2⟩
  · by_cases ha : j = i
    · subst ha
      rw [updF_same] at h1
      rw [updF_ne (Ne.symm hjk)] at h2
      exact tm.apart k b h1 h2
    · rw [updF_ne ha] at h1
      by_cases hb : k = i
      · subst hb
        rw [updF_same] at h2
        exact tm.apart j b h2 h1
      · rw [updF_ne hb] at h2
        exact r.dis j k b hjk h1 h2
  · by_cases ha : j = i
    · subst ha
      rw [updF_same] at h
      exact tm.unf b h
    · rw [updF_ne ha] at h
      exact r.unf j b h
  · by_cases ha : j = i
    · subst ha
      rw [updF_same] at h
      exact tm.live b h
    · rw [updF_ne ha] at h
      exact r.live j b h
theorem updF_foot {i : Nat} {E : Addr → Prop} : ∀ b, Ft (updF F i E) b → E b ∨ Ft F b := fun b ⟨j, h⟩ => by
  by_cases ha : j = i
  · subst ha
    rw [updF_same] at h
    exact .inl h
  · rw [updF_ne ha] at h
    exact .inr ⟨j, h⟩
/-- what is wanted behind a target's store: the new slots; the other slots as they were -/
def PatOk (K : PySem.W.Frag) (G : GEnv) (g : TG) (pat : Pat) : Prop :=
  ∀ (v : V) (σ : L2.St) (H : Hp) (Q : L2.St → Hp → Prop) (Φ : Hp) (s : Sl) (F : Nat → Addr → Prop) (t : T) (s' : Sl) (E : Addr → Prop), StR K G Φ H σ s F → Own K G Φ H t v E → TmpR Φ H F E → bindP pat t s = some s' →
    (∀ σ' F', StR K G Φ H σ' s' F' → (∀ b, Ft F' b → E b ∨ Ft F b) → (∀ j, j ∉ pat.slots → σ'[j]? = σ[j]?) → Q σ' H) → g v σ H Q
theorem pat_name {i : Nat} : PatOk K G (gName i) (.nm i) := by
  intro v σ H Q Φ s F t s' E st ow tm hb h
  simp only [bindP] at hb
  split at hb
  · next hi =>
    cases hb
    exact h _ _ (st.store hi ow tm) updF_foot fun j hj => List.getElem?_set_ne fun e => hj (by rw [e]; exact List.mem_singleton.mpr rfl)
  · cases hb
/-- names one behind another -/
def gNames : List Nat → TGs
  | [] => gNil
  | i :: is => gCons (gName i) (gNames is)
theorem names_ok : ∀ (is : List Nat) (ts : List T) (vs : List V) (Es : Nat → Addr → Prop) (σ : L2.St) (s s' : Sl) (F : Nat → Addr → Prop) (Q : L2.St → Hp → Prop), StR K G Φ H σ s F → TrsR K G Φ H F ts vs Es → bindL s is ts = some s' →
    (∀ σ' F', StR K G Φ H σ' s' F' → (∀ b, Ft F' b → (∃ k, Es k b) ∨ Ft F b) → (∀ j, j ∉ is → σ'[j]? = σ[j]?) → Q σ' H) → gNames is vs σ H Q
  | [], ts, vs, Es, σ, s, s', F, Q, st, tr, hb, h => by
    cases ts with
    | cons t ts => cases hb
    | nil =>
      cases hb
      have : vs = [] := by
        have := tr.len
        cases vs with
        | nil => rfl
        | cons _ _ => simp at this
      subst this
      exact ⟨rfl, h σ F st (fun b z => .inr z) fun j _ => rfl⟩
  | i :: is, [], vs, Es, σ, s, s', F, Q, st, tr, hb, h => by cases hb
  | i :: is, t :: ts, [], Es, σ, s, s', F, Q, st, tr, hb, h => by
    have := tr.len
    simp at this
  | i :: is, t :: ts, v :: vs, Es, σ, s, s', F, Q, st, tr, hb, h => by
    simp only [bindL] at hb
    split at hb
    · next hi =>
      refine ⟨v, vs, rfl, ?_⟩
      show gNames is vs (σ.set i (some v)) H Q
      have st1 := st.store hi (tr.own 0 t v rfl rfl) (tr.tmp 0)
      have tr1 : TrsR K G Φ H (updF F i (Es 0)) ts vs (fun k => Es (k + 1)) := by
        have tl := tr.tail
        refine ⟨tl.len, tl.own, tl.dis, fun k => ⟨(tl.tmp k).unf, (tl.tmp k).live, fun j b h1 h2 => ?_⟩⟩
        by_cases ha : j = i
        · subst ha
          rw [updF_same] at h2
          exact tr.dis 0 (k + 1) b (by omega) h2 h1
        · rw [updF_ne ha] at h2
          exact (tl.tmp k).apart j b h1 h2
      refine names_ok is ts vs _ _ _ s' _ Q st1 tr1 hb fun σ' F' st' hF hσ => h σ' F' st' (fun b z => ?_) fun j hj => ?_
      · rcases hF b z with ⟨k, y⟩ | y
        · exact .inl ⟨k + 1, y⟩
        · exact (updF_foot b y).imp (fun y => ⟨0, y⟩) id
      · rw [List.mem_cons, not_or] at hj
        rw [hσ j hj.2, List.getElem?_set_ne (Ne.symm hj.1)]
    · cases hb
/-- frozen items, as trees -/
theorem leafs_trs {ds : List D} {vs : List V} (r : RepL K G Φ ds vs) : TrsR K G Φ H F (ds.map .leaf) vs (fun _ => no) := by
  refine ⟨by rw [List.length_map]; exact r.1, fun k t v h1 h2 => ?_, fun _ _ _ _ h => h.elim, fun _ => TmpR.no⟩
  rw [List.getElem?_map] at h1
  obtain ⟨d, hd, rfl⟩ := Option.map_eq_some_iff.mp h1
  exact .leaf (r.2 k d v hd h2)
theorem bindL_len : ∀ {is : List Nat} {ts : List T} {s s' : Sl}, bindL s is ts = some s' → ts.length = is.length
  | [], [], _, _, _ => rfl
  | [], _ :: _, _, _, h => by cases h
  | _ :: _, [], _, _, h => by cases h
  | i :: is, t :: ts, s, s', h => by
    simp only [bindL] at h
    split at h
    · rw [List.length_cons, List.length_cons, bindL_len h]
    · cases h
theorem pat_tup {is : List Nat} {n : Nat} (hn : is.length = n) : PatOk K G (fun v σ H Q => gTup K n (gNames is) v σ H Q ∨ gUnl K n (gNames is) v σ H Q) (.tp is) := by
  intro v σ H Q Φ s F t s' E st ow tm hb h
  simp only [bindP] at hb
  split at hb
  · next ds =>
    cases ow with
    | leaf r =>
      obtain ⟨a, ws, rfl, hq, rp⟩ := rep_tupK r
      have hl := bindL_len hb
      rw [List.length_map] at hl
      refine .inl ⟨a, ws, rfl, same_sqT st.same hq, by rw [← rp.1, hl, hn], names_ok is _ ws _ σ s s' F Q st (leafs_trs rp) hb fun σ' F' st' hF hσ => h σ' F' st' (fun b z => ?_) hσ⟩
      rcases hF b z with ⟨k, y⟩ | y
      · exact y.elim
      · exact .inr y
  · next ds =>
    cases ow with
    | leaf r =>
      obtain ⟨a, ws, rfl, hq, rp⟩ := rep_lstK r
      have hl := bindL_len hb
      rw [List.length_map] at hl
      refine .inr ⟨a, ws, rfl, SqL.of (st.same _ _ hq), by rw [← rp.1, hl, hn], names_ok is _ ws _ σ s s' F Q st (leafs_trs rp) hb fun σ' F' st' hF hσ => h σ' F' st' (fun b z => ?_) hσ⟩
      rcases hF b z with ⟨k, y⟩ | y
      · exact y.elim
      · exact .inr y
  · next ts =>
    cases ow with
    | @node _ a vs _ Fs ha hh hl hk hs hd =>
      have hl2 := bindL_len hb
      have tr : TrsR K G Φ H F ts vs Fs := ⟨hl, hk, hd, fun k => ⟨fun b z => tm.unf b (hs k b z).1, fun b z => tm.live b (hs k b z).1, fun i b z y => tm.apart i b (hs k b z).1 y⟩⟩
      refine .inr ⟨a, vs, rfl, SqL.of hh, by rw [← hl, hl2, hn], names_ok is ts vs Fs σ s s' F Q st tr hb fun σ' F' st' hF hσ => h σ' F' st' (fun b z => ?_) hσ⟩
      rcases hF b z with ⟨k, y⟩ | y
      · exact .inl (hs k b y).1
      · exact .inr y
  · cases hb
theorem pg_or {tg : Expr} {g g' : TG} (h : PG X tg g) (h' : PG X tg g') : PG X tg fun v σ H Q => g v σ H Q ∨ g' v σ H Q := ⟨fun pins s σ H v u Q I r q => q.elim (h.run pins s σ H v u Q I r) (h'.run pins s σ H v u Q I r)⟩
/-- may the name be stored here -/
def StoreOk (X : Cx) (x : Str) (i : Nat) : Prop := X.N[i]? = some x ∧ Loc X.env.scope x ∧ (X.fn x = true ∨ X.env.scope.names.lookup x = some .local)
theorem pg_nameS {i : Nat} {x : Str} {pos : Pos} (hN : X.N.Nodup) (h : StoreOk X x i) : PG X (.Name x pos) (gName i) := pg_name hN h.1 h.2.1 h.2.2
inductive NamesOk (X : Cx) : List Expr → List Nat → Prop
  | nil : NamesOk X [] []
  | cons {x : Str} {p : Pos} {i : Nat} {es : List Expr} {is : List Nat} (h : StoreOk X x i) (r : NamesOk X es is) : NamesOk X (.Name x p :: es) (i :: is)
theorem pgs_names (hN : X.N.Nodup) : ∀ {es : List Expr} {is : List Nat}, NamesOk X es is → PGs X es (gNames is)
  | _, _, .nil => pgs_nil
  | _, _, .cons h r => pgs_cons (pg_nameS hN h) (pgs_names hN r) rfl
theorem names_each : ∀ {es : List Expr} {is : List Nat}, NamesOk X es is → (assignEach es X.env).length = is.length ∧ (assignEach es X.env).findIdx? (·.1) = none
  | _, _, .nil => ⟨rfl, rfl⟩
  | _, _, .cons (x := x) (p := p) (es := es) h r => by
    obtain ⟨h1, h2⟩ := names_each r
    have e : assignEach (.Name x p :: es) X.env = (false, assign (.Name x p) X.env) :: assignEach es X.env := rfl
    rw [e, List.length_cons, List.length_cons, h1, List.findIdx?_cons, h2]
    exact ⟨rfl, rfl⟩
theorem pg_tupS {es : List Expr} {is : List Nat} {k : Nat} {pos : Pos} (hc : X.calm = true) (hN : X.N.Nodup) (h : NamesOk X es is) : PG X (.Tuple es k pos) (fun v σ H Q => gTup X.K is.length (gNames is) v σ H Q ∨ gUnl X.K is.length (gNames is) v σ H Q) :=
  pg_or (pg_tup hc (pgs_names hN h) (names_each h).1 (names_each h).2) (pg_unl hc (pgs_names hN h) (names_each h).1 (names_each h).2)
end
end VS
/-! VSi: comprehensions. -/
namespace VS
open PySem PySem.Spec PyProof.Rows L2

/-! ### slots forgotten, slots put back -/
def wipeS (s : Sl) : List Nat → Sl
  | [] => s
  | v :: vs => (wipeS s vs).set v .un
def restS (s1 s2 : Sl) : List Nat → Sl
  | [] => s2
  | v :: vs => match s1[v]? with
    | some x => (restS s1 s2 vs).set v x
    | none => restS s1 s2 vs
theorem wipeS_length (s : Sl) : ∀ vs : List Nat, (wipeS s vs).length = s.length
  | [] => rfl
  | v :: vs => by unfold wipeS; rw [List.length_set, wipeS_length s vs]
theorem restS_length (s1 s2 : Sl) : ∀ vs : List Nat, (restS s1 s2 vs).length = s2.length
  | [] => rfl
  | v :: vs => by
    unfold restS
    split
    · rw [List.length_set, restS_length s1 s2 vs]
    · exact restS_length s1 s2 vs
theorem wipeS_at {s : Sl} {i : Nat} {t : T} : ∀ {vs : List Nat}, treeAt (wipeS s vs) i = some t → treeAt s i = some t ∧ i ∉ vs
  | [], h => ⟨h, by simp⟩
  | v :: vs, h => by
    unfold wipeS at h
    rw [treeAt_set] at h
    by_cases hv : v = i ∧ i < (wipeS s vs).length
    · rw [if_pos hv] at h
      cases h
    · rw [if_neg hv] at h
      obtain ⟨h1, h2⟩ := wipeS_at h
      refine ⟨h1, fun z => ?_⟩
      rcases List.mem_cons.mp z with z | z
      · exact hv ⟨z.symm, by rw [wipeS_length]; exact treeAt_lt h1⟩
      · exact h2 z
theorem restS_at {s1 s2 : Sl} {i : Nat} {t : T} (hl : s1.length = s2.length) : ∀ {vs : List Nat}, treeAt (restS s1 s2 vs) i = some t → (i ∈ vs ∧ treeAt s1 i = some t) ∨ (i ∉ vs ∧ treeAt s2 i = some t)
  | [], h => .inr ⟨by simp, h⟩
  | v :: vs, h => by
    unfold restS at h
    cases q : s1[v]? with
    | none =>
      rw [q] at h
      rcases restS_at hl h with ⟨a, b⟩ | ⟨a, b⟩
      · exact .inl ⟨List.mem_cons_of_mem _ a, b⟩
      · refine .inr ⟨fun z => ?_, b⟩
        rcases List.mem_cons.mp z with z | z
        · subst z
          have := treeAt_lt b
          rw [← hl] at this
          rw [List.getElem?_eq_getElem this] at q
          cases q
        · exact a z
    | some x =>
      rw [q] at h
      dsimp only at h
      rw [treeAt_set] at h
      by_cases hv : v = i ∧ i < (restS s1 s2 vs).length
      · rw [if_pos hv] at h
        refine .inl ⟨by rw [hv.1]; exact List.mem_cons_self, ?_⟩
        unfold treeAt
        rw [← hv.1, q]
        cases x <;> exact h
      · rw [if_neg hv] at h
        rcases restS_at hl h with ⟨a, b⟩ | ⟨a, b⟩
        · exact .inl ⟨List.mem_cons_of_mem _ a, b⟩
        · refine .inr ⟨fun z => ?_, b⟩
          rcases List.mem_cons.mp z with z | z
          · exact hv ⟨z.symm, by rw [restS_length]; exact treeAt_lt b⟩
          · exact a z
section
variable {K : PySem.W.Frag} {G : GEnv} {W : WX} {Φ H Φ1 H1 : Hp} {σ : L2.St} {s s1 : Sl} {F : Nat → Addr → Prop} {E E1 : Addr → Prop} {vs : List Nat}
theorem StR.wipe (r : StR K G Φ H σ s F) : StR K G Φ H (L2.wipe σ vs) (wipeS s vs) (fun i b => i ∉ vs ∧ F i b) := by
  refine ⟨r.same, fun i t h => ?_, fun i j b hij h1 h2 => r.dis i j b hij h1.2 h2.2, fun i b h => r.unf i b h.2, fun i b h => r.live i b h.2, by rw [wipeS_length, wipe_length]; exact r.len⟩
  obtain ⟨h1, h2⟩ := wipeS_at h
  obtain ⟨v, h3, h4⟩ := r.slot i t h1
  exact ⟨v, by rw [wipe_out h2]; exact h3, h4.wide fun b z => ⟨h2, z⟩⟩
theorem wipe_eq {σ2 : L2.St} (hl : σ2.length = σ.length) (h : ∀ j, j ∉ vs → σ2[j]? = (L2.wipe σ vs)[j]?) : L2.wipe σ2 vs = L2.wipe σ vs := by
  refine List.ext_getElem? fun j => ?_
  by_cases hj : j ∈ vs
  · have none_at : ∀ (σ : L2.St), j < σ.length → (L2.wipe σ vs)[j]? = some none := fun σ hl => by
      cases q : (L2.wipe σ vs)[j]? with
      | none =>
        rw [List.getElem?_eq_none_iff, wipe_length] at q
        omega
      | some o =>
        cases o with
        | none => rfl
        | some x => exact absurd hj (wipe_some q).2
    by_cases hl2 : j < σ.length
    · rw [none_at σ2 (by rw [hl]; exact hl2), none_at σ hl2]
    · rw [List.getElem?_eq_none (by rw [wipe_length]; omega), List.getElem?_eq_none (by rw [wipe_length]; omega)]
  · rw [wipe_out hj, h j hj]
/-- a step of an iterator -/
theorem StR.yld (r : StR K G Φ H σ s F) (e : Same Φ Φ1) (e1 : Same H H1) (e2 : Same Φ1 H1) (fz : ∀ b o, Φ1 b = some o → Φ b = some o ∨ H b = none) : StR K G Φ1 H1 σ s F :=
  ⟨e2, fun i t h => (r.slot i t h).imp fun v q => ⟨q.1, q.2.mono e (fun b x _ h => e1 b x h) fun _ h => h⟩, r.dis, (fun i b h => by
    cases q : Φ1 b with
    | none => rfl
    | some o =>
      rcases fz b o q with z | z
      · rw [r.unf i b h] at z; cases z
      · obtain ⟨x, hx⟩ := r.live i b h
        rw [hx] at z
        cases z), fun i b h => (r.live i b h).imp fun o q => e1 b o q, r.len⟩
theorem Frm.yld {L : Addr → Prop} (e : Same Φ Φ1) (e1 : Same H H1) (fz : ∀ b o, Φ1 b = some o → Φ b = some o ∨ H b = none) : Frm Φ H L Φ1 H1 L :=
  ⟨e, fun b o h _ => e1 b o h, fun b h => .inl h, fun b o h => (fz b o h).imp id .inr⟩
theorem TmpR.live_ne (t : TmpR Φ H F E) {a b : Addr} (h : H a = none) (hb : E b) : b ≠ a := fun e => by
  obtain ⟨o, ho⟩ := t.live b hb
  rw [e, h] at ho
  cases ho
/-- what is new behind a step is apart from a temporary ahead of it -/
theorem TmpR.sep (t : TmpR Φ H F E) (f : Frm Φ H (Ft F) Φ1 H1 E1) : ∀ b, E b → ¬ E1 b := fun b h z => by
  rcases f.foot b z with ⟨i, y⟩ | y
  · exact t.apart i b h y
  · obtain ⟨o, ho⟩ := t.live b h
    rw [y] at ho
    cases ho
/-- an item behind an owned list -/
theorem Own.push {ts : List T} {a : Addr} {xs : List V} {t : T} {v : V} (o : Own K G Φ H (.node ts) (.ref a) E) (h : H a = some (.lst xs)) (ow : Own K G Φ H t v E1) (dj : ∀ b, E b → ¬ E1 b) (ae : E a) :
    Own K G Φ (upd H a (.lst (xs ++ [v]))) (.node (ts ++ [t])) (.ref a) (fun b => E b ∨ E1 b) := by
  cases o with
  | @node _ _ vs _ Fs ha h' hl hk hs hd =>
    rw [h] at h'
    cases h'
    have up : ∀ b x, b ≠ a → H b = some x → upd H a (.lst (xs ++ [v])) b = some x := fun b x hb e => by rw [upd_ne hb]; exact e
    refine .node (fun k => if k < ts.length then Fs k else if k = ts.length then E1 else no) (.inl ae) upd_same (by rw [List.length_append, List.length_append, hl]; rfl) (fun k u w h1 h2 => ?_) (fun k b hb => ?_) fun j k b hjk h1 h2 => ?_
    · by_cases hlt : k < ts.length
      · rw [if_pos hlt]
        rw [List.getElem?_append_left hlt] at h1
        rw [List.getElem?_append_left (by rw [← hl]; exact hlt)] at h2
        exact (hk k u w h1 h2).mono (Same.refl Φ) (fun b x hb e => up b x (hs k b hb).2 e) fun _ z => z
      · rw [if_neg hlt]
        have hke : k = ts.length := by
          have := (List.getElem?_eq_some_iff.mp h1).1
          rw [List.length_append, List.length_singleton] at this
          omega
        rw [if_pos hke]
        subst hke
        rw [List.getElem?_append_right (Nat.le_refl _), Nat.sub_self] at h1
        rw [List.getElem?_append_right (by rw [hl]; exact Nat.le_refl _), hl, Nat.sub_self] at h2
        cases h1
        cases h2
        exact ow.mono (Same.refl Φ) (fun b x hb e => up b x (fun z => dj b (by rw [z]; exact ae) hb) e) fun _ z => z
    · by_cases hlt : k < ts.length
      · rw [if_pos hlt] at hb
        exact ⟨.inl (hs k b hb).1, (hs k b hb).2⟩
      · rw [if_neg hlt] at hb
        split at hb
        · exact ⟨.inr hb, fun z => dj b (by rw [z]; exact ae) hb⟩
        · exact hb.elim
    · have key : ∀ j k b, j ≠ k → j < ts.length → Fs j b → (if k < ts.length then Fs k else if k = ts.length then E1 else no) b → False := fun j k b hjk hj h1 h2 => by
        by_cases hlt : k < ts.length
        · rw [if_pos hlt] at h2
          exact hd j k b hjk h1 h2
        · rw [if_neg hlt] at h2
          split at h2
          · exact dj b (hs j b h1).1 h2
          · exact h2.elim
      by_cases hlt : j < ts.length
      · rw [if_pos hlt] at h1
        exact key j k b hjk hlt h1 h2
      · rw [if_neg hlt] at h1
        by_cases hlk : k < ts.length
        · rw [if_pos hlk] at h2
          refine key k j b (Ne.symm hjk) hlk h2 ?_
          rw [if_neg hlt]
          exact h1
        · rw [if_neg hlk] at h2
          split at h1
          · split at h2
            · omega
            · exact h2.elim
          · exact h1.elim
/-- an address that no slot owns is written -/
theorem StR.write (r : StR K G Φ H σ s F) {a : Addr} {o : HO} (ha : Φ a = none) (hn : ∀ i, ¬ F i a) : StR K G Φ (upd H a o) σ s F := by
  have up : ∀ b x, b ≠ a → H b = some x → upd H a o b = some x := fun b x hb e => by rw [upd_ne hb]; exact e
  refine ⟨fun b x h => up b x (fun z => by rw [z, ha] at h; cases h) (r.same b x h), fun i t h => (r.slot i t h).imp fun v q => ⟨q.1, q.2.mono (Same.refl Φ) (fun b x hb e => up b x (fun z => hn i (by rw [← z]; exact hb)) e) fun _ z => z⟩, r.dis, r.unf, fun i b h => ?_, r.len⟩
  obtain ⟨x, hx⟩ := r.live i b h
  exact ⟨x, up b x (fun z => hn i (by rw [← z]; exact h)) hx⟩
end
/-- errors do not leave a block -/
def WF : WX := fun _ _ _ _ => False
def Walked.free (w : Walked) (vs : List Nat) : Bool := w.src.all fun p => !vs.contains p.1
def compL (src : Src) (pat : Pat) (tst : Sl → Out Bool) (elt : Sl → Out Op) (vs : List Nat) : List D → List T → Sl → Out (List T)
  | [], acc, s => if srcB src s = true then .ok acc s else .bad
  | d :: ds, acc, s => if srcB src s = true ∧ acc.length < sizeLine then match bindP pat (.leaf d) s with
      | some s1 => match tst s1 with
        | .ok true s2 => match elt s2 with
          | .ok o s3 => match settle1 s3 o with
            | some (t, s4) => compL src pat tst elt vs ds (acc ++ [t]) (wipeS s4 vs)
            | none => .bad
          | _ => .bad
        | .ok false s2 => compL src pat tst elt vs ds acc (wipeS s2 vs)
        | _ => .bad
      | none => .bad
    else .bad
def evLC (w : Sl → Out Walked) (pat : Pat) (tst : Sl → Out Bool) (elt : Sl → Out Op) (vs : List Nat) : Sl → Out Op := fun s => match w s with
  | .ok wk s1 => if wk.free vs = true then match compL wk.src pat tst elt vs wk.ds [] (wipeS s1 vs) with
      | .ok acc s2 => .ok (.vl (.node acc)) (restS s1 s2 vs)
      | _ => .bad
    else .bad
  | .er x s1 => .er x s1
  | .bad => .bad
section
variable {X : Cx} {K : PySem.W.Frag} {G : GEnv} {W : WX} {Φ H Φ1 H1 : Hp} {σ : L2.St} {s s1 : Sl} {F F1 : Nat → Addr → Prop} {pat : Pat} {tst : Sl → Out Bool} {elt : Sl → Out Op} {vs : List Nat} {g : TG} {J : It} {ds : List D} {src : Src}
/-- the loop's invariant -/
def CInv (K : PySem.W.Frag) (G : GEnv) (Φ1 H1 : Hp) (L : Addr → Prop) (σw : L2.St) (D : Addr) (acc : List T) (s : Sl) (Φ H : Hp) (F : Nat → Addr → Prop) (E : Addr → Prop) : Prop :=
  StR K G Φ H σw s F ∧ Own K G Φ H (.node acc) (.ref D) E ∧ TmpR Φ H F E ∧ E D ∧ Frm Φ1 H1 L Φ H (fun b => E b ∨ Ft F b)
def CPost (K : PySem.W.Frag) (G : GEnv) (Φ1 H1 : Hp) (L : Addr → Prop) (σw : L2.St) (D : Addr) (R : Hp → Prop) : Out (List T) → Prop
  | .ok acc s => ∀ Φ H F E, CInv K G Φ1 H1 L σw D acc s Φ H F E → R H
  | _ => False
theorem own_list {ts : List T} {a : Addr} {E : Addr → Prop} (o : Own K G Φ H (.node ts) (.ref a) E) : ∃ xs, H a = some (.lst xs) ∧ ts.length = xs.length := by
  cases o with
  | node Fs ha h hl hk hs hd => exact ⟨_, h, hl⟩
theorem comp_turn {D : Addr} {L : Addr → Prop} {R : Hp → Prop} (hp : PatOk K G g pat) (hpv : ∀ j ∈ pat.slots, j ∈ vs) (hw : WalkOk K G Φ1 σ J ds src) (hf : ∀ p ∈ src, p.1 ∉ vs) (ph : Same Φ1 Φ1) (k : Nat) (hk : k ≤ ds.length) (acc : List T) {E : Addr → Prop} (ci : CInv K G Φ1 H1 L (L2.wipe σ vs) D acc s Φ H F E)
    (p : CPost K G Φ1 H1 L (L2.wipe σ vs) D R (compL src pat tst elt vs (ds.drop k) acc s)) :
    (J.stop k H ∧ R H) ∨ (k < ds.length ∧ J.go k H ∧ ∀ x H', J.yld k H x H' → g x (L2.wipe σ vs) H' fun σ2 H2 => L2.wipe σ2 vs = L2.wipe σ vs ∧ tT K G WF tst σ2 H2 fun b H3 =>
      if b = true then tO K G WF elt σ2 H3 fun y H4 => ∃ xs, H4 D = some (.lst xs) ∧ xs.length < sizeLine ∧ ∃ acc' s' Φ' F' E', CInv K G Φ1 H1 L (L2.wipe σ vs) D acc' s' Φ' (upd H4 D (.lst (xs ++ [y]))) F' E' ∧ CPost K G Φ1 H1 L (L2.wipe σ vs) D R (compL src pat tst elt vs (ds.drop (k + 1)) acc' s')
      else ∃ acc' s' Φ' F' E', CInv K G Φ1 H1 L (L2.wipe σ vs) D acc' s' Φ' H3 F' E' ∧ CPost K G Φ1 H1 L (L2.wipe σ vs) D R (compL src pat tst elt vs (ds.drop (k + 1)) acc' s')) := by
  have so : ∀ {s}, srcB src s = true → SrcOk src s (L2.wipe σ vs) σ := fun h p hp => ⟨srcB_ok h p hp, wipe_out (hf p hp)⟩
  obtain ⟨st, ow, tm, hD, fr⟩ := ci
  by_cases hlt : k < ds.length
  · refine .inr ⟨hlt, ?_⟩
    have hdk : ds[k]? = some ds[k] := List.getElem?_eq_getElem hlt
    rw [List.drop_eq_getElem_cons hlt] at p
    unfold compL at p
    split at p
    · next hs =>
      refine ⟨hw.go k Φ H _ s F hlt fr.phi st (so hs.1), fun x H' y => ?_⟩
      obtain ⟨Φ', e1, e2, e3, fz, rp⟩ := hw.yld k Φ H _ s F x H' _ hdk fr.phi st (so hs.1) y
      have st' := st.yld e1 e2 e3 fz
      have fy : Frm Φ H (Ft F) Φ' H' (Ft F) := Frm.yld e1 e2 fz
      have tm' : TmpR Φ' H' F E := tm.step fy fun i b h => ⟨i, h⟩
      have ow' := ow.step tm fy
      cases hb : bindP pat (.leaf ds[k]) s with
      | none => rw [hb] at p; exact p.elim
      | some s1 =>
        rw [hb] at p
        dsimp only at p
        refine hp x _ H' _ Φ' s F _ s1 no st' (.leaf rp) TmpR.no hb fun σ2 F2 st2 hF2 hσ2 => ?_
        have ft2 : ∀ b, Ft F2 b → Ft F b := fun b h => (hF2 b h).elim (fun z => z.elim) id
        have hwipe : L2.wipe σ2 vs = L2.wipe σ vs := by
          refine wipe_eq ?_ fun j hj => hσ2 j fun z => hj (hpv j z)
          have a := st2.len
          have b := st'.len
          rw [wipe_length] at b
          rw [← a, ← b]
          cases pat with
          | nm i =>
            simp only [bindP] at hb
            split at hb
            · cases hb; rw [List.length_set]
            · cases hb
          | tp is =>
            have hbl : ∀ (is : List Nat) (ts : List T) (s s1 : Sl), bindL s is ts = some s1 → s1.length = s.length := by
              intro is
              induction is with
              | nil => intro ts s s1 h; cases ts with
                | nil => cases h; rfl
                | cons t ts => cases h
              | cons i is ih =>
                intro ts s s1 h
                cases ts with
                | nil => cases h
                | cons t ts =>
                  simp only [bindL] at h
                  split at h
                  · rw [ih _ _ _ h, List.length_set]
                  · cases h
            simp only [bindP] at hb
            split at hb
            · exact hbl _ _ _ _ hb
            · exact hbl _ _ _ _ hb
            · exact hbl _ _ _ _ hb
            · cases hb
        refine ⟨hwipe, Φ', s1, F2, st2, ?_⟩
        have tm2 : TmpR Φ' H' F2 E := ⟨tm'.unf, tm'.live, fun i b h1 h2 => by
          obtain ⟨j, hj⟩ := ft2 b ⟨i, h2⟩
          exact tm'.apart j b h1 hj⟩
        have fr2 : Frm Φ1 H1 L Φ' H' (fun b => E b ∨ Ft F2 b) := (fr.trans (Frm.more (E := E) fy)).less fun b h => h.imp id (ft2 b)
        cases ht : tst s1 with
        | bad => rw [ht] at p; exact p.elim
        | er x s2 => rw [ht] at p; exact p.elim
        | ok b s2 =>
          rw [ht] at p
          intro H3 Φ3 F3 st3 fr3
          have tm3 : TmpR Φ3 H3 F3 E := tm2.step fr3 fun i b h => ⟨i, h⟩
          have ow3 := ow'.step tm2 fr3
          have fr4 : Frm Φ1 H1 L Φ3 H3 (fun b => E b ∨ Ft F3 b) := fr2.trans fr3.more
          cases b with
          | false =>
            rw [if_neg Bool.false_ne_true]
            refine ⟨acc, _, Φ3, _, E, ⟨hwipe ▸ st3.wipe (vs := vs), ow3, ⟨tm3.unf, tm3.live, fun i b h1 h2 => tm3.apart i b h1 h2.2⟩, hD, fr4.less fun b h => h.imp id fun ⟨i, z⟩ => ⟨i, z.2⟩⟩, p⟩
          | true =>
            rw [if_pos rfl]
            refine ⟨Φ3, s2, F3, st3, ?_⟩
            dsimp only at p
            cases he : elt s2 with
            | bad => rw [he] at p; exact p.elim
            | er x s2 => rw [he] at p; exact p.elim
            | ok o s3 =>
              rw [he] at p
              dsimp only at p
              cases hse : settle1 s3 o with
              | none => rw [hse] at p; exact p.elim
              | some z =>
                obtain ⟨t, s4⟩ := z
                rw [hse] at p
                dsimp only at p
                -- behind the item
                have rest : ∀ (v : V) (H4 Φ4 : Hp) (F4 : Nat → Addr → Prop) (E4 : Addr → Prop), StR K G Φ4 H4 σ2 s3 F4 → (∀ t, o = .vl t → Own K G Φ4 H4 t v E4) → (∀ i, o = .rt i → σ2[i]? = some (some v)) → TmpR Φ4 H4 F4 E4 → Frm Φ3 H3 (Ft F3) Φ4 H4 (fun b => E4 b ∨ Ft F4 b) →
                    ∃ xs, H4 D = some (.lst xs) ∧ xs.length < sizeLine ∧ ∃ acc' s' Φ' F' E', CInv K G Φ1 H1 L (L2.wipe σ vs) D acc' s' Φ' (upd H4 D (.lst (xs ++ [v]))) F' E' ∧ CPost K G Φ1 H1 L (L2.wipe σ vs) D R (compL src pat tst elt vs (ds.drop (k + 1)) acc' s') := by
                  intro v H4 Φ4 F4 E4 st4 hv hr tm4 f4
                  have tmA : TmpR Φ4 H4 F4 E := tm3.step f4 fun i b h => .inr ⟨i, h⟩
                  have owA := ow3.step tm3 f4
                  have dj4 : ∀ b, E b → ¬ E4 b := fun b h z => tm3.sep f4 b h (.inl z)
                  obtain ⟨Φ5, F5, E5, st5, ow5, tm5, f5, e5, sub5, fz5⟩ := settle1_ok st4 tm4 hv hr hse
                  have tmB : TmpR Φ5 H4 F5 E := ⟨(fun b h => by
                    cases q : Φ5 b with
                    | none => rfl
                    | some o =>
                      rcases fz5 b o q with z | ⟨i, z⟩
                      · rw [tmA.unf b h] at z; cases z
                      · exact (tmA.apart i b h z).elim), tmA.live, fun i b h z => tmA.apart i b h (sub5 i b z)⟩
                  have owB : Own K G Φ5 H4 (.node acc) (.ref D) E := owA.mono f5.phi (fun _ _ _ h => h) fun _ h => h
                  have dj5 : ∀ b, E b → ¬ E5 b := fun b h z => dj4 b h (e5 b z)
                  obtain ⟨xs, hxs, hlen⟩ := own_list owB
                  refine ⟨xs, hxs, by rw [← hlen]; exact hs.2, acc ++ [t], _, Φ5, _, fun b => E b ∨ E5 b, ⟨hwipe ▸ (st5.write (tmB.unf D hD) (fun i z => tmB.apart i D hD z)).wipe (vs := vs), owB.push hxs ow5 dj5 hD, ⟨fun b h => ?_, fun b h => ?_, fun i b h1 h2 => ?_⟩, .inl hD, ?_⟩, p⟩
                  · exact h.elim (tmB.unf b) (tm5.unf b)
                  · by_cases hb : b = D
                    · subst hb; exact ⟨_, upd_same⟩
                    · rw [upd_ne hb]
                      exact h.elim (tmB.live b) (tm5.live b)
                  · exact h1.elim (fun z => tmB.apart i b z h2.2) fun z => tm5.apart i b z h2.2
                  · have f6 : Frm Φ1 H1 L Φ5 H4 (fun b => E b ∨ (E5 b ∨ Ft F5 b)) := (fr4.trans f4.more).trans (f5.more (E := E))
                    refine (f6.trans (Frm.mk (Same.refl Φ5) (fun b o h hb => ?_) (fun b h => .inl h) fun b o h => .inl h)).less fun b h => ?_
                    · rw [upd_ne fun z => hb (.inl (by rw [z]; exact hD))]
                      exact h
                    · rcases h with (h | h) | ⟨i, h⟩
                      · exact .inl h
                      · exact .inr (.inl h)
                      · exact .inr (.inr ⟨i, h.2⟩)
                cases o with
                | vl u => exact fun v H4 Φ4 F4 E4 st4 ow4 tm4 f4 => rest v H4 Φ4 F4 E4 st4 (fun t e => by cases e; exact ow4) (fun i e => by cases e) tm4 f4
                | rt i => exact fun v H4 Φ4 F4 st4 hv f4 => rest v H4 Φ4 F4 no st4 (fun t e => by cases e) (fun j e => by cases e; exact hv) TmpR.no (f4.less fun b h => h.elim (fun z => z.elim) id)
    · exact p.elim
  · have hke : k = ds.length := Nat.le_antisymm hk (Nat.le_of_not_lt hlt)
    subst hke
    rw [List.drop_length] at p
    unfold compL at p
    split at p
    · next hs => exact .inl ⟨hw.stop Φ H _ s F fr.phi st (so hs), p Φ H F E ⟨st, ow, tm, hD, fr⟩⟩
    · exact p.elim
/-- the outer slots put back behind the block -/
theorem StR.rest (r : StR K G Φ H σ s F) {Φ' H' : Hp} {s2 : Sl} {F2 : Nat → Addr → Prop} {E : Addr → Prop} (st : StR K G Φ' H' (L2.wipe σ vs) s2 F2) (tm : TmpR Φ' H' F2 E) (fr : Frm Φ H (Ft fun i b => i ∉ vs ∧ F i b) Φ' H' (fun b => E b ∨ Ft F2 b)) :
    ∃ F', StR K G Φ' H' σ (restS s s2 vs) F' ∧ TmpR Φ' H' F' E ∧ Frm Φ H (Ft F) Φ' H' (fun b => E b ∨ Ft F' b) := by
  have t0 : TmpR Φ H (fun i b => i ∉ vs ∧ F i b) (fun b => ∃ i, i ∈ vs ∧ F i b) := ⟨fun b ⟨i, _, h⟩ => r.unf i b h, fun b ⟨i, _, h⟩ => r.live i b h, fun j b ⟨i, hi, h⟩ ⟨hj, z⟩ => r.dis i j b (fun e => hj (by rw [← e]; exact hi)) h z⟩
  have t1 : TmpR Φ' H' F2 (fun b => ∃ i, i ∈ vs ∧ F i b) := t0.step fr fun i b h => .inr ⟨i, h⟩
  have sep := t0.sep fr
  refine ⟨fun i b => (i ∈ vs ∧ F i b) ∨ (i ∉ vs ∧ F2 i b), ⟨st.same, fun i t h => ?_, fun i j b hij h1 h2 => ?_, fun i b h => ?_, fun i b h => ?_, by rw [restS_length, st.len, wipe_length]⟩, ⟨tm.unf, tm.live, fun i b h1 h2 => ?_⟩, ⟨fr.phi, fun b o h hb => fr.keep b o h fun ⟨i, z⟩ => hb ⟨i, z.2⟩, fun b h => ?_, fun b o h => (fr.froz b o h).imp id (Or.imp (fun ⟨i, z⟩ => ⟨i, z.2⟩) id)⟩⟩
  · rcases restS_at (by rw [r.len, st.len, wipe_length]) h with ⟨h1, h2⟩ | ⟨h1, h2⟩
    · obtain ⟨v, h3, h4⟩ := r.slot i t h2
      have h5 : Own K G Φ H t v (fun b => ∃ i, i ∈ vs ∧ F i b) := h4.wide fun b z => ⟨i, h1, z⟩
      refine ⟨v, h3, ?_⟩
      refine h4.mono fr.phi (fun b x hb e => fr.keep b x e fun ⟨j, z⟩ => t0.apart j b ⟨i, h1, hb⟩ z) fun b z => .inl ⟨h1, z⟩
    · obtain ⟨v, h3, h4⟩ := st.slot i t h2
      exact ⟨v, by rw [← wipe_out h1]; exact h3, h4.wide fun b z => .inr ⟨h1, z⟩⟩
  · rcases h1 with ⟨a, h1⟩ | ⟨a, h1⟩
    · rcases h2 with ⟨c, h2⟩ | ⟨c, h2⟩
      · exact r.dis i j b hij h1 h2
      · exact sep b ⟨i, a, h1⟩ (.inr ⟨j, h2⟩)
    · rcases h2 with ⟨c, h2⟩ | ⟨c, h2⟩
      · exact sep b ⟨j, c, h2⟩ (.inr ⟨i, h1⟩)
      · exact st.dis i j b hij h1 h2
  · rcases h with ⟨a, h⟩ | ⟨a, h⟩
    · exact t1.unf b ⟨i, a, h⟩
    · exact st.unf i b h
  · rcases h with ⟨a, h⟩ | ⟨a, h⟩
    · exact t1.live b ⟨i, a, h⟩
    · exact st.live i b h
  · rcases h2 with ⟨a, h⟩ | ⟨a, h⟩
    · exact sep b ⟨i, a, h⟩ (.inl h1)
    · exact tm.apart i b h1 h
  · rcases h with h | ⟨i, ⟨a, h⟩ | ⟨a, h⟩⟩
    · exact (fr.foot b (.inl h)).imp (fun ⟨i, z⟩ => ⟨i, z.2⟩) id
    · exact .inl ⟨i, h⟩
    · exact (fr.foot b (.inr ⟨i, h⟩)).imp (fun ⟨i, z⟩ => ⟨i, z.2⟩) id
theorem lc_ok {w : Sl → Out Walked} {Q : VK} (hp : PatOk K G g pat) (hpv : ∀ j ∈ pat.slots, j ∈ vs) (h : tO K G W (evLC w pat tst elt vs) σ H Q) : tLc (tI K G W w) g (tT K G WF tst) (tO K G WF elt) vs σ H Q := by
  obtain ⟨Φ, s, F, st, p⟩ := h
  refine ⟨Φ, s, F, st, ?_⟩
  unfold evLC at p
  cases q : w s with
  | bad => rw [q] at p; exact p
  | er x s1 => rw [q] at p; exact p
  | ok wk s1 =>
    rw [q] at p
    dsimp only at p ⊢
    intro J H1 Φ1 F1 st1 fr1 hsrc hw
    split at p
    · next hfree =>
      have hf : ∀ p ∈ wk.src, p.1 ∉ vs := fun p hp z => by
        have := List.all_eq_true.mp hfree p hp
        rw [Bool.not_eq_true', List.contains_eq_mem, decide_eq_false_iff_not] at this
        exact this z
      have stw := st1.wipe (vs := vs)
      intro D hD
      -- what is wanted at the end
      have cp : CPost K G Φ1 H1 (Ft fun i b => i ∉ vs ∧ F1 i b) (L2.wipe σ vs) D (Q (.ref D)) (compL wk.src pat tst elt vs (wk.ds.drop 0) [] (wipeS s1 vs)) := by
        rw [List.drop_zero]
        cases q2 : compL wk.src pat tst elt vs wk.ds [] (wipeS s1 vs) with
        | bad => rw [q2] at p; exact p.elim
        | er x s2 => rw [q2] at p; exact p.elim
        | ok acc s2 =>
          rw [q2] at p
          intro Φ2 H2 F2 E2 ⟨st2, ow2, tm2, hD2, fr2⟩
          obtain ⟨F', st', tm', fr'⟩ := st1.rest st2 tm2 fr2
          exact p (.ref D) H2 Φ2 F' E2 st' ow2 tm' (fr1.trans fr')
      refine ⟨fun i m H => i ≤ wk.ds.length ∧ m = wk.ds.length - i ∧ ∃ acc s Φ F E, CInv K G Φ1 H1 (Ft fun i b => i ∉ vs ∧ F1 i b) (L2.wipe σ vs) D acc s Φ H F E ∧ CPost K G Φ1 H1 (Ft fun i b => i ∉ vs ∧ F1 i b) (L2.wipe σ vs) D (Q (.ref D)) (compL wk.src pat tst elt vs (wk.ds.drop i) acc s),
        ⟨wk.ds.length, Nat.zero_le _, rfl, [], wipeS s1 vs, Φ1, _, fun b => b = D, ⟨stw.grow (new_same hD), .node (fun _ => no) rfl upd_same rfl (fun k t v h _ => by simp at h) (fun k b z => z.elim) fun j k b _ z => z.elim, ⟨fun b h => by rw [h]; exact st1.same.free hD, fun b h => ⟨.lst [], by rw [h]; exact upd_same⟩, fun i b h z => ?_⟩, rfl, ?_⟩, cp⟩, ?_⟩
      · obtain ⟨o, ho⟩ := stw.live i b z
        rw [h, hD] at ho
        cases ho
      · refine ⟨Same.refl _, fun b o h _ => new_same hD b o h, fun b h => ?_, fun b o h => .inl h⟩
        rcases h with h | h
        · exact .inr (by rw [h]; exact hD)
        · exact .inl h
      · intro i m H ⟨hi, hm, acc, s, Φ, F, E, ci, cp⟩
        rcases comp_turn hp hpv hw hf (Same.refl _) i hi acc ci cp with ⟨h1, h2⟩ | ⟨hlt, h1, h2⟩
        · exact .inl ⟨h1, h2⟩
        · exact .inr ⟨h1, _, fun H' z => ⟨wk.ds.length - (i + 1), by omega, hlt, rfl, z⟩, h2⟩
    · exact p.elim
theorem pts_imp {ifs : List Expr} {t t' : TT} (h : PTs X ifs t) (i : ∀ σ H Q, t' σ H Q → t σ H Q) : PTs X ifs t' := ⟨fun pins s σ H Q I q => h.run pins s σ H Q I (i σ H Q q)⟩
def evYes : Sl → Out Bool := fun s => .ok true s
theorem vts_nil : PTs X [] (tT X.K G W evYes) := pts_imp pts_nil fun σ H Q ⟨Φ, s, F, st, p⟩ => p H Φ F st Frm.refl
theorem vts_one {c : Expr} {ev : Sl → Out Bool} (h : VT X G W c ev) : PTs X [c] (tT X.K G W ev) := pts_one h
abbrev VG (X : Cx) (G : GEnv) (tg : Expr) (pat : Pat) : Prop := ∃ g, PG X tg g ∧ PatOk X.K G g pat
theorem vo_lc {elt tg iter : Expr} {ifs : List Expr} {scope : Scope} {own : List (Str × Nat)} {pos : Pos} {w : Sl → Out Walked} {tst : Sl → Out Bool} {ev : Sl → Out Op} {g : TG} (hc : X.calm = true) (hN : X.N.Nodup) (hi : VI X G W tg iter w) (ok : BlkOk X.N X.env.scope scope own) (hp : PatOk X.K G g pat) (hpv : ∀ j ∈ pat.slots, j ∈ own.map (·.2))
    (hg : ∀ (s : Shared) (H : Hp) (C : Addr) (cl : List (Str × Addr)) (fp : List Addr), PG (X.blk s H scope (compEnvC scope cl C X.env) fp) tg g) (ht : ∀ (s : Shared) (H : Hp) (C : Addr) (cl : List (Str × Addr)) (fp : List Addr), PTs (X.blk s H scope (compEnvC scope cl C X.env) fp) ifs (tT X.K G WF tst))
    (he : ∀ (s : Shared) (H : Hp) (C : Addr) (cl : List (Str × Addr)) (fp : List Addr), VO (X.blk s H scope (compEnvC scope cl C X.env) fp) G WF elt ev) (hs : ∀ x, foldedSetIterable iter X.env x = pure x := by intro _; rfl) :
    VO X G W (.ListComp elt [⟨tg, iter, ifs, 0⟩] scope pos) (evLC w pat tst ev (own.map (·.2))) :=
  pe_imp (pe_lc hc hN hi ok hg ht he hs) fun σ H Q h => lc_ok hp hpv h
end
end VS
/-! VSj: statements. -/
namespace VS
open PySem PySem.Spec PyProof.Rows L2

inductive SO where
  | nx (s : Sl) | rt (t : T) (s : Sl) | er (x : D) (s : Sl) | bad
/-- the slots of fx stay as they are -/
def Agr (fx : List Nat) (σ σ1 : L2.St) : Prop := ∀ i ∈ fx, σ1[i]? = σ[i]?
theorem Agr.refl {fx : List Nat} {σ : L2.St} : Agr fx σ σ := fun _ _ => rfl
theorem Agr.trans {fx : List Nat} {σ σ1 σ2 : L2.St} (a : Agr fx σ σ1) (b : Agr fx σ1 σ2) : Agr fx σ σ2 := fun i h => (b i h).trans (a i h)
theorem Agr.sub {fx fy : List Nat} {σ σ1 : L2.St} (a : Agr fx σ σ1) (h : ∀ i ∈ fy, i ∈ fx) : Agr fy σ σ1 := fun i z => a i (h i z)

section
variable (K : PySem.W.Frag) (G : GEnv)
def postES (W : WX) (fx : List Nat) (Φ H : Hp) (σ : L2.St) (L : Addr → Prop) (x : D) (s : Sl) : Prop :=
  ∀ cls d σ' H' Φ' F', ExcR K G Φ' x cls d → StR K G Φ' H' σ' s F' → Agr fx σ σ' → Frm Φ H L Φ' H' (Ft F') → W cls d σ' H'
def postS (W : WX) (fx : List Nat) (D : Ends) (Φ H : Hp) (σ : L2.St) (L : Addr → Prop) : SO → Prop
  | .nx s => ∀ σ' H' Φ' F', StR K G Φ' H' σ' s F' → Agr fx σ σ' → Frm Φ H L Φ' H' (Ft F') → D.nx σ' H'
  | .rt t s => ∀ v σ' H' Φ' F' E, StR K G Φ' H' σ' s F' → Agr fx σ σ' → Own K G Φ' H' t v E → TmpR Φ' H' F' E → Frm Φ H L Φ' H' (fun b => E b ∨ Ft F' b) → D.rt v H'
  | .er x s => postES K G W fx Φ H σ L x s
  | .bad => False
def tS (W : WX) (fx : List Nat) (ev : Sl → SO) : TS := fun D σ H => ∃ Φ s F, StR K G Φ H σ s F ∧ postS K G W fx D Φ H σ (Ft F) (ev s)
end
abbrev VS1 (X : Cx) (G : GEnv) (W : WX) (fx : List Nat) (st : Stmt) (ev : Sl → SO) : Prop := PS X st (tS X.K G W fx ev)
abbrev VSs (X : Cx) (G : GEnv) (W : WX) (fx : List Nat) (sts : List Stmt) (ev : Sl → SO) : Prop := PSs X sts (tS X.K G W fx ev)
theorem ps_imp {X : Cx} {e : Stmt} {t t' : TS} (h : PS X e t) (i : ∀ D σ H, t' D σ H → t D σ H) : PS X e t' := ⟨fun pins s σ H D I q => h.run pins s σ H D I (i D σ H q)⟩
theorem pss_imp {X : Cx} {e : List Stmt} {t t' : TS} (h : PSs X e t) (i : ∀ D σ H, t' D σ H → t D σ H) : PSs X e t' := ⟨fun pins s σ H D I q => h.run pins s σ H D I (i D σ H q)⟩

/-! ### evaluators -/
def evNx : Sl → SO := fun s => .nx s
def evSeq (a b : Sl → SO) : Sl → SO := fun s => match a s with
  | .nx s1 => b s1
  | o => o
def evIfS (c : Sl → Out Bool) (a b : Sl → SO) : Sl → SO := fun s => match c s with
  | .ok true s1 => a s1
  | .ok false s1 => b s1
  | .er x s1 => .er x s1
  | .bad => .bad
def evDrop (f : Sl → Out Op) : Sl → SO := fun s => match f s with
  | .ok _ s1 => .nx s1
  | .er x s1 => .er x s1
  | .bad => .bad
/-- name or names = value -/
def evAsg (fx : List Nat) (pat : Pat) (f : Sl → Out Op) : Sl → SO := fun s => match f s with
  | .ok o s1 => match settle1 s1 o with
    | some (t, s2) => if pat.slots.any (fun i => fx.contains i) = true then .bad else match bindP pat t s2 with
      | some s3 => .nx s3
      | none => .bad
    | none => .bad
  | .er x s1 => .er x s1
  | .bad => .bad
/-- what is returned: an own slot's tree is moved -/
def moved (fx : List Nat) (s : Sl) : Op → Option (T × Sl)
  | .vl t => some (t, s)
  | .rt i => if fx.contains i = true then settle1 s (.rt i) else match treeAt s i with
    | some t => some (t, s.set i .un)
    | none => none
def evRet (fx : List Nat) (f : Sl → Out Op) : Sl → SO := fun s => match f s with
  | .ok o s1 => match moved fx s1 o with
    | some (t, s2) => .rt t s2
    | none => .bad
  | .er x s1 => .er x s1
  | .bad => .bad
def evRetN : Sl → SO := fun s => .rt (.leaf .non) s
def forL (src : Src) (pat : Pat) (body : Sl → SO) : List D → Sl → SO
  | [], s => if srcB src s = true then .nx s else .bad
  | d :: ds, s => if srcB src s = true then match bindP pat (.leaf d) s with
      | some s1 => match body s1 with
        | .nx s2 => forL src pat body ds s2
        | o => o
      | none => .bad
    else .bad
def evFor (fx : List Nat) (w : Sl → Out Walked) (pat : Pat) (body : List Nat → Sl → SO) : Sl → SO := fun s => match w s with
  | .ok wk s1 => if pat.slots.any (fun i => (wk.src.map (·.1) ++ fx).contains i) = true then .bad else forL wk.src pat (body (wk.src.map (·.1) ++ fx)) wk.ds s1
  | .er x s1 => .er x s1
  | .bad => .bad
def evWhile (c : Sl → Out Bool) (body : Sl → SO) : Nat → Sl → SO
  | 0, _ => .bad
  | n + 1, s => match c s with
    | .ok true s1 => match body s1 with
      | .nx s2 => evWhile c body n s2
      | o => o
    | .ok false s1 => .nx s1
    | .er x s1 => .er x s1
    | .bad => .bad

section
variable {X : Cx} {K : PySem.W.Frag} {G : GEnv} {W : WX} {fx fy : List Nat} {D : Ends} {Φ H Φ1 H1 : Hp} {σ σ1 : L2.St} {s s1 s2 : Sl} {F F1 : Nat → Addr → Prop} {L L1 E : Addr → Prop}
theorem postES.shift {x : VS.D} (f : Frm Φ H L Φ1 H1 L1) (a : Agr fx σ σ1) (p : postES K G W fx Φ H σ L x s) : postES K G W fx Φ1 H1 σ1 L1 x s := fun cls d σ' H' Φ' F' ex st ag fr => p cls d σ' H' Φ' F' ex st (a.trans ag) (f.trans fr)
theorem postS.shift {o : SO} (f : Frm Φ H L Φ1 H1 L1) (a : Agr fx σ σ1) (p : postS K G W fx D Φ H σ L o) : postS K G W fx D Φ1 H1 σ1 L1 o := by
  cases o with
  | nx s => exact fun σ' H' Φ' F' st ag fr => p σ' H' Φ' F' st (a.trans ag) (f.trans fr)
  | rt t s => exact fun v σ' H' Φ' F' E st ag ow tm fr => p v σ' H' Φ' F' E st (a.trans ag) ow tm (f.trans fr)
  | er x s => exact postES.shift f a p
  | bad => exact p
theorem postES.expr {x : VS.D} (p : postES K G W fx Φ H σ L x s) : postE K G W Φ H σ L x s := fun cls d H' Φ' F' ex st fr => p cls d σ H' Φ' F' ex st Agr.refl fr
theorem bindP_len {pat : Pat} {t : T} (h : bindP pat t s = some s1) : s1.length = s.length := by
  have hbl : ∀ (is : List Nat) (ts : List T) (s s1 : Sl), bindL s is ts = some s1 → s1.length = s.length := by
    intro is
    induction is with
    | nil => intro ts s s1 h; cases ts with
      | nil => cases h; rfl
      | cons t ts => cases h
    | cons i is ih =>
      intro ts s s1 h
      cases ts with
      | nil => cases h
      | cons t ts =>
        simp only [bindL] at h
        split at h
        · rw [ih _ _ _ h, List.length_set]
        · cases h
  cases pat with
  | nm i =>
    simp only [bindP] at h
    split at h
    · cases h; rw [List.length_set]
    · cases h
  | tp is =>
    simp only [bindP] at h
    split at h
    · exact hbl _ _ _ _ h
    · exact hbl _ _ _ _ h
    · exact hbl _ _ _ _ h
    · cases h
/-- an operand that is settled, whatever its kind -/
theorem tO_settle {f : Sl → Out Op} {Q : VK} (st : StR K G Φ H σ s F) (p : match f s with
    | .ok o s1 => ∃ (fs : Sl → Op → Option (T × Sl)), (∀ o, f s = .ok o s1 → True) ∧ ∀ v H' Φ' F' E, StR K G Φ' H' σ s1 F' → (∀ t, o = .vl t → Own K G Φ' H' t v E) → (∀ i, o = .rt i → σ[i]? = some (some v)) → TmpR Φ' H' F' E → Frm Φ H (Ft F) Φ' H' (fun b => E b ∨ Ft F' b) → Q v H'
    | .er x s1 => postE K G W Φ H σ (Ft F) x s1
    | .bad => False) : tO K G W f σ H Q := by
  refine ⟨Φ, s, F, st, ?_⟩
  cases q : f s with
  | bad => rw [q] at p; exact p
  | er x s1 => rw [q] at p; exact p
  | ok o s1 =>
    rw [q] at p
    obtain ⟨_, _, p⟩ := p
    cases o with
    | vl t => exact fun v H' Φ' F' E st' ow tm fr => p v H' Φ' F' E st' (fun t e => by cases e; exact ow) (fun i e => by cases e) tm fr
    | rt i => exact fun v H' Φ' F' st' hv fr => p v H' Φ' F' no st' (fun t e => by cases e) (fun j e => by cases e; exact hv) TmpR.no (fr.less fun b h => h.elim (fun z => z.elim) id)
theorem vss_nil : VSs X G W fx [] evNx := pss_imp pss_nil fun D σ H ⟨Φ, s, F, st, p⟩ => p σ H Φ F st Agr.refl Frm.refl
theorem vs_pass {pos : Pos} : VS1 X G W fx (.Pass pos) evNx := ps_imp ps_pass fun D σ H ⟨Φ, s, F, st, p⟩ => p σ H Φ F st Agr.refl Frm.refl
theorem vs_doc {x : Str} {j : Nat} {p p' : Pos} : VS1 X G W fx (.Expr (.Constant (.str x) j p) p') evNx := ps_imp ps_doc fun D σ H ⟨Φ, s, F, st, p⟩ => p σ H Φ F st Agr.refl Frm.refl
theorem tS_seq {a b : Sl → SO} (h : tS K G W fx (evSeq a b) D σ H) : tS K G W fx a { D with nx := tS K G W fx b D } σ H := by
  obtain ⟨Φ, s, F, st, p⟩ := h
  refine ⟨Φ, s, F, st, ?_⟩
  unfold evSeq at p
  cases q : a s with
  | bad => rw [q] at p; exact p
  | er x s1 => rw [q] at p; exact p
  | rt t s1 => rw [q] at p; exact p
  | nx s1 =>
    rw [q] at p
    intro σ' H' Φ' F' st' ag fr
    exact ⟨Φ', s1, F', st', postS.shift fr ag p⟩
theorem vss_cons {st : Stmt} {sts : List Stmt} {a b : Sl → SO} (h1 : VS1 X G W fx st a) (h2 : VSs X G W fx sts b) : VSs X G W fx (st :: sts) (evSeq a b) := pss_imp (pss_cons h1 h2) fun D σ H h => tS_seq h
theorem vss_one {st : Stmt} {a : Sl → SO} (h1 : VS1 X G W fx st a) : VSs X G W fx [st] a := pss_one h1
theorem vs_if {c : Expr} {p q : List Stmt} {pos : Pos} {f : Sl → Out Bool} {a b : Sl → SO} (hc : VT X G W c f) (ha : VSs X G W fx p a) (hb : VSs X G W fx q b) : VS1 X G W fx (.If c p q pos) (evIfS f a b) := by
  refine ps_imp (ps_if hc ha hb) fun D σ H h => ?_
  obtain ⟨Φ, s, F, st, p⟩ := h
  refine ⟨Φ, s, F, st, ?_⟩
  unfold evIfS at p
  cases q : f s with
  | bad => rw [q] at p; exact p
  | er x s1 => rw [q] at p; exact p.expr
  | ok b s1 =>
    rw [q] at p
    intro H' Φ' F' st' fr
    cases b with
    | true => rw [if_pos rfl]; exact ⟨Φ', s1, F', st', postS.shift fr Agr.refl p⟩
    | false => rw [if_neg Bool.false_ne_true]; exact ⟨Φ', s1, F', st', postS.shift fr Agr.refl p⟩
theorem vs_expr {e : Expr} {pos : Pos} {f : Sl → Out Op} (he : VO X G W e f) (hs : swapsWith e none pos.line X.env = pure false) : VS1 X G W fx (.Expr e pos) (evDrop f) := by
  refine ps_imp (ps_expr he hs) fun D σ H h => ?_
  obtain ⟨Φ, s, F, st, p⟩ := h
  refine tO_settle st ?_
  unfold evDrop at p
  cases q : f s with
  | bad => rw [q] at p; exact p
  | er x s1 => rw [q] at p; exact p.expr
  | ok o s1 =>
    rw [q] at p
    exact ⟨fun _ _ => none, fun _ _ => trivial, fun v H' Φ' F' E st' _ _ tm fr => p σ H' Φ' F' st' Agr.refl (fr.less fun b h => .inr h)⟩
/-- a value stored -/
theorem asg_ok {f : Sl → Out Op} {pat : Pat} {g : TG} (hp : PatOk K G g pat) (h : tS K G W fx (evAsg fx pat f) D σ H) : tAsg (tO K G W f) g D σ H := by
  obtain ⟨Φ, s, F, st, p⟩ := h
  refine tO_settle st ?_
  unfold evAsg at p
  cases q : f s with
  | bad => rw [q] at p; exact p
  | er x s1 => rw [q] at p; exact p.expr
  | ok o s1 =>
    rw [q] at p
    dsimp only at p
    refine ⟨fun _ _ => none, fun _ _ => trivial, fun v H' Φ' F' E st' hv hr tm fr => ?_⟩
    cases q2 : settle1 s1 o with
    | none => rw [q2] at p; exact p.elim
    | some z =>
      obtain ⟨t, s2⟩ := z
      rw [q2] at p
      dsimp only at p
      split at p
      · exact p.elim
      · next hfx =>
        cases q3 : bindP pat t s2 with
        | none => rw [q3] at p; exact p.elim
        | some s3 =>
          rw [q3] at p
          obtain ⟨Φ2, F2, E2, st2, ow2, tm2, fr2, _, _, _⟩ := settle1_ok st' tm hv hr q2
          refine hp v σ H' _ Φ2 s2 F2 t s3 E2 st2 ow2 tm2 q3 fun σ' F3 st3 hF hσ => p σ' H' Φ2 F3 st3 (fun i hi => hσ i fun z => hfx ?_) ((fr.trans fr2).less hF)
          exact List.any_eq_true.mpr ⟨i, z, by rw [List.contains_eq_mem]; exact decide_eq_true hi⟩
theorem vs_set {i : Nat} {x : Str} {e : Expr} {p pos : Pos} {f : Sl → Out Op} (hN : X.N.Nodup) (hi : StoreOk X x i) (he : VO X G W e f) (hs : swapsWith e (some (.Name x p)) pos.line X.env = pure false) : VS1 X G W fx (.Assign [.Name x p] e pos) (evAsg fx (.nm i) f) :=
  ps_imp (ps_set hN hi.1 hi.2.1 he hs hi.2.2) fun D σ H h => asg_ok pat_name h
theorem vs_asg {tg e : Expr} {pos : Pos} {f : Sl → Out Op} {pat : Pat} {g : TG} (he : VO X G W e f) (hg : PG X tg g) (hp : PatOk X.K G g pat) (hs : swapsWithSole [tg] e pos.line X.env = pure false) (hw : swappedStores [tg] e X.env = pure none)
    (h1 : (assignEach [tg] X.env).map (·.2) = [assign tg X.env]) : VS1 X G W fx (.Assign [tg] e pos) (evAsg fx pat f) := ps_imp (ps_asg he hg hs hw h1) fun D σ H h => asg_ok hp h
/-- a slot's tree taken out -/
theorem StR.take (r : StR K G Φ H σ s F) {i : Nat} {t : T} {v : V} (ht : treeAt s i = some t) (hv : σ[i]? = some (some v)) : StR K G Φ H σ (s.set i .un) (updF F i no) ∧ Own K G Φ H t v (F i) ∧ TmpR Φ H (updF F i no) (F i) := by
  have hlt := treeAt_lt ht
  refine ⟨⟨r.same, fun j u hj => ?_, fun j k b hjk h1 h2 => ?_, fun j b h => ?_, fun j b h => ?_, by rw [List.length_set]; exact r.len⟩, r.at_ ht hv, ⟨r.unf i, r.live i, fun j b h1 h2 => ?_⟩⟩
  · rw [treeAt_set] at hj
    by_cases hij : i = j
    · rw [if_pos ⟨hij, by rw [← hij]; exact hlt⟩] at hj
      cases hj
    · rw [if_neg (fun z => hij z.1)] at hj
      rw [updF_ne (Ne.symm hij)]
      exact r.slot j u hj
  · by_cases ha : j = i
    · subst ha; rw [updF_same] at h1; exact h1
    · rw [updF_ne ha] at h1
      by_cases hb : k = i
      · subst hb; rw [updF_same] at h2; exact h2
      · rw [updF_ne hb] at h2
        exact r.dis j k b hjk h1 h2
  · by_cases ha : j = i
    · subst ha; rw [updF_same] at h; exact h.elim
    · rw [updF_ne ha] at h; exact r.unf j b h
  · by_cases ha : j = i
    · subst ha; rw [updF_same] at h; exact h.elim
    · rw [updF_ne ha] at h; exact r.live j b h
  · by_cases ha : j = i
    · subst ha; rw [updF_same] at h2; exact h2
    · rw [updF_ne ha] at h2
      exact r.dis i j b (Ne.symm ha) h1 h2
theorem moved_ok {o : Op} {v : V} {t : T} (st : StR K G Φ H σ s F) (tm : TmpR Φ H F E) (hv : ∀ t, o = .vl t → Own K G Φ H t v E) (hr : ∀ i, o = .rt i → σ[i]? = some (some v)) (h : moved fx s o = some (t, s1)) :
    ∃ Φ' F' E', StR K G Φ' H σ s1 F' ∧ Own K G Φ' H t v E' ∧ TmpR Φ' H F' E' ∧ Frm Φ H (fun b => E b ∨ Ft F b) Φ' H (fun b => E' b ∨ Ft F' b) := by
  cases o with
  | vl t0 =>
    cases h
    exact ⟨Φ, F, E, st, hv _ rfl, tm, Frm.refl⟩
  | rt i =>
    simp only [moved] at h
    split at h
    · obtain ⟨Φ', F', E', a, b, c, d, _, _, _⟩ := settle1_ok st tm hv hr h
      exact ⟨Φ', F', E', a, b, c, d⟩
    · cases q : treeAt s i with
      | none => rw [q] at h; cases h
      | some t0 =>
        rw [q] at h
        cases h
        obtain ⟨a, b, c⟩ := st.take q (hr i rfl)
        refine ⟨Φ, _, F i, a, b, c, Frm.refl.less fun b h => ?_⟩
        rcases h with h | ⟨j, h⟩
        · exact .inr ⟨i, h⟩
        · by_cases ha : j = i
          · subst ha; rw [updF_same] at h; exact h.elim
          · rw [updF_ne ha] at h; exact .inr ⟨j, h⟩
theorem vs_ret {e : Expr} {pos : Pos} {f : Sl → Out Op} (he : VO X G W e f) : VS1 X G W fx (.Return (some e) pos) (evRet fx f) := by
  refine ps_imp (ps_ret he) fun D σ H h => ?_
  obtain ⟨Φ, s, F, st, p⟩ := h
  refine tO_settle st ?_
  unfold evRet at p
  cases q : f s with
  | bad => rw [q] at p; exact p
  | er x s1 => rw [q] at p; exact p.expr
  | ok o s1 =>
    rw [q] at p
    dsimp only at p
    refine ⟨fun _ _ => none, fun _ _ => trivial, fun v H' Φ' F' E st' hv hr tm fr => ?_⟩
    cases q2 : moved fx s1 o with
    | none => rw [q2] at p; exact p.elim
    | some z =>
      obtain ⟨t, s2⟩ := z
      rw [q2] at p
      obtain ⟨Φ2, F2, E2, st2, ow2, tm2, fr2⟩ := moved_ok st' tm hv hr q2
      exact p v σ H' Φ2 F2 E2 st2 Agr.refl ow2 tm2 (fr.trans fr2)
theorem vs_retN {pos : Pos} : VS1 X G W fx (.Return none pos) evRetN := ps_imp ps_retN fun D σ H ⟨Φ, s, F, st, p⟩ => p .non σ H Φ F no st Agr.refl (.leaf .non) TmpR.no (Frm.refl.less fun b h => h.elim (fun z => z.elim) id)

/-! ### loops -/
theorem for_ok {w : Sl → Out Walked} {pat : Pat} {g : TG} {body : List Nat → Sl → SO} {tb : TS} (hp : PatOk K G g pat) (hb : ∀ fy D σ H, tS K G W fy (body fy) D σ H → tb D σ H) (h : tS K G W fx (evFor fx w pat body) D σ H) : tFor (tI K G W w) g tb D σ H := by
  obtain ⟨Φ, s, F, st, p⟩ := h
  refine ⟨Φ, s, F, st, ?_⟩
  unfold evFor at p
  cases q : w s with
  | bad => rw [q] at p; exact p
  | er x s1 => rw [q] at p; exact p.expr
  | ok wk s1 =>
    rw [q] at p
    dsimp only at p ⊢
    intro J H1 Φ1 F1 st1 fr1 hsrc hw
    split at p
    · exact p.elim
    · next hfx =>
      -- the invariant: the slots that stay are as at the start
      generalize hfy : wk.src.map (·.1) ++ fx = fy at p hfx
      refine ⟨fun i m σ' H' => i ≤ wk.ds.length ∧ m = wk.ds.length - i ∧ ∃ Φ' s' F', StR K G Φ' H' σ' s' F' ∧ Agr fy σ σ' ∧ Frm Φ H (Ft F) Φ' H' (Ft F') ∧ Same Φ1 Φ' ∧ postS K G W fx D Φ H σ (Ft F) (forL wk.src pat (body fy) (wk.ds.drop i) s'),
        ⟨wk.ds.length, Nat.zero_le _, rfl, Φ1, s1, F1, st1, Agr.refl, fr1, Same.refl _, by rw [List.drop_zero]; exact p⟩, ?_⟩
      rintro i m σ2 H2 ⟨hi, hm, Φ2, s2, F2, st2, ag2, fr2, ph2, p2⟩
      have so : srcB wk.src s2 = true → SrcOk wk.src s2 σ2 σ := fun h p hp => ⟨srcB_ok h p hp, ag2 p.1 (by rw [← hfy]; exact List.mem_append_left _ (List.mem_map_of_mem hp))⟩
      have agx : Agr fx σ σ2 := ag2.sub fun i h => by rw [← hfy]; exact List.mem_append_right _ h
      by_cases hlt : i < wk.ds.length
      · have hdk : wk.ds[i]? = some wk.ds[i] := List.getElem?_eq_getElem hlt
        rw [List.drop_eq_getElem_cons hlt] at p2
        unfold forL at p2
        split at p2
        · next hs =>
          refine .inr ⟨hw.go i Φ2 H2 σ2 s2 F2 hlt ph2 st2 (so hs), _, fun σ' H' z => ⟨wk.ds.length - (i + 1), by omega, hlt, rfl, z⟩, fun x H' y => ?_⟩
          obtain ⟨Φ3, e1, e2, e3, fz, rp⟩ := hw.yld i Φ2 H2 σ2 s2 F2 x H' _ hdk ph2 st2 (so hs) y
          have st3 := st2.yld e1 e2 e3 fz
          cases q3 : bindP pat (.leaf wk.ds[i]) s2 with
          | none => rw [q3] at p2; exact p2.elim
          | some s4 =>
            rw [q3] at p2
            dsimp only at p2
            refine hp x σ2 H' _ Φ3 s2 F2 _ s4 no st3 (.leaf rp) TmpR.no q3 fun σ4 F4 st4 hF4 hσ4 => ?_
            have fr4 : Frm Φ H (Ft F) Φ3 H' (Ft F4) := (fr2.trans (Frm.yld e1 e2 fz)).less fun b h => (hF4 b h).elim (fun z => z.elim) id
            have ag4 : Agr fy σ σ4 := ag2.trans fun j hj => hσ4 j fun z => hfx (List.any_eq_true.mpr ⟨j, z, by rw [List.contains_eq_mem]; exact decide_eq_true hj⟩)
            have agx4 : Agr fx σ σ4 := ag4.sub fun i h => by rw [← hfy]; exact List.mem_append_right _ h
            refine hb fy _ σ4 H' ⟨Φ3, s4, F4, st4, ?_⟩
            cases q5 : body fy s4 with
            | bad => rw [q5] at p2; exact p2.elim
            | er x s5 =>
              rw [q5] at p2
              exact fun cls d σ' H'' Φ' F' ex st' ag fr => p2 cls d σ' H'' Φ' F' ex st' (agx4.trans (ag.sub fun i h => by rw [← hfy]; exact List.mem_append_right _ h)) (fr4.trans fr)
            | rt t s5 =>
              rw [q5] at p2
              exact fun v σ' H'' Φ' F' E st' ag ow tm fr => p2 v σ' H'' Φ' F' E st' (agx4.trans (ag.sub fun i h => by rw [← hfy]; exact List.mem_append_right _ h)) ow tm (fr4.trans fr)
            | nx s5 =>
              rw [q5] at p2
              exact fun σ' H'' Φ' F' st' ag fr => ⟨Φ', s5, F', st', ag4.trans ag, fr4.trans fr, (ph2.trans e1).trans fr.phi, p2⟩
        · exact p2.elim
      · have hke : i = wk.ds.length := Nat.le_antisymm hi (Nat.le_of_not_lt hlt)
        subst hke
        rw [List.drop_length] at p2
        unfold forL at p2
        split at p2
        · next hs => exact .inl ⟨hw.stop Φ2 H2 σ2 s2 F2 ph2 st2 (so hs), p2 σ2 H2 Φ2 F2 st2 agx fr2⟩
        · exact p2.elim
theorem vs_for {tg iter : Expr} {body : List Stmt} {pos : Pos} {w : Sl → Out Walked} {pat : Pat} {g : TG} {ev : List Nat → Sl → SO} (hpo : PassesOwn (model X.prog X.w) X.A X.env X.xe) (hc : X.calm = true) (hi : VI X G W tg iter w) (hg : PG X tg g) (hp : PatOk X.K G g pat) (hb : ∀ fy, VSs X G W fy body (ev fy))
    (hs : ∀ x, foldedSetIterable iter X.env x = pure x) : VS1 X G W fx (.For tg iter body [] pos) (evFor fx w pat ev) := by
  -- the body at whatever slots stay
  have hb' : PSs X body fun D σ H => ∃ fy, tS X.K G W fy (ev fy) D σ H := ⟨fun pins s σ H D I ⟨fy, h⟩ => (hb fy).run pins s σ H D I h⟩
  exact ps_imp (ps_for hpo hc hi hg hb' hs) fun D σ H h => for_ok hp (fun fy D σ H z => ⟨fy, z⟩) h
theorem vs_while {c : Expr} {body : List Stmt} {pos : Pos} {f : Sl → Out Bool} {ev : Sl → SO} {n : Nat} (hpo : PassesOwn (model X.prog X.w) X.A X.env X.xe) (hc : VT X G W c f) (hb : VSs X G W fx body ev) : VS1 X G W fx (.While c body [] pos) (evWhile f ev n) := by
  refine ps_imp (ps_while hpo hc hb) fun D σ H h => ?_
  obtain ⟨Φ, s, F, st, p⟩ := h
  refine ⟨fun m σ' H' => ∃ Φ' s' F', StR X.K G Φ' H' σ' s' F' ∧ Agr fx σ σ' ∧ Frm Φ H (Ft F) Φ' H' (Ft F') ∧ postS X.K G W fx D Φ H σ (Ft F) (evWhile f ev m s'), ⟨n, Φ, s, F, st, Agr.refl, Frm.refl, p⟩, ?_⟩
  rintro m σ1 H1 ⟨Φ1, s1, F1, st1, ag1, fr1, p1⟩
  refine ⟨Φ1, s1, F1, st1, ?_⟩
  cases m with
  | zero => exact p1.elim
  | succ m =>
    unfold evWhile at p1
    cases q : f s1 with
    | bad => rw [q] at p1; exact p1
    | er x s2 =>
      rw [q] at p1
      exact fun cls d H' Φ' F' ex st fr => p1 cls d σ1 H' Φ' F' ex st ag1 (fr1.trans fr)
    | ok b s2 =>
      rw [q] at p1
      intro H' Φ' F' st' fr
      cases b with
      | false =>
        rw [if_neg Bool.false_ne_true]
        exact p1 σ1 H' Φ' F' st' ag1 (fr1.trans fr)
      | true =>
        rw [if_pos rfl]
        dsimp only at p1
        refine ⟨_, fun σ' H' z => ⟨m, Nat.lt_succ_self m, z⟩, Φ', s2, F', st', ?_⟩
        cases q2 : ev s2 with
        | bad => rw [q2] at p1; exact p1
        | er x s3 =>
          rw [q2] at p1
          exact fun cls d σ' H'' Φ'' F'' ex st'' ag fr' => p1 cls d σ' H'' Φ'' F'' ex st'' (ag1.trans ag) ((fr1.trans fr).trans fr')
        | rt t s3 =>
          rw [q2] at p1
          exact fun v σ' H'' Φ'' F'' E st'' ag ow tm fr' => p1 v σ' H'' Φ'' F'' E st'' (ag1.trans ag) ow tm ((fr1.trans fr).trans fr')
        | nx s3 =>
          rw [q2] at p1
          exact fun σ' H'' Φ'' F'' st'' ag fr' => ⟨Φ'', s3, F'', st'', ag1.trans ag, (fr1.trans fr).trans fr', p1⟩
theorem vs_never {st : Stmt} : VS1 X G W fx st fun _ => .bad := ps_imp ps_never fun D σ H ⟨Φ, s, F, st, p⟩ => p
theorem vss_never {sts : List Stmt} : VSs X G W fx sts fun _ => .bad := pss_imp pss_never fun D σ H ⟨Φ, s, F, st, p⟩ => p
end
end VS
/-! VSk: what a def promises; the call of a def. -/
namespace VS
open PySem PySem.Spec PyProof.Rows L2

/-- a call's end: what is returned or raised, the arguments' trees behind it -/
inductive FO where
  | ret (r : T) (ps : List T) | exc (x : D) (ps : List T) | bad
abbrev Fn := List T → FO
abbrev noF : Nat → Addr → Prop := fun _ => no
def spF (K : PySem.W.Frag) (G : GEnv) (f : Fn) : Sp := fun vs H Q E => ∃ Φ ts Es, Same Φ H ∧ TrsR K G Φ H noF ts vs Es ∧ match f ts with
  | .ret r ps => ∀ v H' Φ' Es', Same Φ' H' → TrsR K G Φ' H' noF (r :: ps) (v :: vs) Es' → Frm Φ H (fun b => ∃ k, Es k b) Φ' H' (fun b => ∃ k, Es' k b) → Q v H'
  | .exc x ps => ∀ cls d H' Φ' Es', ExcR K G Φ' x cls d → Same Φ' H' → TrsR K G Φ' H' noF ps vs Es' → Frm Φ H (fun b => ∃ k, Es k b) Φ' H' (fun b => ∃ k, Es' k b) → E cls d H'
  | .bad => False

/-! ### the caller's side -/
def takeO (s : Sl) : List Op → Option (List T × Sl)
  | [] => some ([], s)
  | .vl t :: os => match takeO s os with
    | some (ts, s1) => some (t :: ts, s1)
    | none => none
  | .rt i :: os => match treeAt s i with
    | some t => match takeO (s.set i .un) os with
      | some (ts, s1) => some (t :: ts, s1)
      | none => none
    | none => none
def putO (s : Sl) : List Op → List T → Option Sl
  | [], [] => some s
  | .vl _ :: os, _ :: ps => putO s os ps
  | .rt i :: os, p :: ps => if i < s.length then putO (s.set i (.tr p)) os ps else none
  | _, _ => none
def finCall (f : Fn) : Fin1 := fun ops s => match takeO s ops with
  | some (ts, s1) => match f ts with
    | .ret r ps => match putO s1 ops ps with
      | some s2 => .ok (.vl r) s2
      | none => .bad
    | .exc x ps => match putO s1 ops ps with
      | some s2 => .er x s2
      | none => .bad
    | .bad => .bad
  | none => match settle s ops with
    | some (ts, s1) => match f ts with
      | .ret r _ => .ok (.vl r) s1
      | .exc x _ => .er x s1
      | .bad => .bad
    | none => .bad
/-- a finishing step whose rule sees the slots -/
def FinOkS (K : PySem.W.Frag) (G : GEnv) (W : WX) (r : L2.St → List V → Hp → VK → Prop) (fin : Fin1) : Prop :=
  ∀ (Φ H : Hp) (σ : L2.St) (s : Sl) (F : Nat → Addr → Prop) (ops : List Op) (vs : List V) (Es : Nat → Addr → Prop) (Q : VK), StR K G Φ H σ s F → OpsR K G Φ H σ F ops vs Es → postO K G W Q Φ H σ (OpF Es F) (fin ops s) → r σ vs H Q
section
variable {X : Cx} {K : PySem.W.Frag} {G : GEnv} {W : WX} {Φ H Φ1 H1 : Hp} {σ σ1 : L2.St} {s s1 s2 : Sl} {F F1 : Nat → Addr → Prop} {L L1 E : Addr → Prop} {f : Fn}
theorem evF_argsS {fs : List (Sl → Out Op)} {r : L2.St → List V → Hp → VK → Prop} {fin : Fin1} (hf : FinOkS K G W r fin) {Q : VK} (h : tO K G W (evF fs fin) σ H Q) : tArgs K G W fs σ H fun vs H1 => r σ vs H1 Q := by
  obtain ⟨Φ, s, F, st, p⟩ := h
  refine args_ok fs _ Φ H s F st ?_
  unfold evF at p
  cases q : evAs fs s with
  | bad => rw [q] at p; exact p.elim
  | er x s1 => rw [q] at p; exact p
  | ok ops s1 =>
    rw [q] at p
    intro vs H' Φ' F' Es st' ops' fr
    exact hf Φ' H' σ s1 F' ops vs Es Q st' ops' (postO.shift fr p)
/-- slots that a step leaves alone -/
theorem StR.step (r : StR K G Φ H σ s F) (ap : ∀ i b, F i b → ¬ L b) (f : Frm Φ H L Φ1 H1 L1) (e : Same Φ1 H1) : StR K G Φ1 H1 σ s F := by
  refine ⟨e, fun i t h => (r.slot i t h).imp fun v q => ⟨q.1, q.2.mono f.phi (fun b x hb z => f.keep b x z (ap i b hb)) fun _ h => h⟩, r.dis, fun i b h => ?_, fun i b h => ?_, r.len⟩
  · cases q : Φ1 b with
    | none => rfl
    | some o =>
      obtain ⟨x, hx⟩ := r.live i b h
      rcases f.froz b o q with z | z | z
      · rw [r.unf i b h] at z; cases z
      · exact (ap i b h z).elim
      · rw [hx] at z; cases z
  · obtain ⟨x, hx⟩ := r.live i b h
    exact ⟨x, f.keep b x hx (ap i b h)⟩
theorem StR.apart (r : StR K G Φ H σ s F) (ap : ∀ i b, F i b → ¬ L b) (f : Frm Φ H L Φ1 H1 L1) : ∀ i b, F i b → ¬ L1 b := fun i b h z => by
  rcases f.foot b z with y | y
  · exact ap i b h y
  · obtain ⟨o, ho⟩ := r.live i b h
    rw [y] at ho
    cases ho
theorem OpsR.sub {ops : List Op} {vs : List V} {Es : Nat → Addr → Prop} (r : OpsR K G Φ H σ F ops vs Es) (h : ∀ i b, F1 i b → F i b) : OpsR K G Φ H σ F1 ops vs Es :=
  ⟨r.len, r.vl, r.rt, r.dis, fun k => ⟨(r.tmp k).unf, (r.tmp k).live, fun i b h1 h2 => (r.tmp k).apart i b h1 (h i b h2)⟩⟩
theorem take_ok : ∀ {ops : List Op} {s s1 : Sl} {F : Nat → Addr → Prop} {vs : List V} {Es : Nat → Addr → Prop} {ts : List T}, StR K G Φ H σ s F → OpsR K G Φ H σ F ops vs Es → takeO s ops = some (ts, s1) →
    ∃ F1 Es1, StR K G Φ H σ s1 F1 ∧ TrsR K G Φ H F1 ts vs Es1 ∧ ∀ b, OpF Es1 F1 b → OpF Es F b
  | [], s, s1, F, vs, Es, ts, st, or, e => by
    cases e
    have : vs = [] := by
      have := or.len
      cases vs with
      | nil => rfl
      | cons _ _ => simp at this
    subst this
    exact ⟨F, fun _ => no, st, ⟨rfl, fun k t v h => by simp at h, fun _ _ _ _ h => h.elim, fun _ => TmpR.no⟩, fun b h => h.elim (fun ⟨_, z⟩ => z.elim) .inr⟩
  | o :: ops, s, s1, F, [], Es, ts, st, or, e => by
    have := or.len
    simp at this
  | .vl t :: ops, s, s1, F, v :: vs, Es, ts, st, or, e => by
    unfold takeO at e
    split at e
    · next ts' s2 h =>
      cases e
      obtain ⟨F1, Es1, st1, tr1, sub⟩ := take_ok st or.tail h
      have ap : ∀ b, Es 0 b → ¬ OpF Es1 F1 b := fun b h z => by
        rcases sub b z with ⟨k, y⟩ | ⟨i, y⟩
        · exact or.dis 0 (k + 1) b (by omega) h y
        · exact (or.tmp 0).apart i b h y
      refine ⟨F1, consF (Es 0) Es1, st1, tr1.cons (or.vl 0 t v rfl rfl) ⟨(or.tmp 0).unf, (or.tmp 0).live, fun i b h1 h2 => ap b h1 (.inr ⟨i, h2⟩)⟩ fun k b h1 h2 => ap b h1 (.inl ⟨k, h2⟩), fun b h => ?_⟩
      rcases h with ⟨k, h⟩ | h
      · cases k with
        | zero => exact .inl ⟨0, h⟩
        | succ k =>
          rcases sub b (.inl ⟨k, h⟩) with ⟨j, y⟩ | y
          · exact .inl ⟨j + 1, y⟩
          · exact .inr y
      · rcases sub b (.inr h) with ⟨j, y⟩ | y
        · exact .inl ⟨j + 1, y⟩
        · exact .inr y
    · cases e
  | .rt i :: ops, s, s1, F, v :: vs, Es, ts, st, or, e => by
    unfold takeO at e
    split at e
    · next t ht =>
      split at e
      · next ts' s2 h =>
        cases e
        have hv := or.rt 0 i v rfl rfl
        obtain ⟨st0, ow, tm⟩ := st.take ht hv
        have subF : ∀ j b, updF F i no j b → F j b := fun j b h => by
          by_cases ha : j = i
          · subst ha; rw [updF_same] at h; exact h.elim
          · rw [updF_ne ha] at h; exact h
        obtain ⟨F1, Es1, st1, tr1, sub⟩ := take_ok st0 (or.tail.sub subF) h
        have ap : ∀ b, F i b → ¬ OpF Es1 F1 b := fun b h z => by
          rcases sub b z with ⟨k, y⟩ | ⟨j, y⟩
          · exact (or.tmp (k + 1)).apart i b y h
          · exact tm.apart j b h y
        refine ⟨F1, consF (F i) Es1, st1, tr1.cons ow ⟨tm.unf, tm.live, fun j b h1 h2 => ap b h1 (.inr ⟨j, h2⟩)⟩ fun k b h1 h2 => ap b h1 (.inl ⟨k, h2⟩), fun b h => ?_⟩
        have lift : OpF (fun k => Es (k + 1)) (updF F i no) b → OpF Es F b := fun z => by
          rcases z with ⟨j, y⟩ | ⟨j, y⟩
          · exact .inl ⟨j + 1, y⟩
          · exact .inr ⟨j, subF j b y⟩
        rcases h with ⟨k, h⟩ | h
        · cases k with
          | zero => exact .inr ⟨i, h⟩
          | succ k => exact lift (sub b (.inl ⟨k, h⟩))
        · exact lift (sub b (.inr h))
      · cases e
    · cases e
/-- a slot is laid anew, the value as it was -/
theorem StR.lay (r : StR K G Φ H σ s F) {i : Nat} {t : T} {v : V} (hi : i < s.length) (hv : σ[i]? = some (some v)) (ow : Own K G Φ H t v E) (tm : TmpR Φ H F E) : StR K G Φ H σ (s.set i (.tr t)) (updF F i E) := by
  have e : σ.set i (some v) = σ := by
    refine List.ext_getElem? fun j => ?_
    by_cases hj : i = j
    · subst hj
      rw [List.getElem?_set_self (by rw [← r.len]; exact hi), hv]
    · rw [List.getElem?_set_ne hj]
  have := r.store hi ow tm
  rwa [e] at this
theorem put_ok : ∀ {ops : List Op} {ps : List T} {vs : List V} {Es : Nat → Addr → Prop} {s s2 : Sl} {F : Nat → Addr → Prop}, StR K G Φ H σ s F → TrsR K G Φ H F ps vs Es → (∀ (k i : Nat) (v : V), ops[k]? = some (.rt i) → vs[k]? = some v → σ[i]? = some (some v)) → putO s ops ps = some s2 →
    ∃ F2, StR K G Φ H σ s2 F2 ∧ (∀ b, Ft F2 b → (∃ k, Es k b) ∨ Ft F b) ∧ ∀ b, (∀ k, ¬ Es k b) → (∀ i, ¬ F i b) → ∀ i, ¬ F2 i b
  | [], [], vs, Es, s, s2, F, st, tr, hr, e => by
    cases e
    exact ⟨F, st, fun b h => .inr h, fun b _ h => h⟩
  | [], _ :: _, vs, Es, s, s2, F, st, tr, hr, e => by cases e
  | .vl _ :: _, [], vs, Es, s, s2, F, st, tr, hr, e => by cases e
  | .rt _ :: _, [], vs, Es, s, s2, F, st, tr, hr, e => by cases e
  | o :: ops, p :: ps, [], Es, s, s2, F, st, tr, hr, e => by
    have := tr.len
    simp at this
  | .vl t :: ops, p :: ps, v :: vs, Es, s, s2, F, st, tr, hr, e => by
    obtain ⟨F2, st2, f2, d2⟩ := put_ok (ops := ops) st tr.tail (fun k i w h1 h2 => hr (k + 1) i w (by simpa using h1) (by simpa using h2)) e
    exact ⟨F2, st2, fun b h => (f2 b h).imp (fun ⟨k, z⟩ => ⟨k + 1, z⟩) id, fun b h1 h2 => d2 b (fun k => h1 (k + 1)) h2⟩
  | .rt i :: ops, p :: ps, v :: vs, Es, s, s2, F, st, tr, hr, e => by
    unfold putO at e
    split at e
    · next hi =>
      have st1 := st.lay hi (hr 0 i v rfl rfl) (tr.own 0 p v rfl rfl) (tr.tmp 0)
      have tr1 : TrsR K G Φ H (updF F i (Es 0)) ps vs (fun k => Es (k + 1)) := by
        have tl := tr.tail
        refine ⟨tl.len, tl.own, tl.dis, fun k => ⟨(tl.tmp k).unf, (tl.tmp k).live, fun j b h1 h2 => ?_⟩⟩
        by_cases ha : j = i
        · subst ha
          rw [updF_same] at h2
          exact tr.dis 0 (k + 1) b (by omega) h2 h1
        · rw [updF_ne ha] at h2
          exact (tl.tmp k).apart j b h1 h2
      obtain ⟨F2, st2, f2, d2⟩ := put_ok (ops := ops) st1 tr1 (fun k i w h1 h2 => hr (k + 1) i w (by simpa using h1) (by simpa using h2)) e
      refine ⟨F2, st2, fun b h => ?_, fun b h1 h2 => d2 b (fun k => h1 (k + 1)) fun j z => ?_⟩
      · rcases f2 b h with ⟨k, z⟩ | z
        · exact .inl ⟨k + 1, z⟩
        · exact (updF_foot b z).imp (fun y => ⟨0, y⟩) id
      · by_cases ha : j = i
        · subst ha
          rw [updF_same] at z
          exact h1 0 z
        · rw [updF_ne ha] at z
          exact h2 j z
    · cases e
theorem TrsR.noF {ts : List T} {vs : List V} {Es : Nat → Addr → Prop} (r : TrsR K G Φ H F ts vs Es) : TrsR K G Φ H VS.noF ts vs Es := ⟨r.len, r.own, r.dis, fun k => ⟨(r.tmp k).unf, (r.tmp k).live, fun _ _ _ h => h⟩⟩
theorem TrsR.toF {ts : List T} {vs : List V} {Es : Nat → Addr → Prop} (r : TrsR K G Φ H VS.noF ts vs Es) (ap : ∀ i b, F i b → ¬ ∃ k, Es k b) : TrsR K G Φ H F ts vs Es := ⟨r.len, r.own, r.dis, fun k => ⟨(r.tmp k).unf, (r.tmp k).live, fun i b h1 h2 => ap i b h2 ⟨k, h1⟩⟩⟩
theorem fin_call : FinOkS K G W (fun σ vs H Q => spF K G f vs H Q (WE W σ)) (finCall f) := by
  intro Φ H σ s F ops vs Es Q st or p
  unfold finCall at p
  cases q : takeO s ops with
  | some z =>
    obtain ⟨ts, s1⟩ := z
    rw [q] at p
    dsimp only at p
    obtain ⟨F1, Es1, st1, tr1, sub⟩ := take_ok st or q
    have apE : ∀ i b, F1 i b → ¬ ∃ k, Es1 k b := fun i b h ⟨k, z⟩ => (tr1.tmp k).apart i b z h
    refine ⟨Φ, ts, Es1, st.same, tr1.noF, ?_⟩
    cases qf : f ts with
    | bad => rw [qf] at p; exact p.elim
    | ret r ps =>
      rw [qf] at p
      dsimp only at p ⊢
      intro v H' Φ' Es' sm tr' fr
      cases q2 : putO s1 ops ps with
      | none => rw [q2] at p; exact p.elim
      | some s2 =>
        rw [q2] at p
        have st2 := st1.step apE fr sm
        have ap2 := st1.apart apE fr
        obtain ⟨F2, st3, f3, d3⟩ := put_ok st2 (tr'.tail.toF fun i b h ⟨k, z⟩ => ap2 i b h ⟨k + 1, z⟩) or.rt q2
        refine p v H' Φ' F2 (Es' 0) st3 (tr'.own 0 r v rfl rfl) ⟨(tr'.tmp 0).unf, (tr'.tmp 0).live, fun i b h1 h2 => d3 b (fun k z => tr'.dis 0 (k + 1) b (by omega) h1 z) (fun j z => ap2 j b z ⟨0, h1⟩) i h2⟩ ?_
        have w := (fr.more (E := Ft F1)).wide (F2 := OpF Es F) fun b h => sub b (h.elim .inr fun z => .inl z)
        refine w.less fun b h => ?_
        rcases h with h | h
        · exact .inr ⟨0, h⟩
        · exact (f3 b h).elim (fun ⟨k, z⟩ => .inr ⟨k + 1, z⟩) .inl
    | exc x ps =>
      rw [qf] at p
      dsimp only at p ⊢
      intro cls d H' Φ' Es' ex sm tr' fr
      cases q2 : putO s1 ops ps with
      | none => rw [q2] at p; exact p.elim
      | some s2 =>
        rw [q2] at p
        have st2 := st1.step apE fr sm
        have ap2 := st1.apart apE fr
        obtain ⟨F2, st3, f3, _⟩ := put_ok st2 (tr'.toF ap2) or.rt q2
        refine p cls d H' Φ' F2 ex st3 ?_
        have w := (fr.more (E := Ft F1)).wide (F2 := OpF Es F) fun b h => sub b (h.elim .inr fun z => .inl z)
        exact w.less fun b h => (f3 b h).elim .inr .inl
  | none =>
    rw [q] at p
    dsimp only at p
    cases qs : settle s ops with
    | none => rw [qs] at p; exact p.elim
    | some z =>
      obtain ⟨ts, s1⟩ := z
      rw [qs] at p
      dsimp only at p
      obtain ⟨Φ1, F1, Es1, st1, tr1, fr1, _, _, _⟩ := settle_ok st or qs
      have apE : ∀ i b, F1 i b → ¬ ∃ k, Es1 k b := fun i b h ⟨k, z⟩ => (tr1.tmp k).apart i b z h
      refine ⟨Φ1, ts, Es1, st1.same, tr1.noF, ?_⟩
      have wid : ∀ {Φ' H' : Hp} {L' : Addr → Prop}, Frm Φ1 H (fun b => ∃ k, Es1 k b) Φ' H' L' → Frm Φ H (OpF Es F) Φ' H' (fun b => Ft F1 b ∨ L' b) := fun fr =>
        fr1.trans ((fr.more (E := Ft F1)).wide fun b h => h.elim .inr fun z => .inl z)
      cases qf : f ts with
      | bad => rw [qf] at p; exact p.elim
      | ret r ps =>
        rw [qf] at p
        dsimp only at p ⊢
        intro v H' Φ' Es' sm tr' fr
        have st2 := st1.step apE fr sm
        have ap2 := st1.apart apE fr
        refine p v H' Φ' F1 (Es' 0) st2 (tr'.own 0 r v rfl rfl) ⟨(tr'.tmp 0).unf, (tr'.tmp 0).live, fun i b h1 h2 => ap2 i b h2 ⟨0, h1⟩⟩ ((wid fr).less fun b h => h.elim (fun z => .inr ⟨0, z⟩) .inl)
      | exc x ps =>
        rw [qf] at p
        dsimp only at p ⊢
        intro cls d H' Φ' Es' ex sm tr' fr
        exact p cls d H' Φ' F1 ex (st1.step apE fr sm) ((wid fr).less fun b h => .inl h)
end

/-! ### the def's side -/
def entryF (fx : List Nat) : Nat → List T → List T
  | _, [] => []
  | k, t :: ts => (if fx.contains k = true then t else .leaf (frz t)) :: entryF fx (k + 1) ts
def outsF (fx : List Nat) (s : Sl) : Nat → List T → Option (List T)
  | _, [] => some []
  | k, t :: ts => match (if fx.contains k = true then treeAt s k else some (.leaf (frz t))), outsF fx s (k + 1) ts with
    | some a, some r => some (a :: r)
    | _, _ => none
/-- a def with n parameters and N names; the parameters of fx are never stored -/
def runF (n N : Nat) (fx : List Nat) (body : Sl → SO) : Fn := fun ts => if ts.length = n then match body ((entryF fx 0 ts).map .tr ++ List.replicate (N - n) .un) with
    | .nx s => match outsF fx s 0 ts with
      | some ps => .ret (.leaf .non) ps
      | none => .bad
    | .rt t s => match outsF fx s 0 ts with
      | some ps => .ret t ps
      | none => .bad
    | .er x s => match outsF fx s 0 ts with
      | some ps => .exc x ps
      | none => .bad
    | .bad => .bad
  else .bad
section
variable {K : PySem.W.Frag} {G : GEnv} {W : WX} {Φ H Φ1 H1 : Hp} {σ σ1 : L2.St} {s s1 s2 : Sl} {F F1 : Nat → Addr → Prop} {L L1 E : Addr → Prop} {fx : List Nat}
theorem entryF_len : ∀ (ts : List T) (j : Nat), (entryF fx j ts).length = ts.length
  | [], _ => rfl
  | t :: ts, j => by unfold entryF; rw [List.length_cons, List.length_cons, entryF_len ts]
theorem entryF_get : ∀ (ts : List T) (j k : Nat), (entryF fx j ts)[k]? = (ts[k]?).map fun t => if fx.contains (j + k) = true then t else .leaf (frz t)
  | [], j, k => by simp [entryF]
  | t :: ts, j, 0 => by simp [entryF]
  | t :: ts, j, k + 1 => by
    unfold entryF
    rw [List.getElem?_cons_succ, List.getElem?_cons_succ, entryF_get ts (j + 1) k, show j + 1 + k = j + (k + 1) by omega]
theorem outsF_get : ∀ {ts ps : List T} {j : Nat}, outsF fx s j ts = some ps → ps.length = ts.length ∧ ∀ k t p, ts[k]? = some t → ps[k]? = some p → (if fx.contains (j + k) = true then treeAt s (j + k) else some (.leaf (frz t))) = some p
  | [], ps, j, h => by
    cases h
    exact ⟨rfl, fun k t p h => by simp at h⟩
  | t :: ts, ps, j, h => by
    unfold outsF at h
    split at h
    · next a r h1 h2 =>
      cases h
      obtain ⟨i1, i2⟩ := outsF_get h2
      refine ⟨by rw [List.length_cons, List.length_cons, i1], fun k u p h3 h4 => ?_⟩
      cases k with
      | zero =>
        simp at h3 h4
        subst h3
        subst h4
        exact h1
      | succ k =>
        have := i2 k u p (by simpa using h3) (by simpa using h4)
        rwa [show j + 1 + k = j + (k + 1) by omega] at this
    · cases h
/-- the parameters that are stored again are frozen -/
theorem entry_ok {ts : List T} {vs : List V} {Es : Nat → Addr → Prop} (sm : Same Φ H) (tr : TrsR K G Φ H noF ts vs Es) :
    ∃ Φ' Es', Same Φ' H ∧ TrsR K G Φ' H noF (entryF fx 0 ts) vs Es' ∧ Frm Φ H (fun b => ∃ k, Es k b) Φ' H (fun b => ∃ k, Es' k b) ∧ ∀ (k : Nat) (t : T) (v : V), fx.contains k = false → ts[k]? = some t → vs[k]? = some v → Rep K G Φ' (frz t) v := by
  have rep : ∀ (k : Nat) (t : T) (v : V), fx.contains k = false → ts[k]? = some t → vs[k]? = some v → Rep K G (frzH Φ H fun b => ∃ k, fx.contains k = false ∧ Es k b) (frz t) v := fun k t v hk h1 h2 =>
    (tr.own k t v h1 h2).frz frzH_same fun b x hb q => frzH_at sm b x ⟨k, hk, hb⟩ q
  refine ⟨frzH Φ H fun b => ∃ k, fx.contains k = false ∧ Es k b, fun k b => fx.contains k = true ∧ Es k b, frzH_sub sm, ⟨by rw [entryF_len]; exact tr.len, fun k t v h1 h2 => ?_, fun j k b hjk h1 h2 => tr.dis j k b hjk h1.2 h2.2, fun k => ⟨fun b h => ?_, fun b h => (tr.tmp k).live b h.2, fun _ _ _ h => h⟩⟩, ⟨frzH_same, fun b o h _ => h, fun b ⟨k, h⟩ => .inl ⟨k, h.2⟩, fun b o h => ?_⟩, rep⟩
  · rw [entryF_get, Nat.zero_add] at h1
    obtain ⟨u, hu, e⟩ := Option.map_eq_some_iff.mp h1
    cases hk : fx.contains k with
    | true =>
      rw [hk, if_pos rfl] at e
      subst e
      exact (tr.own k u v hu h2).mono frzH_same (fun _ _ _ h => h) fun b h => ⟨rfl, h⟩
    | false =>
      rw [hk, if_neg Bool.false_ne_true] at e
      subst e
      exact .leaf (rep k u v hk hu h2)
  · cases q : frzH Φ H (fun b => ∃ k, fx.contains k = false ∧ Es k b) b with
    | none => rfl
    | some o =>
      rcases frzH_or b o q with z | ⟨j, hj, z⟩
      · rw [(tr.tmp k).unf b h.2] at z; cases z
      · refine (tr.dis j k b (fun e => ?_) z h.2).elim
        rw [e, h.1] at hj
        cases hj
  · exact (frzH_or b o h).imp id fun ⟨k, _, z⟩ => .inl ⟨k, z⟩
theorem start_at {N : List Str} {vs : List V} {i : Nat} {v : V} (h : vs[i]? = some v) : (L2.start N vs)[i]? = some (some v) := by
  unfold L2.start
  have hl := (List.getElem?_eq_some_iff.mp h).1
  rw [List.getElem?_append_left (by rw [List.length_map]; exact hl), List.getElem?_map, h]
  rfl
theorem entry_st {N : List Str} {ts : List T} {vs : List V} {Es : Nat → Addr → Prop} (sm : Same Φ H) (tr : TrsR K G Φ H noF ts vs Es) : StR K G Φ H (L2.start N vs) (ts.map .tr ++ List.replicate (N.length - ts.length) .un) Es := by
  refine ⟨sm, fun i t h => ?_, tr.dis, fun i b h => (tr.tmp i).unf b h, fun i b h => (tr.tmp i).live b h, ?_⟩
  · unfold treeAt at h
    by_cases hi : i < ts.length
    · rw [List.getElem?_append_left (by rw [List.length_map]; exact hi), List.getElem?_map, List.getElem?_eq_getElem hi] at h
      cases h
      have hv : vs[i]? = some (vs[i]'(by rw [← tr.len]; exact hi)) := List.getElem?_eq_getElem _
      exact ⟨_, start_at hv, tr.own i _ _ (List.getElem?_eq_getElem hi) hv⟩
    · rw [List.getElem?_append_right (by rw [List.length_map]; omega), List.getElem?_replicate] at h
      by_cases hlt : i - (List.map SV.tr ts).length < N.length - ts.length
      · rw [if_pos hlt] at h; cases h
      · rw [if_neg hlt] at h; cases h
  · unfold L2.start
    rw [List.length_append, List.length_append, List.length_map, List.length_map, List.length_replicate, List.length_replicate, tr.len]
/-- a def keeps its promise -/
theorem run_ok {n : Nat} {N : List Str} {body : Sl → SO} {vs : List V} {Q : VK} {E : XK} (hfx : ∀ i ∈ fx, i < n) (h : spF K G (runF n N.length fx body) vs H Q E) :
    tS K G (fun cls d _ H' => E cls d H') fx body { nx := fun _ H' => Q .non H', rt := Q } (L2.start N vs) H := by
  obtain ⟨Φ, ts, Es, sm, tr, p⟩ := h
  unfold runF at p
  by_cases hn : ts.length = n
  · rw [if_pos hn] at p
    obtain ⟨Φ1, Es1, sm1, tr1, fr1, rep1⟩ := entry_ok (fx := fx) sm tr
    have st := entry_st (N := N) sm1 tr1
    rw [entryF_len, hn] at st
    refine ⟨Φ1, _, Es1, st, ?_⟩
    -- the arguments' trees at the end
    have outs : ∀ {s : Sl} {ps : List T} {Φ' H' : Hp} {σ' : L2.St} {F' : Nat → Addr → Prop}, outsF fx s 0 ts = some ps → StR K G Φ' H' σ' s F' → Agr fx (L2.start N vs) σ' → Same Φ1 Φ' → TrsR K G Φ' H' noF ps vs F' := by
      intro s ps Φ' H' σ' F' ho st' ag e
      obtain ⟨hl, hg⟩ := outsF_get ho
      refine ⟨by rw [hl]; exact tr.len, fun k t v h1 h2 => ?_, st'.dis, fun k => ⟨st'.unf k, st'.live k, fun _ _ _ h => h⟩⟩
      have hkt : k < ts.length := by rw [← hl]; exact (List.getElem?_eq_some_iff.mp h1).1
      have hg := hg k ts[k] t (List.getElem?_eq_getElem hkt) h1
      rw [Nat.zero_add] at hg
      cases hk : fx.contains k with
      | true =>
        rw [hk, if_pos rfl] at hg
        refine st'.at_ hg ?_
        rw [ag k (by rw [List.contains_eq_mem] at hk; exact of_decide_eq_true hk)]
        exact start_at h2
      | false =>
        rw [hk, if_neg Bool.false_ne_true] at hg
        cases hg
        exact .leaf ((rep1 k _ v hk (List.getElem?_eq_getElem hkt) h2).mono e)
    cases q : body ((entryF fx 0 ts).map .tr ++ List.replicate (N.length - n) .un) with
    | bad => rw [q] at p; exact p
    | nx s =>
      rw [q] at p
      dsimp only at p
      cases qo : outsF fx s 0 ts with
      | none => rw [qo] at p; exact p.elim
      | some ps =>
        rw [qo] at p
        intro σ' H' Φ' F' st' ag fr
        have tr' := outs qo st' ag fr.phi
        exact p .non H' Φ' (consF no F') st'.same (tr'.cons (.leaf .non) TmpR.no fun _ _ z => z.elim) ((fr1.trans fr).less fun b ⟨k, z⟩ => by
          cases k with
          | zero => exact z.elim
          | succ k => exact ⟨k, z⟩)
    | rt t s =>
      rw [q] at p
      dsimp only at p
      cases qo : outsF fx s 0 ts with
      | none => rw [qo] at p; exact p.elim
      | some ps =>
        rw [qo] at p
        intro v σ' H' Φ' F' E' st' ag ow tm fr
        have tr' := outs qo st' ag fr.phi
        exact p v H' Φ' (consF E' F') st'.same (tr'.cons ow ⟨tm.unf, tm.live, fun _ _ _ z => z⟩ fun k b h1 h2 => tm.apart k b h1 h2) ((fr1.trans fr).less fun b ⟨k, z⟩ => by
          cases k with
          | zero => exact Or.inl z
          | succ k => exact Or.inr ⟨k, z⟩)
    | er x s =>
      rw [q] at p
      dsimp only at p
      cases qo : outsF fx s 0 ts with
      | none => rw [qo] at p; exact p.elim
      | some ps =>
        rw [qo] at p
        intro cls d σ' H' Φ' F' ex st' ag fr
        exact p cls d H' Φ' F' ex st'.same (outs qo st' ag fr.phi) (fr1.trans fr)
  · rw [if_neg hn] at p
    exact p.elim
theorem spF_len {n N : Nat} {body : Sl → SO} {vs : List V} {Q : VK} {E : XK} (h : spF K G (runF n N fx body) vs H Q E) : vs.length = n := by
  obtain ⟨Φ, ts, Es, sm, tr, p⟩ := h
  unfold runF at p
  by_cases hn : ts.length = n
  · rw [← hn, tr.len]
  · rw [if_neg hn] at p
    exact p.elim
end
end VS
/-! VSl: promises of defs where no list is being shown; calls of defs, of methods, of classes. -/
namespace VS
open PySem PySem.Spec PyProof.Rows L2

/-- as FnOk; around the call nothing is being shown -/
structure FnG (P : Program) (w : World) (K : PySem.W.Frag) (mg : Str → Option Value) (base : Heap) (k : Nat) (f : Addr) (fd : FuncData) (ps : List Str) (sp : Sp) : Prop where
  len : ∀ vs H Q E, sp vs H Q E → vs.length = ps.length
  run : ∀ (A : Around) (outer : List Env) (s : Shared) (H : Hp) (args : Args) (us : List Value) (vs : List V) (Q : VK) (E : XK), Room k A → A.guards = some [] → Env0 P w K mg base A outer s H → BindsTo s fd args (ps.zip us) → Vals vs us → sp vs H Q E →
    codeAny (model P w) A (.call (.ref f) args) (CR (L2.CX P w) outer P w H s Q E) s
theorem FnG.mono {P : Program} {w : World} {K : PySem.W.Frag} {mg : Str → Option Value} {base : Heap} {j k : Nat} {f : Addr} {fd : FuncData} {ps : List Str} {sp : Sp} (F : FnG P w K mg base j f fd ps sp) (h : j ≤ k) : FnG P w K mg base k f fd ps sp :=
  ⟨F.len, fun A outer s H args us vs Q E hr => F.run A outer s H args us vs Q E (hr.mono h)⟩
/-- a def of the text, whatever its defaults -/
structure FunA (K : PySem.W.Frag) (x qual : Str) (params : Arguments) (body : List Stmt) (scope : Scope) (f : Addr) (fd : FuncData) : Prop where
  ex : ∃ (oc : Value) (od : Option Addr) (dV kV doc pm : Value) (an : Option Addr) (cdv ct : Value) (osl : Array (Option Value)),
    fd = PySem.W.fnOf x qual params body scope dV kV doc pm an cdv ct ∧ K.lookup f = some ⟨oc, od, .func fd, osl⟩ ∧ PySem.W.codeIn K cdv qual = true
theorem FunA.of {K : PySem.W.Frag} {x qual : Str} {st : Stmt} {f : Addr} {fd : FuncData} (F : Fun K x qual st f fd) : FunA K x qual (defArgs st) (defBody st) (defScope st) f fd := by
  obtain ⟨oc, od, kV, doc, pm, an, cdv, ct, osl, h⟩ := F.ex
  exact ⟨oc, od, .none, kV, doc, pm, an, cdv, ct, osl, h⟩
theorem FunA.ofD {K : PySem.W.Frag} {x qual : Str} {params : Arguments} {body : List Stmt} {scope : Scope} {dvs : List V} {kws : List (Str × V)} {f : Addr} {fd : FuncData} (F : FunD K x qual params body scope dvs kws f fd) : FunA K x qual params body scope f fd := by
  obtain ⟨oc, od, dV, kV, doc, pm, an, cdv, ct, osl, e, lk, hcd, _, _⟩ := F.ex
  exact ⟨oc, od, dV, kV, doc, pm, an, cdv, ct, osl, e, lk, hcd⟩
section
variable {P : Program} {w : World} {K : PySem.W.Frag} {mg : Str → Option Value} {base : Heap} {G : GEnv}
/-- a def's promise, by its body -/
theorem fn_okG {x qual : Str} {params : Arguments} {stm : List Stmt} {scope : Scope} {f : Addr} {fd : FuncData} {N ps : List Str} {k : Nat} {fx : List Nat} {body : Sl → SO} (F : FunA K x qual params stm scope f fd) (S : FnScope N ps scope)
    (hbody : ∀ (cdv : Value) (A : Around) (outer : List Env) (s : Shared) (H : Hp) (E : XK), Room k (A.deeper (envOfC qual scope s.heap.objs.size f cdv)) → A.guards = some [] →
      VSs (cxOf (L2.CX P w) P w K mg base N qual scope f cdv A outer s H E) G (fun cls d _ H' => E cls d H') fx stm body) (hfx : ∀ i ∈ fx, i < ps.length) :
    FnG P w K mg base (k + 1) f fd ps (spF K G (runF ps.length N.length fx body)) := by
  refine ⟨fun vs H Q E h => spF_len h, fun A outer s H args us vs Q E hr hgd e0 hb r hsp => ?_⟩
  obtain ⟨oc, od, dV, kV, doc, pm, an, cdv, ct, osl, rfl, lk, hcd⟩ := F.ex
  have older : ∀ b o, base.get? b = some o → s.heap.get? b = some o := fun b o e => (e0.bs b o e).1
  have inK : K.In s.heap := e0.mod.kin.keeps older
  have kinds : ∀ y ∈ ps.zip us, scope.names.lookup y.1 = some .local ∨ (scope.names.lookup y.1 = some .cell ∧ ((cellsFrom (s.heap.objs.size + 1) scope.names []).lookup y.1).isSome = true) := fun y hy =>
    (S.par y.1 (List.of_mem_zip (a := y.1) (b := y.2) hy).1).imp id fun q => ⟨q, PySem.W.cellsFrom_some _ _ _ (.inl q)⟩
  refine codeAny_call_function hr.depth (inK _ _ lk) rfl S.co S.gen rfl (PySem.W.codeRec_of inK hcd) (hb _ _ _ _ (wpAny_newFunctionEnv_cells S.kind kinds fun env he s1 x => ?_))
  subst he
  refine ⟨(e0.mod.nolimit.keeps older).keeps x.toInCall.keep, codeAny_func ?_⟩
  have I := inv_start (CX := L2.CX P w) (E := E) S hr.hd e0 (spF_len hsp) r x
  refine wpAny_mono ((hbody cdv A outer s H E (hr.deeper _) hgd).run [] s1 _ H { nx := fun _ H' => Q .non H', rt := Q } I (run_ok hfx hsp)) (fun fl s' q => ?_) fun e s' q => q
  match fl, q with
  | .ret u, ⟨v, σ', H', J, rv, q⟩ => exact ⟨v, H', J.os, J.bare, J.base, J.hok, rv, q⟩
  | .next, ⟨σ', H', J, q⟩ => exact ⟨V.non, H', J.os, J.bare, J.base, J.hok, rfl, q⟩
  | .brk, ⟨_, _, _, q⟩ => exact q.elim
  | .cont, ⟨_, _, _, q⟩ => exact q.elim
end

/-! ### arguments sorted into parameters -/
abbrev Sel := List (Nat ⊕ S0)
def Sel.ixs (sel : Sel) : List Nat := sel.filterMap fun x => match x with
  | .inl i => some i
  | .inr _ => none
def pickV (sel : Sel) (vs : List V) : List V := sel.map fun x => match x with
  | .inl i => vs.getD i .non
  | .inr c => c.toV
def pickO (sel : Sel) (ops : List Op) : List Op := sel.map fun x => match x with
  | .inl i => ops.getD i (.vl (.leaf .non))
  | .inr c => .vl (.leaf c.toD)
def Sel.ok (sel : Sel) (n : Nat) : Bool := sel.ixs.all (fun i => decide (i < n)) && decide sel.ixs.Nodup
def finSel (sel : Sel) (fin : Fin1) : Fin1 := fun ops s => if sel.ok ops.length = true then fin (pickO sel ops) s else .bad
section
variable {K : PySem.W.Frag} {G : GEnv} {W : WX} {Φ H : Hp} {σ : L2.St} {s : Sl} {F : Nat → Addr → Prop} {sel : Sel} {ops : List Op} {vs : List V} {Es : Nat → Addr → Prop}
def pickE (sel : Sel) (Es : Nat → Addr → Prop) : Nat → Addr → Prop := fun k => match sel[k]? with
  | some (.inl i) => Es i
  | _ => no
theorem ixs_mem {i k : Nat} (h : sel[k]? = some (.inl i)) : i ∈ sel.ixs := List.mem_filterMap.mpr ⟨.inl i, List.mem_of_getElem? h, rfl⟩
theorem ixs_nodup : ∀ {sel : Sel} {i j k : Nat}, sel.ixs.Nodup → sel[j]? = some (.inl i) → sel[k]? = some (.inl i) → j = k
  | [], i, j, k, _, h, _ => by simp at h
  | x :: sel, i, 0, 0, _, _, _ => rfl
  | x :: sel, i, 0, k + 1, nd, h1, h2 => by
    simp at h1 h2
    subst h1
    have nd' : (i :: Sel.ixs sel).Nodup := nd
    exact ((List.nodup_cons.mp nd').1 (ixs_mem h2)).elim
  | x :: sel, i, j + 1, 0, nd, h1, h2 => by
    simp at h1 h2
    subst h2
    have nd' : (i :: Sel.ixs sel).Nodup := nd
    exact ((List.nodup_cons.mp nd').1 (ixs_mem h1)).elim
  | x :: sel, i, j + 1, k + 1, nd, h1, h2 => by
    have nd' : (Sel.ixs sel).Nodup := by
      cases x with
      | inl a => exact (List.nodup_cons.mp (show (a :: Sel.ixs sel).Nodup from nd)).2
      | inr c => exact nd
    exact congrArg Nat.succ (ixs_nodup nd' (by simpa using h1) (by simpa using h2))
theorem OpsR.pick (r : OpsR K G Φ H σ F ops vs Es) (h : sel.ok ops.length = true) : OpsR K G Φ H σ F (pickO sel ops) (pickV sel vs) (pickE sel Es) := by
  unfold Sel.ok at h
  rw [Bool.and_eq_true, decide_eq_true_eq, List.all_eq_true] at h
  have ixv : ∀ {k i : Nat}, sel[k]? = some (.inl i) → i < ops.length := fun hk => of_decide_eq_true (h.1 _ (ixs_mem hk))
  refine ⟨by rw [pickO, pickV, List.length_map, List.length_map], fun k t v h1 h2 => ?_, fun k i v h1 h2 => ?_, fun j k b hjk h1 h2 => ?_, fun k => ?_⟩
  · rw [pickO, List.getElem?_map] at h1
    rw [pickV, List.getElem?_map] at h2
    unfold pickE
    cases q : sel[k]? with
    | none => rw [q] at h1; cases h1
    | some x =>
      rw [q] at h1 h2
      cases x with
      | inl i =>
        have hi := ixv q
        have e1 : ops.getD i (.vl (.leaf .non)) = ops[i] := by rw [List.getD_eq_getElem?_getD, List.getElem?_eq_getElem hi]; rfl
        have hiv : i < vs.length := by rw [← r.len]; exact hi
        have e2 : vs.getD i .non = vs[i] := by rw [List.getD_eq_getElem?_getD, List.getElem?_eq_getElem hiv]; rfl
        have h1' : ops[i] = .vl t := by rw [← e1]; exact Option.some.inj h1
        have h2' : vs[i] = v := by rw [← e2]; exact Option.some.inj h2
        exact r.vl i t v (by rw [List.getElem?_eq_getElem hi, h1']) (by rw [List.getElem?_eq_getElem hiv, h2'])
      | inr c =>
        cases h1
        cases h2
        exact .leaf c.rep
  · rw [pickO, List.getElem?_map] at h1
    rw [pickV, List.getElem?_map] at h2
    cases q : sel[k]? with
    | none => rw [q] at h1; cases h1
    | some x =>
      rw [q] at h1 h2
      cases x with
      | inl m =>
        have hi := ixv q
        have e1 : ops.getD m (.vl (.leaf .non)) = ops[m] := by rw [List.getD_eq_getElem?_getD, List.getElem?_eq_getElem hi]; rfl
        have hiv : m < vs.length := by rw [← r.len]; exact hi
        have e2 : vs.getD m .non = vs[m] := by rw [List.getD_eq_getElem?_getD, List.getElem?_eq_getElem hiv]; rfl
        have h1' : ops[m] = .rt i := by rw [← e1]; exact Option.some.inj h1
        have h2' : vs[m] = v := by rw [← e2]; exact Option.some.inj h2
        exact r.rt m i v (by rw [List.getElem?_eq_getElem hi, h1']) (by rw [List.getElem?_eq_getElem hiv, h2'])
      | inr c => cases h1
  · unfold pickE at h1 h2
    cases q1 : sel[j]? with
    | none => rw [q1] at h1; exact h1
    | some x =>
      cases q2 : sel[k]? with
      | none => rw [q2] at h2; exact h2
      | some y =>
        rw [q1] at h1
        rw [q2] at h2
        cases x with
        | inr c => exact h1
        | inl i =>
          cases y with
          | inr c => exact h2
          | inl i' => exact r.dis i i' b (fun e => hjk (by subst e; exact ixs_nodup h.2 q1 q2)) h1 h2
  · unfold pickE
    cases q : sel[k]? with
    | none => exact TmpR.no
    | some x =>
      cases x with
      | inl i => exact r.tmp i
      | inr c => exact TmpR.no
theorem fin_sel {r : L2.St → List V → Hp → VK → Prop} {fin : Fin1} (hf : FinOkS K G W r fin) : FinOkS K G W (fun σ vs H Q => r σ (pickV sel vs) H Q) (finSel sel fin) := by
  intro Φ H σ s F ops vs Es Q st or p
  unfold finSel at p
  split at p
  · next h =>
    refine hf Φ H σ s F _ _ _ Q st (or.pick h) (postO.shift (Frm.refl.less fun b z => ?_) p)
    rcases z with ⟨k, z⟩ | z
    · unfold pickE at z
      cases q : sel[k]? with
      | none => rw [q] at z; exact z.elim
      | some x =>
        rw [q] at z
        cases x with
        | inl i => exact .inl ⟨i, z⟩
        | inr c => exact z.elim
    · exact .inr z
  · exact p.elim
end

/-! ### keywords -/
def kwNames : List Keyword → List Str
  | [] => []
  | k :: ks => match k.arg with
    | some n => n :: kwNames ks
    | none => kwNames ks
def kwAll (ks : List Keyword) : Bool := ks.all fun k => k.arg.isSome
inductive VKs (X : Cx) (G : GEnv) (W : WX) : List Keyword → List (Sl → Out Op) → Prop
  | nil : VKs X G W [] []
  | cons {nm : Option Str} {e : Expr} {p : Pos} {ks : List Keyword} {f : Sl → Out Op} {fs : List (Sl → Out Op)} (h : VO X G W e f) (r : VKs X G W ks fs) : VKs X G W (⟨nm, e, p⟩ :: ks) (f :: fs)
section
variable {X : Cx} {K : PySem.W.Frag} {G : GEnv} {W : WX}
theorem pk_of : ∀ {ks : List Keyword} {fs : List (Sl → Out Op)}, VKs X G W ks fs → PK X ks (tArgs X.K G W fs)
  | _, _, .nil => pk_nil
  | _, _, .cons h r => pk_cons h (pk_of r)
theorem kw_all {pos : Pos} : ∀ {ks : List Keyword}, kwAll ks = true → (backToKw pos (keywordEach ks X.env)).all (·.1.isSome) = true
  | [], _ => rfl
  | ⟨nm, e, p⟩ :: ks, h => by
    unfold kwAll at h
    rw [List.all_cons, Bool.and_eq_true] at h
    show (nm.isSome && (backToKw pos (keywordEach ks X.env)).all (·.1.isSome)) = true
    rw [kw_all h.2, h.1]
    rfl
theorem kw_any {pos : Pos} : ∀ {ks : List Keyword}, kwAll ks = true → (backToKw pos (keywordEach ks X.env)).any (·.1.isNone) = false
  | [], _ => rfl
  | ⟨nm, e, p⟩ :: ks, h => by
    unfold kwAll at h
    rw [List.all_cons, Bool.and_eq_true] at h
    show (nm.isNone || (backToKw pos (keywordEach ks X.env)).any (·.1.isNone)) = false
    rw [kw_any h.2]
    have h1 : nm.isSome = true := h.1
    cases nm with
    | none => cases h1
    | some n => rfl
theorem kw_names {pos : Pos} : ∀ {ks : List Keyword}, (backToKw pos (keywordEach ks X.env)).filterMap (·.1) = kwNames ks
  | [] => rfl
  | ⟨nm, e, p⟩ :: ks => by
    show List.filterMap (·.1) ((nm, _) :: backToKw pos (keywordEach ks X.env)) = _
    unfold kwNames
    cases nm with
    | none => rw [List.filterMap_cons]; exact kw_names
    | some n => rw [List.filterMap_cons]; exact congrArg (n :: ·) kw_names
theorem tArgs_append {σ : L2.St} : ∀ {fs gs : List (Sl → Out Op)} {H : Hp} {Q : List V → Hp → Prop}, tArgs K G W (fs ++ gs) σ H Q → tArgs K G W fs σ H fun vs H1 => tArgs K G W gs σ H1 fun zs H2 => Q (vs ++ zs) H2
  | [], gs, H, Q, h => h
  | f :: fs, gs, H, Q, h => tO_mono (show tO K G W f σ H _ from h) fun x H1 z => tArgs_append (fs := fs) (gs := gs) z
theorem tArgs_mono {σ : L2.St} : ∀ {fs : List (Sl → Out Op)} {H : Hp} {Q Q' : List V → Hp → Prop}, tArgs K G W fs σ H Q → (∀ vs H, Q vs H → Q' vs H) → tArgs K G W fs σ H Q'
  | [], H, Q, Q', h, i => i _ _ h
  | f :: fs, H, Q, Q', h, i => tO_mono (show tO K G W f σ H _ from h) fun x H1 z => tArgs_mono (fs := fs) z fun vs H2 z => i _ _ z
theorem tArgs_len {σ : L2.St} : ∀ {fs : List (Sl → Out Op)} {H : Hp} {Q : List V → Hp → Prop}, tArgs K G W fs σ H Q → tArgs K G W fs σ H fun vs H1 => vs.length = fs.length ∧ Q vs H1
  | [], H, Q, h => ⟨rfl, h⟩
  | f :: fs, H, Q, h => by
    refine tO_mono (show tO K G W f σ H _ from h) fun x H1 z => ?_
    have := tArgs_len (fs := fs) z
    refine tArgs_mono this fun vs H2 z => ⟨?_, z.2⟩
    rw [List.length_cons, List.length_cons, z.1]
end

/-! ### the calls -/
section
variable {X : Cx} {G : GEnv} {W : WX} {k : Nat} {f C : Addr} {fd : FuncData} {ps : List Str} {F : Fn} {sel : Sel} {x m : Str} {p pos apos : Pos} {o : Expr} {es : List Expr} {kws : List Keyword} {fs gs : List (Sl → Out Op)} {f0 : Sl → Out Op}
theorem VOs.len {es : List Expr} {fs : List (Sl → Out Op)} (h : VOs X G W es fs) : fs.length = es.length := by
  induction h with
  | nil => rfl
  | cons h r ih => rw [List.length_cons, List.length_cons, ih]
theorem VKs.len {ks : List Keyword} {fs : List (Sl → Out Op)} (h : VKs X G W ks fs) : fs.length = ks.length := by
  induction h with
  | nil => rfl
  | cons h r ih => rw [List.length_cons, List.length_cons, ih]
theorem kwNames_len : ∀ {ks : List Keyword}, kwAll ks = true → (kwNames ks).length = ks.length
  | [], _ => rfl
  | ⟨nm, e, p⟩ :: ks, h => by
    unfold kwAll at h
    rw [List.all_cons, Bool.and_eq_true] at h
    unfold kwNames
    have h1 : nm.isSome = true := h.1
    cases nm with
    | none => cases h1
    | some n => exact congrArg Nat.succ (kwNames_len h.2)
/-- the callee runs -/
theorem run_g {pins : List (Addr × Obj)} {σ : L2.St} {H : Hp} {s : Shared} {Q : VK} {sp : Sp} {us us' : List Value} {kw : List (Str × Value)} {vs : List V} (F : FnG X.prog X.w X.K X.mg X.base k f fd ps sp) (hr : Room k X.A) (hgd : X.A.guards = some []) (tk : Takes X W)
    (hb : BindsTo s fd ⟨us, kw⟩ (ps.zip us')) (I : Inv X pins σ H s) (r : Vals vs us') (h : sp vs H Q (WE W σ)) : wpAny (model X.prog X.w) X.A (call (.ref f) us kw) (EP X pins σ Q) X.xe s := by
  refine wpAny_call (codeAny_mono (F.run X.A X.stack s H ⟨us, kw⟩ us' vs Q (WE W σ) hr hgd I.env0 hb r h) fun r s' hq => ?_)
  match r, hq with
  | .error e, hq => exact passAt tk σ pins H s e s' I hq
  | .ok (.ret u), hq => exact I.after hq
/-- the arguments are evaluated, then the callee is called -/
theorem args_run {pins : List (Addr × Obj)} {σ : L2.St} {H : Hp} {s : Shared} {Q : VK} {g : Value} {first : List Value} {R : List V → Hp → Prop} (hk : PySem.W.keepIn X.K g = true) (h : VOs X G W es fs) (hs : es.all notStar = true) (h2 : VKs X G W kws gs) (hks : kwAll kws = true)
    (I : Inv X pins σ H s) (q : tArgs X.K G W (fs ++ gs) σ H R)
    (hc : ∀ vs zs us ws s2 H2, vs.length = es.length → zs.length = kws.length → Inv X pins σ H2 s2 → Vals vs us → Vals zs ws → R (vs ++ zs) H2 → wpAny (model X.prog X.w) X.A (call g (first ++ us) ((kwNames kws).zip ws)) (EP X pins σ Q) X.xe s2) :
    wpAny (model X.prog X.w) X.A (callWith pos g first (backTo pos (starEach es X.env)) (backToKw pos (keywordEach kws X.env))) (EP X pins σ Q) X.xe s := by
  have q1 := tArgs_len (tArgs_append q)
  have step : ∀ {vs us s1 H1}, vs.length = es.length → Inv X pins σ H1 s1 → Vals vs us → (tArgs X.K G W gs σ H1 fun zs H2 => R (vs ++ zs) H2) → wpAny (model X.prog X.w) X.A (evalAll ((backToKw pos (keywordEach kws X.env)).map (·.2)))
      (fun ks s₂ => X.K.In s₂.heap ∧ wpAny (model X.prog X.w) X.A (call g (first ++ us) (((backToKw pos (keywordEach kws X.env)).filterMap (·.1)).zip ks)) (EP X pins σ Q) X.xe s₂) X.xe s1 := by
    intro vs us s1 H1 hl I1 r q1
    refine thn ((pk_of h2).run pos pins s1 σ H1 _ I1 (tArgs_len q1)) fun ws s2 ⟨zs, H2, I2, rz, hz, q2⟩ => ⟨I2.kIn, ?_⟩
    rw [kw_names]
    exact hc vs zs us ws s2 H2 hl (by rw [hz]; exact h2.len) I2 r rz q2
  cases h with
  | nil =>
    refine PySem.W.callWith_KW0 (h₀ := X.base) I.ok.mod.kin hk (kw_all hks) ?_ (by rw [kw_any hks]; rfl)
    exact step (vs := []) (us := []) rfl I .nil q1.2
  | @cons e es f fs hv r =>
    have hs' := hs
    rw [List.all_cons, Bool.and_eq_true] at hs'
    refine PySem.W.callWith_KW (h₀ := X.base) I.ok.mod.kin hk (kw_all hks) (thn ((pa_of (.cons hv r) hs).run pos pins s σ H _ I q1) fun us s1 ⟨vs, H1, I1, r1, hl, q2⟩ => ?_) (by rw [kw_any hks, star_any hs]; rfl) (star_of hs'.1)
    exact step (by rw [hl]; exact (VOs.cons hv r).len) I1 r1 q2
/-- x(e, .., k = e, ..) of a def -/
theorem vo_fn (tk : Takes X W) (hF : FnG X.prog X.w X.K X.mg X.base k f fd ps (spF X.K G F)) (hr : Room k X.A) (hgd : X.A.guards = some []) (hg : Gl X x) (hm : X.mg x = some (.ref f)) (hk : PySem.W.keepIn X.K (.ref f) = true)
    (hb : ∃ g, KBn X.K fd ps es.length (kwNames kws) g (fun vs zs => pickV sel (vs ++ zs))) (h : VOs X G W es fs) (hs : es.all notStar = true) (h2 : VKs X G W kws gs) (hks : kwAll kws = true) (hdb : (x == ("__debug__" : Str)) = false) :
    VO X G W (.Call (.Name x p) es kws pos) (evF (fs ++ gs) (finSel sel (finCall F))) := by
  obtain ⟨g, hb⟩ := hb
  refine ⟨fun pins s σ H Q I q => wpAny_Call_Name_kw (ld_glob I hg hm ?_ hdb)⟩
  refine args_run (first := []) hk h hs h2 hks I (evF_argsS (fin_sel fin_call) q) fun vs zs us ws s2 H2 h3 h4 I2 r rz z => ?_
  exact run_g hF hr hgd tk (hb.to s2 us ws I2.kIn (by rw [← r.length]; exact h3) (by rw [← rz.length, h4, kwNames_len hks])) I2 (hb.rel r rz) z

/-! ### methods -/
def absB : Expr → Bool
  | .Call (.Name id _) [] [] _ => id != ("super" : Str)
  | _ => true
theorem abase {env : Env} {w : Sem Value} (h : absB o = true) : attributeBase o m env w = w := by
  unfold attributeBase
  split
  · have h' : (_ != ("super" : Str)) = true := h
    first
      | (simp only [h', Bool.true_or, if_true, bind_pure]; done)
      | (rw [h']; simp only [Bool.true_or, if_true, bind_pure]; done)
      | (simp [h']; done)
  · rfl
theorem method_eq (hb : absB o = true) (hs : es.all notStar = true) (hks : kwAll kws = true) (hn : es.length + kws.length < 29) (hl : (apos.endLine == pos.line) = true) :
    eval (.Call (.Attribute o m apos) es kws pos) X.env = (do
      let ov ← eval o X.env
      standAt apos.atName
      let (f, first) ← holding [ov] (getMethod ov m (do return (← importBound o X.env).getD true))
      callWith pos f first (backTo pos (starEach es X.env)) (backToKw pos (keywordEach kws X.env))) := by
  have few : methodCallForm (es.length + kws.length) (backTo pos (starEach es X.env)) (backToKw pos (keywordEach kws X.env)) = true := by
    unfold methodCallForm
    have h1 : (backTo pos (starEach es X.env)).all (fun x => !x.1) = true := by
      have := star_any (env := X.env) (pos := pos) hs
      rw [List.any_eq_false] at this
      exact List.all_eq_true.mpr fun y hy => by
        have := this y hy
        cases q : y.1 with
        | true => exact absurd q this
        | false => rfl
    rw [h1, kw_all hks, Bool.true_and, Bool.true_and]
    refine decide_eq_true ?_
    split <;> omega
  rw [arm_eval_Call, abase hb]
  unfold methodCall
  rw [few]
  simp only [calleeOf, methodCallPos, hl, if_true, Bool.or_true, pure_bind]
end
end VS
/-! VSm: calls of methods, of classes. -/
namespace VS
open PySem PySem.Spec PyProof.Rows L2

def evMeth (D : Str → Option (Sel × Fn)) (f0 : Sl → Out Op) (fs : List (Sl → Out Op)) : Sl → Out Op := fun s => match f0 s with
  | .ok o s1 => match snapOp s1 o with
    | some (.obj c _) => match D c with
      | some (sel, F) => match evAs fs s1 with
        | .ok ops s2 => finSel sel (finCall F) (o :: ops) s2
        | .er x s2 => .er x s2
        | .bad => .bad
      | none => .bad
    | _ => .bad
  | .er x s1 => .er x s1
  | .bad => .bad
section
variable {X : Cx} {K : PySem.W.Frag} {G : GEnv} {W : WX} {Φ H Φ1 H1 : Hp} {σ : L2.St} {s s1 : Sl} {F : Nat → Addr → Prop}
/-- behind an operand of any kind -/
theorem tO_any {f : Sl → Out Op} {Q : VK} (st : StR K G Φ H σ s F) (h1 : ∀ o s1, f s = .ok o s1 → ∀ v H' Φ' F' E, StR K G Φ' H' σ s1 F' → (∀ t, o = .vl t → Own K G Φ' H' t v E) → (∀ i, o = .rt i → σ[i]? = some (some v)) → TmpR Φ' H' F' E → Frm Φ H (Ft F) Φ' H' (fun b => E b ∨ Ft F' b) → Q v H')
    (h2 : ∀ x s1, f s = .er x s1 → postE K G W Φ H σ (Ft F) x s1) (h3 : f s ≠ .bad) : tO K G W f σ H Q := by
  refine ⟨Φ, s, F, st, ?_⟩
  cases q : f s with
  | bad => exact h3 q
  | er x s1 => exact h2 x s1 q
  | ok o s1 =>
    cases o with
    | vl t => exact fun v H' Φ' F' E st' ow tm fr => h1 _ _ q v H' Φ' F' E st' (fun t e => by cases e; exact ow) (fun i e => by cases e) tm fr
    | rt i => exact fun v H' Φ' F' st' hv fr => h1 _ _ q v H' Φ' F' no st' (fun t e => by cases e) (fun j e => by cases e; exact hv) TmpR.no (fr.less fun b h => h.elim (fun z => z.elim) id)
/-- what an operand's snapshot tells -/
theorem snap_one {o : Op} {v : V} {E : Addr → Prop} {d : D} (st : StR K G Φ H σ s F) (hv : ∀ t, o = .vl t → Own K G Φ H t v E) (hr : ∀ i, o = .rt i → σ[i]? = some (some v)) (h : snapOp s o = some d) : Rep K G H d v := by
  cases o with
  | vl t =>
    cases h
    exact (hv t rfl).snap st.same
  | rt i =>
    obtain ⟨t, ht, rfl⟩ := Option.map_eq_some_iff.mp (show (treeAt s i).map frz = some d from h)
    exact (st.at_ ht (hr i rfl)).snap st.same
/-- a list of operands behind a first one -/
theorem args_rest {fs : List (Sl → Out Op)} {o : Op} {v : V} {E : Addr → Prop} {L : Addr → Prop} {Q : List V → Hp → Prop} (st : StR K G Φ1 H1 σ s1 F) (hv : ∀ t, o = .vl t → Own K G Φ1 H1 t v E) (hr : ∀ i, o = .rt i → σ[i]? = some (some v)) (tm : TmpR Φ1 H1 F E) (fr : Frm Φ H L Φ1 H1 (fun b => E b ∨ Ft F b))
    (p : postA K G W Q Φ H σ L (match evAs fs s1 with
      | .ok ops s2 => .ok (o :: ops) s2
      | .er x s2 => .er x s2
      | .bad => .bad)) : tArgs K G W fs σ H1 fun xs H2 => Q (v :: xs) H2 := by
  refine args_ok fs _ Φ1 H1 s1 F st ?_
  cases q2 : evAs fs s1 with
  | bad => rw [q2] at p; exact p.elim
  | er x s2 =>
    rw [q2] at p
    intro cls d H' Φ' F' ex st' fr'
    exact p cls d H' Φ' F' ex st' ((fr.trans fr'.more).less fun b h => .inr h)
  | ok os s2 =>
    rw [q2] at p
    intro vs H' Φ' F' Es st' ops fr'
    have tm' : TmpR Φ' H' F' E := tm.step fr' fun i b h => .inr ⟨i, h⟩
    refine p (v :: vs) H' Φ' F' (consF E Es) st' (ops.cons (fun t e => (hv t e).step tm fr') hr tm' fun k b h1 h2 => tm.sep fr' b h1 (.inl ⟨k, h2⟩)) ((fr.trans fr'.more).less fun b h => ?_)
    rcases h with ⟨k, h⟩ | h
    · cases k with
      | zero => exact .inl h
      | succ k => exact .inr (.inl ⟨k, h⟩)
    · exact .inr (.inr h)
theorem lookup_zip {m : Str} : ∀ {fl : List Str} {vs : List V}, m ∉ fl → (fl.zip vs).lookup m = none
  | [], _, _ => rfl
  | _ :: _, [], _ => rfl
  | x :: fl, v :: vs, h => by
    rw [List.mem_cons, not_or] at h
    rw [List.zip_cons_cons, List.lookup_cons]
    have : (m == x) = false := beq_eq_false_iff_ne.mpr h.1
    rw [this]
    exact lookup_zip h.2
/-- an instance, not an exception -/
theorem rep_ins {c : Str} {ci : CInfo} {ds : List D} {v : V} (hc : G c = some ci) (he : ci.exn = false) (r : Rep K G H (.obj c ds) v) : ∃ a dx vs, v = .ref a ∧ H a = some (.ins ci.addr dx (ci.flds.zip vs)) ∧ RepL K G H ds vs ∧ vs.length ≤ ci.flds.length := by
  cases r with
  | obj hc' he' h hl hf hk =>
    rw [hc] at hc'
    cases hc'
    exact ⟨_, _, _, rfl, h, ⟨hl, hk⟩, hf⟩
  | exn hc' he' h hx hl hf hk =>
    rw [hc] at hc'
    cases hc'
    rw [he] at he'
    cases he'
  | exn0 hc' he' h =>
    rw [hc] at hc'
    cases hc'
    rw [he] at he'
    cases he'
/-- what a table of methods must keep -/
def MethOk (X : Cx) (G : GEnv) (m : Str) (n : Nat) (ks : List Str) (D : Str → Option (Sel × Fn)) : Prop := ∀ c sel F, D c = some (sel, F) → ∃ ci k f fd ps, G c = some ci ∧ ci.exn = false ∧ Cls X.K ci.addr ∧ Meth X.K ci.addr m f ∧ m ∉ ci.flds ∧
  FnG X.prog X.w X.K X.mg X.base k f fd ps (spF X.K G F) ∧ Room k X.A ∧ ∃ g, KBn X.K fd ps (n + 1) ks g (fun vs zs => pickV sel (vs ++ zs))
/-- o.m(e, .., k = e, ..) -/
theorem vo_meth {o : Expr} {m : Str} {apos pos : Pos} {es : List Expr} {kws : List Keyword} {f0 : Sl → Out Op} {fs gs : List (Sl → Out Op)} {D : Str → Option (Sel × Fn)} (tk : Takes X W) (hgd : X.A.guards = some []) (hM : MethOk X G m es.length (kwNames kws) D) (h0 : VO X G W o f0)
    (h : VOs X G W es fs) (hs : es.all notStar = true) (h2 : VKs X G W kws gs) (hks : kwAll kws = true) (hb : absB o = true) (hn : es.length + kws.length < 29) (hl : (apos.endLine == pos.line) = true) : VO X G W (.Call (.Attribute o m apos) es kws pos) (evMeth D f0 (fs ++ gs)) := by
  refine ⟨fun pins s σ H Q I q => ?_⟩
  -- the receiver, then the rest
  have q1 : tO X.K G W f0 σ H fun v H1 => ∃ c ci sel F a dx vs, D c = some (sel, F) ∧ G c = some ci ∧ ci.exn = false ∧ v = .ref a ∧ H1 a = some (.ins ci.addr dx (ci.flds.zip vs)) ∧ tArgs X.K G W (fs ++ gs) σ H1 fun xs H2 => spF X.K G F (pickV sel (v :: xs)) H2 Q (WE W σ) := by
    obtain ⟨Φ, sl, F, st, p⟩ := q
    unfold evMeth at p
    refine tO_any st (fun o1 s1 e v H' Φ' F' E st' hv hr tm fr => ?_) (fun x s1 e => ?_) (fun e => ?_)
    · rw [e] at p
      dsimp only at p
      split at p
      · next c ds hsn =>
        split at p
        · next sel Fn hD =>
          obtain ⟨ci, k, f, fd, ps, hc, he, _⟩ := hM c sel Fn hD
          obtain ⟨a, dx, vs, rfl, ha, _⟩ := rep_ins hc he (snap_one st' hv hr hsn)
          refine ⟨c, ci, sel, Fn, a, dx, vs, hD, hc, he, rfl, ha, args_rest (Φ := Φ) (H := H) (L := Ft F) (Q := fun xs H2 => spF X.K G Fn (pickV sel xs) H2 Q (WE W σ)) st' hv hr tm fr ?_⟩
          cases qa : evAs (fs ++ gs) s1 with
          | bad => rw [qa] at p; exact p.elim
          | er x s2 => rw [qa] at p; exact p
          | ok ops s2 =>
            rw [qa] at p
            exact fun vs H'' Φ'' F'' Es st'' or fr' => fin_sel fin_call Φ'' H'' σ s2 F'' (o1 :: ops) vs Es Q st'' or (postO.shift fr' p)
        · exact p.elim
      · exact p.elim
    · rw [e] at p
      exact p
    · rw [e] at p
      exact p
  refine PySem.W.methodCall_KW (pl := do return (← importBound o X.env).getD true) (thn (h0.run pins s σ H _ I q1) fun u s1 hq => ?_) (method_eq hb hs hks hn hl)
  obtain ⟨v, H1, I1, rv, c, ci, sel, F, a, dx, vs, hD, hc, he, rfl, ha, qa⟩ := hq
  obtain rfl : u = Value.ref a := rv
  obtain ⟨ci', k, f, fd, ps, hc', _, cls, hm, hmf, hF, hr, g, hb⟩ := hM c sel F hD
  rw [hc] at hc'
  cases hc'
  refine getmeth_ok I1 ha cls hm (lookup_zip hmf) ?_
  refine args_run (first := [.ref a]) hm.kp h hs h2 hks I1 qa fun vs zs us ws s2 H2 h3 h4 I2 r rz z => ?_
  exact run_g hF hr hgd tk (hb.to s2 (.ref a :: us) ws I2.kIn (by rw [List.length_cons, ← r.length, h3]) (by rw [← rz.length, h4, kwNames_len hks])) I2 (hb.rel (vs := .ref a :: vs) (.cons rfl r) rz) z
end

/-! ### a class is called -/
/-- from __init__: fr, is the new instance frozen behind it -/
def makeF (c : Str) (fr : Bool) (F : Fn) : Fn := fun ts => match F (.ins c [] :: ts) with
  | .ret (.leaf .non) (p :: ps) => .ret (if fr = true then .leaf (frz p) else p) ps
  | .exc x (_ :: ps) => .exc x ps
  | _ => .bad
section
variable {X : Cx} {K : PySem.W.Frag} {G : GEnv} {W : WX} {Φ H : Hp}
theorem make_sp {c : Str} {ci : CInfo} {fr : Bool} {F : Fn} {vs : List V} {Q : VK} {E : XK} (hc : G c = some ci) (he : ci.exn = false) (h : spF K G (makeF c fr F) vs H Q E) (x dx : Addr) (hx : H x = none) (hdx : H dx = none) (hne : dx ≠ x) :
    spF K G F (.ref x :: vs) (upd (upd H dx (.own x)) x (.ins ci.addr dx [])) (fun v H3 => v = .non ∧ Q (.ref x) H3) E := by
  obtain ⟨Φ, ts, Es, sm, tr, p⟩ := h
  have hx1 : (upd H dx (.own x)) x = none := by rw [upd_ne (Ne.symm hne)]; exact hx
  have e1 : Same H (upd (upd H dx (.own x)) x (.ins ci.addr dx [])) := (new_same hdx).trans (new_same hx1)
  have live : ∀ k b, Es k b → b ≠ x := fun k b h e => by
    obtain ⟨o, ho⟩ := (tr.tmp k).live b h
    rw [e, hx] at ho
    cases ho
  have tr1 : TrsR K G Φ (upd (upd H dx (.own x)) x (.ins ci.addr dx [])) noF (.ins c [] :: ts) (.ref x :: vs) (consF (fun b => b = x) Es) := by
    refine TrsR.cons ⟨tr.len, fun k t v h1 h2 => (tr.own k t v h1 h2).mono (Same.refl _) (fun b o _ h => e1 b o h) fun _ h => h, tr.dis, fun k => ⟨(tr.tmp k).unf, fun b h => (tr.tmp k).live b h |>.imp fun o q => e1 b o q, fun _ _ _ h => h⟩⟩
      (.ins (fun _ => no) rfl hc he (by rw [upd_same, List.zip_nil_right]) rfl (Nat.zero_le _) (fun k t v h _ => by simp at h) (fun k b h => h.elim) fun j k b _ h => h.elim) ⟨fun b h => by rw [h]; exact sm.free hx, fun b h => ⟨.ins ci.addr dx [], by rw [h]; exact upd_same⟩, fun _ _ _ h => h⟩ fun k b h z => live k b z h
  have fr0 : Frm Φ H (fun b => ∃ k, Es k b) Φ (upd (upd H dx (.own x)) x (.ins ci.addr dx [])) (fun b => ∃ k, consF (fun b => b = x) Es k b) := ⟨Same.refl _, fun b o h _ => e1 b o h, fun b ⟨k, h⟩ => by
    cases k with
    | zero => exact .inr (by rw [show b = x from h]; exact hx)
    | succ k => exact .inl ⟨k, h⟩, fun b o h => .inl h⟩
  refine ⟨Φ, _, _, sm.trans e1, tr1, ?_⟩
  unfold makeF at p
  cases q : F (.ins c [] :: ts) with
  | bad => rw [q] at p; exact p
  | exc y qs =>
    rw [q] at p
    cases qs with
    | nil => exact p.elim
    | cons p0 ps =>
      intro cls d H' Φ' Es' ex sm' tr' fr'
      exact p cls d H' Φ' (fun k => Es' (k + 1)) ex sm' tr'.tail ((fr0.trans fr').less fun b ⟨k, h⟩ => ⟨k + 1, h⟩)
  | ret r qs =>
    rw [q] at p
    cases r with
    | node ts => exact p.elim
    | ins c ts => exact p.elim
    | leaf d =>
      cases d with
      | bl _ => exact p.elim
      | int _ => exact p.elim
      | str _ => exact p.elim
      | tup _ => exact p.elim
      | lst _ => exact p.elim
      | obj _ _ => exact p.elim
      | ro _ => exact p.elim
      | non =>
        cases qs with
        | nil => exact p.elim
        | cons p0 ps =>
          intro v H' Φ' Es' sm' tr' fr'
          have hv : v = .non := by
            have ow := tr'.own 0 _ v rfl rfl
            cases ow with
            | leaf r => exact rep_non r
          refine ⟨hv, ?_⟩
          dsimp only at p
          have ow0 := tr'.own 1 p0 (.ref x) rfl rfl
          cases fr with
          | false =>
            rw [if_neg Bool.false_ne_true] at p
            exact p (.ref x) H' Φ' (fun k => Es' (k + 1)) sm' tr'.tail ((fr0.trans fr').less fun b ⟨k, h⟩ => ⟨k + 1, h⟩)
          | true =>
            rw [if_pos rfl] at p
            refine p (.ref x) H' (frzH Φ' H' (Es' 1)) (consF no fun k => Es' (k + 2)) (frzH_sub sm') (TrsR.cons ⟨tr'.tail.tail.len, fun k t v h1 h2 => (tr'.tail.tail.own k t v h1 h2).mono frzH_same (fun _ _ _ h => h) fun _ h => h, tr'.tail.tail.dis, fun k => ⟨fun b h => ?_, (tr'.tail.tail.tmp k).live, fun _ _ _ h => h⟩⟩
              (.leaf (ow0.frz frzH_same (frzH_at sm'))) TmpR.no fun k b h => h.elim) ?_
            · cases q2 : frzH Φ' H' (Es' 1) b with
              | none => rfl
              | some o =>
                rcases frzH_or b o q2 with z | z
                · rw [(tr'.tail.tail.tmp k).unf b h] at z; cases z
                · exact (tr'.dis 1 (k + 2) b (by omega) z h).elim
            · refine fr0.trans ⟨fr'.phi.trans frzH_same, fr'.keep, fun b ⟨k, h⟩ => ?_, fun b o h => ?_⟩
              · cases k with
                | zero => exact h.elim
                | succ k => exact fr'.foot b ⟨k + 2, h⟩
              · rcases frzH_or b o h with z | z
                · exact fr'.froz b o z
                · exact .inr (fr'.foot b ⟨1, z⟩)
theorem under_guards {A : Around} {C : Addr} {us : List Value} {kw : List (Str × Value)} : (A.under (.builtin "type.__call__" ⟨.ref C :: us, kw⟩)).guards = A.guards := by
  first | rfl | simp [Around.under, Code.guards, Code.isGuard, guardIds, pushGuards]
/-- a shifted choice: the new instance first -/
def Sel.up (sel : Sel) : Sel := .inl 0 :: sel.map fun x => match x with
  | .inl i => .inl (i + 1)
  | .inr c => .inr c
theorem pick_up {sel : Sel} {x : V} {vs : List V} : pickV sel.up (x :: vs) = x :: pickV sel vs := by
  unfold Sel.up pickV
  rw [List.map_cons, List.map_map]
  congr 1
  refine List.map_congr_left fun y _ => ?_
  cases y <;> rfl
/-- x(e, .., k = e, ..) of a class with an __init__ of its own -/
theorem vo_make {k : Nat} {f : Addr} {c x : Str} {ci : CInfo} {fr : Bool} {F : Fn} {fd : FuncData} {ps : List Str} {sel : Sel} {p pos : Pos} {es : List Expr} {kws : List Keyword} {fs gs : List (Sl → Out Op)} (tk : Takes X W) (hc : G c = some ci) (he : ci.exn = false) (M : Mk X.K ci.addr f) (hF : FnG X.prog X.w X.K X.mg X.base k f fd ps (spF X.K G F)) (hr : Room (k + 1) X.A) (hgd : X.A.guards = some [])
    (hg : Gl X x) (hm : X.mg x = some (.ref ci.addr)) (hb : ∃ g, KBn X.K fd ps (es.length + 1) (kwNames kws) g (fun vs zs => pickV sel.up (vs ++ zs))) (h : VOs X G W es fs) (hs : es.all notStar = true) (h2 : VKs X G W kws gs) (hks : kwAll kws = true) (hdb : (x == ("__debug__" : Str)) = false) :
    VO X G W (.Call (.Name x p) es kws pos) (evF (fs ++ gs) (finSel sel (finCall (makeF c fr F)))) := by
  obtain ⟨g, hb⟩ := hb
  refine ⟨fun pins s σ H Q I q => wpAny_Call_Name_kw (ld_glob I hg hm ?_ hdb)⟩
  refine args_run (first := []) M.kp h hs h2 hks I (evF_argsS (fin_sel fin_call) q) fun vs zs us ws s2 H2 h3 h4 I2 r rz z => ?_
  show wpAny _ _ (call (.ref ci.addr) us _) _ _ _
  have z1 := make_sp hc he z (s2.heap.objs.size + 1) s2.heap.objs.size (I2.hok.fresh (Nat.le_succ _)) (I2.hok.fresh (Nat.le_refl _)) (Nat.ne_of_lt (Nat.lt_succ_self _))
  have I3 := Inv.made (C := ci.addr) I2
  have r2 := hb.rel (vs := .ref (s2.heap.objs.size + 1) :: vs) (us := .ref (s2.heap.objs.size + 1) :: us) (.cons rfl r) rz
  have e0 : pickV sel.up (V.ref (s2.heap.objs.size + 1) :: vs ++ zs) = V.ref (s2.heap.objs.size + 1) :: pickV sel (vs ++ zs) := pick_up
  rw [e0] at r2
  refine wpAny_call (make_map (f := f) I2.kIn M.makes M.init (beq_iff_eq.mp M.fn) (codeAny_mono (hF.run _ X.stack _ _ ⟨.ref (s2.heap.objs.size + 1) :: us, (kwNames kws).zip ws⟩ _ _ _ (WE W σ) (hr.make _ us _) (by rw [under_guards]; exact hgd)
    (I3.env0.make _ us _) (hb.to _ (.ref (s2.heap.objs.size + 1) :: us) ws I3.kIn (by rw [List.length_cons, ← r.length, h3]) (by rw [← rz.length, h4, kwNames_len hks])) r2 z1) fun r s' hq => ?_))
  match r, hq with
  | .error e, hq => exact passAt tk σ pins _ _ e s' I3 hq
  | .ok (.ret u), hq =>
    obtain ⟨v, H', I4, rv, ev, q3⟩ := I3.after hq
    subst ev
    exact ⟨rv, ⟨.ref (s2.heap.objs.size + 1), H', I4, rfl, q3⟩⟩
end
end VS
/-! VSn: data compared and shown; isinstance; lists changed; fields. -/
namespace VS
open PySem PySem.Spec PyProof.Rows L2

/-! ### data without objects -/
mutual
def toPy : D → Option PyData
  | .non => some .none
  | .bl b => some (.bool b)
  | .int i => some (.int i)
  | .str s => some (.str s)
  | .tup ds => match toPyL ds with
    | some xs => some (.tuple xs)
    | none => none
  | .lst ds => match toPyL ds with
    | some xs => some (.list xs)
    | none => none
  | .ro ds => match toPyL ds with
    | some xs => some (.list xs)
    | none => none
  | .obj _ _ => none
def toPyL : List D → Option (List PyData)
  | [] => some []
  | d :: ds => match toPy d, toPyL ds with
    | some x, some xs => some (x :: xs)
    | _, _ => none
end
section
variable {X : Cx} {K : PySem.W.Frag} {G : GEnv} {W : WX} {H : Hp}
mutual
theorem dp_of : ∀ (d : D) (v : V) (x : PyData), toPy d = some x → Rep K G H d v → Dp K H v x
  | .non, v, x, h, r => by
    simp only [toPy] at h
    cases h
    rw [rep_non r]
    exact .non
  | .bl b, v, x, h, r => by
    simp only [toPy] at h
    cases h
    rw [rep_bl r]
    exact .bl b
  | .int i, v, x, h, r => by
    simp only [toPy] at h
    cases h
    rw [rep_int r]
    exact .int i
  | .str s, v, x, h, r => by
    simp only [toPy] at h
    cases h
    rw [rep_str r]
    exact .str s
  | .tup ds, v, x, h, r => by
    simp only [toPy] at h
    split at h
    · next xs hx =>
      cases h
      obtain ⟨a, ws, rfl, hq, rl⟩ := rep_tupK r
      exact .tup hq (dp_all ds ws xs hx rl)
    · cases h
  | .lst ds, v, x, h, r => by
    simp only [toPy] at h
    split at h
    · next xs hx =>
      cases h
      obtain ⟨a, ws, rfl, hq, rl⟩ := rep_lstV r
      exact .lst hq (dp_all ds ws xs hx rl)
    · cases h
  | .ro ds, v, x, h, r => by
    simp only [toPy] at h
    split at h
    · next xs hx =>
      cases h
      cases r with
      | ro hq hl hk => exact .lst hq (dp_all ds _ xs hx ⟨hl, hk⟩)
    · cases h
  | .obj c ds, v, x, h, r => by
    simp only [toPy] at h
    cases h
theorem dp_all : ∀ (ds : List D) (vs : List V) (xs : List PyData), toPyL ds = some xs → RepL K G H ds vs → DpAll K H vs xs
  | [], vs, xs, h, r => by
    simp only [toPyL] at h
    cases h
    rw [r.cases_nil]
    exact .nil
  | d :: ds, vs, xs, h, r => by
    simp only [toPyL] at h
    split at h
    · next x xs' h1 h2 =>
      cases h
      obtain ⟨v, vr, rfl, hv, hr⟩ := r.cases_cons
      exact .cons (dp_of d v x h1 hv) (dp_all ds vr xs' h2 hr)
    · cases h
end
def bEq : List D → B
  | [a, b] => match toPy a, toPy b with
    | some x, some y => if SeqAt.shaped x = true ∧ SeqAt.shaped y = true then .sc (.bl (PyData.eqv x y)) else .bad
    | _, _ => .bad
  | _ => .bad
def bNe : List D → B
  | [a, b] => match toPy a, toPy b with
    | some x, some y => if SeqAt.shaped x = true ∧ SeqAt.shaped y = true then .sc (.bl (!PyData.eqv x y)) else .bad
    | _, _ => .bad
  | _ => .bad
theorem prim_eq : Prim K G (lift2 (rEqD K)) bEq := by
  intro vs ds H Q b r e w
  unfold bEq at e
  split at e
  · split at e
    · next x y hx hy =>
      split at e
      · next hs =>
        subst e
        obtain ⟨u, v, rfl, h1, h2⟩ := repL2 r
        exact ⟨x, y, dp_of _ _ _ hx h1, dp_of _ _ _ hy h2, hs.1, hs.2, w H (Same.refl H)⟩
      · subst e; exact w.elim
    · subst e; exact w.elim
  · subst e; exact w.elim
theorem prim_ne : Prim K G (lift2 (rNeD K)) bNe := by
  intro vs ds H Q b r e w
  unfold bNe at e
  split at e
  · split at e
    · next x y hx hy =>
      split at e
      · next hs =>
        subst e
        obtain ⟨u, v, rfl, h1, h2⟩ := repL2 r
        exact ⟨x, y, dp_of _ _ _ hx h1, dp_of _ _ _ hy h2, hs.1, hs.2, w H (Same.refl H)⟩
      · subst e; exact w.elim
    · subst e; exact w.elim
  · subst e; exact w.elim
/-- two numbers, two texts -/
def isSc2 : List D → Bool
  | [.int _, .int _] => true
  | [.str _, .str _] => true
  | _ => false
def bEqS (neg : Bool) : List D → B
  | [.int i, .int j] => .sc (.bl (decide (i = j) ^^ neg))
  | [.str i, .str j] => .sc (.bl (decide (i = j) ^^ neg))
  | _ => .bad
theorem prim_eqS : Prim K G (lift2 rEq) (bEqS false) := by
  intro vs ds H Q b r e w
  unfold bEqS at e
  split at e
  · next i j =>
    subst e
    obtain ⟨u, v, rfl, h1, h2⟩ := repL2 r
    obtain rfl := rep_int h1
    obtain rfl := rep_int h2
    have q := w H (Same.refl H)
    rw [show (decide (i = j) ^^ false) = decide (V.int i = V.int j) by simp] at q
    exact ⟨rfl, q⟩
  · next i j =>
    subst e
    obtain ⟨u, v, rfl, h1, h2⟩ := repL2 r
    obtain rfl := rep_str h1
    obtain rfl := rep_str h2
    have q := w H (Same.refl H)
    rw [show (decide (i = j) ^^ false) = decide (V.str i = V.str j) by simp] at q
    exact ⟨rfl, q⟩
  · subst e; exact w.elim
theorem prim_neS : Prim K G (lift2 rNe) (bEqS true) := by
  intro vs ds H Q b r e w
  unfold bEqS at e
  split at e
  · next i j =>
    subst e
    obtain ⟨u, v, rfl, h1, h2⟩ := repL2 r
    obtain rfl := rep_int h1
    obtain rfl := rep_int h2
    have q := w H (Same.refl H)
    rw [show (decide (i = j) ^^ true) = !decide (V.int i = V.int j) by simp] at q
    exact ⟨rfl, q⟩
  · next i j =>
    subst e
    obtain ⟨u, v, rfl, h1, h2⟩ := repL2 r
    obtain rfl := rep_str h1
    obtain rfl := rep_str h2
    have q := w H (Same.refl H)
    rw [show (decide (i = j) ^^ true) = !decide (V.str i = V.str j) by simp] at q
    exact ⟨rfl, q⟩
  · subst e; exact w.elim
def finEq : Fin1 := finIf isSc2 (finP (bEqS false)) (finP bEq)
def finNe : Fin1 := finIf isSc2 (finP (bEqS true)) (finP bNe)
theorem road_eq (hu : X.A.units + 64 < cLine) : Road X G W (compareOp .Eq) finEq := (road_prim op_eq prim_eqS).or (road_prim (op_eqD hu) prim_eq)
theorem road_ne (hu : X.A.units + 64 < cLine) : Road X G W (compareOp .NotEq) finNe := (road_prim op_ne prim_neS).or (road_prim (op_neD hu) prim_ne)

/-! ### repr, str -/
def showOk (x : PyData) : Bool := x.showable && decide (x.shown.length ≤ sizeLine) && decide (x.depth ≤ 60)
mutual
theorem noDict_of : ∀ (d : D) (x : PyData), toPy d = some x → x.hasDict = false
  | .non, x, h => by simp only [toPy] at h; cases h; simp only [PyData.hasDict]
  | .bl _, x, h => by simp only [toPy] at h; cases h; simp only [PyData.hasDict]
  | .int _, x, h => by simp only [toPy] at h; cases h; simp only [PyData.hasDict]
  | .str _, x, h => by simp only [toPy] at h; cases h; simp only [PyData.hasDict]
  | .tup ds, x, h => by
    simp only [toPy] at h
    split at h
    · next xs hx => cases h; simp only [PyData.hasDict]; exact noDict_all ds xs hx
    · cases h
  | .lst ds, x, h => by
    simp only [toPy] at h
    split at h
    · next xs hx => cases h; simp only [PyData.hasDict]; exact noDict_all ds xs hx
    · cases h
  | .ro ds, x, h => by
    simp only [toPy] at h
    split at h
    · next xs hx => cases h; simp only [PyData.hasDict]; exact noDict_all ds xs hx
    · cases h
  | .obj _ _, x, h => by simp only [toPy] at h; cases h
theorem noDict_all : ∀ (ds : List D) (xs : List PyData), toPyL ds = some xs → PyData.hasDictAll xs = false
  | [], xs, h => by simp only [toPyL] at h; cases h; simp only [PyData.hasDictAll]
  | d :: ds, xs, h => by
    simp only [toPyL] at h
    split at h
    · next x xs' h1 h2 =>
      cases h
      simp only [PyData.hasDictAll, noDict_of d x h1, noDict_all ds xs' h2, Bool.or_false]
    · cases h
end
def rRepr (K : PySem.W.Frag) : List V → Hp → VK → Prop := fun xs H Q => ∃ x d, xs = [x] ∧ Dp K H x d ∧ d.hasDict = false ∧ showOk d = true ∧ Q (.str d.shown) H
theorem cr_repr (hgd : X.A.guards = some []) (hu : X.A.units + 64 < cLine) : CallR X (.builtin "repr") (rRepr X.K) := by
  intro pins s σ H xs us Q I r h
  obtain ⟨x, d, rfl, dp, nd, so, q⟩ := h
  obtain ⟨u, rfl, rx⟩ := vals1 r
  obtain ⟨as, rd⟩ := Dp.reads I d x u dp rx
  unfold showOk at so
  rw [Bool.and_eq_true, Bool.and_eq_true, decide_eq_true_eq, decide_eq_true_eq] at so
  obtain ⟨⟨s1, s2⟩, s3⟩ := so
  have byRef : ∀ {a : Addr}, u = .ref a → wpAny (model X.prog X.w) X.A (call (.builtin "repr") [u]) (EP X pins σ Q) X.xe s := by
    rintro a rfl
    exact repr_of_reads' rd s1 (PyData.noDict_hsm nd) hgd (by omega) (fun _ _ e => e) (fun h' u tk hk => ⟨.str d.shown, H, I.kept hk, ⟨u, rfl⟩, q⟩) s2
  cases d with
  | none =>
    cases dp
    cases rx
    simp only [PyData.shown] at q
    exact PySem.P.repr_of_none ⟨.str _, H, I.tok _, ⟨_, rfl⟩, q⟩
  | bool b =>
    cases dp
    cases rx
    simp only [PyData.shown] at q
    exact PySem.P.repr_of_bool ⟨.str _, H, I.tok _, ⟨_, rfl⟩, q⟩
  | int i =>
    cases dp
    obtain ⟨t, rfl⟩ := rx
    simp only [PyData.shown] at q
    exact PySem.P.repr_of_int (by simpa [PyData.showable] using s1) ⟨.str _, H, I.tok _, ⟨_, rfl⟩, q⟩
  | str z =>
    cases dp
    obtain ⟨t, rfl⟩ := rx
    simp only [PyData.shown] at q s2
    exact PySem.P.repr_of_str ⟨.str _, H, I.tok _, ⟨_, rfl⟩, q⟩ s2
  | list ds =>
    cases dp with
    | lst hs ha => exact byRef rx
  | tuple ds =>
    cases dp with
    | tup hs ha => exact byRef rx
  | dict ds => cases dp
def bRepr : List D → B
  | [a] => match toPy a with
    | some x => if showOk x = true then .sc (.str x.shown) else .bad
    | none => .bad
  | _ => .bad
theorem prim_repr : Prim K G (rRepr K) bRepr := by
  intro vs ds H Q b r e w
  unfold bRepr at e
  split at e
  · split at e
    · next x hx =>
      split at e
      · next hs =>
        subst e
        obtain ⟨u, rfl, h1⟩ := repL1 r
        exact ⟨u, x, rfl, dp_of _ _ _ hx h1, noDict_of _ _ hx, hs, w H (Same.refl H)⟩
      · subst e; exact w.elim
    · subst e; exact w.elim
  · subst e; exact w.elim
def rStr : List V → Hp → VK → Prop := fun xs H Q => (∃ i, xs = [.int i] ∧ i.natAbs.log2 < 1920 ∧ Q (.str (toString i)) H) ∨ ∃ a, xs = [.str a] ∧ Q (.str a) H
theorem cr_str : CallR X (.type "str") rStr := call_str_int.or SkE.call_str_str
def bStr : List D → B
  | [.int i] => if i.natAbs.log2 < 1920 then .sc (.str (toString i)) else .bad
  | [.str z] => .sc (.str z)
  | _ => .bad
theorem prim_str : Prim K G rStr bStr := by
  intro vs ds H Q b r e w
  unfold bStr at e
  split at e
  · split at e
    · next hs =>
      subst e
      obtain ⟨u, rfl, h1⟩ := repL1 r
      obtain rfl := rep_int h1
      exact .inl ⟨_, rfl, hs, w H (Same.refl H)⟩
    · subst e; exact w.elim
  · subst e
    obtain ⟨u, rfl, h1⟩ := repL1 r
    obtain rfl := rep_str h1
    exact .inr ⟨_, rfl, w H (Same.refl H)⟩
  · subst e; exact w.elim

/-! ### isinstance -/
/-- a class: a built-in type, or one of the text -/
abbrev CK := String ⊕ Str
def tyK : D → CK
  | .non => .inl "NoneType"
  | .bl _ => .inl "bool"
  | .int _ => .inl "int"
  | .str _ => .inl "str"
  | .tup _ => .inl "tuple"
  | .lst _ => .inl "list"
  | .ro _ => .inl "list"
  | .obj c _ => .inr c
def ckVal (G : GEnv) : CK → Option Value
  | .inl n => some (.type n)
  | .inr c => match G c with
    | some ci => some (.ref ci.addr)
    | none => none
/-- what isinstance asks of a class of the text -/
structure InsOk (K : PySem.W.Frag) (C : Addr) : Prop where
  cl : Cls K C
  ha : PySem.W.findIn K (.ref C) "__class__" = some (some (.builtin "object.__class__"))
  hn : PySem.W.specialIn K (.builtin "object.__class__") "__get__" = some (some (.builtin "getset_descriptor.__get__"))
  htk : PySem.W.takesIn K (.builtin "object.__class__") = some true
  hm : PySem.W.mroIn K C (.type "object") = some true
/-- a table of answers: by the thing's class and the class asked for -/
structure IsiTab (K : PySem.W.Frag) (G : GEnv) (T : CK → CK → Option Bool) : Prop where
  ins : ∀ c k b, T (.inr c) k = some b → ∃ ci, G c = some ci ∧ ci.exn = false ∧ InsOk K ci.addr
  ans : ∀ t k b, T t k = some b → ∃ u w, ckVal G t = some u ∧ ckVal G k = some w ∧ PySem.W.kitOne K u w = some b
def isiAny (T : CK → CK → Option Bool) (t : CK) : List CK → Option Bool
  | [] => some false
  | k :: ks => match T t k with
    | some true => some true
    | some false => isiAny T t ks
    | none => none
theorem tyx_of {T : CK → CK → Option Bool} {d : D} {v : V} {k : CK} {b : Bool} (hT : IsiTab K G T) (r : Rep K G H d v) (h : T (tyK d) k = some b) : ∃ u w, ckVal G (tyK d) = some u ∧ ckVal G k = some w ∧ TyX K H v u ∧ PySem.W.kitOne K u w = some b := by
  obtain ⟨u, w, h1, h2, h3⟩ := hT.ans _ _ _ h
  refine ⟨u, w, h1, h2, ?_, h3⟩
  have seq : ∀ {a : Addr} {xs : List V}, SqL K H a xs → TyX K H (.ref a) (.type "list") := fun {a xs} hq => by
    rcases hq with (hq | ⟨o, hq⟩) | ⟨o, its, n, h1, h2, _⟩
    · exact .base (.lst hq)
    · exact .base (.frz hq)
    · exact .kList h1 h2
  cases r with
  | non => cases h1; exact .base .non
  | bl b => cases h1; exact .base (.bl b)
  | int i => cases h1; exact .base (.int i)
  | str z => cases h1; exact .base (.str z)
  | tup hq hl hk =>
    cases h1
    rcases hq with (hq | ⟨o, hq⟩) | ⟨o, its, n, h1, h2, _⟩
    · exact .base (.tup hq)
    · exact .fTuple hq
    · exact .kTuple h1 h2
  | lst hq hl hk => cases h1; exact seq (SqL.of hq)
  | ro hq hl hk => cases h1; exact seq hq
  | obj hc he ha hl hf hk =>
    obtain ⟨ci', hc', _, io⟩ := hT.ins _ _ _ h
    rw [hc] at hc'
    cases hc'
    have e1 : ckVal G (.inr _) = some u := h1
    unfold ckVal at e1
    dsimp only at e1
    rw [hc] at e1
    cases e1
    exact .base (.ins ha io.cl io.ha io.hn io.htk io.hm)
  | exn hc he _ _ _ _ _ =>
    obtain ⟨ci', hc', he', _⟩ := hT.ins _ _ _ h
    rw [hc] at hc'
    cases hc'
    rw [he] at he'
    cases he'
  | exn0 hc he _ =>
    obtain ⟨ci', hc', he', _⟩ := hT.ins _ _ _ h
    rw [hc] at hc'
    cases hc'
    rw [he] at he'
    cases he'
def evIsi (T : CK → CK → Option Bool) (k : CK) (f : Sl → Out Op) : Sl → Out Op := fun s => match f s with
  | .ok o s1 => match snapOp s1 o with
    | some d => match T (tyK d) k with
      | some b => .ok (.vl (.leaf (.bl b))) s1
      | none => .bad
    | none => .bad
  | .er x s1 => .er x s1
  | .bad => .bad
/-- a class named as an argument -/
def ClsE (X : Cx) (G : GEnv) (k : CK) (e : Expr) : Prop := ∃ c u, PE X e (tC c) ∧ ClsV c u ∧ ckVal G k = some u ∧ notStar e = true
theorem isi_ok {T : CK → CK → Option Bool} {k : CK} {f : Sl → Out Op} {c : V} {w : Value} {σ : L2.St} {Q : VK} (hT : IsiTab K G T) (hc : ClsV c w) (hk : ckVal G k = some w) (h : tO K G W (evIsi T k f) σ H Q) : tO K G W f σ H fun x H1 => rIsi K [x, c] H1 Q := by
  obtain ⟨Φ, s, F, st, p⟩ := h
  unfold evIsi at p
  refine tO_any st (fun o1 s1 e v H' Φ' F' E st' hv hr tm fr => ?_) (fun x s1 e => ?_) (fun e => ?_)
  · rw [e] at p
    dsimp only at p
    split at p
    · next d hd =>
      split at p
      · next b hb =>
        obtain ⟨u, w', h1, h2, ty, h4⟩ := tyx_of hT (snap_one st' hv hr hd) hb
        rw [hk] at h2
        cases h2
        exact ⟨v, c, u, w, b, rfl, hc, ty, h4, p (.bl b) H' Φ' F' no st' (.leaf (.bl b)) TmpR.no (fr.less fun b h => h.elim (fun z => z.elim) .inr)⟩
      · exact p.elim
    · exact p.elim
  · rw [e] at p; exact p
  · rw [e] at p; exact p
theorem vo_isi {T : CK → CK → Option Bool} {k : CK} {e c : Expr} {f : Sl → Out Op} {p pos : Pos} (hT : IsiTab X.K G T) (hg : Gl X "isinstance") (hm : X.mg "isinstance" = none) (he : VO X G W e f) (hs : notStar e = true) (hc : ClsE X G k c) : VO X G W (.Call (.Name "isinstance" p) [e, c] [] pos) (evIsi T k f) := by
  obtain ⟨cv, u, pc, kc, hk, hs2⟩ := hc
  refine pe_imp (pe_callB call_isi hg hm (by decide +kernel) (pa_cons he (pa_cons pc pa_nil (star_of hs2)) (star_of hs)) (by decide) (by decide) (star_of hs) (by rw [star_of hs2]; rfl)) fun σ H Q q => ?_
  exact tO_mono (isi_ok hT kc hk q) fun v H1 z => z
end
end VS
/-! VSo: lists and instances changed. -/
namespace VS
open PySem PySem.Spec PyProof.Rows L2

section
variable {X : Cx} {K : PySem.W.Frag} {G : GEnv} {W : WX} {Φ H Φ1 H1 : Hp} {σ : L2.St} {s s1 s2 : Sl} {F : Nat → Addr → Prop} {E : Addr → Prop} {ts : List T} {vs : List V} {Es : Nat → Addr → Prop} {t : T} {v : V} {a : Addr} {i : Nat}
theorem TrsR.snoc (r : TrsR K G Φ H F ts vs Es) (hv : Own K G Φ H t v E) (ht : TmpR Φ H F E) (hd : ∀ k b, E b → ¬ Es k b) : ∃ Es', TrsR K G Φ H F (ts ++ [t]) (vs ++ [v]) Es' ∧ ∀ k b, Es' k b → (∃ j, Es j b) ∨ E b := by
  refine ⟨fun k => if k < ts.length then Es k else if k = ts.length then E else no, ⟨by rw [List.length_append, List.length_append, r.len]; rfl, fun k u w h1 h2 => ?_, fun j k b hjk h1 h2 => ?_, fun k => ?_⟩, fun k b h => ?_⟩
  · skip
    by_cases hlt : k < ts.length
    · rw [if_pos hlt]
      rw [List.getElem?_append_left hlt] at h1
      rw [List.getElem?_append_left (by rw [← r.len]; exact hlt)] at h2
      exact r.own k u w h1 h2
    · rw [if_neg hlt]
      have hke : k = ts.length := by
        have := (List.getElem?_eq_some_iff.mp h1).1
        rw [List.length_append, List.length_singleton] at this
        omega
      rw [if_pos hke]
      subst hke
      rw [List.getElem?_append_right (Nat.le_refl _), Nat.sub_self] at h1
      rw [List.getElem?_append_right (by rw [r.len]; exact Nat.le_refl _), r.len, Nat.sub_self] at h2
      cases h1
      cases h2
      exact hv
  · skip
    by_cases h3 : j < ts.length
    · rw [if_pos h3] at h1
      by_cases h4 : k < ts.length
      · rw [if_pos h4] at h2
        exact r.dis j k b hjk h1 h2
      · rw [if_neg h4] at h2
        split at h2
        · exact hd j b h2 h1
        · exact h2
    · rw [if_neg h3] at h1
      split at h1
      · by_cases h4 : k < ts.length
        · rw [if_pos h4] at h2
          exact hd k b h1 h2
        · rw [if_neg h4] at h2
          split at h2
          · omega
          · exact h2
      · exact h1
  · skip
    split
    · exact r.tmp k
    · split
      · exact ht
      · exact TmpR.no
  · dsimp only at h
    split at h
    · exact .inl ⟨k, h⟩
    · split at h
      · exact .inr h
      · exact h.elim
theorem TrsR.set (r : TrsR K G Φ H F ts vs Es) (hv : Own K G Φ H t v E) (ht : TmpR Φ H F E) (hd : ∀ k b, E b → ¬ Es k b) (j : Nat) : ∃ Es', TrsR K G Φ H F (ts.set j t) (vs.set j v) Es' ∧ ∀ k b, Es' k b → (∃ j, Es j b) ∨ E b := by
  refine ⟨fun k => if k = j then E else Es k, ⟨by rw [List.length_set, List.length_set, r.len], fun k u w h1 h2 => ?_, fun m k b hjk h1 h2 => ?_, fun k => ?_⟩, fun k b h => ?_⟩
  · skip
    by_cases hk : k = j
    · subst hk
      rw [if_pos rfl]
      have hlt : k < ts.length := by
        have := (List.getElem?_eq_some_iff.mp h1).1
        rwa [List.length_set] at this
      rw [List.getElem?_set_self hlt] at h1
      rw [List.getElem?_set_self (by rw [← r.len]; exact hlt)] at h2
      cases h1
      cases h2
      exact hv
    · rw [if_neg hk]
      rw [List.getElem?_set_ne (Ne.symm hk)] at h1 h2
      exact r.own k u w h1 h2
  · skip
    by_cases h3 : m = j
    · rw [if_pos h3] at h1
      by_cases h4 : k = j
      · omega
      · rw [if_neg h4] at h2
        exact hd k b h1 h2
    · rw [if_neg h3] at h1
      by_cases h4 : k = j
      · rw [if_pos h4] at h2
        exact hd m b h2 h1
      · rw [if_neg h4] at h2
        exact r.dis m k b hjk h1 h2
  · skip
    split
    · exact ht
    · exact r.tmp k
  · dsimp only at h
    split at h
    · exact .inr h
    · exact .inl ⟨k, h⟩
theorem TrsR.front (r : TrsR K G Φ H F ts vs Es) (n : Nat) (hn : n ≤ ts.length) : TrsR K G Φ H F (ts.take n) (vs.take n) fun k => if k < n then Es k else no := by
  refine ⟨by rw [List.length_take, List.length_take, r.len], fun k u w h1 h2 => ?_, fun j k b hjk h1 h2 => ?_, fun k => ?_⟩
  · have hk : k < n := by
      have := (List.getElem?_eq_some_iff.mp h1).1
      rw [List.length_take] at this
      omega
    rw [if_pos hk]
    rw [List.getElem?_take_of_lt hk] at h1 h2
    exact r.own k u w h1 h2
  · skip
    split at h1
    · split at h2
      · exact r.dis j k b hjk h1 h2
      · exact h2
    · exact h1
  · skip
    split
    · exact r.tmp k
    · exact TmpR.no
/-- an owned list in a slot: its items, apart -/
theorem StR.items (st : StR K G Φ H σ s F) (ht : treeAt s i = some (.node ts)) : ∃ a xs Fs, σ[i]? = some (some (.ref a)) ∧ H a = some (.lst xs) ∧ F i a ∧ TrsR K G Φ H (updF F i no) ts xs Fs ∧ (∀ k b, Fs k b → F i b ∧ b ≠ a) := by
  obtain ⟨v, hv, ow⟩ := st.slot i _ ht
  cases ow with
  | @node _ a xs _ Fs ha h hl hk hs hd =>
    refine ⟨a, xs, Fs, hv, h, ha, ⟨hl, hk, hd, fun k => ⟨fun b z => st.unf i b (hs k b z).1, fun b z => st.live i b (hs k b z).1, fun j b z y => ?_⟩⟩, hs⟩
    by_cases hj : j = i
    · subst hj; rw [updF_same] at y; exact y
    · rw [updF_ne hj] at y
      exact st.dis i j b (Ne.symm hj) (hs k b z).1 y
/-- an owned object in a slot is written: other trees below it -/
theorem StR.redo {u t' : T} {o o' : HO} (st : StR K G Φ H σ s F) (ht : treeAt s i = some u) (hv : σ[i]? = some (some (.ref a))) (hF : F i a) (tr : TrsR K G Φ H (updF F i no) ts vs Es) (na : ∀ k, ¬ Es k a)
    (mk : TrsR K G Φ (upd H a o') noF ts vs Es → Own K G Φ (upd H a o') t' (.ref a) (fun b => b = a ∨ ∃ k, Es k b)) :
    StR K G Φ (upd H a o') σ (s.set i (.tr t')) (updF F i fun b => b = a ∨ ∃ k, Es k b) ∧ Frm Φ H (fun b => (∃ k, Es k b) ∨ Ft F b) Φ (upd H a o') (Ft (updF F i fun b => b = a ∨ ∃ k, Es k b)) := by
  have nΦ := st.unf i a hF
  have up : ∀ b x, b ≠ a → H b = some x → upd H a o' b = some x := fun b x hb e => by rw [upd_ne hb]; exact e
  have tr1 : TrsR K G Φ (upd H a o') noF ts vs Es := ⟨tr.len, fun k t v h1 h2 => (tr.own k t v h1 h2).mono (Same.refl _) (fun b x hb e => up b x (fun z => na k (by rw [← z]; exact hb)) e) fun _ h => h, tr.dis, fun k => ⟨(tr.tmp k).unf, fun b h => by
    obtain ⟨x, hx⟩ := (tr.tmp k).live b h
    exact ⟨x, up b x (fun z => na k (by rw [← z]; exact h)) hx⟩, fun _ _ _ h => h⟩⟩
  refine ⟨st.put (Φ1 := Φ) (H1 := upd H a o') ht hv _ (.inl rfl) (Same.refl _) (fun b x e => up b x (fun z => by rw [z, nΦ] at e; cases e) (st.same b x e)) (mk tr1) (fun b h => ?_) (fun j b x hj hb e => up b x (fun z => st.dis j i b hj hb (by rw [z]; exact hF)) e) fun j b hj h => st.unf j b h, ⟨Same.refl _, fun b x e hb => up b x (fun z => hb (.inr ⟨i, by rw [z]; exact hF⟩)) e, fun b h => ?_, fun b o h => .inl h⟩⟩
  · rcases h with h | ⟨k, h⟩
    · subst h
      exact ⟨nΦ, ⟨o', upd_same⟩, fun j hj z => st.dis j i b hj z hF⟩
    · obtain ⟨x, hx⟩ := (tr1.tmp k).live b h
      refine ⟨(tr.tmp k).unf b h, ⟨x, hx⟩, fun j hj z => (tr.tmp k).apart j b h ?_⟩
      rw [updF_ne hj]
      exact z
  · obtain ⟨j, h⟩ := h
    by_cases hj : j = i
    · subst hj
      rw [updF_same] at h
      rcases h with h | h
      · exact .inl (.inr ⟨j, by rw [h]; exact hF⟩)
      · exact .inl (.inl h)
    · rw [updF_ne hj] at h
      exact .inl (.inr ⟨j, h⟩)
theorem mk_node {xs : List V} (tr : TrsR K G Φ (upd H a (.lst xs)) noF ts xs Es) (na : ∀ k, ¬ Es k a) : Own K G Φ (upd H a (.lst xs)) (.node ts) (.ref a) (fun b => b = a ∨ ∃ k, Es k b) :=
  .node Es (.inl rfl) upd_same tr.len tr.own (fun k b h => ⟨.inr ⟨k, h⟩, fun z => na k (by rw [← z]; exact h)⟩) tr.dis

/-! ### methods of a list in a slot -/
def evApp (i : Nat) (f : Sl → Out Op) : Sl → Out Op := fun s => match treeAt s i with
  | some (.node _) => match f s with
    | .ok o s1 => match settle1 s1 o with
      | some (t, s2) => match treeAt s2 i with
        | some (.node ts) => if ts.length < sizeLine then .ok (.vl (.leaf .non)) (s2.set i (.tr (.node (ts ++ [t])))) else .bad
        | _ => .bad
      | none => .bad
    | .er x s1 => .er x s1
    | .bad => .bad
  | _ => .bad
def evPop (i : Nat) : Sl → Out Op := fun s => match treeAt s i with
  | some (.node ts) => match ts[ts.length - 1]? with
    | some t => .ok (.vl t) (s.set i (.tr (.node (ts.take (ts.length - 1)))))
    | none => .bad
  | _ => .bad
def evClear (i : Nat) : Sl → Out Op := fun s => match treeAt s i with
  | some (.node _) => .ok (.vl (.leaf .non)) (s.set i (.tr (.node [])))
  | _ => .bad
theorem bm_few {e : Expr} {es : List Expr} {cpos : Pos} (hs : (e :: es).all notStar = true) (hn : es.length < 28) : ((backTo cpos (starEach (e :: es) X.env)).all (fun x => !x.1) && (backToKw cpos (keywordEach [] X.env)).all (fun x => x.1.isSome)
      && decide ((e :: es).length + ([] : List Keyword).length + (if ([] : List Keyword).isEmpty then 0 else 1) < 30)) = true := by
  have h1 : (backTo cpos (starEach (e :: es) X.env)).all (fun x => !x.1) = true := by
    have := star_any (env := X.env) (pos := cpos) hs
    rw [List.any_eq_false] at this
    exact List.all_eq_true.mpr fun y hy => by
      have := this y hy
      cases q : y.1 with
      | true => exact absurd q this
      | false => rfl
  rw [h1, Bool.true_and]
  show (true && decide ((e :: es).length + 0 + 0 < 30)) = true
  rw [Bool.true_and]
  refine decide_eq_true ?_
  rw [List.length_cons]
  omega
theorem app_ok' {f : Sl → Out Op} {Q : VK} (h : tO K G W (evApp i f) σ H Q) : ∃ x, σ[i]? = some (some x) ∧ tyV K "list" x H ∧ tArgs K G W [f] σ H fun xs H2 => rAppend x xs H2 Q := by
  obtain ⟨Φ, s, F, st, p⟩ := h
  unfold evApp at p
  split at p
  · next ts0 ht0 =>
    obtain ⟨a, xs0, Fs0, hv, ha, hFa, _, _⟩ := st.items ht0
    refine ⟨.ref a, hv, .inl ⟨rfl, xs0, SqL.of ha⟩, ?_⟩
    show tO K G W f σ H fun x H1 => rAppend (.ref a) [x] H1 Q
    refine tO_any st (fun o1 s1 e v H' Φ' F' E st' hv' hr tm fr => ?_) (fun x s1 e => ?_) (fun e => ?_)
    · rw [e] at p
      dsimp only at p
      cases q : settle1 s1 o1 with
      | none => rw [q] at p; exact p.elim
      | some z =>
        obtain ⟨t, s2⟩ := z
        rw [q] at p
        dsimp only at p
        split at p
        · next ts ht =>
          split at p
          · next hz =>
            obtain ⟨Φ2, F2, E2, st2, ow2, tm2, fr2, _, _, _⟩ := settle1_ok st' tm hv' hr q
            obtain ⟨a', xs, Fs, hv2, ha2, hFa2, tr, sub⟩ := st2.items ht
            rw [hv] at hv2
            cases hv2
            have tm3 : TmpR Φ2 H' (updF F2 i no) E2 := ⟨tm2.unf, tm2.live, fun j b h1 h2 => by
              by_cases hj : j = i
              · subst hj; rw [updF_same] at h2; exact h2
              · rw [updF_ne hj] at h2; exact tm2.apart j b h1 h2⟩
            obtain ⟨Es', tr', sub'⟩ := tr.snoc ow2 tm3 fun k b h z => tm2.apart i b h (sub k b z).1
            have na : ∀ k, ¬ Es' k a := fun k z => by
              rcases sub' k a z with ⟨j, y⟩ | y
              · exact (sub j a y).2 rfl
              · exact tm2.apart i a y hFa2
            obtain ⟨st3, fr3⟩ := st2.redo (o := .lst xs) (o' := .lst (xs ++ [v])) ht hv hFa2 tr' na (fun z => mk_node z na)
            refine ⟨a, xs, v, rfl, rfl, ha2, by rw [← tr.len]; exact hz, p .non _ Φ2 _ no st3 (.leaf .non) TmpR.no ?_⟩
            refine ((fr.trans fr2).trans (fr3.wide fun b h => ?_)).less fun b h => h.elim (fun z => z.elim) id
            rcases h with ⟨k, h⟩ | h
            · rcases sub' k b h with ⟨j, y⟩ | y
              · exact .inr ⟨i, (sub j b y).1⟩
              · exact .inl y
            · exact .inr h
          · exact p.elim
        · exact p.elim
    · rw [e] at p; exact p
    · rw [e] at p; exact p
  · exact p.elim
theorem vo_app {x : Str} {e : Expr} {p apos pos : Pos} {f : Sl → Out Op} (hN : X.N[i]? = some x) (hv : Vis X.env.scope x) (hd : (x == ("__debug__" : Str)) = false) (hcd : (x == ("__classdict__" : Str)) = false) (he : VO X G W e f) (hs : notStar e = true) (hl : (apos.endLine == pos.line) = true) :
    VO X G W (.Call (.Attribute (.Name x p) "append" apos) [e] [] pos) (evApp i f) := by
  have hs1 : [e].all notStar = true := by rw [List.all_cons, hs]; rfl
  refine pe_imp (pe_bm PySem.F.plainAttrs_list PySem.F.slot_list_append PySem.F.type_list_append mt_append (pe_var hN hv hd hcd) (pa_of (.cons he .nil) hs1) (abase rfl) (bm_few hs1 (by show 0 < 28; omega)) hl (star_of hs) rfl) fun σ H Q q => ?_
  obtain ⟨v, h1, h2, h3⟩ := app_ok' q
  exact ⟨v, h1, h2, h3⟩
theorem vo_pop {x : Str} {p apos pos : Pos} (hN : X.N[i]? = some x) (hv : Vis X.env.scope x) (hd : (x == ("__debug__" : Str)) = false) (hcd : (x == ("__classdict__" : Str)) = false) (hl : (apos.endLine == pos.line) = true) :
    VO X G W (.Call (.Attribute (.Name x p) "pop" apos) [] [] pos) (evPop i) := by
  refine pe_imp (pe_bm0 PySem.F.plainAttrs_list PySem.F.slot_list_pop PySem.F.type_list_pop mt_pop (pe_var hN hv hd hcd) (abase rfl) hl) fun σ H Q h => ?_
  obtain ⟨Φ, s, F, st, p⟩ := h
  unfold evPop at p
  split at p
  · next ts ht =>
    split at p
    · next t htl =>
      obtain ⟨a, xs, Fs, hva, ha, hFa, tr, sub⟩ := st.items ht
      obtain ⟨hlt, hte⟩ := List.getElem?_eq_some_iff.mp htl
      have hxl : xs[xs.length - 1]? = some (xs[xs.length - 1]'(by rw [← tr.len]; exact hlt)) := List.getElem?_eq_getElem _
      have ow := tr.own (ts.length - 1) t _ htl (by rw [tr.len]; exact hxl)
      have tr' := tr.front (ts.length - 1) (Nat.sub_le _ _)
      have na : ∀ k, ¬ (if k < ts.length - 1 then Fs k else no) a := fun k z => by
        split at z
        · exact (sub k a z).2 rfl
        · exact z
      obtain ⟨st3, fr3⟩ := st.redo (o := .lst xs) (o' := .lst (xs.take (ts.length - 1))) ht hva hFa tr' na (fun z => mk_node z na)
      refine ⟨.ref a, hva, .inl ⟨rfl, xs, SqL.of ha⟩, a, xs, _, rfl, rfl, ha, hxl, ?_⟩
      have hdl : xs.dropLast = xs.take (ts.length - 1) := by rw [List.dropLast_eq_take, tr.len]
      rw [hdl]
      have fr4 := fr3.wide (F2 := Ft F) fun b h => h.elim (fun ⟨k, h⟩ => by
        split at h
        · exact ⟨i, (sub k b h).1⟩
        · exact h.elim) id
      refine p _ _ Φ _ (Fs (ts.length - 1)) st3 (ow.mono (Same.refl _) (fun b x hb e => by rw [upd_ne (sub _ b hb).2]; exact e) fun _ h => h) ⟨fun b h => (tr.tmp _).unf b h, fun b h => ?_, fun j b h1 h2 => ?_⟩
        ⟨fr4.phi, fr4.keep, fun b h => h.elim (fun z => .inl ⟨i, (sub _ b z).1⟩) (fr4.foot b), fr4.froz⟩
      · obtain ⟨x, hx⟩ := (tr.tmp _).live b h
        exact ⟨x, by rw [upd_ne (sub _ b h).2]; exact hx⟩
      · by_cases hj : j = i
        · subst hj
          rw [updF_same] at h2
          rcases h2 with h2 | ⟨k, h2⟩
          · exact (sub _ b h1).2 h2
          · split at h2
            · next hk => exact tr.dis (ts.length - 1) k b (by omega) h1 h2
            · exact h2
        · rw [updF_ne hj] at h2
          exact st.dis i j b (Ne.symm hj) (sub _ b h1).1 h2
    · exact p.elim
  · exact p.elim
theorem vo_clear {x : Str} {p apos pos : Pos} (hN : X.N[i]? = some x) (hv : Vis X.env.scope x) (hd : (x == ("__debug__" : Str)) = false) (hcd : (x == ("__classdict__" : Str)) = false) (hl : (apos.endLine == pos.line) = true) :
    VO X G W (.Call (.Attribute (.Name x p) "clear" apos) [] [] pos) (evClear i) := by
  refine pe_imp (pe_bm0 PySem.F.plainAttrs_list PySem.F.slot_list_clear PySem.F.type_list_clear mt_clear (pe_var hN hv hd hcd) (abase rfl) hl) fun σ H Q h => ?_
  obtain ⟨Φ, s, F, st, p⟩ := h
  unfold evClear at p
  split at p
  · next ts ht =>
    obtain ⟨a, xs, Fs, hva, ha, hFa, tr, sub⟩ := st.items ht
    have tr' : TrsR X.K G Φ H (updF F i no) [] [] (fun _ => no) := ⟨rfl, fun k t v h => by simp at h, fun _ _ _ _ h => h.elim, fun _ => TmpR.no⟩
    obtain ⟨st3, fr3⟩ := st.redo (o := .lst xs) (o' := .lst []) ht hva hFa tr' (fun _ z => z) (fun z => mk_node z fun _ z => z)
    refine ⟨.ref a, hva, .inl ⟨rfl, xs, SqL.of ha⟩, a, xs, rfl, rfl, ha, p .non _ Φ _ no st3 (.leaf .non) TmpR.no ?_⟩
    exact (fr3.wide fun b h => h.elim (fun ⟨_, z⟩ => z.elim) id).less fun b h => h.elim (fun z => z.elim) id
  · exact p.elim

/-! ### an item stored -/
def evSetIx (i : Nat) (fi fe : Sl → Out Op) : Sl → SO := fun s => match fe s with
  | .ok o s1 => match settle1 s1 o with
    | some (t, s2) => match treeAt s2 i with
      | some _ => match fi s2 with
        | .ok (.vl (.leaf (.int k))) s3 => match treeAt s3 i with
          | some (.node ts) => match ixN ts.length k with
            | some j => .nx (s3.set i (.tr (.node (ts.set j t))))
            | none => .bad
          | _ => .bad
        | .er x s3 => .er x s3
        | _ => .bad
      | none => .bad
    | none => .bad
  | .er x s1 => .er x s1
  | .bad => .bad
theorem evSetIx_ok {fx : List Nat} {fi fe : Sl → Out Op} {D : Ends} (h : tS K G W fx (evSetIx i fi fe) D σ H) : tAsg (tO K G W fe) (gSub (tVar i) (tO K G W fi) rSetL) D σ H := by
  obtain ⟨Φ, s, F, st, p⟩ := h
  unfold evSetIx at p
  refine tO_any st (fun o1 s1 e v H1 Φ1 F1 E1 st1 hv hr tm1 fr1 => ?_) (fun x s1 e => ?_) (fun e => ?_)
  · rw [e] at p
    dsimp only at p
    cases q : settle1 s1 o1 with
    | none => rw [q] at p; exact p.elim
    | some z =>
      obtain ⟨t, s2⟩ := z
      rw [q] at p
      dsimp only at p
      obtain ⟨Φ2, F2, E2, st2, ow2, tm2, fr2, _, _, _⟩ := settle1_ok st1 tm1 hv hr q
      -- the slot's value is there: it is seen at the end
      have base : Frm Φ H (Ft F) Φ2 H1 (fun b => E2 b ∨ Ft F2 b) := fr1.trans fr2
      cases q0 : treeAt s2 i with
      | none => rw [q0] at p; exact p.elim
      | some u0 =>
      rw [q0] at p
      dsimp only at p
      obtain ⟨x0, hx0, _⟩ := st2.slot i u0 q0
      have slot : (∃ k s3, fi s2 = .ok (.vl (.leaf (.int k))) s3 ∧ ∃ ts j, treeAt s3 i = some (.node ts) ∧ ixN ts.length k = some j ∧ postS K G W fx D Φ H σ (Ft F) (.nx (s3.set i (.tr (.node (ts.set j t)))))) ∨ ∃ x s3, fi s2 = .er x s3 ∧ postES K G W fx Φ H σ (Ft F) x s3 := by
        cases q2 : fi s2 with
        | bad => rw [q2] at p; exact p.elim
        | er x s3 => rw [q2] at p; exact .inr ⟨x, s3, rfl, p⟩
        | ok o s3 =>
          rw [q2] at p
          cases o with
          | rt j => exact p.elim
          | vl u =>
            cases u with
            | node _ => exact p.elim
            | ins _ _ => exact p.elim
            | leaf d =>
              cases d with
              | int k =>
                dsimp only at p
                cases q3 : treeAt s3 i with
                | none => rw [q3] at p; exact p.elim
                | some u =>
                  rw [q3] at p
                  cases u with
                  | leaf _ => exact p.elim
                  | ins _ _ => exact p.elim
                  | node ts =>
                    dsimp only at p
                    cases q4 : ixN ts.length k with
                    | none => rw [q4] at p; exact p.elim
                    | some j =>
                      rw [q4] at p
                      exact .inl ⟨k, s3, rfl, ts, j, q3, q4, p⟩
              | _ => exact p.elim
      have go : ∀ x, σ[i]? = some (some x) → tO K G W fi σ H1 fun iv H2 => rSetL x iv v H2 fun H3 => D.nx σ H3 := by
        intro x hx
        rcases slot with ⟨k, s3, q2, ts, j, q3, q4, pp⟩ | ⟨y, s3, q2, pp⟩
        · refine tO_any st2 (fun o2 s3' e2 w H3 Φ3 F3 E3 st3 hv3 hr3 tm3 fr3 => ?_) (fun x s3' e2 => ?_) (fun e2 => ?_)
          · rw [q2] at e2
            cases e2
            have hw : w = .int k := by
              have ow := hv3 _ rfl
              cases ow with
              | leaf r => exact rep_int r
            subst hw
            have tmA := tm2.step fr3 fun i b h => .inr ⟨i, h⟩
            have owA := ow2.step tm2 fr3
            obtain ⟨a, xs, Fs, hva, ha, hFa, tr, sub⟩ := st3.items q3
            rw [hx] at hva
            cases hva
            have tmB : TmpR Φ3 H3 (updF F3 i no) E2 := ⟨tmA.unf, tmA.live, fun j b h1 h2 => by
              by_cases hj : j = i
              · subst hj; rw [updF_same] at h2; exact h2
              · rw [updF_ne hj] at h2; exact tmA.apart j b h1 h2⟩
            obtain ⟨Es', tr', sub'⟩ := tr.set owA tmB (fun k b h z => tmA.apart i b h (sub k b z).1) j
            have na : ∀ k, ¬ Es' k a := fun k z => by
              rcases sub' k a z with ⟨j, y⟩ | y
              · exact (sub j a y).2 rfl
              · exact tmA.apart i a y hFa
            obtain ⟨st4, fr4⟩ := st3.redo (o := .lst xs) (o' := .lst (xs.set j v)) q3 hx hFa tr' na (fun z => mk_node z na)
            refine ⟨a, xs, k, j, rfl, rfl, ha, by rw [← tr.len]; exact q4, pp σ _ Φ3 _ st4 Agr.refl ?_⟩
            refine (base.trans fr3.more).trans (fr4.wide fun b h => ?_)
            rcases h with ⟨k, h⟩ | h
            · rcases sub' k b h with ⟨j, y⟩ | y
              · exact .inr (.inr ⟨i, (sub j b y).1⟩)
              · exact .inl y
            · exact .inr (.inr h)
          · rw [q2] at e2; cases e2
          · rw [q2] at e2; cases e2
        · refine tO_any st2 (fun o2 s3' e2 => ?_) (fun x s3' e2 => ?_) (fun e2 => ?_)
          · rw [q2] at e2; cases e2
          · rw [q2] at e2
            cases e2
            exact fun cls d H' Φ' F' ex st' fr => pp cls d σ H' Φ' F' ex st' Agr.refl ((base.trans fr.more).less fun b h => .inr h)
          · rw [q2] at e2; cases e2
      exact ⟨x0, hx0, go x0 hx0⟩
  · rw [e] at p; exact p.expr
  · rw [e] at p; exact p
theorem vs_setIx {fx : List Nat} {x : Str} {idx e : Expr} {p spos pos : Pos} {fi fe : Sl → Out Op} (hN : X.N[i]? = some x) (hv : Vis X.env.scope x) (hd : (x == ("__debug__" : Str)) = false) (hcd : (x == ("__classdict__" : Str)) = false) (hi : VO X G W idx fi) (he : VO X G W e fe)
    (ha : ∀ v, assign (.Subscript (.Name x p) idx spos) X.env v = (do
      let ov ← holding [v] (eval (.Name x p) X.env)
      let iv ← holding [v, ov] (eval idx X.env)
      standAt spos
      holding [v, ov, iv] (setItem ov iv v)
      release [v, ov, iv] []))
    (hs : swapsWithSole [.Subscript (.Name x p) idx spos] e pos.line X.env = pure false) (hw : swappedStores [.Subscript (.Name x p) idx spos] e X.env = pure none) (h1 : (assignEach [.Subscript (.Name x p) idx spos] X.env).map (·.2) = [assign (.Subscript (.Name x p) idx spos) X.env]) :
    VS1 X G W fx (.Assign [.Subscript (.Name x p) idx spos] e pos) (evSetIx i fi fe) :=
  ps_imp (ps_asg he (pg_sub (pe_var hN hv hd hcd) hi set_list ha) hs hw h1) fun D σ H h => evSetIx_ok h
end
end VS
/-! VSp: fields. -/
namespace VS
open PySem PySem.Spec PyProof.Rows L2

/-- f stands at place j -/
def fldIx (f : Str) : List Str → Option Nat
  | [] => none
  | g :: fl => if g = f then some 0 else (fldIx f fl).map (· + 1)
theorem zip_lookup {f : Str} : ∀ {fl : List Str} {vs : List V} {j : Nat}, fldIx f fl = some j → j < vs.length → (fl.zip vs).lookup f = vs[j]?
  | [], _, _, h, _ => by simp [fldIx] at h
  | g :: fl, [], j, _, h => by simp at h
  | g :: fl, v :: vs, j, h, hj => by
    unfold fldIx at h
    rw [List.zip_cons_cons, List.lookup_cons]
    by_cases e : g = f
    · rw [if_pos e] at h
      cases h
      have : (f == g) = true := beq_iff_eq.mpr e.symm
      rw [this]
      rfl
    · rw [if_neg e] at h
      obtain ⟨k, hk, rfl⟩ := Option.map_eq_some_iff.mp h
      have : (f == g) = false := beq_eq_false_iff_ne.mpr (Ne.symm e)
      rw [this]
      exact zip_lookup hk (by simpa using hj)
theorem putF_set {f : Str} {y : V} : ∀ {fl : List Str} {vs : List V} {j : Nat}, fldIx f fl = some j → j < vs.length → putF f y (fl.zip vs) = fl.zip (vs.set j y)
  | [], _, _, h, _ => by simp [fldIx] at h
  | g :: fl, [], j, _, h => by simp at h
  | g :: fl, v :: vs, j, h, hj => by
    unfold fldIx at h
    rw [List.zip_cons_cons]
    by_cases e : g = f
    · rw [if_pos e] at h
      cases h
      show (if g = f then (g, y) :: fl.zip vs else _) = _
      rw [if_pos e]
      rfl
    · rw [if_neg e] at h
      obtain ⟨k, hk, rfl⟩ := Option.map_eq_some_iff.mp h
      show (if g = f then _ else (g, v) :: putF f y (fl.zip vs)) = _
      rw [if_neg e, putF_set hk (by simpa using hj)]
      rfl
theorem putF_new {f : Str} {y : V} : ∀ {fl : List Str} {vs : List V}, fldIx f fl = some vs.length → putF f y (fl.zip vs) = fl.zip (vs ++ [y])
  | [], _, h => by simp [fldIx] at h
  | g :: fl, [], h => by
    unfold fldIx at h
    by_cases e : g = f
    · subst e
      cases fl <;> rfl
    · rw [if_neg e] at h
      obtain ⟨k, hk, hk2⟩ := Option.map_eq_some_iff.mp h
      cases hk2
  | g :: fl, v :: vs, h => by
    unfold fldIx at h
    rw [List.zip_cons_cons]
    by_cases e : g = f
    · rw [if_pos e] at h
      cases h
    · rw [if_neg e] at h
      obtain ⟨k, hk, hk2⟩ := Option.map_eq_some_iff.mp h
      have hk3 : k = vs.length := by
        have : k + 1 = vs.length + 1 := hk2
        omega
      subst hk3
      show (if g = f then _ else (g, v) :: putF f y (fl.zip vs)) = _
      rw [if_neg e, putF_new hk]
      rfl
theorem fldIx_lt {f : Str} : ∀ {fl : List Str} {j : Nat}, fldIx f fl = some j → j < fl.length
  | [], _, h => by simp [fldIx] at h
  | g :: fl, j, h => by
    unfold fldIx at h
    by_cases e : g = f
    · rw [if_pos e] at h
      cases h
      exact Nat.succ_pos _
    · rw [if_neg e] at h
      obtain ⟨k, hk, rfl⟩ := Option.map_eq_some_iff.mp h
      exact Nat.succ_lt_succ (fldIx_lt hk)
/-- which place the field has, by the class -/
def FldOk (K : PySem.W.Frag) (G : GEnv) (f : Str) (D : Str → Option Nat) : Prop := ∀ c j, D c = some j → ∃ ci, G c = some ci ∧ ci.exn = false ∧ Cls K ci.addr ∧ NoAttr K ci.addr f ∧ fldIx f ci.flds = some j ∧ ci.flds.length < 1000
def opTree (s : Sl) : Op → Option T
  | .vl t => some t
  | .rt i => treeAt s i
def fldT (D : Str → Option Nat) : T → Option VS.D
  | .leaf (.obj c ds) => match D c with
    | some j => ds[j]?
    | none => none
  | .ins c ts => match D c with
    | some j => match ts[j]? with
      | some (.leaf d) => some d
      | _ => none
    | none => none
  | _ => none
def evFld (D : Str → Option Nat) (f0 : Sl → Out Op) : Sl → Out Op := fun s => match f0 s with
  | .ok o s1 => match opTree s1 o with
    | some t => match fldT D t with
      | some d => .ok (.vl (.leaf d)) s1
      | none => .bad
    | none => .bad
  | .er x s1 => .er x s1
  | .bad => .bad
section
variable {X : Cx} {K : PySem.W.Frag} {G : GEnv} {W : WX} {Φ H Φ1 H1 : Hp} {σ : L2.St} {s s1 s2 : Sl} {F : Nat → Addr → Prop} {E : Addr → Prop} {f : Str} {D : Str → Option Nat} {i : Nat}
theorem tree_one {o : Op} {v : V} {t : T} (st : StR K G Φ H σ s F) (hv : ∀ t, o = .vl t → Own K G Φ H t v E) (hr : ∀ i, o = .rt i → σ[i]? = some (some v)) (h : opTree s o = some t) : ∃ E', Own K G Φ H t v E' := by
  cases o with
  | vl t => cases h; exact ⟨E, hv _ rfl⟩
  | rt i => exact ⟨F i, st.at_ h (hr i rfl)⟩
theorem fld_ok (hf : FldOk K G f D) {t : T} {v : V} {d : VS.D} (e : Same Φ H) (ow : Own K G Φ H t v E) (h : fldT D t = some d) : ∃ a C dx fs w, v = .ref a ∧ H a = some (.ins C dx fs) ∧ Cls K C ∧ NoAttr K C f ∧ fs.lookup f = some w ∧ Rep K G Φ d w := by
  cases ow with
  | node Fs ha hh hl hk hs hd => cases h
  | @leaf d0 _ _ r =>
    cases d0 with
    | obj c ds =>
      simp only [fldT] at h
      split at h
      · next j hj =>
        obtain ⟨ci, hc, he, cl, na, ix, _⟩ := hf c j hj
        obtain ⟨a, dx, vs, rfl, ha, rl, hfl⟩ := rep_ins hc he r
        obtain ⟨w, hw, rw'⟩ := rl.get h
        have hlt : j < vs.length := (List.getElem?_eq_some_iff.mp hw).1
        exact ⟨a, _, dx, _, w, rfl, e _ _ ha, cl, na, by rw [zip_lookup ix hlt, hw], rw'⟩
      · cases h
    | _ => cases h
  | @ins c ci' ts a dx vs _ Fs ha hc' he' hh hl hfl hk hs hd =>
    simp only [fldT] at h
    split at h
    · next j hj =>
      split at h
      · next d0 ht =>
        cases h
        obtain ⟨ci, hc, he, cl, na, ix, _⟩ := hf c j hj
        rw [hc'] at hc
        cases hc
        have hlt : j < vs.length := by rw [← hl]; exact (List.getElem?_eq_some_iff.mp ht).1
        have hw : vs[j]? = some vs[j] := List.getElem?_eq_getElem hlt
        have ow2 := hk j _ _ ht hw
        cases ow2 with
        | leaf r => exact ⟨a, _, dx, _, vs[j], rfl, hh, cl, na, by rw [zip_lookup ix hlt, hw], r⟩
      · cases h
    · cases h
theorem vo_fld {o : Expr} {pos : Pos} {f0 : Sl → Out Op} (hf : FldOk X.K G f D) (h0 : VO X G W o f0) (hb : absB o = true) : VO X G W (.Attribute o f pos) (evFld D f0) := by
  refine pe_imp (pe_fld h0 (abase hb)) fun σ H Q q => ?_
  obtain ⟨Φ, s, F, st, p⟩ := q
  unfold evFld at p
  refine tO_any st (fun o1 s1 e v H1 Φ1 F1 E1 st1 hv hr tm1 fr1 => ?_) (fun x s1 e => ?_) (fun e => ?_)
  · rw [e] at p
    dsimp only at p
    split at p
    · next t ht =>
      split at p
      · next d hd =>
        obtain ⟨E', ow⟩ := tree_one st1 hv hr ht
        obtain ⟨a, C, dx, fs, w, hva, ha, cl, na, hl, rw'⟩ := fld_ok hf st1.same ow hd
        exact ⟨a, C, dx, fs, w, hva, ha, cl, na, hl, p w H1 Φ1 F1 no st1 (.leaf rw') TmpR.no (fr1.less fun b h => h.elim (fun z => z.elim) .inr)⟩
      · exact p.elim
    · exact p.elim
  · rw [e] at p; exact p
  · rw [e] at p; exact p

/-! ### a field stored -/
def putT (D : Str → Option Nat) (t : T) : T → Option T
  | .ins c ts => match D c with
    | some j => if j < ts.length then some (.ins c (ts.set j t)) else if j = ts.length then some (.ins c (ts ++ [t])) else none
    | none => none
  | _ => none
def evSetFld (i : Nat) (D : Str → Option Nat) (fe : Sl → Out Op) : Sl → SO := fun s => match fe s with
  | .ok o s1 => match settle1 s1 o with
    | some (t, s2) => match treeAt s2 i with
      | some u => match putT D t u with
        | some u' => .nx (s2.set i (.tr u'))
        | none => .bad
      | none => .bad
    | none => .bad
  | .er x s1 => .er x s1
  | .bad => .bad
/-- an owned instance in a slot: its fields, apart -/
theorem StR.fields {c : Str} {ts : List T} (st : StR K G Φ H σ s F) (ht : treeAt s i = some (.ins c ts)) : ∃ ci a dx xs Fs, G c = some ci ∧ ci.exn = false ∧ σ[i]? = some (some (.ref a)) ∧ H a = some (.ins ci.addr dx (ci.flds.zip xs)) ∧ xs.length ≤ ci.flds.length ∧ F i a ∧ TrsR K G Φ H (updF F i no) ts xs Fs ∧ (∀ k b, Fs k b → F i b ∧ b ≠ a) := by
  obtain ⟨v, hv, ow⟩ := st.slot i _ ht
  cases ow with
  | @ins _ ci _ a dx xs _ Fs ha hc he h hl hf hk hs hd =>
    refine ⟨ci, a, dx, xs, Fs, hc, he, hv, h, hf, ha, ⟨hl, hk, hd, fun k => ⟨fun b z => st.unf i b (hs k b z).1, fun b z => st.live i b (hs k b z).1, fun j b z y => ?_⟩⟩, hs⟩
    by_cases hj : j = i
    · subst hj; rw [updF_same] at y; exact y
    · rw [updF_ne hj] at y
      exact st.dis i j b (Ne.symm hj) (hs k b z).1 y
theorem mk_ins {c : Str} {ci : CInfo} {ts : List T} {xs : List V} {a dx : Addr} {Es : Nat → Addr → Prop} (hc : G c = some ci) (he : ci.exn = false) (tr : TrsR K G Φ (upd H a (.ins ci.addr dx (ci.flds.zip xs))) noF ts xs Es) (hl : xs.length ≤ ci.flds.length) (na : ∀ k, ¬ Es k a) :
    Own K G Φ (upd H a (.ins ci.addr dx (ci.flds.zip xs))) (.ins c ts) (.ref a) (fun b => b = a ∨ ∃ k, Es k b) :=
  .ins Es (.inl rfl) hc he upd_same tr.len hl tr.own (fun k b h => ⟨.inr ⟨k, h⟩, fun z => na k (by rw [← z]; exact h)⟩) tr.dis
theorem vs_setFld {fx : List Nat} {x : Str} {e : Expr} {p apos pos : Pos} {fe : Sl → Out Op} (hf : FldOk X.K G f D) (hN : X.N[i]? = some x) (hv : Vis X.env.scope x) (hd : (x == ("__debug__" : Str)) = false) (hcd : (x == ("__classdict__" : Str)) = false) (he : VO X G W e fe)
    (hs : swapsWith e (some (.Attribute (.Name x p) f apos)) pos.line X.env = pure false) : VS1 X G W fx (.Assign [.Attribute (.Name x p) f apos] e pos) (evSetFld i D fe) := by
  refine ps_imp (ps_fld (pe_var hN hv hd hcd) he hs) fun D1 σ H q => ?_
  obtain ⟨Φ, s, F, st, p⟩ := q
  unfold evSetFld at p
  refine tO_any st (fun o1 s1 e v H1 Φ1 F1 E1 st1 hv hr tm1 fr1 => ?_) (fun x s1 e => ?_) (fun e => ?_)
  · rw [e] at p
    dsimp only at p
    cases q : settle1 s1 o1 with
    | none => rw [q] at p; exact p.elim
    | some z =>
      obtain ⟨t, s2⟩ := z
      rw [q] at p
      dsimp only at p
      obtain ⟨Φ2, F2, E2, st2, ow2, tm2, fr2, _, _, _⟩ := settle1_ok st1 tm1 hv hr q
      have base : Frm Φ H (Ft F) Φ2 H1 (fun b => E2 b ∨ Ft F2 b) := fr1.trans fr2
      cases q0 : treeAt s2 i with
      | none => rw [q0] at p; exact p.elim
      | some u =>
        rw [q0] at p
        dsimp only at p
        cases q1 : putT D t u with
        | none => rw [q1] at p; exact p.elim
        | some u' =>
          rw [q1] at p
          dsimp only at p
          cases u with
          | leaf _ => cases q1
          | node _ => cases q1
          | ins c ts =>
            simp only [putT] at q1
            split at q1
            · next j hj =>
              obtain ⟨ci, hc, hex, cl, na0, ix, hsz⟩ := hf c j hj
              obtain ⟨ci', a, dx, xs, Fs, hc', _, hva, ha, hxl, hFa, tr, sub⟩ := st2.fields q0
              rw [hc] at hc'
              cases hc'
              have tmB : TmpR Φ2 H1 (updF F2 i no) E2 := ⟨tm2.unf, tm2.live, fun j b h1 h2 => by
                by_cases hj : j = i
                · subst hj; rw [updF_same] at h2; exact h2
                · rw [updF_ne hj] at h2; exact tm2.apart j b h1 h2⟩
              have hj2 := fldIx_lt ix
              have zl : (ci.flds.zip xs).length < 1000 := by
                rw [List.length_zip]
                omega
              -- both ways
              have fin : ∀ (ts' : List T) (xs' : List V) (Es' : Nat → Addr → Prop), TrsR X.K G Φ2 H1 (updF F2 i no) ts' xs' Es' → (∀ k b, Es' k b → (∃ j, Fs j b) ∨ E2 b) → xs'.length ≤ ci.flds.length → putF f v (ci.flds.zip xs) = ci.flds.zip xs' → u' = .ins c ts' →
                  tVar i σ H1 fun x H2 => ∃ a C dx fs, x = .ref a ∧ H2 a = some (.ins C dx fs) ∧ Cls X.K C ∧ NoAttr X.K C f ∧ fs.length < 1000 ∧ D1.nx σ (upd H2 a (.ins C dx (putF f v fs))) := by
                intro ts' xs' Es' tr' sub' hxl' hput hu'
                subst hu'
                have na : ∀ k, ¬ Es' k a := fun k z => by
                  rcases sub' k a z with ⟨j, y⟩ | y
                  · exact (sub j a y).2 rfl
                  · exact tm2.apart i a y hFa
                obtain ⟨st4, fr4⟩ := st2.redo (o := .ins ci.addr dx (ci.flds.zip xs)) (o' := .ins ci.addr dx (ci.flds.zip xs')) q0 hva hFa tr' na (fun z => mk_ins hc hex z hxl' na)
                refine ⟨.ref a, hva, a, ci.addr, dx, _, rfl, ha, cl, na0, zl, ?_⟩
                rw [hput]
                refine p σ _ Φ2 _ st4 Agr.refl (base.trans (fr4.wide fun b h => ?_))
                rcases h with ⟨k, h⟩ | h
                · rcases sub' k b h with ⟨j, y⟩ | y
                  · exact .inr ⟨i, (sub j b y).1⟩
                  · exact .inl y
                · exact .inr h
              have ap : ∀ k b, E2 b → ¬ Fs k b := fun k b h z => tm2.apart i b h (sub k b z).1
              split at q1
              · next hlt =>
                cases q1
                obtain ⟨Es', tr', sub'⟩ := tr.set ow2 tmB ap j
                exact fin _ _ Es' tr' sub' (by rw [List.length_set]; exact hxl) (putF_set ix (by rw [← tr.len]; exact hlt)) rfl
              · split at q1
                · next heq =>
                  cases q1
                  obtain ⟨Es', tr', sub'⟩ := tr.snoc ow2 tmB ap
                  refine fin _ _ Es' tr' sub' ?_ (putF_new (by rw [← tr.len, ← heq]; exact ix)) rfl
                  rw [List.length_append, List.length_singleton, ← tr.len, ← heq]
                  exact hj2
                · cases q1
            · cases q1
  · rw [e] at p; exact p.expr
  · rw [e] at p; exact p
end
end VS
/-! VTa: enumerate and zip over lists and tuples. -/
namespace VS
open PySem PySem.Spec PyProof.Rows L2
open AutoSeq1 (wpAny_loadPart')

/-! ### enumerate(tuple) begins -/
theorem enum_newB {v : Value} {o : Obj} {H : Heap → Prop} (B : Begins v o H) :
    Meets (Builtin.«enumerate.__new__» ⟨[.type "enumerate", v], []⟩) (fun _ R s => H s.heap ∧
      R (.ok (.ret (.ref (s.heap.push o).objs.size))) { s with heap := (s.heap.push o).push { cls := .type "enumerate", data := .fields #[.none, .bool false, .ref s.heap.objs.size, rawInt 0, .none, .none] } }) :=
  .of_wp fun prog w A R s h => by
    obtain ⟨hp, g, d, tk, os⟩ := s; obtain ⟨h1, h⟩ := h
    have hsub := sub_enumerate
    have q1 : ∀ {A' : Around} {E : Value → Shared → Prop} {Q : Value → Shared → Prop}, Q (.ref hp.objs.size) ⟨hp.push o, g, d, tk, os⟩ → wpAny (model prog w) A' (pyIter v) Q E ⟨hp, g, d, tk, os⟩ :=
      fun q => B.iter prog w _ _ ⟨hp, g, d, tk, os⟩ _ h1 q
    wp_walk using q1
    refine wpAny_stack_any fun st => wpAny_pure ?_
    split
    · rename_i c _ _ _ _ _
      cases (c == Value.type "enumerate")
      · wp_walk using q1
        exact ⟨_, rfl, h⟩
      · wp_walk using q1
        exact ⟨_, rfl, h⟩
    · wp_walk using q1
      exact ⟨_, rfl, h⟩
theorem call_enum {prog : Program} {w : World} {A : Around} {E : Value → Shared → Prop} {s : Shared} {v : Value} {o : Obj} {H : Heap → Prop} {Q : Value → Shared → Prop} (B : Begins v o H) (h1 : H s.heap)
    (h : ∀ h', IsEnum h' (s.heap.objs.size + 1) s.heap.objs.size 0 .none → h'.get? s.heap.objs.size = some o → h'.objs.size = s.heap.objs.size + 2 →
      (∀ b o, s.heap.get? b = some o → h'.get? b = some o) → Q (.ref (s.heap.objs.size + 1)) { s with heap := h' }) :
    wpAny (model prog w) A (call (.type "enumerate") [v]) Q E s := by
  refine callType_new F.called_enumerate (by decide) (F.typeCall_enumerate_1 _) (F.newCall_enumerate_1 _) (fun obj => F.args_object_init_2 obj _) F.entry_enumerate_new
    (enum_newB B) ⟨h1, ?_⟩
  have hz : (s.heap.push o).objs.size = s.heap.objs.size + 1 := Heap.size_push ..
  show _ ∧ _
  rw [hz]
  have he : IsEnum ((s.heap.push o).push { cls := .type "enumerate", data := .fields #[.none, .bool false, .ref s.heap.objs.size, rawInt 0, .none, .none] }) (s.heap.objs.size + 1) s.heap.objs.size 0 .none := by
    have := Heap.get?_push_size (s.heap.push o) (o := { cls := .type "enumerate", data := .fields #[.none, .bool false, .ref s.heap.objs.size, rawInt 0, .none, .none] }) rfl
    rw [hz] at this; exact this
  refine ⟨⟨_, he, rfl⟩, h _ he (Heap.get?_push_of_some _ (Heap.get?_push_size _ B.free)) (by rw [Heap.size_push, hz]) fun b o x => Heap.get?_push_of_some _ (Heap.get?_push_of_some _ x)⟩

/-- the tuple at a, each item in a new pair -/
def IteT (K : PySem.W.Frag) (a : Addr) : It :=
  ⟨fun i H => ∃ (xs : List V) (x : V), SqT K H a xs ∧ xs[i]? = some x, fun i H v H' => ∃ T x, v = .ref T ∧ H T = none ∧ H' = upd H T (.tup [.int (i : Nat), x]) ∧ ∀ xs, SqT K H a xs → xs[i]? = some x, fun i H => ∃ xs : List V, SqT K H a xs ∧ xs.length ≤ i⟩
theorem ne_of_get {h : Heap} {a b : Addr} {o u : Obj} (ha : h.get? a = some o) (hb : h.get? b = some u) (hne : o.cls ≠ u.cls) : a ≠ b := fun e => by
  subst e
  rw [ha] at hb
  cases hb
  exact hne rfl
theorem turn_enumT {P : Program} {w : World} {K : PySem.W.Frag} {elts : List Expr} {kk : Nat} {tpos : Pos} (a e it : Addr) :
    Turn P w K (.Tuple elts kk tpos) (IteT K a) [e, it] e (fun i h => (∃ old, IsEnum h e it ((i : Nat) : Int) old) ∧ h.IsTupleIter it a i ∧ e ≠ it) where
  mem := by simp
  obj := fun i h st b hb => by
    obtain ⟨⟨old, he⟩, ⟨o, ho, hc, hd⟩, _⟩ := st
    have e' : b = e ∨ b = it := by simpa using hb
    rcases e' with z | z
    · rw [z]; exact ⟨_, he, fun v q => nomatch q⟩
    · rw [z]; exact ⟨o, ho, fun v q => by rw [hd] at q; cases q⟩
  keep := fun i h h' st k => let ⟨⟨old, he⟩, hi, hne⟩ := st; ⟨⟨old, k e (by simp) _ he⟩, hi.at fun o q => k it (by simp) o q, hne⟩
  item := by
    intro X hP hw hK hc i pins s σ H E I hf st hg
    subst hP hw hK
    obtain ⟨⟨old, he⟩, hit, hne⟩ := st
    obtain ⟨xs, x, hq, hx⟩ := hg
    obtain ⟨its, rv, p, hz⟩ := I.tuple hq
    have p' : s.heap.IsTuple a its.toArray := p
    obtain ⟨u, hu, ru⟩ := rv.get hx
    have hel : e < s.heap.objs.size := Heap.lt_size he
    have hil : it < s.heap.objs.size := by obtain ⟨_, q, _⟩ := hit; exact Heap.lt_size q
    have hai : a ≠ it := by
      obtain ⟨o1, ho1, hc1, _⟩ := id p'
      obtain ⟨o2, ho2, hc2, _⟩ := id hit
      exact ne_of_get ho1 ho2 (by rw [hc1, hc2]; decide)
    have hae : e ≠ a := by
      obtain ⟨o1, ho1, hc1, _⟩ := id p'
      exact ne_of_get he ho1 (by rw [hc1]; show Value.type "enumerate" ≠ Value.type "tuple"; decide)
    have D := Draws.tuple (prog := X.prog) (w := X.w) (A := X.A.in1) (I.ok.hd hc) it a hai its.toArray
    have hlt : i < its.toArray.size := by
      have := (List.getElem?_eq_some_iff.mp hu).1
      simpa using this
    refine wpAny_pyNext_enum_itemD D he ⟨hit, p'⟩ hlt hne (by simp [hne, hae]) fun x' h' tk hx' ho st' hT hsz hk => ?_
    have hxu : x' = u := by
      rw [show its.toArray[i]? = some u by simpa using hu] at hx'
      exact (Option.some.inj hx').symm
    subst hxu
    refine ⟨_, rfl, wpAny_letOwnedTupleGo_enum (s := { s with heap := h', toks := tk + 1 }) ho fun h'' he' sb => ?_⟩
    have hT2 : h''.get? s.heap.objs.size = some { cls := .type "tuple", data := .seq #[.int i tk, x'] } := (sb.2 _ (Nat.ne_of_gt hel)).trans hT
    have new : ObjOk X.prog X.w (upd H s.heap.objs.size (.tup [.int (i : Nat), x])) h'' s.heap.objs.size (.tup [.int (i : Nat), x]) :=
      ⟨by show 2 ≤ sizeLine; decide, [.int i tk, x'], .cons ⟨_, rfl⟩ (.cons ru .nil), ⟨_, hT2, rfl, _, rfl⟩⟩
    have I1 : Inv X pins σ (upd H s.heap.objs.size (.tup [.int (i : Nat), x])) { s with heap := h'', toks := tk + 1 } :=
      I.turnedNew (ch := [e, it]) (fun b ob hb q => (sb.2 b (fun z => hb (by simp [z]))).trans (hk b ob (fun z => hb (by simp [z])) (fun z => hb (by simp [z])) q)) hf (Nat.le_refl _) new
    refine ⟨.ref s.heap.objs.size, _, I1, rfl, ⟨_, x, rfl, I.hok.fresh (Nat.le_refl _), rfl, fun ys hy => by rw [I.tuple_inj hy hq]; exact hx⟩, ⟨⟨x', ?_⟩, st'.1.at fun o q => (sb.2 it (Ne.symm hne)).trans q, hne⟩, fun b hb => ?_⟩
    · have e1 : ((i + 1 : Nat) : Int) = (i : Int) + 1 := by omega
      rw [e1]; exact he'
    · have hb' : b < s.heap.objs.size := by
        have e' : b = e ∨ b = it := by simpa using hb
        rcases e' with z | z
        · rw [z]; exact hel
        · rw [z]; exact hil
      rw [upd_ne (Nat.ne_of_lt hb')]
      exact (hf b hb).1
  done := by
    intro X hP hw hK hc i pins s σ H E I hf st hg
    subst hP hw hK
    obtain ⟨⟨old, he⟩, hit, hne⟩ := st
    obtain ⟨xs, hq, hx⟩ := hg
    obtain ⟨its, rv, p, hz⟩ := I.tuple hq
    have p' : s.heap.IsTuple a its.toArray := p
    obtain ⟨f0, f1, f2, f3, f4, f5⟩ := hf it (by simp)
    have hl := rv.length
    have hT : s.TypeIs (.ref e) "enumerate" := ⟨_, he, rfl⟩
    unfold pyNext
    refine wpAny_bind (wpAny_attempt (wpAny_callSpecial?_slot (name := Str.ofString "__next__") hT F.slot_enumerate_next
      (wpAny_call_entry F.slot_enumerate_next hT F.entry_enumerate_next ?_ (F.args_enumerate_next_1 _))))
    show wpAny _ _ (field (.ref e) 2 >>= _) _ _ _
    refine wpAny_bind (wpAny_field he rfl (x := .ref it) rfl ?_)
    refine wpAny_bind (RZ.nextOf_tuple_end (I.ok.hd hc) hit p' (by simp; omega) fun h' x' he' hx' => ?_)
    obtain ⟨o, ho, hc⟩ := hx'
    refine wpAny_bind (wpAny_isInstance (T := "StopIteration") (b := true) ⟨o, ho, hc⟩ isSubtype_stop ?_)
    exact wpAny_pure ⟨rfl, I.turned (t' := s.toks) (fun b o hb q => he' b o hb q) f0 f1 f3 f4 f5⟩
  self := fun A i s Q E st h => let ⟨⟨_, he⟩, _⟩ := st; wpAny_pyIter_enum he h
def iEnumA (K : PySem.W.Frag) (ta : TA) : TI := fun σ H R => ta σ H fun vs H1 => ∃ a, vs = [.ref a] ∧ ((∃ xs, SqL K H1 a xs ∧ R (Ite K a) H1) ∨ (∃ xs, SqT K H1 a xs ∧ R (IteT K a) H1))
theorem pi_enumA {X : Cx} {e : Expr} {ta : TA} {p pos tpos : Pos} {elts : List Expr} {kk : Nat} (hg : Gl X "enumerate") (hm : X.mg "enumerate" = none) (ha : PA X [e] ta) (hs : starEach [e] X.env = [(false, eval e X.env)]) :
    PI X (.Tuple elts kk tpos) (.Call (.Name "enumerate" p) [e] [] pos) (iEnumA X.K ta) := by
  refine ⟨fun pins s σ H R I h => ?_⟩
  refine Call_ (ld_blt I hg hm boot_enumerate (PyProof.Rows.callWith_type1 (thn (ha.run pos pins s σ H _ I h) fun us s1 ⟨vs, H1, I1, r1, q1⟩ => ?_) hs rfl))
  obtain ⟨a, ex, q⟩ := q1
  subst ex
  cases r1 with
  | cons r rr =>
    cases rr
    cases r
    have fresh2 : ∀ b ∈ [s1.heap.objs.size + 1, s1.heap.objs.size], FpOk X pins H1 b := fun b hb => by
      have e' : b = s1.heap.objs.size + 1 ∨ b = s1.heap.objs.size := by simpa using hb
      have hle : s1.heap.objs.size ≤ b := by
        rcases e' with z | z
        · rw [z]; exact Nat.le_add_right _ _
        · rw [z]; exact Nat.le_refl _
      exact I1.fpOk hle (I1.hok.fresh hle)
    rcases q with ⟨xs, hq, q⟩ | ⟨xs, hq, q⟩
    · obtain ⟨its, rv, p', hz⟩ := I1.list hq
      refine call_enumerate_list p'.isList fun h' he hit hsz hk => wpAny_pyIter_enum he ?_
      have I2 : Inv X pins σ H1 { s1 with heap := h' } := I1.kept (t' := s1.toks) hk
      exact ⟨s1.heap.objs.size + 1, [s1.heap.objs.size + 1, s1.heap.objs.size], _, _, H1, rfl, I2, turn_enum a (s1.heap.objs.size + 1) s1.heap.objs.size, ⟨⟨.none, he⟩, hit, Nat.succ_ne_self _⟩, fresh2, q⟩
    · obtain ⟨its, rv, p', hz⟩ := I1.tuple hq
      have p2 : s1.heap.IsTuple a its.toArray := p'
      refine call_enum (begins_tuple a its.toArray) p2 fun h' he hit hsz hk => wpAny_pyIter_enum he ?_
      have I2 : Inv X pins σ H1 { s1 with heap := h' } := I1.kept (t' := s1.toks) hk
      exact ⟨s1.heap.objs.size + 1, [s1.heap.objs.size + 1, s1.heap.objs.size], _, _, H1, rfl, I2, turn_enumT a (s1.heap.objs.size + 1) s1.heap.objs.size, ⟨⟨.none, he⟩, ⟨_, hit, rfl, rfl⟩, Nat.succ_ne_self _⟩, fresh2, q⟩
/-! ### zip of a tuple with a list -/
def ItzTL (K : PySem.W.Frag) (a b : Addr) : It :=
  ⟨fun i H => ∃ (xs ys : List V) (x y : V), SqT K H a xs ∧ SqL K H b ys ∧ xs[i]? = some x ∧ ys[i]? = some y,
    fun i H v H' => ∃ T x y, v = .ref T ∧ H T = none ∧ H' = upd H T (.tup [x, y]) ∧ (∀ xs, SqT K H a xs → xs[i]? = some x) ∧ ∀ ys, SqL K H b ys → ys[i]? = some y,
    fun i H => ∃ xs ys : List V, SqT K H a xs ∧ SqL K H b ys ∧ i ≤ xs.length ∧ i ≤ ys.length ∧ (i = xs.length ∨ i = ys.length)⟩
structure ZipDis (z TI TO i1 i2 : Addr) : Prop where
  TIz : TI ≠ z
  TOz : TO ≠ z
  TITO : TI ≠ TO
  TIi1 : TI ≠ i1
  TIi2 : TI ≠ i2
  zi1 : z ≠ i1
  zi2 : z ≠ i2
  Ti1 : TO ≠ i1
  Ti2 : TO ≠ i2
  i12 : i1 ≠ i2
theorem turn_zipTL {P : Program} {w : World} {K : PySem.W.Frag} {elts : List Expr} {kk : Nat} {tpos : Pos} {a b z TI TO i1 i2 : Addr} (D : ZipDis z TI TO i1 i2) (hab : ∀ c ∈ [z, TI, TO, i1, i2], c ≠ a ∧ c ≠ b) :
    Turn P w K (.Tuple elts kk tpos) (ItzTL K a b) [z, TI, TO, i1, i2] z (fun i h => IsZip h z TI TO .none ∧ IsPair h TI (.ref i1) (.ref i2) ∧ (∃ x y, IsPair h TO x y) ∧ h.IsTupleIter i1 a i ∧ h.IsListIter i2 b i) where
  mem := by simp
  obj := fun i h st c hc => by
    obtain ⟨hz, hTI, ⟨x, y, hTO⟩, ⟨o1, e1, _, d1⟩, ⟨o2, e2, _, d2⟩⟩ := st
    have e' : c = z ∨ c = TI ∨ c = TO ∨ c = i1 ∨ c = i2 := by simpa using hc
    rcases e' with q | q | q | q | q
    · rw [q]; exact ⟨_, hz, fun v q => nomatch q⟩
    · rw [q]; exact ⟨_, hTI, fun v q => nomatch q⟩
    · rw [q]; exact ⟨_, hTO, fun v q => nomatch q⟩
    · rw [q]; exact ⟨o1, e1, fun v q => by rw [d1] at q; cases q⟩
    · rw [q]; exact ⟨o2, e2, fun v q => by rw [d2] at q; cases q⟩
  keep := fun i h h' st k => by
    obtain ⟨hz, hTI, ⟨x, y, hTO⟩, h1, h2⟩ := st
    exact ⟨k z (by simp) _ hz, k TI (by simp) _ hTI, ⟨x, y, k TO (by simp) _ hTO⟩, h1.at fun o q => k i1 (by simp) o q, h2.at fun o q => k i2 (by simp) o q⟩
  item := by
    intro X hP hw hK hc i pins s σ H E I hf st hg
    subst hP hw hK
    obtain ⟨hz, hTI, ⟨x0, y0, hTO⟩, h1, h2⟩ := st
    obtain ⟨xs, ys, x, y, hqx, hqy, hx, hy⟩ := hg
    obtain ⟨its, rv, p, _⟩ := I.tuple hqx
    obtain ⟨its2, rv2, p2, _⟩ := I.list hqy
    obtain ⟨u, hu, ru⟩ := rv.get hx
    obtain ⟨u2, hu2, ru2⟩ := rv2.get hy
    have hzl : z < s.heap.objs.size := Heap.lt_size hz
    have hh := I.ok.hd hc
    have D1 := Draws.tuple (prog := X.prog) (w := X.w) (A := X.A.in1) hh i1 a (Ne.symm (hab i1 (by simp)).1) its.toArray
    have D2 := Draws.list (prog := X.prog) (w := X.w) (A := X.A.in1) hh i2 b (Ne.symm (hab i2 (by simp)).2) its2.toArray
    have S : ZipSep2 z TI TO i1 i2 [i1, a] [i2, b] := ⟨D.TIz, D.TOz, D.TITO, D.TIi1, by simp, by simp [D.zi1, (hab z (by simp)).1], by simp [D.Ti1, (hab TO (by simp)).1], D.TIi2, by simp, by simp [D.zi2, (hab z (by simp)).2], by simp [D.Ti2, (hab TO (by simp)).2], by simp [D.i12, (hab i1 (by simp)).2], by simp [Ne.symm D.i12, (hab i2 (by simp)).1]⟩
    have hl1 : i < its.toArray.size := by have := (List.getElem?_eq_some_iff.mp hu).1; simpa using this
    have hl2 : i < its2.toArray.size := by have := (List.getElem?_eq_some_iff.mp hu2).1; simpa using this
    refine wpAny_pyNext_zipD2_item S D1 D2 hz hTI hTO ⟨h1, show s.heap.IsTuple a its.toArray from p⟩ ⟨h2, p2.isList⟩ hl1 hl2 fun x1 x2 h' tk hx1 hx2 z' TO' st1 st2 hT hsz hk => ?_
    have e1 : x1 = u := by rw [show its.toArray[i]? = some u by simpa using hu] at hx1; exact (Option.some.inj hx1).symm
    have e2 : x2 = u2 := by rw [show its2.toArray[i]? = some u2 by simpa using hu2] at hx2; exact (Option.some.inj hx2).symm
    subst e1 e2
    refine ⟨_, rfl, wpAny_letOwnedTupleGo_zip (s := { s with heap := h', toks := tk }) z' fun h'' z'' sb => ?_⟩
    have hT2 : h''.get? s.heap.objs.size = some { cls := .type "tuple", data := .seq #[x1, x2] } := (sb.2 _ (Nat.ne_of_gt hzl)).trans hT
    have new : ObjOk X.prog X.w (upd H s.heap.objs.size (.tup [x, y])) h'' s.heap.objs.size (.tup [x, y]) :=
      ⟨by show 2 ≤ sizeLine; decide, [x1, x2], .cons ru (.cons ru2 .nil), ⟨_, hT2, rfl, _, rfl⟩⟩
    have I1 : Inv X pins σ (upd H s.heap.objs.size (.tup [x, y])) { s with heap := h'', toks := tk } :=
      I.turnedNew (t' := tk) (ch := [z, TI, TO, i1, i2]) (fun c o hb q => (sb.2 c (fun q' => hb (by simp [q']))).trans (hk c o (fun q' => hb (by simp [q'])) (fun q' => hb (by simp [q'])) (fun q' => hb (by simp [q'])) (fun q' => hb (by simp [q'])) q)) hf (Nat.le_refl _) new
    refine ⟨.ref s.heap.objs.size, _, I1, rfl, ⟨_, x, y, rfl, I.hok.fresh (Nat.le_refl _), rfl, fun l hl => by rw [I.tuple_inj hl hqx]; exact hx, fun l hl => by rw [I.list_inj hl hqy]; exact hy⟩, ⟨z'', ?_, ⟨x1, x2, ?_⟩, ?_, ?_⟩, fun c hcm => ?_⟩
    · exact (sb.2 _ D.TIz).trans (hk _ _ D.TIz D.TITO D.TIi1 D.TIi2 hTI)
    · exact (sb.2 _ D.TOz).trans TO'
    · exact st1.1.at fun o q => (sb.2 _ (Ne.symm D.zi1)).trans q
    · exact st2.1.at fun o q => (sb.2 _ (Ne.symm D.zi2)).trans q
    · have hlt : c < s.heap.objs.size := by
        have e' : c = z ∨ c = TI ∨ c = TO ∨ c = i1 ∨ c = i2 := by simpa using hcm
        rcases e' with q | q | q | q | q
        · rw [q]; exact hzl
        · rw [q]; exact Heap.lt_size hTI
        · rw [q]; exact Heap.lt_size hTO
        · rw [q]; obtain ⟨_, e1, _⟩ := h1; exact Heap.lt_size e1
        · rw [q]; obtain ⟨_, e2, _⟩ := h2; exact Heap.lt_size e2
      rw [upd_ne (Nat.ne_of_lt hlt)]
      exact (hf c hcm).1
  done := by
    intro X hP hw hK hc i pins s σ H E I hf st hg
    subst hP hw hK
    obtain ⟨hz, hTI, ⟨x0, y0, hTO⟩, h1, h2⟩ := st
    obtain ⟨xs, ys, hqx, hqy, hle1, hle2, hend⟩ := hg
    obtain ⟨its, rv, p, _⟩ := I.tuple hqx
    obtain ⟨its2, rv2, p2, _⟩ := I.list hqy
    have l1 := rv.length
    have l2 := rv2.length
    have hh := I.ok.hd hc
    have D1 := Draws.tuple (prog := X.prog) (w := X.w) (A := X.A.in1) hh i1 a (Ne.symm (hab i1 (by simp)).1) its.toArray
    have D2 := Draws.list (prog := X.prog) (w := X.w) (A := X.A.in1) hh i2 b (Ne.symm (hab i2 (by simp)).2) its2.toArray
    have S : ZipSep2 z TI TO i1 i2 [i1, a] [i2, b] := ⟨D.TIz, D.TOz, D.TITO, D.TIi1, by simp, by simp [D.zi1, (hab z (by simp)).1], by simp [D.Ti1, (hab TO (by simp)).1], D.TIi2, by simp, by simp [D.zi2, (hab z (by simp)).2], by simp [D.Ti2, (hab TO (by simp)).2], by simp [D.i12, (hab i1 (by simp)).2], by simp [Ne.symm D.i12, (hab i2 (by simp)).1]⟩
    refine wpAny_pyNext_zipD2_end S D1 D2 hz hTI hTO ⟨h1, show s.heap.IsTuple a its.toArray from p⟩ ⟨h2, p2.isList⟩ (by simp; omega) (by simp; omega) (by simp; omega) fun h' tk hk => ⟨rfl, I.turnedL (t' := tk) (ch := [z, TI, TO, i1, i2]) (fun c o hb q =>
      hk c o (fun q' => hb (by simp [q'])) (fun q' => hb (by simp [q'])) (fun q' => hb (by simp [q'])) (fun q' => hb (by simp [q'])) q) hf⟩
  self := fun A i s Q E st h => wpAny_pyIter_zip st.1 h
def iZipB (K : PySem.W.Frag) (ta : TA) : TI := fun σ H R => ta σ H fun vs H1 => ∃ a b xs ys, vs = [.ref a, .ref b] ∧ ((SqL K H1 a xs ∧ SqL K H1 b ys ∧ R (Itz K a b) H1) ∨ (SqT K H1 a xs ∧ SqT K H1 b ys ∧ R (RZ.ItzT K a b) H1) ∨ (SqT K H1 a xs ∧ SqL K H1 b ys ∧ R (ItzTL K a b) H1))
theorem pi_zipB {X : Cx} {e e2 : Expr} {ta : TA} {p pos tpos : Pos} {elts : List Expr} {kk : Nat} (hg : Gl X "zip") (hm : X.mg "zip" = none) (ha : PA X [e, e2] ta)
    (hs : starEach [e, e2] X.env = (false, eval e X.env) :: starEach [e2] X.env) (hpl : (backTo pos (starEach [e2] X.env)).any (·.1) = false) :
    PI X (.Tuple elts kk tpos) (.Call (.Name "zip" p) [e, e2] [] pos) (iZipB X.K ta) := by
  refine ⟨fun pins s σ H R I h => ?_⟩
  refine Call_ (ld_blt I hg hm PyProof.Rows.boot_zip (PyProof.Rows.callWith_type1 (thn (ha.run pos pins s σ H _ I h) fun us s1 ⟨vs, H1, I1, r1, q1⟩ => ?_) hs hpl))
  obtain ⟨a, b, xs, ys, ex, q1⟩ := q1
  subst ex
  cases r1 with
  | cons r rr =>
    cases rr with
    | cons r' rr =>
      cases rr
      cases r
      cases r'
      have five : ∀ c, c ∈ [s1.heap.objs.size + 4, s1.heap.objs.size + 2, s1.heap.objs.size + 3, s1.heap.objs.size, s1.heap.objs.size + 1] → s1.heap.objs.size ≤ c := fun c hcm => by
        have e' : c = s1.heap.objs.size + 4 ∨ c = s1.heap.objs.size + 2 ∨ c = s1.heap.objs.size + 3 ∨ c = s1.heap.objs.size ∨ c = s1.heap.objs.size + 1 := by simpa using hcm
        rcases e' with z | z | z | z | z
        · rw [z]; exact Nat.le_add_right _ _
        · rw [z]; exact Nat.le_add_right _ _
        · rw [z]; exact Nat.le_add_right _ _
        · rw [z]; exact Nat.le_refl _
        · rw [z]; exact Nat.le_add_right _ _
      have fresh5 : ∀ c, c ∈ [s1.heap.objs.size + 4, s1.heap.objs.size + 2, s1.heap.objs.size + 3, s1.heap.objs.size, s1.heap.objs.size + 1] → FpOk X pins H1 c := fun c hcm => I1.fpOk (five c hcm) (I1.hok.fresh (five c hcm))
      rcases q1 with ⟨hqx, hqy, q⟩ | ⟨hqx, hqy, q⟩ | ⟨hqx, hqy, q⟩
      · obtain ⟨its, rv, p1, _⟩ := I1.list hqx
        obtain ⟨its2, rv2, p2, _⟩ := I1.list hqy
        refine call_zip_2 p1.isList p2.isList fun h' hz hTI hTO h1 h2 hsz hk => wpAny_pyIter_zip hz ?_
        have I2 : Inv X pins σ H1 { s1 with heap := h' } := I1.kept (t' := s1.toks) hk
        exact ⟨s1.heap.objs.size + 4, [s1.heap.objs.size + 4, s1.heap.objs.size + 2, s1.heap.objs.size + 3, s1.heap.objs.size, s1.heap.objs.size + 1], _, _, H1, rfl, I2, turn_zip (PySem.W.ktu_apart s1.heap.objs.size a b p1.lt p2.lt), ⟨hz, hTI, ⟨_, _, hTO⟩, h1, h2⟩, fresh5, q⟩
      · obtain ⟨its, rv, p1, _⟩ := I1.tuple hqx
        obtain ⟨its2, rv2, p2, _⟩ := I1.tuple hqy
        obtain ⟨o1, ho1, _⟩ := id p1
        obtain ⟨o2, ho2, _⟩ := id p2
        refine RZ.call_zipT (show s1.heap.IsTuple a its.toArray from p1) (show s1.heap.IsTuple b its2.toArray from p2) fun h' hz hTI hTO h1 h2 hsz hk => wpAny_pyIter_zip hz ?_
        have I2 : Inv X pins σ H1 { s1 with heap := h' } := I1.kept (t' := s1.toks) hk
        exact ⟨s1.heap.objs.size + 4, [s1.heap.objs.size + 4, s1.heap.objs.size + 2, s1.heap.objs.size + 3, s1.heap.objs.size, s1.heap.objs.size + 1], _, _, H1, rfl, I2, RZ.turn_zipT (PySem.W.ktu_apart s1.heap.objs.size a b (Heap.lt_size ho1) (Heap.lt_size ho2)), ⟨hz, hTI, ⟨_, _, hTO⟩, h1, h2⟩, fresh5, q⟩
      · obtain ⟨its, rv, p1, _⟩ := I1.tuple hqx
        obtain ⟨its2, rv2, p2, _⟩ := I1.list hqy
        obtain ⟨o1, ho1, _⟩ := id p1
        refine zip_begins2 (begins_tuple a its.toArray) (begins_list b its2.toArray) (show s1.heap.IsTuple a its.toArray from p1) p2.isList fun h' hz hTI hTO h1 h2 hsz hk => wpAny_pyIter_zip hz ?_
        have I2 : Inv X pins σ H1 { s1 with heap := h' } := I1.kept (t' := s1.toks) hk
        have la : a < s1.heap.objs.size := Heap.lt_size ho1
        have lb : b < s1.heap.objs.size := p2.lt
        refine ⟨s1.heap.objs.size + 4, [s1.heap.objs.size + 4, s1.heap.objs.size + 2, s1.heap.objs.size + 3, s1.heap.objs.size, s1.heap.objs.size + 1], _, _, H1, rfl, I2, turn_zipTL ?_ (fun c hcm => ⟨Nat.ne_of_gt (Nat.lt_of_lt_of_le la (five c hcm)), Nat.ne_of_gt (Nat.lt_of_lt_of_le lb (five c hcm))⟩), ⟨hz, hTI, ⟨_, _, hTO⟩, ⟨_, h1, rfl, rfl⟩, ⟨_, h2, rfl, rfl⟩⟩, fresh5, q⟩
        generalize s1.heap.objs.size = N
        have q : ∀ j k : Nat, j ≠ k → (N + j : Nat) ≠ N + k := fun j k h => by omega
        exact ⟨q 2 4 (by decide), q 3 4 (by decide), q 2 3 (by decide), q 2 0 (by decide), q 2 1 (by decide), q 4 0 (by decide), q 4 1 (by decide), q 3 0 (by decide), q 3 1 (by decide), q 0 1 (by decide)⟩
end VS
/-! VTb: enumerate, zip as walks. -/
namespace VS
open PySem PySem.Spec PyProof.Rows L2

def enumD (ds : List D) : List D := ds.zipIdx.map fun p => .tup [.int (p.2 : Nat), p.1]
def zipD (ds es : List D) : List D := List.zipWith (fun a b => .tup [a, b]) ds es
theorem enumD_len (ds : List D) : (enumD ds).length = ds.length := by simp [enumD]
theorem enumD_get {ds : List D} {k : Nat} {d : D} (h : (enumD ds)[k]? = some d) : ∃ e, ds[k]? = some e ∧ d = .tup [.int (k : Nat), e] := by
  simp only [enumD, List.getElem?_map, List.getElem?_zipIdx, Option.map_map, Option.map_eq_some_iff, Function.comp] at h
  obtain ⟨e, he, rfl⟩ := h
  exact ⟨e, he, by simp⟩
theorem zipD_get {ds es : List D} {k : Nat} {d : D} (h : (zipD ds es)[k]? = some d) : ∃ a b, ds[k]? = some a ∧ es[k]? = some b ∧ d = .tup [a, b] := by
  simp only [zipD, List.getElem?_zipWith] at h
  cases h1 : ds[k]? with
  | none => rw [h1] at h; cases h
  | some a =>
    cases h2 : es[k]? with
    | none => rw [h1, h2] at h; cases h
    | some b =>
      rw [h1, h2] at h
      cases h
      exact ⟨a, b, rfl, rfl, rfl⟩
section
variable {X : Cx} {K : PySem.W.Frag} {G : GEnv} {W : WX} {Φ H Φ1 H1 : Hp} {σ : L2.St} {s s1 s2 : Sl} {F : Nat → Addr → Prop} {L : Addr → Prop}
theorem yld_pair {T : Addr} {d1 d2 : D} {x y : V} (st : StR K G Φ H σ s F) (hT : H T = none) (rx : Rep K G Φ d1 x) (ry : Rep K G Φ d2 y) :
    ∃ Φ', Same Φ Φ' ∧ Same H (upd H T (.tup [x, y])) ∧ Same Φ' (upd H T (.tup [x, y])) ∧ (∀ b o, Φ' b = some o → Φ b = some o ∨ H b = none) ∧ Rep K G Φ' (.tup [d1, d2]) (.ref T) := by
  have hP : Φ T = none := st.same.free hT
  have e1 : Same Φ (upd Φ T (.tup [x, y])) := new_same hP
  refine ⟨upd Φ T (.tup [x, y]), e1, new_same hT, fun b o h => ?_, fun b o h => ?_, .tup (vs := [x, y]) (.inl (.inl upd_same)) rfl fun k d v h1 h2 => ?_⟩
  · by_cases hb : b = T
    · subst hb
      rw [upd_same] at h ⊢
      exact h
    · rw [upd_ne hb] at h ⊢
      exact st.same b o h
  · by_cases hb : b = T
    · subst hb
      exact .inr hT
    · rw [upd_ne hb] at h
      exact .inl h
  · match k with
    | 0 => cases h1; cases h2; exact rx.mono e1
    | 1 => cases h1; cases h2; exact ry.mono e1
    | k + 2 => simp at h1
theorem walk_enum {tp : Bool} {a : Addr} {ds : List D} {src : Src} (h : SeqOk K G Φ1 σ tp (.ref a) ds src) : WalkOk K G Φ1 σ (if tp = true then IteT K a else Ite K a) (enumD ds) src := by
  cases tp with
  | false =>
    rw [if_neg Bool.false_ne_true]
    refine ⟨fun k Φ H σ2 s F hk e st so => ?_, fun Φ H σ2 s F e st so => ?_, fun k Φ H σ2 s F x H' d hd e st so y => ?_⟩
    all_goals
      obtain ⟨a', ws, ea, hq, r⟩ := h Φ H σ2 s F e st so
      cases ea
      rw [if_neg Bool.false_ne_true] at hq
    · rw [enumD_len] at hk
      obtain ⟨v, hv, _⟩ := r.get (List.getElem?_eq_getElem hk)
      exact ⟨ws, v, hq, hv⟩
    · exact ⟨ws, hq, by rw [enumD_len, r.1]; exact Nat.le_refl _⟩
    · obtain ⟨d0, hd0, rfl⟩ := enumD_get hd
      obtain ⟨v, hv, rv⟩ := r.get hd0
      obtain ⟨T, x0, rfl, hT, rfl, hy⟩ := y
      rw [hy ws hq] at hv
      cases hv
      exact yld_pair st hT (.int _) rv
  | true =>
    rw [if_pos rfl]
    refine ⟨fun k Φ H σ2 s F hk e st so => ?_, fun Φ H σ2 s F e st so => ?_, fun k Φ H σ2 s F x H' d hd e st so y => ?_⟩
    all_goals
      obtain ⟨a', ws, ea, hq, r⟩ := h Φ H σ2 s F e st so
      cases ea
      rw [if_pos rfl] at hq
    · rw [enumD_len] at hk
      obtain ⟨v, hv, _⟩ := r.get (List.getElem?_eq_getElem hk)
      exact ⟨ws, v, hq, hv⟩
    · exact ⟨ws, hq, by rw [enumD_len, r.1]; exact Nat.le_refl _⟩
    · obtain ⟨d0, hd0, rfl⟩ := enumD_get hd
      obtain ⟨v, hv, rv⟩ := r.get hd0
      obtain ⟨T, x0, rfl, hT, rfl, hy⟩ := y
      rw [hy ws hq] at hv
      cases hv
      exact yld_pair st hT (.int _) rv
/-- which iterator -/
def itzK (K : PySem.W.Frag) (t1 t2 : Bool) (a b : Addr) : It := if t1 = true then (if t2 = true then RZ.ItzT K a b else ItzTL K a b) else Itz K a b
theorem walk_zip {t1 t2 : Bool} {a b : Addr} {ds es : List D} {src1 src2 : Src} (h1 : SeqOk K G Φ1 σ t1 (.ref a) ds src1) (h2 : SeqOk K G Φ1 σ t2 (.ref b) es src2) (ht : (t1 || !t2) = true) : WalkOk K G Φ1 σ (itzK K t1 t2 a b) (zipD ds es) (src1 ++ src2) := by
  have sp : ∀ {s σ2}, SrcOk (src1 ++ src2) s σ2 σ → SrcOk src1 s σ2 σ ∧ SrcOk src2 s σ2 σ := fun so => ⟨fun p hp => so p (List.mem_append_left _ hp), fun p hp => so p (List.mem_append_right _ hp)⟩
  have hlen : (zipD ds es).length = min ds.length es.length := by simp [zipD]
  unfold itzK
  cases t1 <;> cases t2 <;> first | (exact absurd ht (by decide)) | skip
  all_goals
    first | rw [if_pos rfl] | rw [if_neg Bool.false_ne_true]
    try (first | rw [if_pos rfl] | rw [if_neg Bool.false_ne_true])
    refine ⟨fun k Φ H σ2 s F hk e st so => ?_, fun Φ H σ2 s F e st so => ?_, fun k Φ H σ2 s F x H' d hd e st so y => ?_⟩
    all_goals
      obtain ⟨a', ws, ea, hq, r⟩ := h1 Φ H σ2 s F e st (sp so).1
      cases ea
      obtain ⟨b', us, eb, hq2, r2⟩ := h2 Φ H σ2 s F e st (sp so).2
      cases eb
      first | rw [if_pos rfl] at hq | rw [if_neg Bool.false_ne_true] at hq
      first | rw [if_pos rfl] at hq2 | rw [if_neg Bool.false_ne_true] at hq2
    · rw [hlen] at hk
      obtain ⟨v, hv, _⟩ := r.get (List.getElem?_eq_getElem (show k < ds.length by omega))
      obtain ⟨u, hu, _⟩ := r2.get (List.getElem?_eq_getElem (show k < es.length by omega))
      exact ⟨ws, us, v, u, hq, hq2, hv, hu⟩
    · have l1 := r.1
      have l2 := r2.1
      first
        | exact ⟨ws, us, hq, hq2, by rw [hlen]; omega⟩
        | exact ⟨ws, us, hq, hq2, by rw [hlen]; omega, by rw [hlen]; omega, by rw [hlen]; omega⟩
    · obtain ⟨d1, d2, g1, g2, rfl⟩ := zipD_get hd
      obtain ⟨v, hv, rv⟩ := r.get g1
      obtain ⟨u, hu, ru⟩ := r2.get g2
      obtain ⟨T, x0, y0, rfl, hT, rfl, hy1, hy2⟩ := y
      rw [hy1 ws hq] at hv
      cases hv
      rw [hy2 us hq2] at hu
      cases hu
      exact yld_pair st hT rv ru

def evEnum (f : Sl → Out Op) : Sl → Out Walked := fun s => match evAs [f] s with
  | .ok ops s1 => match ops with
    | [o] => match iterSrc s1 o with
      | some (_, ds, src, s2) => .ok ⟨enumD ds, src⟩ s2
      | none => .bad
    | _ => .bad
  | .er x s1 => .er x s1
  | .bad => .bad
theorem enum_ok {f : Sl → Out Op} {R : It → Hp → Prop} (h : tI K G W (evEnum f) σ H R) : iEnumA K (tArgs K G W [f]) σ H R := by
  obtain ⟨Φ, s, F, st, p⟩ := h
  refine args_ok [f] _ Φ H s F st ?_
  unfold evEnum at p
  cases q : evAs [f] s with
  | bad => rw [q] at p; exact p
  | er x s1 => rw [q] at p; exact p
  | ok ops s1 =>
    rw [q] at p
    dsimp only at p
    intro vs H' Φ' F' Es st' or fr
    split at p
    · next w s2 e =>
      split at e
      · next o =>
        split at e
        · next tp ds src s3 hi =>
          cases e
          obtain ⟨v, rfl⟩ : ∃ v, vs = [v] := by
            have := or.len
            cases vs with
            | nil => simp at this
            | cons v vs => cases vs with
              | nil => exact ⟨v, rfl⟩
              | cons _ _ => simp at this
          obtain ⟨Φ2, F2, st2, fr2, sq, hs, _, _⟩ := iterSrc_ok st' (or.tmp 0) (fun t e => or.vl 0 t v (by rw [e]; rfl) rfl) (fun i e => or.rt 0 i v (by rw [e]; rfl) rfl) hi
          obtain ⟨a, ws, rfl, hq, rp⟩ := sq Φ2 H' σ s2 F2 (Same.refl Φ2) st2 fun z hz => ⟨hs z hz, rfl⟩
          have go := p (if tp = true then IteT K a else Ite K a) H' Φ2 F2 st2 (fr.trans (fr2.wide fun b h => h.elim (fun z => .inl ⟨0, z⟩) .inr)) hs (walk_enum sq)
          refine ⟨a, rfl, ?_⟩
          cases tp with
          | false => exact .inl ⟨ws, hq, go⟩
          | true => exact .inr ⟨ws, hq, go⟩
        · cases e
      · cases e
    · next x s2 e =>
      split at e
      · split at e <;> cases e
      · cases e
    · exact p.elim
theorem vi_enum {e : Expr} {f : Sl → Out Op} {p pos tpos : Pos} {elts : List Expr} {kk : Nat} (hg : Gl X "enumerate") (hm : X.mg "enumerate" = none) (h : VO X G W e f) (hs : notStar e = true) :
    VI X G W (.Tuple elts kk tpos) (.Call (.Name "enumerate" p) [e] [] pos) (evEnum f) :=
  pi_imp (pi_enumA hg hm (pa_of (.cons h .nil) (by rw [List.all_cons, hs]; rfl)) (star_of hs)) fun σ H R => enum_ok

def evZip (f g : Sl → Out Op) : Sl → Out Walked := fun s => match evAs [f, g] s with
  | .ok ops s1 => match ops with
    | [o, o'] => match iterSrc s1 o with
      | some (t1, ds, src, s2) => match iterSrc s2 o' with
        | some (t2, es, src', s3) => if (t1 || !t2) = true ∧ srcB src s3 = true then .ok ⟨zipD ds es, src ++ src'⟩ s3 else .bad
        | none => .bad
      | none => .bad
    | _ => .bad
  | .er x s1 => .er x s1
  | .bad => .bad
theorem zip_ok {f g : Sl → Out Op} {R : It → Hp → Prop} (h : tI K G W (evZip f g) σ H R) : iZipB K (tArgs K G W [f, g]) σ H R := by
  obtain ⟨Φ, s, F, st, p⟩ := h
  refine args_ok [f, g] _ Φ H s F st ?_
  unfold evZip at p
  cases q : evAs [f, g] s with
  | bad => rw [q] at p; exact p
  | er x s1 => rw [q] at p; exact p
  | ok ops s1 =>
    rw [q] at p
    dsimp only at p
    intro vs H' Φ' F' Es st' or fr
    split at p
    · next w sE e =>
      split at e
      · next o o' =>
        split at e
        · next t1 ds src s2 hi =>
          split at e
          · next t2 es src' s3 hi' =>
            split at e
            · next hc =>
              cases e
              obtain ⟨v, v', rfl⟩ := len2 (a := D.non) (b := D.non) (vs := vs) or.len
              have o1 := fun (t : T) (e : o = .vl t) => or.vl 0 t v (show [o, o'][0]? = some (.vl t) by rw [← e]; rfl) rfl
              have r1 := fun (i : Nat) (e : o = .rt i) => or.rt 0 i v (show [o, o'][0]? = some (.rt i) by rw [← e]; rfl) rfl
              have o2 := fun (t : T) (e : o' = .vl t) => or.vl 1 t v' (show [o, o'][1]? = some (.vl t) by rw [← e]; rfl) rfl
              have r2 := fun (i : Nat) (e : o' = .rt i) => or.rt 1 i v' (show [o, o'][1]? = some (.rt i) by rw [← e]; rfl) rfl
              obtain ⟨Φ2, F2, st2, fr2, sq, hs, sub, fz⟩ := iterSrc_ok st' (or.tmp 0) o1 r1 hi
              have tm2 : TmpR Φ2 H' F2 (Es 1) := ⟨fun b h => by
                cases q : Φ2 b with
                | none => rfl
                | some u =>
                  rcases fz b u q with z | z | ⟨i, z⟩
                  · rw [(or.tmp 1).unf b h] at z; cases z
                  · exact (or.dis 0 1 b (by decide) z h).elim
                  · exact ((or.tmp 1).apart i b h z).elim, (or.tmp 1).live, fun i b h z => (or.tmp 1).apart i b h (sub i b z)⟩
              obtain ⟨Φ3, F3, st3, fr3, sq', hs', sub', fz'⟩ := iterSrc_ok st2 tm2 (fun t e => (o2 t e).mono fr2.phi (fun _ _ _ h => h) fun _ h => h) r2 hi'
              obtain ⟨a, ws, rfl, hq, rp⟩ := sq Φ3 H' σ sE F3 fr3.phi st3 fun z hz => ⟨srcB_ok hc.2 z hz, rfl⟩
              obtain ⟨b, us, rfl, hq2, rp2⟩ := sq' Φ3 H' σ sE F3 (Same.refl _) st3 fun z hz => ⟨hs' z hz, rfl⟩
              have frs : Frm Φ' H' (OpF Es F') Φ3 H' (Ft F3) := by
                have w := fr2.wide (F2 := OpF Es F') fun b h => h.elim (fun z => .inl ⟨0, z⟩) .inr
                refine ⟨w.phi.trans fr3.phi, fun _ _ h _ => h, fun b h => ?_, fun b o h => ?_⟩
                · obtain ⟨i, z⟩ := h
                  exact .inl (.inr ⟨i, sub i b (sub' i b z)⟩)
                · rcases fz' b o h with z | z | ⟨i, z⟩
                  · rcases fz b o z with y | y | y
                    · exact .inl y
                    · exact .inr (.inl (.inl ⟨0, y⟩))
                    · exact .inr (.inl (.inr y))
                  · exact .inr (.inl (.inl ⟨1, z⟩))
                  · exact .inr (.inl (.inr ⟨i, sub i b z⟩))
              have go := p (itzK K t1 t2 a b) H' Φ3 F3 st3 (fr.trans frs) (fun z hz => (List.mem_append.mp hz).elim (srcB_ok hc.2 z) (hs' z)) (walk_zip (sq.mono fr3.phi) sq' hc.1)
              refine ⟨a, b, ws, us, rfl, ?_⟩
              unfold itzK at go
              cases t1 <;> cases t2 <;> first | (exact absurd hc.1 (by decide)) | skip
              · exact .inl ⟨hq, hq2, go⟩
              · exact .inr (.inr ⟨hq, hq2, go⟩)
              · exact .inr (.inl ⟨hq, hq2, go⟩)
            · cases e
          · cases e
        · cases e
      · cases e
    · next x sE e =>
      split at e
      · split at e
        · split at e
          · split at e <;> cases e
          · cases e
        · cases e
      · cases e
    · exact p.elim
theorem vi_zip {e e2 : Expr} {f g : Sl → Out Op} {p pos tpos : Pos} {elts : List Expr} {kk : Nat} (hg : Gl X "zip") (hm : X.mg "zip" = none) (h : VO X G W e f) (hs : notStar e = true) (h2 : VO X G W e2 g) (hs2 : notStar e2 = true) :
    VI X G W (.Tuple elts kk tpos) (.Call (.Name "zip" p) [e, e2] [] pos) (evZip f g) :=
  pi_imp (pi_zipB hg hm (pa_of (.cons h (.cons h2 .nil)) (by rw [List.all_cons, List.all_cons, hs, hs2]; rfl)) (star_of hs) (star_any (by rw [List.all_cons, hs2]; rfl))) fun σ H R => zip_ok
end
end VS
/-! VTc: isinstance of several classes. -/
namespace VS
open PySem PySem.Spec PyProof.Rows L2

def tCs (cs : List V) : TA := fun _ H Q => Q cs H
inductive ClsEs (X : Cx) (G : GEnv) : List CK → List Expr → Prop
  | nil : ClsEs X G [] []
  | cons {k : CK} {e : Expr} {ks : List CK} {es : List Expr} (h : ClsE X G k e) (r : ClsEs X G ks es) : ClsEs X G (k :: ks) (e :: es)
section
variable {X : Cx} {K : PySem.W.Frag} {G : GEnv} {W : WX} {Φ H Φ1 H1 : Hp} {σ : L2.St} {s s1 s2 : Sl} {F : Nat → Addr → Prop} {L : Addr → Prop}
theorem clsEs_pa : ∀ {ks : List CK} {es : List Expr}, ClsEs X G ks es → ∃ cs us, PA X es (tCs cs) ∧ Paired ClsV cs us ∧ ks.map (ckVal G) = us.map some ∧ es.all notStar = true
  | _, _, .nil => ⟨[], [], pa_imp pa_nil fun _ _ _ h => h, .nil, rfl, rfl⟩
  | _, _, .cons h r => by
    obtain ⟨cs, us, p, k, e, a⟩ := clsEs_pa r
    obtain ⟨c, u, pc, kc, hk, hs⟩ := h
    exact ⟨c :: cs, u :: us, pa_imp (pa_cons pc p (star_of hs)) fun _ _ _ h => h, .cons kc k, by rw [List.map_cons, List.map_cons, hk, e], by rw [List.all_cons, hs, a]; rfl⟩
/-- the answer over several classes -/
def evIsiT (T : CK → CK → Option Bool) (ks : List CK) (f : Sl → Out Op) : Sl → Out Op := fun s => match f s with
  | .ok o s1 => match snapOp s1 o with
    | some d => match isiAny T (tyK d) ks with
      | some b => .ok (.vl (.leaf (.bl b))) s1
      | none => .bad
    | none => .bad
  | .er x s1 => .er x s1
  | .bad => .bad
theorem isiAny_ok {T : CK → CK → Option Bool} {d : D} {v : V} (hT : IsiTab K G T) (r : Rep K G H d v) : ∀ {ks : List CK} {us : List Value} {b : Bool}, ks ≠ [] → ks.map (ckVal G) = us.map some → isiAny T (tyK d) ks = some b → ∃ u, TyX K H v u ∧ ckVal G (tyK d) = some u ∧ PySem.W.kitAny K u us = some b
  | [], _, _, hn, _, _ => absurd rfl hn
  | k :: ks, [], b, _, e, _ => by simp at e
  | k :: ks, w :: us, b, _, e, h => by
    rw [List.map_cons, List.map_cons] at e
    injection e with e1 e2
    unfold isiAny at h
    split at h
    · next hk =>
      cases h
      obtain ⟨u, w', h1, h2, ty, h4⟩ := tyx_of hT r hk
      rw [e1] at h2
      cases h2
      exact ⟨u, ty, h1, by unfold PySem.W.kitAny; rw [h4]⟩
    · next hk =>
      obtain ⟨u, w', h1, h2, ty, h4⟩ := tyx_of hT r hk
      rw [e1] at h2
      cases h2
      refine ⟨u, ty, h1, ?_⟩
      unfold PySem.W.kitAny
      rw [h4]
      dsimp only
      cases ks with
      | nil =>
        cases us with
        | nil => exact h
        | cons _ _ => simp at e2
      | cons k' ks' =>
        obtain ⟨u', ty', h1', h5⟩ := isiAny_ok hT r (ks := k' :: ks') (us := us) (b := b) (by simp) e2 h
        rw [h1] at h1'
        cases h1'
        exact h5
    · cases h
theorem TyX.new {x t : _} (h : TyX K H x t) {p : Addr} {o : HO} (hp : H p = none) : TyX K (upd H p o) x t := by
  have ne : ∀ {a : Addr} {u : HO}, H a = some u → (upd H p o) a = some u := fun {a u} e => by
    rw [upd_ne (fun z => by subst z; rw [hp] at e; cases e)]
    exact e
  cases h with
  | base h => cases h with
    | non => exact .base .non
    | bl b => exact .base (.bl b)
    | int i => exact .base (.int i)
    | str z => exact .base (.str z)
    | flt z => exact .base (.flt z)
    | lst e => exact .base (.lst (ne e))
    | tup e => exact .base (.tup (ne e))
    | dK e => exact .base (.dK (ne e))
    | dT e => exact .base (.dT (ne e))
    | frz e => exact .base (.frz (ne e))
    | ins e a b c d f => exact .base (.ins (ne e) a b c d f)
  | byt y => exact .byt y
  | set e => exact .set (ne e)
  | kList e c => exact .kList e c
  | kTuple e c => exact .kTuple e c
  | kDict e c => exact .kDict e c
  | fTuple e => exact .fTuple (ne e)
  | fDict e => exact .fDict (ne e)
theorem vo_isiT {T : CK → CK → Option Bool} {ks : List CK} {e : Expr} {cs : List Expr} {f : Sl → Out Op} {p pos tp : Pos} {x1 : Nat} (hT : IsiTab X.K G T) (hg : Gl X "isinstance") (hm : X.mg "isinstance" = none) (he : VO X G W e f) (hs : notStar e = true) (hc : ClsEs X G ks cs) (hn : ks ≠ []) (hl : ks.length < 1000) :
    VO X G W (.Call (.Name "isinstance" p) [e, .Tuple cs x1 tp] [] pos) (evIsiT T ks f) := by
  obtain ⟨vs, us, pc, kc, hk, hs2⟩ := clsEs_pa hc
  have hs3 : notStar (.Tuple cs x1 tp) = true := rfl
  refine pe_imp (pe_callB call_isiT hg hm (by decide +kernel) (pa_cons he (pa_cons (pe_tup pc) pa_nil (star_of hs3)) (star_of hs)) (by decide) (by decide) (star_of hs) (by rw [star_of hs3]; rfl)) fun σ H Q q => ?_
  obtain ⟨Φ, s, F, st, p⟩ := q
  unfold evIsiT at p
  refine tO_any st (fun o1 s1 e v H' Φ' F' E st' hv hr tm fr => ?_) (fun x s1 e => ?_) (fun e => ?_)
  · rw [e] at p
    dsimp only at p
    split at p
    · next d hd =>
      split at p
      · next b hb =>
        have hlen : vs.length ≤ sizeLine := by
          have h1 : us.length = ks.length := by have := congrArg List.length hk; simpa using this.symm
          have h2 : vs.length = us.length := by
            clear hk hb p hc hs2 pc h1
            induction kc with
            | nil => rfl
            | cons _ _ ih => rw [List.length_cons, List.length_cons, ih]
          show vs.length ≤ sizeLine
          rw [h2, h1]
          exact Nat.le_trans (Nat.le_of_lt hl) (by decide)
        refine ⟨hlen, fun t ht => ?_⟩
        obtain ⟨u, ty, h1, h4⟩ := isiAny_ok hT (snap_one st' hv hr hd) hn hk hb
        refine ⟨v, t, vs, u, us, b, rfl, upd_same, kc, TyX.new ty ht, h4, ?_⟩
        exact fin_val (L := fun b => E b ∨ Ft F' b) (K := X.K) (G := G) (W := W) (d := .bl b) st' (fun b h => .inr h) (fun v H2 Φ2 F2 E2 st2 ow2 tm2 fr2 => p v H2 Φ2 F2 E2 st2 ow2 tm2 (fr.trans fr2)) (new_same ht) (.bl b)
      · exact p.elim
    · exact p.elim
  · rw [e] at p; exact p
  · rw [e] at p; exact p
end
end VS
/-! VTd: own methods asked by the machine: ==, !=, len, repr, str. -/
namespace VS
open PySem PySem.Spec PyProof.Rows L2

/-! ### object.__ne__ of a class with its own == -/
section
variable {prog : Program} {w : World} {A : Around} {E : Value → Shared → Prop} {s : Shared} {K : PySem.W.Frag} {x C f : Addr} {ox : Obj} {od : Option Obj} {b tb : Value}
def NeBack (Q : Value → Shared → Prop) (v : Value) (s' : Shared) : Prop := ∃ r, v = .bool r ∧ Q (.bool !r) s'
theorem ifBound_objNe {M : Model} {args : List Value} {Q : Option Value → Shared → Prop} (X : K.In s.heap) (I : PySem.W.InstAt s.heap x ox C od) (hs : PySem.W.findIn K (.ref C) "__ne__" = some (some (.builtin "object.__ne__")))
    (h : wpAny M A (call (.builtin "object.__ne__") (.ref x :: args)) (fun v => Q (some v)) E s) : wpAny M A (callSpecialIfBound? (.ref x) "__ne__" args) Q E s := by
  simp only [callSpecialIfBound?, bindSpecialIfBound?]
  refine wpAny_holding (wpAny_bind (wpAny_bind (wpAny_bind (I.type.here ((PySem.W.looks_findIn X hs).here ?_)))))
  refine wpAny_bind (wpAny_askSetting (wpAny_ite ?_))
  have fin : wpAny M A (call (.builtin "object.__ne__") ([.ref x] ++ args) >>= fun v => pure (some v)) Q E s := wpAny_bind (wpAny_mono h (fun v s' h' => wpAny_pure h') fun _ _ h' => h')
  split
  · exact wpAny_bind (wpAny_of_eq (F.cmp_object.ne.bind _) (wpAny_pure (by exact fin)))
  · exact wpAny_tryCatch (wpAny_bind (wpAny_of_eq (F.cmp_object.ne.bind _) (wpAny_pure (by exact fin))))
theorem call_objNe {Q : Value → Shared → Prop} (hu : A.units + 1 < cLine) (X : K.In s.heap) (I : PySem.W.InstAt s.heap x ox C od) (hm : PySem.W.mroIn K C (.type "object") = some true) (he : PySem.W.findIn K (.ref C) "__eq__" = some (some (.ref f))) (hf : PySem.W.isFn K (.ref f) = true)
    (h : wpAny (model prog w) A.in1 (call (.ref f) [.ref x, b]) (NeBack Q) E s) : wpAny (model prog w) A (call (.builtin "object.__ne__") [.ref x, b]) Q E s := by
  refine wpAny_call (codeAny_call_builtin F.cmp_object.ne.plain F.cmpEntry_ne (PySem.W.check_slot F.cmpKind_ne F.cmpSplit_ne (I.type.andThen (PySem.W.looks_mroIn X hm)) (F.cmpArgs_ne _ _) ?_))
  unfold Builtin.«object.__ne__»
  repeat (first
    | with_reducible refine wpAny_cRoomFor hu ?_
    | (refine wpAny_bind (m := callSpecialIfBound? (.ref x) (Str.ofString "__eq__") [b])
        (PySem.W.ifBound_K X I he hf (wpAny_mono h (fun r s' hr => by
          obtain ⟨b, rfl, hq⟩ := hr
          repeat (first | exact hq | exact wpAny_pure hq | exact ⟨_, rfl, hq⟩ | exact wpAny_pure ⟨_, rfl, hq⟩ | exact wpAny_truthy_bool hq | (refine wpAny_bind (m := truthy (.bool _)) (wpAny_truthy_bool ?_)) | wp_step)) fun _ _ e => e)))
    | wp_step)
theorem cmp_ne {Q : Value → Shared → Prop} (hu : A.units + 1 < cLine) (X : K.In s.heap) (I : PySem.W.InstAt s.heap x ox C od) (hb : PySem.W.Looks (model prog w) s.heap (typeOf b) tb) (hn : PySem.W.notFirst K C tb = true)
    (hs : PySem.W.findIn K (.ref C) "__ne__" = some (some (.builtin "object.__ne__"))) (hm : PySem.W.mroIn K C (.type "object") = some true) (he : PySem.W.findIn K (.ref C) "__eq__" = some (some (.ref f))) (hf : PySem.W.isFn K (.ref f) = true)
    (h : wpAny (model prog w) A.in1 (call (.ref f) [.ref x, b]) (NeBack Q) E s) : wpAny (model prog w) A (richCompare .NotEq (.ref x) b) Q E s := by
  have one : wpAny (model prog w) A (tryCompare (.ref x) (cmpInfo .NotEq).2.1 b) (fun r s' => ∃ v, r = some v ∧ Q v s') E s := by
    unfold tryCompare
    refine wpAny_bind (ifBound_objNe X I hs (call_objNe hu X I hm he hf (wpAny_mono h (fun v s' hv => ?_) fun _ _ e => e)))
    obtain ⟨r, rfl, q⟩ := hv
    exact ⟨r, rfl, wpAny_pure ⟨_, rfl, q⟩⟩
  unfold richCompare
  simp only [oneThing_ref]
  refine wpAny_holding (wpAny_bind (wpAny_cRoomFor (Nat.lt_of_succ_lt hu) ?_))
  refine wpAny_bind (I.type.here (wpAny_bind (hb.here ?_)))
  split
  · rename_i q
    have e : PySem.W.subIn K tb (.ref C) = some false := by
      rcases Bool.or_eq_true_iff.mp hn with e | e
      · rw [beq_iff_eq.mp e] at q; simp at q
      · exact beq_iff_eq.mp e
    refine wpAny_bind ((PySem.W.looks_subIn X e).here ?_)
    simp only [Bool.false_eq_true, if_false]
    refine wpAny_bind (wpAny_mono one (fun r s' z => ?_) fun _ _ e => e)
    obtain ⟨v, rfl, hq⟩ := z
    exact wpAny_pure hq
  · refine wpAny_bind (wpAny_pure ?_)
    simp only [Bool.false_eq_true, if_false]
    refine wpAny_bind (wpAny_mono one (fun r s' z => ?_) fun _ _ e => e)
    obtain ⟨v, rfl, hq⟩ := z
    exact wpAny_pure hq
end

/-! ### a def called by the machine, its arguments only read -/
section
variable {X : Cx} {G : GEnv} {pins : List (Addr × Obj)} {σ : L2.St} {H : Hp} {s : Shared} {k : Nat} {f : Addr} {fd : FuncData} {ps : List Str} {A : Around}
theorem call_g {Fn : Fn} {us : List Value} {vs : List V} {Q : VK} {E : Value → Shared → Prop} (F : FnG X.prog X.w X.K X.mg X.base k f fd ps (spF X.K G Fn)) (hfr : A.frames = X.A.frames) (hr : Room k A) (hg : A.guards = some [])
    (hb : BindsTo s fd ⟨us, []⟩ (ps.zip us)) (I : Inv X pins σ H s) (r : Vals vs us) (h : spF X.K G Fn vs H Q fun _ _ _ => False) : wpAny (model X.prog X.w) A (call (.ref f) us) (EP X pins σ Q) E s := by
  have e := I.env0
  have e0 : Env0 X.prog X.w X.K X.mg X.base A X.stack s H := ⟨by rw [hfr]; exact e.frames, e.mod, e.bs, e.bsz, e.funs, e.frf, e.hok, e.bare⟩
  refine wpAny_call (codeAny_mono (F.run A X.stack s H ⟨us, []⟩ us vs Q _ hr hg e0 hb r h) fun r s' hq => ?_)
  match r, hq with
  | .error e, hq =>
    obtain ⟨_, _, _, _, _, _, _, _, _, _, _, _, z⟩ := hq
    exact z.elim
  | .ok (.ret u), hq => exact I.after hq
theorem sp_read {K : PySem.W.Frag} {Fn : Fn} {ds : List D} {vs : List V} {d : D} {qs : List T} {E : XK} (r : RepL K G H ds vs) (h : Fn (ds.map .leaf) = .ret (.leaf d) qs) : spF K G Fn vs H (fun v H' => Same H H' ∧ Rep K G H' d v) E := by
  refine ⟨H, ds.map .leaf, fun _ => no, Same.refl H, ⟨by rw [List.length_map]; exact r.1, fun k t v h1 h2 => ?_, fun _ _ _ _ z => z.elim, fun _ => TmpR.no⟩, ?_⟩
  · rw [List.getElem?_map] at h1
    obtain ⟨e, he, rfl⟩ := Option.map_eq_some_iff.mp h1
    exact .leaf (r.2 k e v he h2)
  · rw [h]
    intro v H' Φ' Es' sm tr fr
    have ow := tr.own 0 _ v rfl rfl
    cases ow with
    | leaf rr => exact ⟨fun b o e => fr.keep b o e fun ⟨k, z⟩ => z, rr.mono sm⟩
end

/-! ### == and != -/
/-- what the == of a class is -/
structure EqC (X : Cx) (G : GEnv) (c : Str) (Fn : Fn) : Prop where
  ex : ∃ ci k f fd ps, G c = some ci ∧ ci.exn = false ∧ PySem.W.findIn X.K (.ref ci.addr) "__eq__" = some (some (.ref f)) ∧ PySem.W.isFn X.K (.ref f) = true ∧ PySem.W.findIn X.K (.ref ci.addr) "__ne__" = some (some (.builtin "object.__ne__")) ∧ PySem.W.mroIn X.K ci.addr (.type "object") = some true ∧
    FnG X.prog X.w X.K X.mg X.base k f fd ps (spF X.K G Fn) ∧ Room (k + 1) X.A ∧ Binds X.K fd ps []
/-- is the right side's class no subclass of the left one's -/
def IsiTab.notFirst {K : PySem.W.Frag} {G : GEnv} {T : CK → CK → Option Bool} (hT : IsiTab K G T) {t : CK} {c : Str} {ci : CInfo} {b : Bool} (hc : G c = some ci) (h : T t (.inr c) = some b) : ∃ u, ckVal G t = some u ∧ (b = false ∨ t = .inr c → PySem.W.notFirst K ci.addr u = true) := by
  obtain ⟨u, w, h1, h2, h3⟩ := hT.ans _ _ _ h
  refine ⟨u, h1, fun hb => ?_⟩
  have hw : w = .ref ci.addr := by
    unfold ckVal at h2
    dsimp only at h2
    rw [hc] at h2
    exact (Option.some.inj h2).symm
  subst hw
  rcases hb with rfl | rfl
  · unfold PySem.W.kitOne at h3
    split at h3
    · cases h3
    · unfold PySem.W.kitCls at h3
      dsimp only at h3
      split at h3
      · unfold PySem.W.notFirst
        rw [h3]
        simp
      · cases h3
  · unfold ckVal at h1
    dsimp only at h1
    rw [hc] at h1
    cases h1
    unfold PySem.W.notFirst
    simp
def bEqO (T : CK → CK → Option Bool) (E : Str → Option Fn) (neg : Bool) : List D → B
  | [.obj c xs, d] => match E c with
    | some F => if T (tyK d) (.inr c) = some false ∨ (T (tyK d) (.inr c) = some true ∧ tyK d = .inr c) then match F [.leaf (.obj c xs), .leaf d] with
        | .ret (.leaf (.bl r)) _ => .sc (.bl (r ^^ neg))
        | _ => .bad
      else .bad
    | none => .bad
  | _ => .bad
def rEqO (K : PySem.W.Frag) (G : GEnv) (T : CK → CK → Option Bool) (E : Str → Option Fn) (neg : Bool) : R2 := fun x y H Q => ∃ c xs d F r qs, RepL K G H [.obj c xs, d] [x, y] ∧ E c = some F ∧ (T (tyK d) (.inr c) = some false ∨ (T (tyK d) (.inr c) = some true ∧ tyK d = .inr c)) ∧ F [.leaf (.obj c xs), .leaf d] = .ret (.leaf (.bl r)) qs ∧ ∀ H', Same H H' → Q (.bl (r ^^ neg)) H'
section
variable {X : Cx} {G : GEnv} {W : WX} {T : CK → CK → Option Bool} {E : Str → Option Fn} {neg : Bool}
theorem op_eqO (hT : IsiTab X.K G T) (hE : ∀ c F, E c = some F → EqC X G c F) (hgd : X.A.guards = some []) (hu : X.A.units + 64 < cLine) : OpR X (compareOp (if neg = true then .NotEq else .Eq)) (rEqO X.K G T E neg) := by
  intro pins s σ H x y v u Q I rx ry h
  obtain ⟨c, xs, d, F, r, qs, rl, hF, ht, hr, q⟩ := h
  obtain ⟨ci, k, f, fd, ps, hc, he, hs, hf, hne, hm, FF, hroom, hb⟩ := (hE c F hF).ex
  obtain ⟨x', y', e, r1, r2⟩ := repL2 rl
  cases e
  obtain ⟨a, dx, vs, rfl, ha, rv, _⟩ := rep_ins hc he r1
  cases (show v = Value.ref a from rx)
  obtain ⟨mA, J, _⟩ := ins_get I.hok ha
  obtain ⟨od, J, _⟩ := J.look
  obtain ⟨m, hFr⟩ := I.fr
  have hnf : ∃ tb, PySem.W.Looks (model X.prog X.w) s.heap (typeOf u) tb ∧ PySem.W.notFirst X.K ci.addr tb = true := by
    obtain ⟨b, hb1, hb2⟩ : ∃ b, T (tyK d) (.inr c) = some b ∧ (b = false ∨ tyK d = .inr c) := ht.elim (fun z => ⟨false, z, .inl rfl⟩) fun z => ⟨true, z.1, .inr z.2⟩
    obtain ⟨tb, w, h1, h2, ty, _⟩ := tyx_of hT r2 hb1
    obtain ⟨tb', h1', h3⟩ := hT.notFirst hc hb1
    rw [h1] at h1'
    cases h1'
    obtain ⟨P, Z, p, _⟩ := kit_of I ry ty
    exact ⟨tb, Z.ty _ _ I.kIn p, h3 hb2⟩
  obtain ⟨tb, hlk, hnf⟩ := hnf
  have hsp := sp_read (K := X.K) (E := fun _ _ _ => False) rl hr
  have hbt : BindsTo s fd ⟨[.ref a, u], []⟩ (ps.zip [.ref a, u]) := by
    have := hb s [.ref a, u] I.kIn (by have := FF.len _ _ _ _ hsp; simpa using this)
    simpa using this
  have rv2 : Vals [V.ref a, y] [Value.ref a, u] := .cons rfl (.cons ry .nil)
  cases neg with
  | false =>
    show wpAny _ _ (richCompare .Eq (.ref a) u) _ _ s
    refine PySem.W.cmp_K (op := .Eq) (by omega) hFr I.ok.mod.kin J hlk hnf hs hf ?_
    refine wpAny_mono (call_g FF rfl (hroom.mono (Nat.le_succ _)) hgd hbt I rv2 hsp) (fun v s' z => ?_) fun _ _ e => e
    obtain ⟨w, H', I', rw', sm, rp⟩ := z
    have e1 := rep_bl rp
    subst e1
    obtain rfl : v = Value.bool r := rw'
    exact ⟨.bl r, H', I', rfl, by simpa using q H' sm⟩
  | true =>
    show wpAny _ _ (richCompare .NotEq (.ref a) u) _ _ s
    refine cmp_ne (f := f) (by omega) I.kIn J hlk hnf hne hm hs hf ?_
    refine wpAny_mono (call_g (A := X.A.in1) FF rfl (Room.in1 hroom) hgd hbt I rv2 hsp) (fun v s' z => ?_) fun _ _ e => e
    obtain ⟨w, H', I', rw', sm, rp⟩ := z
    have e1 := rep_bl rp
    subst e1
    obtain rfl : v = Value.bool r := rw'
    exact ⟨r, rfl, .bl !r, H', I', rfl, by simpa using q H' sm⟩
theorem prim_eqO {K : PySem.W.Frag} : Prim K G (lift2 (rEqO K G T E neg)) (bEqO T E neg) := by
  intro vs ds H Q b r e w
  unfold bEqO at e
  split at e
  · next c xs d =>
    split at e
    · next F hF =>
      split at e
      · next ht =>
        split at e
        · next bb qs hr =>
          subst e
          obtain ⟨x, y, rfl, _, _⟩ := repL2 r
          exact ⟨c, xs, d, F, bb, qs, r, hF, ht, hr, fun H' sm => w H' sm⟩
        · subst e; exact w.elim
      · subst e; exact w.elim
    · subst e; exact w.elim
  · subst e; exact w.elim
end
end VS
/-! VTe: len, str, repr of own instances. -/
namespace VS
open PySem PySem.Spec PyProof.Rows L2

/-- a method of a class that the machine asks for by itself -/
structure SpOk (X : Cx) (G : GEnv) (d c : Str) (Fn : Fn) : Prop where
  ex : ∃ ci k f fd ps, G c = some ci ∧ ci.exn = false ∧ PySem.W.findIn X.K (.ref ci.addr) d = some (some (.ref f)) ∧ PySem.W.isFn X.K (.ref f) = true ∧ PySem.W.mroIn X.K ci.addr (.type "object") = some true ∧
    (d = Str.ofString "__eq__" → PySem.W.findIn X.K (.ref ci.addr) "__ne__" = some (some (.builtin "object.__ne__"))) ∧
    FnG X.prog X.w X.K X.mg X.base k f fd ps (spF X.K G Fn) ∧ Room (k + 3) X.A ∧ Binds X.K fd ps []
theorem SpOk.eqC {X : Cx} {G : GEnv} {c : Str} {F : Fn} (h : SpOk X G (Str.ofString "__eq__") c F) : EqC X G c F := by
  obtain ⟨ci, k, f, fd, ps, h1, h2, h3, h4, h5, h6, h7, h8, h9⟩ := h.ex
  exact ⟨ci, k, f, fd, ps, h1, h2, h3, h4, h6 rfl, h5, h7, h8.mono (by omega), h9⟩
section
variable {prog : Program} {w : World} {A : Around} {E : Value → Shared → Prop} {s : Shared} {K : PySem.W.Frag} {x C f : Addr} {ox : Obj} {od : Option Obj}
open Builtin Builtin.Str in
theorem str_own {Q : Value → Shared → Prop} (hu : A.in1.in1.units < cLine) (X : K.In s.heap) (I : PySem.W.InstAt s.heap x ox C od) (hs : PySem.W.findIn K (.ref C) "__str__" = some (some (.ref f))) (hf : PySem.W.isFn K (.ref f) = true)
    (h : wpAny (model prog w) A.in1.in1 (call (.ref f) [.ref x]) (PySem.W.StrBack Q) E s) : wpAny (model prog w) A (call (.type "str") [.ref x]) Q E s := by
  refine callType_codes (T := "str") (Bi := Builtin.«object.__init__») (Q₁ := fun r s₁ => ∃ y u, r = .str y u ∧ Q r s₁) PySem.F.called_str (PySem.F.typeCall_str_1 _) PySem.F.entry_object_init ?_ ?_
  · refine codeAny_of_tree ?_
    show wpAny _ A.in1.in1 (do checkBuiltinCall "str.__new__" ⟨[.type "str", .ref x], []⟩; again (.builtin "str.__new__" ⟨[.type "str", .ref x], []⟩)) _ _ s
    refine wpAny_bind (wpAny_of_eq (PySem.F.newCall_str_1 _) (wpAny_pure ⟨plainId_quiet (by decide +kernel) _, codeAny_builtin PySem.F.entry_str_new ?_⟩))
    rw [Around.under_plainId (by decide +kernel) _]
    rw [str_new_tree]
    refine wpAny_bind (wpAny_pure ?_)
    refine wpAny_bind (wpAny_of_eq isSubtype_str_str ?_)
    have key : wpAny (model prog w) A.in1.in1 (PySem.Builtin.Str.strOf (.ref x)) (fun r s₁ => ∃ y u, r = .str y u ∧ Q r s₁) E s := by
      unfold PySem.Builtin.Str.strOf
      rw [show isExactStr (.ref x) = false from rfl]
      refine wpAny_bind (m := cRoomFor _ _) (wpAny_cRoomFor hu ?_)
      refine wpAny_bind (m := callSpecial? (.ref x) (Str.ofString "__str__")) (PySem.W.special_fn X I hs (beq_iff_eq.mp hf) (wpAny_mono h (fun r s' z => ?_) fun _ _ y => y))
      cases r <;> first | exact z.elim | exact wpAny_pure ⟨_, _, rfl, z⟩
    exact wpAny_bind (wpAny_mono key (fun r s₁ hr => wpAny_pure hr) fun _ _ y => y)
  · rintro obj s₁ ⟨y, u, rfl, hq⟩
    exact ⟨typeIs_str _ _ _, PySem.F.args_object_init_2 _ _, object_init_meets PySem.F.called_str.init.lookup PySem.F.called_str.made (by decide) prog w A.in1 _ s₁ ⟨typeIs_str _ _ _, rfl, hq⟩⟩
end
/-- answers of such methods -/
def bOwn (E : Str → Option Fn) (ok : S0 → Bool) : List D → B
  | [.obj c xs] => match E c with
    | some F => match F [.leaf (.obj c xs)] with
      | .ret (.leaf (.int i)) _ => if ok (.int i) = true then .sc (.int i) else .bad
      | .ret (.leaf (.str z)) _ => if ok (.str z) = true then .sc (.str z) else .bad
      | _ => .bad
    | none => .bad
  | _ => .bad
def okLen : S0 → Bool
  | .int i => decide (0 ≤ i) && in62 i
  | _ => false
def okStr : S0 → Bool
  | .str _ => true
  | _ => false
def rOwn (K : PySem.W.Frag) (G : GEnv) (E : Str → Option Fn) (ok : S0 → Bool) : List V → Hp → VK → Prop := fun vs H Q => ∃ c xs F d qs x, vs = [x] ∧ RepL K G H [.obj c xs] [x] ∧ E c = some F ∧ F [.leaf (.obj c xs)] = .ret (.leaf (S0.toD d)) qs ∧ ok d = true ∧ ∀ H', Same H H' → Q d.toV H'
theorem prim_own {K : PySem.W.Frag} {G : GEnv} {E : Str → Option Fn} {ok : S0 → Bool} : Prim K G (rOwn K G E ok) (bOwn E ok) := by
  intro vs ds H Q b r e w
  unfold bOwn at e
  split at e
  · next c xs =>
    split at e
    · next F hF =>
      split at e
      · next i qs hr =>
        split at e
        · next ho =>
          subst e
          obtain ⟨x, rfl, _⟩ := repL1 r
          exact ⟨c, xs, F, .int i, qs, x, rfl, r, hF, hr, ho, fun H' sm => w H' sm⟩
        · subst e; exact w.elim
      · next z qs hr =>
        split at e
        · next ho =>
          subst e
          obtain ⟨x, rfl, _⟩ := repL1 r
          exact ⟨c, xs, F, .str z, qs, x, rfl, r, hF, hr, ho, fun H' sm => w H' sm⟩
        · subst e; exact w.elim
      · subst e; exact w.elim
    · subst e; exact w.elim
  · subst e; exact w.elim
section
variable {X : Cx} {G : GEnv} {E : Str → Option Fn}
/-- the method is called at some place below -/
theorem own_call {pins : List (Addr × Obj)} {s : Shared} {σ : L2.St} {H : Hp} {k : Nat} {f a : Addr} {fd : FuncData} {ps : List Str} {F : Fn} {A : Around} {c : Str} {xs : List D} {d : S0} {qs : List T} {E' : Value → Shared → Prop} (FF : FnG X.prog X.w X.K X.mg X.base k f fd ps (spF X.K G F)) (hfr : A.frames = X.A.frames) (hr : Room k A) (hg : A.guards = some []) (hb : Binds X.K fd ps [])
    (I : Inv X pins σ H s) (rl : RepL X.K G H [.obj c xs] [.ref a]) (h : F [.leaf (.obj c xs)] = .ret (.leaf (S0.toD d)) qs) :
    wpAny (model X.prog X.w) A (call (.ref f) [.ref a]) (fun v s' => RelV d.toV v ∧ ∃ H', Same H H' ∧ Inv X pins σ H' s') E' s := by
  have hsp := sp_read (K := X.K) (E := fun _ _ _ => False) rl h
  have hbt : BindsTo s fd ⟨[.ref a], []⟩ (ps.zip [.ref a]) := by
    have := hb s [.ref a] I.kIn (by have := FF.len _ _ _ _ hsp; simpa using this)
    simpa using this
  refine wpAny_mono (call_g FF hfr hr hg hbt I (.cons (show L2.RelV (V.ref a) (Value.ref a) from rfl) .nil) hsp) (fun v s' z => ?_) fun _ _ e => e
  obtain ⟨w, H', I', rw', sm, rp⟩ := z
  have e1 : w = d.toV := by
    cases d with
    | non => exact rep_non rp
    | bl b => exact rep_bl rp
    | int i => exact rep_int rp
    | str z => exact rep_str rp
  subst e1
  exact ⟨rw', H', sm, I'⟩
theorem call_lenO (hE : ∀ c F, E c = some F → SpOk X G (Str.ofString "__len__") c F) (hgd : X.A.guards = some []) : CallR X (.builtin "len") (rOwn X.K G E okLen) := by
  intro pins s σ H xs us Q I r h
  obtain ⟨c, ys, F, d, qs, x, rfl, rl, hF, hr, ho, q⟩ := h
  obtain ⟨ci, k, f, fd, ps, hc, he, hs, hf, hm, _, FF, hroom, hb⟩ := (hE c F hF).ex
  obtain ⟨x', e0, r1⟩ := repL1 rl
  cases e0
  obtain ⟨a, dx, vs, rfl, ha, rv, _⟩ := rep_ins hc he r1
  cases r with
  | cons r rr =>
    cases rr
    cases r
    obtain ⟨mA, J, _⟩ := ins_get I.hok ha
    obtain ⟨od, J, _⟩ := J.look
    obtain ⟨m, hFr⟩ := I.fr
    refine PySem.W.len_K hFr I.ok.mod.kin J hs hf (wpAny_mono (own_call (A := X.A.in1) FF rfl (Room.in1 (hroom.mono (by omega))) hgd hb I rl hr) (fun v s' z => ?_) fun _ _ e => e)
    obtain ⟨rv, H', sm, I'⟩ := z
    cases d with
    | int i =>
      obtain ⟨t, rfl⟩ := (show ∃ t, v = Value.int i t from rv)
      unfold okLen at ho
      rw [Bool.and_eq_true, decide_eq_true_eq] at ho
      have h62 := in62_ok ho.2
      exact ⟨⟨ho.1, by omega⟩, .int i, H', I'.tok _, ⟨_, rfl⟩, q H' sm⟩
    | non => exact absurd ho (by decide)
    | bl b => exact absurd ho (by simp [okLen])
    | str z => exact absurd ho (by simp [okLen])
theorem call_strO (hE : ∀ c F, E c = some F → SpOk X G (Str.ofString "__str__") c F) (hgd : X.A.guards = some []) (hu : X.A.units + 64 < cLine) : CallR X (.type "str") (rOwn X.K G E okStr) := by
  intro pins s σ H xs us Q I r h
  obtain ⟨c, ys, F, d, qs, x, rfl, rl, hF, hr, ho, q⟩ := h
  obtain ⟨ci, k, f, fd, ps, hc, he, hs, hf, hm, _, FF, hroom, hb⟩ := (hE c F hF).ex
  obtain ⟨x', e0, r1⟩ := repL1 rl
  cases e0
  obtain ⟨a, dx, vs, rfl, ha, rv, _⟩ := rep_ins hc he r1
  cases r with
  | cons r rr =>
    cases rr
    cases r
    obtain ⟨mA, J, _⟩ := ins_get I.hok ha
    obtain ⟨od, J, _⟩ := J.look
    refine str_own (by show X.A.units + 1 + 1 < cLine; omega) I.kIn J hs hf (wpAny_mono (own_call (A := X.A.in1.in1) FF rfl (Room.in1 (Room.in1 (hroom.mono (by omega)))) hgd hb I rl hr) (fun v s' z => ?_) fun _ _ e => e)
    obtain ⟨rv, H', sm, I'⟩ := z
    cases d with
    | str z =>
      obtain ⟨t, rfl⟩ := (show ∃ t, v = Value.str z t from rv)
      exact ⟨.str z, H', I', ⟨_, rfl⟩, q H' sm⟩
    | non => exact absurd ho (by decide)
    | bl b => exact absurd ho (by simp [okStr])
    | int z => exact absurd ho (by simp [okStr])
theorem call_reprO (hE : ∀ c F, E c = some F → SpOk X G (Str.ofString "__repr__") c F) (hgd : X.A.guards = some []) (hu : X.A.units + 64 < cLine) : CallR X (.builtin "repr") (rOwn X.K G E okStr) := by
  intro pins s σ H xs us Q I r h
  obtain ⟨c, ys, F, d, qs, x, rfl, rl, hF, hr, ho, q⟩ := h
  obtain ⟨ci, k, f, fd, ps, hc, he, hs, hf, hm, _, FF, hroom, hb⟩ := (hE c F hF).ex
  obtain ⟨x', e0, r1⟩ := repL1 rl
  cases e0
  obtain ⟨a, dx, vs, rfl, ha, rv, _⟩ := rep_ins hc he r1
  cases r with
  | cons r rr =>
    cases rr
    cases r
    obtain ⟨mA, J, _⟩ := ins_get I.hok ha
    obtain ⟨od, J, _⟩ := J.look
    obtain ⟨m, hFr⟩ := I.fr
    refine PySem.W.repr_K (by show X.A.units + 1 < cLine; omega) hFr I.ok.mod.kin J hs hf (wpAny_mono (own_call (A := X.A.in1) FF rfl (Room.in1 (hroom.mono (by omega))) hgd hb I rl hr) (fun v s' z => ?_) fun _ _ e => e)
    obtain ⟨rv, H', sm, I'⟩ := z
    cases d with
    | str z =>
      obtain ⟨t, rfl⟩ := (show ∃ t, v = Value.str z t from rv)
      exact ⟨.str z, H', I', ⟨_, rfl⟩, q H' sm⟩
    | non => exact absurd ho (by decide)
    | bl b => exact absurd ho (by simp [okStr])
    | int z => exact absurd ho (by simp [okStr])
end
end VS
/-! VTf: list(range(n)), tuple(range(n)). -/
namespace VS
open PySem PySem.Spec PyProof.Rows L2

def rgOk (n : Int) : Bool := in62 n && decide (n.toNat ≤ 2 ^ 24)
def qLrg : List D → SQ
  | [.int n] => if rgOk n = true then .lst (rangeD 0 n.toNat) else .bad
  | _ => .bad
def qTrg : List D → SQ
  | [.int n] => if rgOk n = true then .tup (rangeD 0 n.toNat) else .bad
  | _ => .bad
section
variable {X : Cx} {K : PySem.W.Frag} {G : GEnv} {W : WX}
theorem rg_rep {Φ : Hp} (n : Int) : RepL K G Φ (rangeD 0 n.toNat) (rgV 0 n) := by
  unfold rangeD rgV
  rw [Int.sub_zero]
  refine ⟨by simp, fun k d v h1 h2 => ?_⟩
  rw [List.getElem?_map] at h1 h2
  obtain ⟨j, hj, rfl⟩ := Option.map_eq_some_iff.mp h1
  obtain ⟨j', hj', rfl⟩ := Option.map_eq_some_iff.mp h2
  rw [hj] at hj'
  cases hj'
  exact .int _
theorem rgOk_ok {n : Int} (h : rgOk n = true) : RgOk 0 n := by
  unfold rgOk at h
  rw [Bool.and_eq_true, decide_eq_true_eq] at h
  obtain ⟨h1, h2⟩ := in62_ok h.1
  exact ⟨by decide, by decide, h1, h2, by rw [Int.sub_zero]; exact h.2⟩
theorem prim_lrg : PrimS K G (fun xs H Q => ∃ n, xs = [.int n] ∧ RgOk 0 n ∧ ∀ l, H l = none → Q (.ref l) (upd H l (.lst (rgV 0 n)))) qLrg := by
  intro Φ H vs ds Q b sm k e w
  unfold qLrg at e
  split at e
  · split at e
    · next n hn =>
      subst e
      obtain ⟨x, rfl, k1, _⟩ := k.one
      obtain rfl := rep_int k1
      exact ⟨n, rfl, rgOk_ok hn, fun p np => w _ p _ (rg_rep n) (new_same np) np upd_same⟩
    · subst e; exact w.elim
  · subst e; exact w.elim
theorem prim_trg : PrimS K G (fun xs H Q => ∃ n, xs = [.int n] ∧ RgOk 0 n ∧ ∀ l, H l = none → Q (.ref l) (upd H l (.tup (rgV 0 n)))) qTrg := by
  intro Φ H vs ds Q b sm k e w
  unfold qTrg at e
  split at e
  · split at e
    · next n hn =>
      subst e
      obtain ⟨x, rfl, k1, _⟩ := k.one
      obtain rfl := rep_int k1
      exact ⟨n, rfl, rgOk_ok hn, fun p np => w.1 _ p _ (rg_rep n) (new_same np) np upd_same⟩
    · subst e; exact w.elim
  · subst e; exact w.elim
variable {e : Expr} {f : Sl → Out Op} {p pos p2 pos2 : Pos}
theorem vo_lrg (hc : X.calm = true) (hg : Gl X "list") (hm : X.mg "list" = none) (hg2 : Gl X "range") (hm2 : X.mg "range" = none) (h : VO X G W e f) (hs : notStar e = true) : VO X G W (.Call (.Name "list" p) [.Call (.Name "range" p2) [e] [] pos2] [] pos) (evF [f] (finS qLrg)) :=
  vo_fin (r := fun xs H Q => ∃ n, xs = [.int n] ∧ RgOk 0 n ∧ ∀ l, H l = none → Q (.ref l) (upd H l (.lst (rgV 0 n)))) (pe_imp (pe_listRg hc hg hm (prg_1 hg2 hm2 h (star_of hs)) (star_of rfl)) fun σ H Q (z : tArgs X.K G W [f] σ H _) => tO_mono z fun x H1 ⟨n, e, q⟩ => ⟨n, by cases e; rfl, q⟩) (fin_seq prim_lrg)
theorem vo_trg (hc : X.calm = true) (hg : Gl X "tuple") (hm : X.mg "tuple" = none) (hg2 : Gl X "range") (hm2 : X.mg "range" = none) (h : VO X G W e f) (hs : notStar e = true) : VO X G W (.Call (.Name "tuple" p) [.Call (.Name "range" p2) [e] [] pos2] [] pos) (evF [f] (finS qTrg)) :=
  vo_fin (r := fun xs H Q => ∃ n, xs = [.int n] ∧ RgOk 0 n ∧ ∀ l, H l = none → Q (.ref l) (upd H l (.tup (rgV 0 n)))) (pe_imp (pe_tupRg hc hg hm (prg_1 hg2 hm2 h (star_of hs)) (star_of rfl)) fun σ H Q (z : tArgs X.K G W [f] σ H _) => tO_mono z fun x H1 ⟨n, e, q⟩ => ⟨n, by cases e; rfl, q⟩) (fin_seq prim_trg)
end
end VS
/-! VTg: t[::-1] of a tuple, or of a list. -/
namespace VS
open PySem PySem.Spec PyProof.Rows L2 HT

theorem adjust_rev (n : Nat) : Builtin.Slice.sliceAdjust none none (-1) (n : Int) = ((n : Int) - 1, -1) := rfl
theorem places_rev (n : Nat) : Builtin.Slice.slicePlaces ((n : Int) - 1) (-1) (-1) = n := by
  unfold Builtin.Slice.slicePlaces
  rw [if_neg (by decide), show (-(-1) : Int) = 1 from rfl, Int.ediv_one]
  split <;> omega
theorem filterMap_of {α β : Type} {f g : α → Option β} : ∀ {l : List α}, (∀ m ∈ l, f m = g m) → l.filterMap f = l.filterMap g
  | [], _ => rfl
  | a :: l, h => by
    rw [List.filterMap_cons, List.filterMap_cons, h a (by simp), filterMap_of fun m hm => h m (by simp [hm])]
theorem pick_rev (xs : Array Value) : ((List.range xs.size).filterMap fun (m : Nat) => xs[(((xs.size : Int) - 1) + (m : Int) * (-1)).toNat]?).toArray = xs.toList.reverse.toArray := by
  congr 1
  have e : ∀ m ∈ List.range xs.size, xs[(((xs.size : Int) - 1) + (m : Int) * (-1)).toNat]? = xs.toList.reverse[m]? := fun m hm => by
    have hm := List.mem_range.mp hm
    have h1 : ((((xs.size : Int) - 1) + (m : Int) * (-1)).toNat) = xs.size - 1 - m := by omega
    rw [h1, List.getElem?_reverse (by rw [Array.length_toList]; exact hm), Array.length_toList, Array.getElem?_toList]
  rw [filterMap_of e]
  have : xs.size = xs.toList.reverse.length := by simp
  rw [this]
  generalize xs.toList.reverse = l
  induction l with
  | nil => rfl
  | cons a l ih => rw [List.length_cons, List.range_succ_eq_map, List.filterMap_cons]; simp [List.filterMap_map]; exact ih
section
variable {prog : Program} {w : World} {A : Around} {E : Value → Shared → Prop} {s : Shared}
theorem sliceApplied_rev {sl : Addr} {vl vu vs : Value} {n : Nat} {Q : Int × Int × Nat → Shared → Prop} (hs : s.heap.IsSliceOf sl vl vu vs) (pl : IsPart vl none) (pu : IsPart vu none) (ps : IsPart vs (some (-1)))
    (h : Q ((n : Int) - 1, -1, n) s) : wpAny (model prog w) A (Builtin.Slice.sliceApplied (.ref sl) (pure (n : Int))) Q E s := by
  obtain ⟨os, hos, hcs, hds⟩ := id hs
  unfold Builtin.Slice.sliceApplied Builtin.Slice.sliceFields
  refine wpAny_bind (wpAny_bind (wpAny_field hos hds (x := vl) rfl (wpAny_bind (wpAny_field hos hds (x := vu) rfl (wpAny_bind (wpAny_field hos hds (x := vs) rfl (wpAny_pure ?_)))))))
  refine wpAny_bind (slicePart_ ps ?_)
  show wpAny _ _ (if ((-1 : Int) == 0) = true then _ else _) _ _ s
  rw [if_neg (by decide)]
  refine wpAny_bind (slicePart_ pl (wpAny_bind (slicePart_ pu (wpAny_bind (wpAny_pure ?_)))))
  show wpAny _ _ (match Builtin.Slice.sliceAdjust none none (-1) (n : Int) with | (lo, hi) => pure (lo, (-1 : Int), Builtin.Slice.slicePlaces lo hi (-1))) _ _ s
  rw [adjust_rev n]
  show wpAny _ _ (pure ((n : Int) - 1, (-1 : Int), Builtin.Slice.slicePlaces ((n : Int) - 1) (-1) (-1))) _ _ s
  rw [places_rev]
  exact wpAny_pure h
theorem getItem_tuple_rev {t sl : Addr} {items : Array Value} {vl vu vs : Value} {Q : Value → Shared → Prop} (ht : IsTup s.heap t items) (hs : s.heap.IsSliceOf sl vl vu vs) (pl : IsPart vl none) (pu : IsPart vu none) (ps : IsPart vs (some (-1)))
    (h : Q (.ref s.heap.objs.size) { s with heap := s.heap.push { cls := .type "tuple", data := .seq items.toList.reverse.toArray } })
    (hsz : items.size ≤ sizeLine) : wpAny (model prog w) A (getItem (.ref t) (.ref sl)) Q E s := by
  have htake : sizeOk (.seq items.toList.reverse.toArray) := by
    show items.toList.reverse.toArray.size ≤ sizeLine
    rw [List.size_toArray, List.length_reverse, Array.length_toList]
    exact hsz
  obtain ⟨os, hos, hcs, hds⟩ := id hs
  have hTs : s.TypeIs (.ref sl) "slice" := ⟨os, hos, hcs⟩
  unfold getItem
  try with_reducible refine wpAny_holding ?_
  first | refine wpAny_bind (wpAny_pure ?_) | skip
  refine wpAny_bind (wpAny_sequenceKey ht.typeIs (by decide) ?_)
  refine wpAny_bind (wpAny_callSpecial?_slot (name := Str.ofString "__getitem__") ht.typeIs PyProof.Rows.slot_tuple_getitem
    (wpAny_call_entry PyProof.Rows.slot_tuple_getitem ht.typeIs entry_tuple_getitem ?_ (args_tuple_getitem _ _)))
  show wpAny _ _ (Builtin.Tuple.tupleItemsOf (.ref t) >>= _) _ _ s
  refine wpAny_bind (tupleItemsOf_ ht ?_)
  refine wpAny_bind (wpAny_typeOf hTs ?_)
  rw [if_pos (by decide)]
  refine wpAny_bind (sliceApplied_rev hs pl pu ps ?_)
  have hno : ¬ ((((items.size : Int) - 1) == 0 && (-1 : Int) == 1 && items.size == items.size) = true) := by
    intro q
    rw [Bool.and_eq_true, Bool.and_eq_true] at q
    exact absurd q.1.2 (by decide)
  show wpAny _ _ (if (((items.size : Int) - 1) == 0 && (-1 : Int) == 1 && items.size == items.size) = true then _ else _) _ _ s
  rw [if_neg hno, pick_rev]
  first
    | exact wpAny_bind (m := Builtin.Tuple.tupleExact _) (wpAny_newObj_type (wpAny_pure ⟨_, rfl, wpAny_pure h⟩) htake)
    | exact wpAny_bind (m := Builtin.Tuple.tupleExact _) (wpAny_newObj_type (wpAny_bind (wpAny_pure (wpAny_pure ⟨_, rfl, wpAny_pure h⟩))) htake)
    | exact wpAny_bind (wpAny_bind (m := Builtin.Tuple.tupleExact _) (wpAny_newObj_type (wpAny_pure (wpAny_pure ⟨_, rfl, wpAny_pure h⟩)) htake))
    | exact wpAny_bind (wpAny_bind (m := Builtin.Tuple.tupleExact _) (wpAny_newObj_type (wpAny_pure ⟨_, rfl, wpAny_pure h⟩) htake))
end
def tRevA (K : PySem.W.Frag) (te : TE) : TE := fun σ H Q => te σ H fun x H1 => ∃ a xs, x = .ref a ∧ ((SqL K H1 a xs ∧ ∀ p, H1 p = none → Q (.ref p) (upd H1 p (.lst xs.reverse))) ∨ (SqT K H1 a xs ∧ ∀ p, H1 p = none → Q (.ref p) (upd H1 p (.tup xs.reverse))))
section
variable {X : Cx}
theorem pe_revA {e : Expr} {te : TE} {k : Nat} {p1 p2 p3 pos : Pos} (he : PE X e te) : PE X (.Subscript e (.Slice none none (some (.UnaryOp .USub (.Constant (.int 1) k p1) p2)) p3) pos) (tRevA X.K te) := by
  refine ⟨fun pins s σ H Q I h => ?_⟩
  refine Subscript_ (thn (he.run pins s σ H _ I h) fun v s1 ⟨x, H1, I1, r1, q1⟩ => ?_)
  obtain ⟨a, xs, ex, q1⟩ := q1
  subst ex
  cases r1
  have hst : PO X (some (.UnaryOp .USub (.Constant (.int 1) k p1) p2)) (tPart (tUn (rU fun i => .int (-i)) (tC (.int 1)))) := po_some (pe_un un_neg pe_int)
  refine wpAny_Slice (thn (po_none.run pins s1 σ H1 (fun o H2 => o = none ∧ H2 = H1) I1 ⟨rfl, rfl⟩) fun vl s2 ⟨l, H2, I2, pl, el, e2⟩ => ?_)
  subst el e2
  refine thn (po_none.run pins s2 σ H2 (fun o H3 => o = none ∧ H3 = H2) I2 ⟨rfl, rfl⟩) fun vu s3 ⟨u, H3, I3, pu, eu, e3⟩ => ?_
  subst eu e3
  refine thn (hst.run pins s3 σ H3 (fun o H4 => o = some (-1) ∧ H4 = H3) I3 ⟨1, rfl, -1, rfl, rfl, rfl⟩) fun vs s4 ⟨o, H4, I4, ps, eo, e4⟩ => ?_
  subst eo e4
  have I5 : Inv X pins σ H4 { s4 with heap := s4.heap.push { cls := .type "slice", data := .fields #[vl, vu, vs] } } := I4.kept (t' := s4.toks) fun b ob q => Heap.get?_push_of_some _ q
  show wpAny (model X.prog X.w) X.A (subscriptTail e (.Slice none none (some (.UnaryOp .USub (.Constant (.int 1) k p1) p2)) p3) (.ref a) (.ref s4.heap.objs.size)) (EP X pins σ Q) X.xe { s4 with heap := s4.heap.push { cls := .type "slice", data := .fields #[vl, vu, vs] } }
  rcases q1 with ⟨hx, q⟩ | ⟨hx, q⟩
  · obtain ⟨its, r, ht, hz⟩ := I5.list hx
    have hlen := r.length
    refine tail_any (ops := [.ref a, .ref s4.heap.objs.size]) ht.isList.typeIs (PySem.slot_list_getitem.lookup) ?_ (by with_unfolding_all rfl)
    refine wpAny_getItem_list_slice ht.isList (Heap.IsSliceOf.new _ vl vu vs) pl pu ps (by decide) ?_ (by rw [List.size_toArray]; omega)
    rw [PySem.W.krv_pick]
    refine ⟨.ref _, _, I5.laid (t' := s4.toks) (o := .lst xs.reverse) (fun b ob q => Heap.get?_push_of_some _ q) (Nat.le_refl _) ?_, rfl, q _ (I5.hok.fresh (Nat.le_refl _))⟩
    exact ⟨by rw [List.length_reverse]; exact hz, _, 0, r.reverse, Heap.get?_push_size _ rfl⟩
  · obtain ⟨its, r, ht, hz⟩ := I5.tuple hx
    have hlen := r.length
    refine tail_any (ops := [.ref a, .ref s4.heap.objs.size]) ht.typeIs (PyProof.Rows.slot_tuple_getitem.lookup) ?_ (by with_unfolding_all rfl)
    refine getItem_tuple_rev ht (Heap.IsSliceOf.new _ vl vu vs) pl pu ps ?_ (by rw [List.size_toArray]; omega)
    refine ⟨.ref _, _, I5.laid (t' := s4.toks) (o := .tup xs.reverse) (fun b ob q => Heap.get?_push_of_some _ q) (Nat.le_refl _) ?_, rfl, q _ (I5.hok.fresh (Nat.le_refl _))⟩
    exact ⟨by rw [List.length_reverse]; exact hz, _, r.reverse, IsTup.new _ _⟩
end
def qRvA : List D → SQ
  | [.lst ds] => .lst ds.reverse
  | [.tup ds] => .tup ds.reverse
  | _ => .bad
section
variable {X : Cx} {G : GEnv} {W : WX} {a : Expr} {fa : Sl → Out Op} {k : Nat} {p1 p2 p3 pos : Pos}
theorem vo_rvA (ha : VO X G W a fa) : VO X G W (.Subscript a (.Slice none none (some (.UnaryOp .USub (.Constant (.int 1) k p1) p2)) p3) pos) (evF [fa] (finS qRvA)) := by
  refine vo_fin (r := lift1 fun x H Q => ∃ a xs, x = .ref a ∧ ((SqL X.K H a xs ∧ ∀ p, H p = none → Q (.ref p) (upd H p (.lst xs.reverse))) ∨ (SqT X.K H a xs ∧ ∀ p, H p = none → Q (.ref p) (upd H p (.tup xs.reverse))))) (pe_revA ha) (fin_seq ?_)
  intro Φ H vs ds Q b sm k e w
  unfold qRvA at e
  split at e
  · next ds =>
    subst e
    obtain ⟨x, rfl, ⟨a, ws, rfl, h1, r1⟩, _⟩ := k.one
    exact ⟨a, ws, rfl, .inl ⟨SqL.of h1, fun p np => w _ p _ r1.reverse (new_same np) np upd_same⟩⟩
  · next ds =>
    subst e
    obtain ⟨x, rfl, kx, _⟩ := k.one
    obtain ⟨a, ws, rfl, h1, r1⟩ := rep_tupK kx
    exact ⟨a, ws, rfl, .inr ⟨same_sqT sm h1, fun p np => w.1 _ p _ r1.reverse (new_same np) np upd_same⟩⟩
  · subst e; exact w.elim
end
end VS
/-! VTh: != of lists and tuples whose members are alike by their own ==. -/
namespace VS
open PySem PySem.SeqAt PySem.Spec
open AutoSeq1 (wpAny_loadPart')
open MeetsSeq MeetsSeq2 MeetsSeq3 SeqRoads2 GQ
section
variable {prog : Program} {w : World} {A : Around} {R : Result → Shared → Prop}
theorem ne_loopG (l b : Addr) (N : Nat) (I : Nat → Shared → Prop) (hl : ListI prog w A (fun e s' => R (.error e) s') l b N I)
    (fin : ∀ s, I N s → R (.ok (.ret (.bool false))) s) (k : Nat) :
    ∀ i : Nat, N - i = k → i ≤ N → ∀ s, I i s →
      wpAny (model prog w) A.in1 (Builtin.«list.__eq__.loop» ⟨[.ref l, .ref b, rawInt i, rawInt 3], []⟩) (FinOf prog w A R) (fun e s' => R (.error e) s') s := by
  induction k with
  | zero =>
    intro i hk hi s h
    obtain ⟨items, items2, n, n2, hl1, hb1, hs1, hs2, _⟩ := hl _ _ h
    have hi' : i = N := by omega
    have hR : R (.ok (.ret (.bool false))) s := fin s (hi' ▸ h)
    obtain ⟨hp, g, d, tk, os⟩ := s
    wp_walk using wpAny_loadPart' hl1, wpAny_loadPart' hb1
    have hi1 : items[((i : Nat) : Int).toNat]? = none := by simp; omega
    have hi2 : items2[((i : Nat) : Int).toNat]? = none := by simp; omega
    rw [hi1, hi2]
    wp_walk using wpAny_loadPart' hl1, wpAny_loadPart' hb1
    show R (.ok (.ret (.bool (items.size != items2.size)))) _
    rw [hs1, hs2]
    simpa using hR
  | succ k ih =>
    intro i hk hi s h
    obtain ⟨items, items2, n, n2, hl1, hb1, hs1, hs2, turn⟩ := hl _ _ h
    have hlt : i < items.size := by omega
    have hlt2 : i < items2.size := by omega
    have ht := turn hlt hlt2
    obtain ⟨hp, g, d, tk, os⟩ := s
    wp_walk using wpAny_loadPart' hl1, wpAny_loadPart' hb1
    have hi1 : items[((i : Nat) : Int).toNat]? = some items[i] := by simp [hlt]
    have hi2 : items2[((i : Nat) : Int).toNat]? = some items2[i] := by simp [hlt2]
    have hc : ((i : Int) + 1) = ((i + 1 : Nat) : Int) := by omega
    rw [hi1, hi2]
    refine wpAny_bind (wpAny_mono ht (fun r s2 h2 => ?_) fun _ _ x => x)
    obtain ⟨hr, h2⟩ := h2
    subst hr
    have hrec := ih (i + 1) (by omega) (by omega) s2 h2
    obtain ⟨hp2, g2, d2, tk2, os2⟩ := s2
    wp_walk
    rw [hc]
    exact ⟨plainId_quiet plain_eq_loop _, codeAny_builtin entry_eq_loop (by
      rw [Around.under_plainId plain_eq_loop _]
      exact hrec)⟩
theorem list_neG (l b : Addr) (N : Nat) (I : Nat → Shared → Prop) (hl : ListI prog w A (fun e s' => R (.error e) s') l b N I)
    (fin : ∀ s, I N s → R (.ok (.ret (.bool false))) s) {s : Shared} (h : I 0 s) :
    wpAny (model prog w) A.in1 (Builtin.«list.__ne__» ⟨[.ref l, .ref b], []⟩) (FinOf prog w A R) (fun e s' => R (.error e) s') s := by
  obtain ⟨items, items2, n, n2, hl1, hb1, hs1, hs2, _⟩ := hl _ _ h
  have hrec := ne_loopG (A := A) (R := R) l b N I hl fin _ 0 rfl (Nat.zero_le _) s h
  obtain ⟨hp, g, d, tk, os⟩ := s
  have f3 := AutoSeq1.sub_list_list
  have hne : ¬ (items.size != items2.size) = true := by simp [hs1, hs2]
  wp_walk using wpAny_loadPart' hl1, wpAny_loadPart' hb1
  exact ⟨plainId_quiet plain_eq_loop _, codeAny_builtin entry_eq_loop (by
    rw [Around.under_plainId plain_eq_loop _]
    exact hrec)⟩
theorem tuple_neG (l b : Addr) (items items2 : Array Value) (n n2 : Nat) (dd dd2 : Option Addr) (sl sl2 : Array (Option Value)) (hsz : items.size = items2.size) (I : Nat → Shared → Prop)
    (turn : ∀ i (h1 : i < items.size) (h2 : i < items2.size) s, I i s → wpAny (model prog w) A.in1 (eqBool items[i] items2[i]) (fun r s' => r = true ∧ I (i + 1) s') (fun e s' => R (.error e) s') s)
    (fin : ∀ s, I items.size s → R (.ok (.ret (.bool false))) s) {s : Shared} (hl1 : s.heap.get? l = some { cls := .type "tuple", dict := dd, data := .seq items n, slots := sl }) (hb1 : s.heap.get? b = some { cls := .type "tuple", dict := dd2, data := .seq items2 n2, slots := sl2 }) (h : I 0 s) :
    wpAny (model prog w) A.in1 (Builtin.«tuple.__ne__» ⟨[.ref l, .ref b], []⟩) (FinOf prog w A R) (fun e s' => R (.error e) s') s := by
  have f2 := AutoSeq1.sub_tuple_tuple
  have hZ : (items.toList.zip items2.toList).length = items.size := by simp [hsz]
  have h0 := h
  obtain ⟨hp, g, d, tk, os⟩ := s
  wp_walk using wpAny_loadPart' hl1, wpAny_loadPart' hb1, wpAny_forIn_list _ (fun rest b s' => b.1 = none ∧ ∃ i, rest = (items.toList.zip items2.toList).drop i ∧ i ≤ items.size ∧ I i s') _
  case turn =>
    rintro ⟨y, x⟩ rest b s' ⟨hb', i, hz, hi, hI⟩
    have hlt : i < (items.toList.zip items2.toList).length := by
      rcases Nat.lt_or_ge i (items.toList.zip items2.toList).length with h' | h'
      · exact h'
      · rw [List.drop_of_length_le h'] at hz; cases hz
    have h1 : i < items.size := hZ ▸ hlt
    have h2 : i < items2.size := hsz ▸ h1
    rw [List.drop_eq_getElem_cons hlt] at hz
    injection hz with hyx hrest
    have hy : y = items[i] := by have := congrArg Prod.fst hyx; simpa using this
    have hx : x = items2[i] := by have := congrArg Prod.snd hyx; simpa using this
    subst hy hx
    refine wpAny_bind (wpAny_mono (turn i h1 h2 s' hI) (fun r s2 q2 => ?_) fun _ _ x => x)
    obtain ⟨hr, q2⟩ := q2
    subst hr
    wp_walk
    exact ⟨rfl, i + 1, hrest, h1, q2⟩
  case fin =>
    rintro ⟨b1, b2⟩ s' ⟨hb', i, hz, hi, hI⟩
    simp only at hb'
    subst hb'
    have hge : items.size ≤ i := by
      rcases Nat.lt_or_ge i (items.toList.zip items2.toList).length with h' | h'
      · rw [List.drop_eq_getElem_cons h'] at hz; cases hz
      · exact hZ ▸ h'
    have hi' : i = items.size := by omega
    have hR : R (.ok (.ret (.bool false))) s' := fin s' (hi' ▸ hI)
    wp_walk
    simpa [Builtin.Tuple.tupleCompareSizes, hsz] using hR
  case h =>
    exact ⟨rfl, 0, rfl, Nat.zero_le _, h0⟩
end
section
variable {prog : Program} {w : World} {A : Around} {E : Value → Shared → Prop} {s : Shared}
theorem rcn_listG {l b : Addr} {N : Nat} {Q : Value → Shared → Prop} (hu : A.units < cLine) (I : Nat → Shared → Prop) (hl : ListI prog w A E l b N I)
    (fin : ∀ s, I N s → Q (.bool false) s) (h : I 0 s) : wpAny (model prog w) A (richCompare .NotEq (.ref l) (.ref b)) Q E s := by
  obtain ⟨items, items2, n, n2, hl1, hb1, _, _, _⟩ := hl _ _ h
  refine wpAny_richCompare_same_room (op := .NotEq) ⟨_, hl1, rfl⟩ ⟨_, hb1, rfl⟩ F.slot_list_ne (call_here F.slot_list_ne ⟨_, hl1, rfl⟩ F.entry_list_ne (F.args_list_ne_2 _ _) ?_) hu
  exact list_neG (R := wants (fun v s' => v ≠ .notImplemented ∧ Q v s') E) l b N I hl (fun s' q => ⟨(fun x => nomatch x), fin s' q⟩) h
theorem rcn_tupG {l b : Addr} {items items2 : Array Value} {Q : Value → Shared → Prop} (hsz : items.size = items2.size) (hu : A.units < cLine) (I : Nat → Shared → Prop)
    (hl : s.heap.IsTuple l items) (hb : s.heap.IsTuple b items2)
    (turn : ∀ i (h1 : i < items.size) (h2 : i < items2.size) s, I i s → wpAny (model prog w) A.in1 (eqBool items[i] items2[i]) (fun r s' => r = true ∧ I (i + 1) s') E s)
    (fin : ∀ s, I items.size s → Q (.bool false) s) (h : I 0 s) : wpAny (model prog w) A (richCompare .NotEq (.ref l) (.ref b)) Q E s := by
  obtain ⟨⟨cls, dd, data, sl⟩, ho, hc, n, hd⟩ := id hl
  obtain ⟨⟨cls2, dd2, data2, sl2⟩, ho2, hc2, n2, hd2⟩ := id hb
  simp only at hc hd hc2 hd2
  subst hc hd hc2 hd2
  refine wpAny_richCompare_same_room (op := .NotEq) ⟨_, ho, rfl⟩ ⟨_, ho2, rfl⟩ F.slot_tuple_ne (call_here F.slot_tuple_ne ⟨_, ho, rfl⟩ F.entry_tuple_ne (F.args_tuple_ne_2 _ _) ?_) hu
  exact tuple_neG (R := wants (fun v s' => v ≠ .notImplemented ∧ Q v s') E) l b items items2 n n2 dd dd2 sl sl2 hsz I turn (fun s' q => ⟨(fun x => nomatch x), fin s' q⟩) ho ho2 h
end
end VS
/-! VTi: == and != of lists and tuples that hold own instances. -/
namespace VS
open PySem PySem.Spec PyProof.Rows L2

/-- below the running body, m steps of room left -/
structure SubD (X : Cx) (m : Nat) (A : Around) : Prop where
  rm : ∀ k, Room (k + 3) X.A → Room (k + m) A
  fr : A.frames = X.A.frames
  gd : A.guards = some []
  un : A.units + m + 8 < cLine
theorem SubD.in1 {X : Cx} {m : Nat} {A : Around} (s : SubD X (m + 1) A) : SubD X m A.in1 := ⟨fun k h => Room.in1 (s.rm k h), s.fr, s.gd, by have := s.un; show A.units + 1 + m + 8 < cLine; omega⟩
theorem SubD.top {X : Cx} (hg : X.A.guards = some []) (hu : X.A.units + 64 < cLine) : SubD X 3 X.A := ⟨fun k h => h, rfl, hg, by omega⟩
def EqH (X : Cx) (m : Nat) (D : Eqv) : Prop :=
  ∀ (A : Around) (pins : List (Addr × Obj)) (s : Shared) (σ : L2.St) (H : Hp) (x y : V) (u v : Value), SubD X m A → Inv X pins σ H s → RelV x u → RelV y v → D x y H →
    wpAny (model X.prog X.w) A (eqBool u v) (fun r s' => r = true ∧ ∃ H', Inv X pins σ H' s' ∧ Ext H H') X.xe s
def RcH (X : Cx) (m : Nat) (op : CmpOp) (r0 : Bool) (D : Eqv) : Prop :=
  ∀ (A : Around) (pins : List (Addr × Obj)) (s : Shared) (σ : L2.St) (H : Hp) (x y : V) (u v : Value), SubD X m A → Inv X pins σ H s → RelV x u → RelV y v → D x y H →
    wpAny (model X.prog X.w) A (richCompare op u v) (fun r s' => r = .bool r0 ∧ ∃ H', Inv X pins σ H' s' ∧ Ext H H') X.xe s
section
variable {X : Cx} {m : Nat} {D D' : Eqv}
theorem EqH.or (h : EqH X m D) (h' : EqH X m D') : EqH X m (fun x y H => D x y H ∨ D' x y H) := fun A pins s σ H x y u v sb I rx ry d => by
  rcases d with d | d
  · exact h A pins s σ H x y u v sb I rx ry d
  · exact h' A pins s σ H x y u v sb I rx ry d
theorem eqH_flat : EqH X m DFlat := by
  intro A pins s σ H x y u v sb I rx ry d
  obtain ⟨fx, fy, e⟩ := d
  have q := eqAt_V (A := A) (s := s) rx ry fx fy
  rw [e] at q
  exact q X.prog X.w X.xe _ ⟨rfl, H, I, Ext.rfl'⟩
theorem turnH (hD : Mon D) (h : EqH X m D) {A : Around} (sb : SubD X (m + 1) A) {pins : List (Addr × Obj)} {σ : L2.St} {H : Hp} {xs ys : List V} {its its2 : List Value} (p : Prs D xs ys H) (r : Vals xs its) (r2 : Vals ys its2)
    (i : Nat) (h1 : i < its.toArray.size) (h2 : i < its2.toArray.size) (s' : Shared) (l : LoopI X pins σ H s') :
    wpAny (model X.prog X.w) A.in1 (eqBool its.toArray[i] its2.toArray[i]) (fun r s2 => r = true ∧ LoopI X pins σ H s2) X.xe s' := by
  obtain ⟨H1, I1, e1⟩ := l
  have g1 : its[i]? = some its.toArray[i] := by
    have h1' : i < its.length := by simpa using h1
    rw [List.getElem?_eq_getElem h1'] <;> simp
  have g2 : its2[i]? = some its2.toArray[i] := by
    have h2' : i < its2.length := by simpa using h2
    rw [List.getElem?_eq_getElem h2'] <;> simp
  have k1 : i < xs.length := by rw [r.length]; simpa using h1
  have k2 : i < ys.length := by rw [r2.length]; simpa using h2
  obtain ⟨u, hu, ru⟩ := r.get (List.getElem?_eq_getElem k1)
  obtain ⟨v, hv, rv⟩ := r2.get (List.getElem?_eq_getElem k2)
  rw [g1] at hu
  rw [g2] at hv
  rw [Option.some.inj hu, Option.some.inj hv]
  refine wpAny_mono (h A.in1 pins s' σ H1 _ _ u v sb.in1 I1 ru rv (hD _ _ _ _ e1 (p.2 i _ _ (List.getElem?_eq_getElem k1) (List.getElem?_eq_getElem k2)))) (fun r s2 q => ?_) fun _ _ x => x
  obtain ⟨hr, H2, I2, e2⟩ := q
  exact ⟨hr, H2, I2, e1.trans e2⟩
theorem rcH_list (hD : Mon D) (h : EqH X m D) : RcH X (m + 1) .Eq true (DList D) := by
  intro A pins s σ H x y u v sb I rx ry d
  obtain ⟨a, b, xs, ys, rfl, rfl, ha, hb, p⟩ := d
  cases rx
  cases ry
  refine GQ.rc_listG (N := xs.length) (by have := sb.un; omega) (fun _ s' => LoopI X pins σ H s') (fun i s' q => ?_) (fun s' q => ⟨rfl, q⟩) ⟨H, I, Ext.rfl'⟩
  obtain ⟨H1, I1, e1⟩ := id q
  obtain ⟨z, its, k, r, e⟩ := I1.hok a _ (e1 _ _ ha)
  obtain ⟨z2, its2, k2, r2, e2⟩ := I1.hok b _ (e1 _ _ hb)
  refine ⟨its.toArray, its2.toArray, k, k2, e, e2, by rw [List.size_toArray, ← r.length], by rw [List.size_toArray, ← r2.length, ← p.1], fun h1 h2 => ?_⟩
  exact turnH hD h sb p r r2 i h1 h2 s' q
theorem rnH_list (hD : Mon D) (h : EqH X m D) : RcH X (m + 1) .NotEq false (DList D) := by
  intro A pins s σ H x y u v sb I rx ry d
  obtain ⟨a, b, xs, ys, rfl, rfl, ha, hb, p⟩ := d
  cases rx
  cases ry
  refine rcn_listG (N := xs.length) (by have := sb.un; omega) (fun _ s' => LoopI X pins σ H s') (fun i s' q => ?_) (fun s' q => ⟨rfl, q⟩) ⟨H, I, Ext.rfl'⟩
  obtain ⟨H1, I1, e1⟩ := id q
  obtain ⟨z, its, k, r, e⟩ := I1.hok a _ (e1 _ _ ha)
  obtain ⟨z2, its2, k2, r2, e2⟩ := I1.hok b _ (e1 _ _ hb)
  refine ⟨its.toArray, its2.toArray, k, k2, e, e2, by rw [List.size_toArray, ← r.length], by rw [List.size_toArray, ← r2.length, ← p.1], fun h1 h2 => ?_⟩
  exact turnH hD h sb p r r2 i h1 h2 s' q
theorem rcH_tup (hD : Mon D) (h : EqH X m D) : RcH X (m + 1) .Eq true (DTup X.K D) := by
  intro A pins s σ H x y u v sb I rx ry d
  obtain ⟨a, b, xs, ys, rfl, rfl, ha, hb, p⟩ := d
  cases rx
  cases ry
  obtain ⟨its, r, e, z⟩ := I.tuple ha
  obtain ⟨its2, r2, e2, z2⟩ := I.tuple hb
  have hsz : its.toArray.size = its2.toArray.size := by rw [List.size_toArray, List.size_toArray, ← r.length, ← r2.length]; exact p.1
  exact GQ.rc_tupG hsz (by have := sb.un; omega) (fun _ s' => LoopI X pins σ H s') e e2 (fun i h1 h2 s' q => turnH hD h sb p r r2 i h1 h2 s' q) (fun s' q => ⟨rfl, q⟩) ⟨H, I, Ext.rfl'⟩
theorem rnH_tup (hD : Mon D) (h : EqH X m D) : RcH X (m + 1) .NotEq false (DTup X.K D) := by
  intro A pins s σ H x y u v sb I rx ry d
  obtain ⟨a, b, xs, ys, rfl, rfl, ha, hb, p⟩ := d
  cases rx
  cases ry
  obtain ⟨its, r, e, z⟩ := I.tuple ha
  obtain ⟨its2, r2, e2, z2⟩ := I.tuple hb
  have hsz : its.toArray.size = its2.toArray.size := by rw [List.size_toArray, List.size_toArray, ← r.length, ← r2.length]; exact p.1
  exact rcn_tupG hsz (by have := sb.un; omega) (fun _ s' => LoopI X pins σ H s') e e2 (fun i h1 h2 s' q => turnH hD h sb p r r2 i h1 h2 s' q) (fun s' q => ⟨rfl, q⟩) ⟨H, I, Ext.rfl'⟩
theorem RcH.eqH (h : RcH X m .Eq true D) (hr : ∀ x y H, D x y H → ∃ a b, x = .ref a ∧ y = .ref b) : EqH X m D := by
  intro A pins s σ H x y u v sb I rx ry d
  obtain ⟨a, b, rfl, rfl⟩ := hr _ _ _ d
  cases rx
  cases ry
  by_cases hab : a = b
  · subst hab
    exact SeqAt.EqAt.same (A := A) (s := s) (.ref a) X.prog X.w X.xe _ ⟨rfl, H, I, Ext.rfl'⟩
  · refine GQ.eqBool_refG hab (wpAny_mono (h A pins s σ H (.ref a) (.ref b) _ _ sb I rfl rfl d) (fun r s' q => ?_) fun _ _ x => x)
    obtain ⟨hr', q⟩ := q
    exact ⟨true, hr', rfl, q⟩
end
/-! ### members with an own == -/
def DOwn (K : PySem.W.Frag) (G : GEnv) (T : CK → CK → Option Bool) (E : Str → Option Fn) : Eqv := fun x y H => ∃ c xs c' ys F qs, RepL K G H [.obj c xs, .obj c' ys] [x, y] ∧ E c = some F ∧ T (.inr c') (.inr c) = some true ∧ c' = c ∧ F [.leaf (.obj c xs), .leaf (.obj c' ys)] = .ret (.leaf (.bl true)) qs
theorem mon_own {K : PySem.W.Frag} {G : GEnv} {T : CK → CK → Option Bool} {E : Str → Option Fn} : Mon (DOwn K G T E) := fun x y H H' e d => by
  obtain ⟨c, xs, c', ys, F, qs, r, h⟩ := d
  exact ⟨c, xs, c', ys, F, qs, r.mono e, h⟩
section
variable {X : Cx} {G : GEnv} {T : CK → CK → Option Bool} {E : Str → Option Fn} {m : Nat}
theorem rcH_own (hT : IsiTab X.K G T) (hE : ∀ c F, E c = some F → SpOk X G (Str.ofString "__eq__") c F) : RcH X m .Eq true (DOwn X.K G T E) := by
  intro A pins s σ H x y v u sb I rx ry h
  obtain ⟨c, xs, c', ys, F, qs, rl, hF, ht, hcc, hr⟩ := h
  obtain ⟨ci, k, f, fd, ps, hc, he, hs, hf, hm, hne, FF, hroom, hb⟩ := (hE c F hF).ex
  obtain ⟨x', y', e, r1, r2⟩ := repL2 rl
  cases e
  obtain ⟨a, dx, vs, rfl, ha, rv, _⟩ := rep_ins hc he r1
  cases (show v = Value.ref a from rx)
  obtain ⟨mA, J, _⟩ := ins_get I.hok ha
  obtain ⟨od, J, _⟩ := J.look
  obtain ⟨mm, hFr⟩ := I.fr
  have hnf : ∃ tb, PySem.W.Looks (model X.prog X.w) s.heap (typeOf u) tb ∧ PySem.W.notFirst X.K ci.addr tb = true := by
    obtain ⟨tb, w, h1, h2, ty, _⟩ := tyx_of hT r2 (k := .inr c) (b := true) ht
    obtain ⟨tb', h1', h3⟩ := hT.notFirst hc (show T (tyK (.obj c' ys)) (.inr c) = some true from ht)
    rw [h1] at h1'
    cases h1'
    obtain ⟨P, Z, p, _⟩ := kit_of I ry ty
    exact ⟨tb, Z.ty _ _ I.kIn p, h3 (.inr (by rw [← hcc]; rfl))⟩
  obtain ⟨tb, hlk, hnf⟩ := hnf
  have hsp := sp_read (K := X.K) (E := fun _ _ _ => False) rl hr
  have hbt : BindsTo s fd ⟨[.ref a, u], []⟩ (ps.zip [.ref a, u]) := by
    have := hb s [.ref a, u] I.kIn (by have := FF.len _ _ _ _ hsp; simpa using this)
    simpa using this
  have rv2 : Vals [V.ref a, y] [Value.ref a, u] := .cons rfl (.cons ry .nil)
  refine PySem.W.cmp_K (op := .Eq) (by have := sb.un; omega) hFr I.ok.mod.kin J hlk hnf hs hf ?_
  refine wpAny_mono (call_g FF sb.fr ((sb.rm k hroom).mono (Nat.le_add_right _ _)) sb.gd hbt I rv2 hsp) (fun v s' z => ?_) fun _ _ e => e
  obtain ⟨w, H', I', rw', sm, rp⟩ := z
  have e1 := rep_bl rp
  subst e1
  obtain rfl : v = Value.bool true := rw'
  exact ⟨rfl, H', I', fun b o h => sm b o h⟩
end
/-! ### as rules of the small language -/
def eqMem (T : CK → CK → Option Bool) (E : Str → Option Fn) : D → D → Bool
  | .obj c xs, .obj c' ys => match E c with
    | some F => decide (c' = c) && decide (T (.inr c') (.inr c) = some true) && match F [.leaf (.obj c xs), .leaf (.obj c' ys)] with
      | .ret (.leaf (.bl b)) _ => b
      | _ => false
    | none => false
  | .int i, .int j => decide (i = j)
  | .str i, .str j => decide (i = j)
  | _, _ => false
def eqMems (T : CK → CK → Option Bool) (E : Str → Option Fn) : List D → List D → Bool
  | [], [] => true
  | d :: ds, e :: es => eqMem T E d e && eqMems T E ds es
  | _, _ => false
def bEqM (T : CK → CK → Option Bool) (E : Str → Option Fn) (neg : Bool) : List D → B
  | [.lst ds, .lst es] => if eqMems T E ds es = true then .sc (.bl (true ^^ neg)) else .bad
  | [.tup ds, .tup es] => if eqMems T E ds es = true then .sc (.bl (true ^^ neg)) else .bad
  | _ => .bad
def isObj1 : List D → Bool
  | .obj _ _ :: _ => true
  | _ => false
/-- lists or tuples whose first member is an own instance -/
def isM1 : List D → Bool
  | .lst ds :: _ => isObj1 ds
  | .tup ds :: _ => isObj1 ds
  | _ => false
abbrev DMem (K : PySem.W.Frag) (G : GEnv) (T : CK → CK → Option Bool) (E : Str → Option Fn) : Eqv := fun x y H => DOwn K G T E x y H ∨ DFlat x y H
abbrev DSeq (K : PySem.W.Frag) (G : GEnv) (T : CK → CK → Option Bool) (E : Str → Option Fn) : Eqv := fun x y H => DList (DMem K G T E) x y H ∨ DTup K (DMem K G T E) x y H
theorem eqMem_ok {K : PySem.W.Frag} {G : GEnv} {T : CK → CK → Option Bool} {E : Str → Option Fn} {H : Hp} {d e : D} {x y : V} (h : eqMem T E d e = true) (r : Rep K G H d x) (r' : Rep K G H e y) : DMem K G T E x y H := by
  unfold eqMem at h
  split at h
  · next c xs c' ys =>
    split at h
    · next F hF =>
      rw [Bool.and_eq_true, Bool.and_eq_true, decide_eq_true_eq, decide_eq_true_eq] at h
      obtain ⟨⟨h1, h2⟩, h3⟩ := h
      split at h3
      · next b qs hr =>
        subst h3
        exact .inl ⟨c, xs, c', ys, F, qs, .cons r (.cons r' .nil), hF, h2, h1, hr⟩
      · cases h3
    · cases h
  · next i j =>
    obtain rfl := of_decide_eq_true h
    obtain rfl := rep_int r
    obtain rfl := rep_int r'
    exact .inr ⟨rfl, rfl, by simp [eqV]⟩
  · next i j =>
    obtain rfl := of_decide_eq_true h
    obtain rfl := rep_str r
    obtain rfl := rep_str r'
    exact .inr ⟨rfl, rfl, by simp [eqV]⟩
  · cases h
theorem eqMems_ok {K : PySem.W.Frag} {G : GEnv} {T : CK → CK → Option Bool} {E : Str → Option Fn} {H : Hp} : ∀ {ds es : List D} {xs ys : List V}, eqMems T E ds es = true → RepL K G H ds xs → RepL K G H es ys → Prs (DMem K G T E) xs ys H
  | [], [], xs, ys, _, r, r' => by
    have h1 := r.1
    have h2 := r'.1
    cases xs with
    | nil =>
      cases ys with
      | nil => exact Prs.nil
      | cons _ _ => cases h2
    | cons _ _ => cases h1
  | [], _ :: _, _, _, h, _, _ => by simp [eqMems] at h
  | _ :: _, [], _, _, h, _, _ => by simp [eqMems] at h
  | d :: ds, e :: es, xs, ys, h, r, r' => by
    unfold eqMems at h
    rw [Bool.and_eq_true] at h
    cases xs with
    | nil => cases r.1
    | cons x xs =>
      cases ys with
      | nil => cases r'.1
      | cons y ys =>
        refine Prs.cons (eqMem_ok h.1 (r.2 0 _ _ rfl rfl) (r'.2 0 _ _ rfl rfl)) (eqMems_ok h.2 ⟨by have := r.1; simpa using this, fun k d v h1 h2 => r.2 (k + 1) d v (by simpa using h1) (by simpa using h2)⟩ ⟨by have := r'.1; simpa using this, fun k d v h1 h2 => r'.2 (k + 1) d v (by simpa using h1) (by simpa using h2)⟩)
def rEqM (K : PySem.W.Frag) (G : GEnv) (T : CK → CK → Option Bool) (E : Str → Option Fn) (neg : Bool) : R2 := fun x y H Q => DSeq K G T E x y H ∧ ∀ H', Same H H' → Q (.bl (true ^^ neg)) H'
theorem prim_eqM {K : PySem.W.Frag} {G : GEnv} {T : CK → CK → Option Bool} {E : Str → Option Fn} {neg : Bool} : Prim K G (lift2 (rEqM K G T E neg)) (bEqM T E neg) := by
  intro vs ds H Q b r e w
  unfold bEqM at e
  split at e
  · next ds es =>
    split at e
    · next h =>
      subst e
      obtain ⟨x, y, rfl, r1, r2⟩ := repL2 r
      cases r1 with
      | lst h1 l1 k1 =>
        cases r2 with
        | lst h2 l2 k2 => exact ⟨.inl ⟨_, _, _, _, rfl, rfl, h1, h2, eqMems_ok h ⟨l1, k1⟩ ⟨l2, k2⟩⟩, fun H' sm => w H' sm⟩
    · subst e; exact w.elim
  · next ds es =>
    split at e
    · next h =>
      subst e
      obtain ⟨x, y, rfl, r1, r2⟩ := repL2 r
      cases r1 with
      | tup h1 l1 k1 =>
        cases r2 with
        | tup h2 l2 k2 => exact ⟨.inr ⟨_, _, _, _, rfl, rfl, h1, h2, eqMems_ok h ⟨l1, k1⟩ ⟨l2, k2⟩⟩, fun H' sm => w H' sm⟩
    · subst e; exact w.elim
  · subst e; exact w.elim
section
variable {X : Cx} {G : GEnv} {T : CK → CK → Option Bool} {E : Str → Option Fn} {neg : Bool}
theorem op_eqM (hT : IsiTab X.K G T) (hE : ∀ c F, E c = some F → SpOk X G (Str.ofString "__eq__") c F) (hgd : X.A.guards = some []) (hu : X.A.units + 64 < cLine) : OpR X (compareOp (if neg = true then .NotEq else .Eq)) (rEqM X.K G T E neg) := by
  intro pins s σ H x y v u Q I rx ry h
  obtain ⟨d, q⟩ := h
  have hD : Mon (DMem X.K G T E) := Mon.or mon_own mon_flat
  have hm : EqH X 2 (DMem X.K G T E) := ((rcH_own hT hE).eqH (fun x y H d => by
    obtain ⟨c, xs, c', ys, F, qs, rl, hF, ht, hcc, hr⟩ := d
    obtain ⟨ci, k, f, fd, ps, hc, he, _⟩ := (hE c F hF).ex
    obtain ⟨x', y', e, r1, r2⟩ := repL2 rl
    cases e
    obtain ⟨a, dx, vs, rfl, _⟩ := rep_ins hc he r1
    subst hcc
    obtain ⟨b, dx', vs', rfl, _⟩ := rep_ins hc he r2
    exact ⟨a, b, rfl, rfl⟩)).or eqH_flat
  have go : RcH X 3 (if neg = true then .NotEq else .Eq) (true ^^ neg) (DSeq X.K G T E) := by
    intro A pins s σ H x y u v sb I rx ry d
    cases neg with
    | false =>
      rcases d with d | d
      · exact rcH_list hD hm A pins s σ H x y u v sb I rx ry d
      · exact rcH_tup hD hm A pins s σ H x y u v sb I rx ry d
    | true =>
      rcases d with d | d
      · exact rnH_list hD hm A pins s σ H x y u v sb I rx ry d
      · exact rnH_tup hD hm A pins s σ H x y u v sb I rx ry d
  have key := go X.A pins s σ H x y v u (SubD.top hgd hu) I rx ry d
  have fin : ∀ r s', (r = .bool (true ^^ neg) ∧ ∃ H', Inv X pins σ H' s' ∧ Ext H H') → EP X pins σ Q r s' := fun r s' z => by
    obtain ⟨rfl, H', I', e⟩ := z
    exact ⟨.bl (true ^^ neg), H', I', rfl, q H' fun b o h => e b o h⟩
  cases neg with
  | false => exact wpAny_mono key fin fun _ _ x => x
  | true => exact wpAny_mono key fin fun _ _ x => x
end
end VS
/-! VTk: tuple * int. -/
namespace VS
open PySem PySem.Spec PyProof.Rows L2
open AutoSeq1 (wpAny_loadPart')
theorem tuple_mulZ (l : Addr) (items : Array Value) (n : Nat) (dd : Option Addr) (sl : Array (Option Value)) (x : Int) (u : Tok) (c0 : (decide (x < -(2 ^ 63)) || decide (x ≥ 2 ^ 63)) = false) (c1 : (items.isEmpty || x == 1) = false) (c2 : (decide (x ≤ 0) || items.isEmpty) = true) :
    Meets (Builtin.«tuple.__mul__» ⟨[.ref l, .int x u], []⟩) (fun _ R s => s.heap.get? l = some { cls := .type "tuple", dict := dd, data := .seq items n, slots := sl } ∧
      R (.ok (.ret (Value.ref s.heap.objs.size))) { s with heap := s.heap.push { cls := Value.type "tuple", data := Data.seq #[] }, toks := s.toks }) :=
  .of_wp fun prog w A R s h => by
    obtain ⟨hp, g, d, tk, os⟩ := s
    obtain ⟨hl, h⟩ := h
    have f1 := AutoSeq1.idx_int
    wp_walk using wpAny_loadPart' hl
    repeat (first
      | (refine wpAny_ite_false (decide_eq_false (by rw [c0]; exact Bool.false_ne_true)) ?_; wp_walk using wpAny_loadPart' hl)
      | (refine wpAny_ite_false (decide_eq_false (by rw [c1]; exact Bool.false_ne_true)) ?_; wp_walk using wpAny_loadPart' hl)
      | (refine wpAny_ite_true (decide_eq_true c2) ?_; wp_walk using wpAny_loadPart' hl))
    exact ⟨_, rfl, h⟩
theorem tuple_mul1 (l : Addr) (items : Array Value) (n : Nat) (dd : Option Addr) (sl : Array (Option Value)) (x : Int) (u : Tok) (c0 : (decide (x < -(2 ^ 63)) || decide (x ≥ 2 ^ 63)) = false) (c1 : (items.isEmpty || x == 1) = true) :
    Meets (Builtin.«tuple.__mul__» ⟨[.ref l, .int x u], []⟩) (fun _ R s => s.heap.get? l = some { cls := .type "tuple", dict := dd, data := .seq items n, slots := sl } ∧
      R (.ok (.ret (Value.ref l))) s) :=
  .of_wp fun prog w A R s h => by
    obtain ⟨hp, g, d, tk, os⟩ := s
    obtain ⟨hl, h⟩ := h
    have f1 := AutoSeq1.idx_int
    wp_walk using wpAny_loadPart' hl
    repeat (first
      | (refine wpAny_ite_false (decide_eq_false (by rw [c0]; exact Bool.false_ne_true)) ?_; wp_walk using wpAny_loadPart' hl)
      | (refine wpAny_ite_true (decide_eq_true c1) ?_; wp_walk using wpAny_loadPart' hl))
    exact ⟨_, rfl, h⟩
def rRepU (K : PySem.W.Frag) : R2 := fun x y H Q => ∃ l k xs, x = .ref l ∧ y = .int k ∧ SqT K H l xs ∧ xs ≠ [] ∧ -1000 ≤ k ∧ k ≤ 1000 ∧ xs.length ≤ 1000 ∧ (k = 1 → Q (.ref l) H) ∧ (k ≠ 1 → ∀ p, H p = none → Q (.ref p) (upd H p (.tup (List.replicate k.toNat xs).flatten)))
section
variable {X : Cx} {G : GEnv} {W : WX}
theorem op_repU : OpR X (binaryOp .Mult) (rRepU X.K) := by
  intro pins s σ H x y v u Q I rx ry h
  obtain ⟨l, k, xs, rfl, rfl, hT, hne, h1, h2, hz, q1, q2⟩ := h
  by_cases h2k : 2 ≤ k
  · exact op_repT pins s σ H _ _ v u Q I rx ry ⟨l, k, xs, rfl, rfl, hT, hne, h2k, h2, hz, q2 (by omega)⟩
  cases rx
  obtain ⟨t, rfl⟩ := ry
  obtain ⟨its, r, ⟨⟨cls, dd, data, sl⟩, ho, hc, n, hd⟩, hs⟩ := I.tuple hT
  simp only at hc hd
  subst hc hd
  have hle : its.length = xs.length := r.length.symm
  have hn : its ≠ [] := fun e => hne (by
    rw [e] at hle
    exact List.eq_nil_of_length_eq_zero hle.symm)
  have hi : its.toArray.isEmpty = false := by
    cases its with
    | nil => exact absurd rfl hn
    | cons a b => rfl
  have c0 : (decide (k < -(2 ^ 63)) || decide (k ≥ 2 ^ 63)) = false := by
    rw [decide_eq_false (by omega), decide_eq_false (by omega)] <;> rfl
  by_cases hk1 : k = 1
  · have c1 : (its.toArray.isEmpty || k == 1) = true := by
      rw [hi, Bool.false_or]
      exact beq_iff_eq.mpr hk1
    refine wpAny_binaryOp_repeat_ref (T := "tuple") (U := "int") (by decide) ⟨_, ho, rfl⟩ (fun s' => typeIs_int s' k t) noFill_tuple_mul F.fills_int_mul F.slot_int_rmul repeat_tuple F.slot_int_index.lookup
      (call_meets F.slot_int_rmul (typeIs_int s k t) F.entry_int_rmul (F.args_int_rmul_2 _ _) (int_rmul_tuple k t l its.toArray n dd sl)
        ⟨ho, rfl, ⟨_, ho, rfl⟩, call_meets F.slot_tuple_mul ⟨_, ho, rfl⟩ F.entry_tuple_mul (F.args_tuple_mul_2 _ _) (tuple_mul1 l its.toArray n dd sl k t c0 c1) ⟨ho, ?_⟩⟩)
    exact ⟨.ref l, H, I, rfl, q1 hk1⟩
  · have hk0 : k ≤ 0 := by omega
    have c1 : (its.toArray.isEmpty || k == 1) = false := by
      rw [hi, Bool.false_or]
      exact beq_eq_false_iff_ne.mpr (by omega)
    have c2 : (decide (k ≤ 0) || its.toArray.isEmpty) = true := by
      rw [decide_eq_true hk0] <;> rfl
    refine wpAny_binaryOp_repeat_ref (T := "tuple") (U := "int") (by decide) ⟨_, ho, rfl⟩ (fun s' => typeIs_int s' k t) noFill_tuple_mul F.fills_int_mul F.slot_int_rmul repeat_tuple F.slot_int_index.lookup
      (call_meets F.slot_int_rmul (typeIs_int s k t) F.entry_int_rmul (F.args_int_rmul_2 _ _) (int_rmul_tuple k t l its.toArray n dd sl)
        ⟨ho, rfl, ⟨_, ho, rfl⟩, call_meets F.slot_tuple_mul ⟨_, ho, rfl⟩ F.entry_tuple_mul (F.args_tuple_mul_2 _ _) (tuple_mulZ l its.toArray n dd sl k t c0 c1 c2) ⟨ho, ?_⟩⟩)
    have hr : (List.replicate k.toNat xs).flatten = [] := by
      rw [show k.toNat = 0 by omega]
      rfl
    have q3 := q2 hk1
    rw [hr] at q3
    refine ⟨.ref s.heap.objs.size, _, I.laid (t' := s.toks) (o := .tup []) (fun b ob q => Heap.get?_push_of_some _ q) (Nat.le_refl _) ?_, rfl, q3 _ (I.hok.fresh (Nat.le_refl _))⟩
    exact ⟨Nat.zero_le _, [], .nil, IsTup.new _ _⟩
def isTI : List D → Bool
  | [.tup _, .int _] => true
  | _ => false
def qRepT : List D → SQ
  | [.tup xs, .int k] => if xs ≠ [] ∧ xs.length ≤ 1000 ∧ -1000 ≤ k ∧ k ≤ 1000 then .tup (List.replicate k.toNat xs).flatten else .bad
  | _ => .bad
theorem road_repT : Road X G W (binaryOp .Mult) (finS qRepT) := road_seq op_repU (by
  intro Φ H vs ds Q b sm k e w
  unfold qRepT at e
  split at e
  · next xs n =>
    obtain ⟨u, v, rfl, k1, _, _, k2⟩ := k.two
    obtain ⟨a, ws, rfl, h1, r1⟩ := rep_tupK k1
    have hv : v = .int n := rep_int k2
    split at e
    · next hc =>
      subst e
      obtain ⟨c1, c2, c3, c4⟩ := hc
      refine ⟨a, n, ws, rfl, hv, same_sqT sm h1, fun z => ?_, c3, c4, by rw [← r1.1]; exact c2, fun h => ?_, fun h p np => w.1 _ p _ (repL_rep r1 _) (new_same np) np upd_same⟩
      · subst z
        have := r1.1
        exact c1 (List.eq_nil_of_length_eq_zero this)
      · subst h
        refine w.2 _ H ?_ (Same.refl H)
        have e1 : (List.replicate (1 : Int).toNat xs).flatten = xs := by
          rw [show (1 : Int).toNat = 1 from rfl]
          simp
        rw [e1]
        exact k1
    · subst e; exact w.elim
  · subst e; exact w.elim)
end
end VS
/-! VTj: f-strings; in, not in. -/
namespace VS
open PySem PySem.Spec PyProof.Rows L2

/-! ### f-strings -/
def evJoin : List (Sl → Out Op) → Str → Sl → Out Op
  | [], acc, s => .ok (.vl (.leaf (.str acc))) s
  | f :: fs, acc, s => match f s with
    | .ok (.vl (.leaf (.str y))) s1 => if (acc ++ y).length ≤ sizeLine then evJoin fs (acc ++ y) s1 else .bad
    | .er x s1 => .er x s1
    | _ => .bad
section
variable {X : Cx} {K : PySem.W.Frag} {G : GEnv} {W : WX}
theorem join_tJs : ∀ (fs : List (Sl → Out Op)) (acc : Str) (σ : L2.St) (H : Hp) (Q : VK), tO K G W (evJoin fs acc) σ H Q → tJs (fs.map (tO K G W)) acc σ H (fun out H1 => Q (.str out) H1)
  | [], acc, σ, H, Q, h => by
    obtain ⟨Φ, s, F, st, p⟩ := h
    exact p (.str acc) H Φ F no st (.leaf (.str acc)) TmpR.no (Frm.refl.less fun b h => h.elim (fun z => z.elim) id)
  | f :: fs, acc, σ, H, Q, h => by
    obtain ⟨Φ, s, F, st, p⟩ := h
    show tO K G W f σ H fun x H1 => ∃ y : Str, x = .str y ∧ (acc ++ y).length ≤ sizeLine ∧ tJs (fs.map (tO K G W)) (acc ++ y) σ H1 (fun out H1 => Q (.str out) H1)
    unfold evJoin at p
    refine tO_any st (fun o s1 e v H1 Φ1 F1 E1 st1 hv hr tm1 fr1 => ?_) (fun x s1 e => ?_) (fun e => ?_)
    · rw [e] at p
      split at p
      · next y s1' e1 =>
        cases e1
        split at p
        · next hl =>
          have hv1 := hv _ rfl
          obtain rfl : v = .str y := by
            cases hv1 with
            | leaf r => exact rep_str r
          exact ⟨y, rfl, hl, join_tJs fs _ σ H1 Q ⟨Φ1, s1, F1, st1, postO.shift (fr1.less fun b h => .inr h) p⟩⟩
        · exact p.elim
      · next e1 => cases e1
      · exact p.elim
    · rw [e] at p; exact p
    · rw [e] at p; exact p
theorem pj_of : ∀ {es : List Expr} {fs : List (Sl → Out Op)}, VOs X G W es fs → PJ X es (fs.map (tO X.K G W))
  | _, _, .nil => .nil
  | _, _, .cons h r => .cons h (pj_of r)
theorem vo_join {v1 v2 : Expr} {rest : List Expr} {fs : List (Sl → Out Op)} {pos : Pos} (h : VOs X G W (v1 :: v2 :: rest) fs) : VO X G W (.JoinedStr (v1 :: v2 :: rest) pos) (evJoin fs Str.empty) :=
  pe_imp (pe_joined (pj_of h)) fun σ H Q q => join_tJs fs _ σ H Q q
/-- {x!r} by the text that repr gives -/
def FmR (X : Cx) (r : List V → Hp → VK → Prop) : Prop := ∀ (pins : List (Addr × Obj)) (s : Shared) (σ : L2.St) (H : Hp) (x : V) (u : Value) (Q : VK), Inv X pins σ H s → RelV x u → r [x] H Q →
  wpAny (model X.prog X.w) X.A (pyReprObj u) (fun v s2 => wpAny (model X.prog X.w) X.A (formatField v Str.empty) (EP X pins σ Q) X.xe s2) X.xe s
theorem FmR.or {r r' : List V → Hp → VK → Prop} (a : FmR X r) (b : FmR X r') : FmR X (orR r r') := fun pins s σ H x u Q I rx h => h.elim (a pins s σ H x u Q I rx) (b pins s σ H x u Q I rx)
theorem fm_text {pins : List (Addr × Obj)} {s : Shared} {σ : L2.St} {H : Hp} {z : Str} {t : Tok} {Q : VK} (I : Inv X pins σ H s) (hz : z.length ≤ sizeLine) (q : Q (.str z) H) : wpAny (model X.prog X.w) X.A (formatField (.str z t) Str.empty) (EP X pins σ Q) X.xe s :=
  wpAny_formatField_str ⟨.str z, H, I, ⟨t, rfl⟩, q⟩ ⟨.str z, H, I.tok _, ⟨_, rfl⟩, q⟩ hz
theorem fm_data (hgd : X.A.guards = some []) (hu : X.A.units + 64 < cLine) : FmR X (rRepr X.K) := by
  intro pins s σ H x0 u Q I rx h
  obtain ⟨x, d, e0, dp, nd, so, q⟩ := h
  cases e0
  obtain ⟨as, rd⟩ := Dp.reads I d x0 u dp rx
  unfold showOk at so
  rw [Bool.and_eq_true, Bool.and_eq_true, decide_eq_true_eq, decide_eq_true_eq] at so
  obtain ⟨⟨s1, s2⟩, s3⟩ := so
  have byRef : ∀ {a : Addr}, u = .ref a → wpAny (model X.prog X.w) X.A (pyReprObj u) (fun v s2 => wpAny (model X.prog X.w) X.A (formatField v Str.empty) (EP X pins σ Q) X.xe s2) X.xe s := by
    rintro a rfl
    exact pyReprObj_of_reads rd s1 (PyData.noDict_hsm nd) hgd (by omega) (fun _ _ e => e) (fun h' u tk hk => fm_text (I.kept hk) s2 q) s2
  cases d with
  | none =>
    cases dp
    cases rx
    simp only [PyData.shown] at q s2
    exact pyReprObj_none (fm_text (I.tok _) s2 q)
  | bool b =>
    cases dp
    cases rx
    simp only [PyData.shown] at q s2
    exact pyReprObj_bool (fm_text (I.tok _) s2 q)
  | int i =>
    cases dp
    obtain ⟨t, rfl⟩ := rx
    simp only [PyData.shown] at q s2
    exact pyReprObj_int (by simpa [PyData.showable] using s1) (fm_text (I.tok _) s2 q)
  | str z =>
    cases dp
    obtain ⟨t, rfl⟩ := rx
    simp only [PyData.shown] at q s2
    exact pyReprObj_str (fm_text (I.tok _) s2 q) s2
  | list ds =>
    cases dp with
    | lst hs ha => exact byRef rx
  | tuple ds =>
    cases dp with
    | tup hs ha => exact byRef rx
  | dict ds => cases dp
def okStrZ : S0 → Bool
  | .str z => decide (z.length ≤ sizeLine)
  | _ => false
section
variable {prog : Program} {w : World} {A : Around} {Er : Value → Shared → Prop} {s : Shared} {Kf : PySem.W.Frag} {x C f : Addr} {ox : Obj} {od : Option Obj}
theorem reprObj_own {Q : Value → Shared → Prop} (hu : A.units < cLine) (Xk : Kf.In s.heap) (I : PySem.W.InstAt s.heap x ox C od) (hs : PySem.W.findIn Kf (.ref C) "__repr__" = some (some (.ref f))) (hf : PySem.W.isFn Kf (.ref f) = true)
    (h : wpAny (model prog w) A (call (.ref f) [.ref x]) (PySem.W.StrBack Q) Er s) : wpAny (model prog w) A (pyReprObj (.ref x)) Q Er s := by
  unfold pyReprObj
  refine wpAny_bind (wpAny_cRoomFor hu ?_)
  refine wpAny_bind (wpAny_bind (I.type.here ((PySem.W.looks_findIn Xk hs).here ?_)))
  show wpAny _ _ (if (some (Value.ref f)).isNone = true then _ else _) _ _ _
  rw [if_neg (by simp)]
  refine wpAny_bind (m := callSpecialIfBound? (.ref x) (Str.ofString "__repr__") _) (PySem.W.ifBound_K Xk I hs hf (wpAny_mono h (fun r s' hr => ?_) fun _ _ y => y))
  cases r <;> first | exact hr.elim | skip
  refine wpAny_bind (wpAny_isInstance (typeIs_str _ _ _) isSubtype_str_str ?_)
  first
    | exact wpAny_pure hr
    | (rw [if_pos rfl]; exact wpAny_pure hr)
end
theorem fm_own {E : Str → Option Fn} (hE : ∀ c F, E c = some F → SpOk X G (Str.ofString "__repr__") c F) (hgd : X.A.guards = some []) (hu : X.A.units + 64 < cLine) : FmR X (rOwn X.K G E okStrZ) := by
  intro pins s σ H x0 u Q I rx h
  obtain ⟨c, ys, F, d, qs, x, e0, rl, hF, hr, ho, q⟩ := h
  cases e0
  obtain ⟨ci, k, f, fd, ps, hc, he, hs, hf, hm, _, FF, hroom, hb⟩ := (hE c F hF).ex
  obtain ⟨x', e0, r1⟩ := repL1 rl
  cases e0
  obtain ⟨a, dx, vs, rfl, ha, rv, _⟩ := rep_ins hc he r1
  cases rx
  obtain ⟨mA, J, _⟩ := ins_get I.hok ha
  obtain ⟨od, J, _⟩ := J.look
  refine reprObj_own (by omega) I.kIn J hs hf (wpAny_mono (own_call (A := X.A) FF rfl (hroom.mono (by omega)) hgd hb I rl hr) (fun v s' z => ?_) fun _ _ e => e)
  obtain ⟨rv, H', sm, I'⟩ := z
  cases d with
  | str z =>
    obtain ⟨t, rfl⟩ := (show ∃ t, v = Value.str z t from rv)
    exact fm_text I' (of_decide_eq_true ho) (q H' sm)
  | non => exact absurd ho (by decide)
  | bl b => exact absurd ho (by simp [okStrZ])
  | int z => exact absurd ho (by simp [okStrZ])
theorem vo_fmtR {e : Expr} {pos : Pos} {f : Sl → Out Op} {r : List V → Hp → VK → Prop} {fin : Fin1} (hr : FmR X r) (hf : FinOk X.K G W r fin) (he : VO X G W e f) : VO X G W (.FormattedValue e 114 none pos) (evF [f] fin) := by
  refine vo_fin (r := r) ⟨fun pins s σ H Q I h => ?_⟩ hf
  refine wpAny_FormattedValue_repr (thn (he.run pins s σ H _ I (show tO X.K G W f σ H (fun x H1 => r [x] H1 Q) from h)) fun v s1 hv => ?_)
  obtain ⟨x, H1, I1, r1, q⟩ := hv
  exact hr pins s1 σ H1 x v Q I1 r1 q
end

/-! ### in, not in -/
def flatD : D → Bool
  | .non => true
  | .bl _ => true
  | .int _ => true
  | .str _ => true
  | _ => false
def eqD : D → D → Bool
  | .non, .non => true
  | .bl a, .bl b => a == b
  | .int a, .int b => a == b
  | .str a, .str b => a == b
  | .bl a, .int b => (if a then 1 else 0) == b
  | .int a, .bl b => a == (if b then 1 else 0)
  | _, _ => false
/-- x in a list or tuple of such -/
def bIn (neg : Bool) : List D → B
  | [x, .lst ds] => if flatD x = true ∧ ds.all flatD = true then .sc (.bl ((ds.any fun y => eqD y x) ^^ neg)) else .bad
  | [x, .tup ds] => if flatD x = true ∧ ds.all flatD = true then .sc (.bl ((ds.any fun y => eqD y x) ^^ neg)) else .bad
  | _ => .bad
section
variable {X : Cx} {K : PySem.W.Frag} {G : GEnv} {W : WX} {H : Hp}
theorem rep_flatV {d : D} {v : V} (h : flatD d = true) (r : Rep K G H d v) : flatV v = true := by
  cases r <;> first | rfl | cases h
theorem rep_eqD {d e : D} {v w : V} (h : flatD d = true) (h' : flatD e = true) (r : Rep K G H d v) (r' : Rep K G H e w) : eqV v w = eqD d e := by
  cases r <;> first | (cases h; done) | skip
  all_goals (cases r' <;> first | (cases h'; done) | rfl)
theorem reps_flat : ∀ {ds : List D} {vs : List V}, ds.all flatD = true → RepL K G H ds vs → vs.all flatV = true
  | [], vs, _, r => by
    have := r.1
    cases vs with
    | nil => rfl
    | cons _ _ => cases this
  | d :: ds, [], _, r => by cases r.1
  | d :: ds, v :: vs, h, r => by
    rw [List.all_cons, Bool.and_eq_true] at h ⊢
    exact ⟨rep_flatV h.1 (r.2 0 _ _ rfl rfl), reps_flat h.2 ⟨by have := r.1; simpa using this, fun k d v h1 h2 => r.2 (k + 1) d v (by simpa using h1) (by simpa using h2)⟩⟩
theorem reps_in {x : D} {xv : V} (hx : flatD x = true) (rx : Rep K G H x xv) : ∀ {ds : List D} {vs : List V}, ds.all flatD = true → RepL K G H ds vs → inV xv vs = ds.any fun y => eqD y x
  | [], vs, _, r => by
    have := r.1
    cases vs with
    | nil => rfl
    | cons _ _ => cases this
  | d :: ds, [], _, r => by cases r.1
  | d :: ds, v :: vs, h, r => by
    rw [List.all_cons, Bool.and_eq_true] at h
    have e := reps_in hx rx h.2 (vs := vs) ⟨by have := r.1; simpa using this, fun k d v h1 h2 => r.2 (k + 1) d v (by simpa using h1) (by simpa using h2)⟩
    unfold inV at e ⊢
    rw [List.any_cons, List.any_cons, e, rep_eqD h.1 hx (r.2 0 _ _ rfl rfl) rx]
theorem prim_in {neg : Bool} : Prim K G (lift2 (rIn K neg)) (bIn neg) := by
  intro vs ds H Q b r e w
  unfold bIn at e
  have fin : ∀ (x : D) (xs : List D) (u : V) (us : List V), flatD x = true → xs.all flatD = true → Rep K G H x u → RepL K G H xs us → ((xs.any fun y => eqD y x) ^^ neg) = (if neg then !inV u us else inV u us) := fun x xs u us h1 h2 r1 r2 => by
    rw [reps_in h1 r1 h2 r2]
    cases neg <;> simp
  split at e
  · next x xs =>
    split at e
    · next hc =>
      subst e
      obtain ⟨u, v, rfl, h1, h2⟩ := repL2 r
      cases h2 with
      | lst ha hl hk =>
        have q := w H (Same.refl H)
        rw [fin x xs u _ hc.1 hc.2 h1 ⟨hl, hk⟩] at q
        exact ⟨_, _, rfl, .inl (.inl (.inl ha)), rep_flatV hc.1 h1, reps_flat hc.2 ⟨hl, hk⟩, q⟩
    · subst e; exact w.elim
  · next x xs =>
    split at e
    · next hc =>
      subst e
      obtain ⟨u, v, rfl, h1, h2⟩ := repL2 r
      cases h2 with
      | tup ha hl hk =>
        have q := w H (Same.refl H)
        rw [fin x xs u _ hc.1 hc.2 h1 ⟨hl, hk⟩] at q
        exact ⟨_, _, rfl, .inr ha, rep_flatV hc.1 h1, reps_flat hc.2 ⟨hl, hk⟩, q⟩
    · subst e; exact w.elim
  · subst e; exact w.elim
theorem road_in : Road X G W (compareOp .In) (finP (bIn false)) := road_prim op_in_seq prim_in
theorem road_notIn : Road X G W (compareOp .NotIn) (finP (bIn true)) := road_prim op_notIn_seq prim_in
end
end VS
/-! VSq: a small language with slots for names, its meaning. -/
namespace VS
open PySem PySem.Spec PyProof.Rows L2

inductive BO where
  | add | sub | mul | div | mod | pow
inductive CO where
  | lt | le | gt | ge | eq | ne | is | isn | inn | nin
inductive BI where
  | len | sum | all | abs | max | min | int | list | tuple | repr | str
mutual
inductive Ex where
  | nm (i : Nat) | k (d : S0) | bin (o : BO) (a b : Ex) | neg (a : Ex) | cmp (o : CO) (a b : Ex) | chain (o p : CO) (a b c : Ex) | nott (a : Ex) | and (es : List Ex) | or (es : List Ex)
  | ix (a b : Ex) | cut (a b c : Ex) | cutL (a b : Ex) | cutU (a b : Ex) | rev (a : Ex) | lst (es : List Ex) | tup (es : List Ex) | bi (b : BI) (es : List Ex) | call (c : Nat) (es : List Ex) | mth (m : Nat) (o : Ex) (es : List Ex)
  | fld (f : Str) (o : Ex) | isi (c : CK) (o : Ex) | isiT (ks : List CK) (o : Ex) | lrg (a : Ex) | trg (a : Ex) | app (i : Nat) (e : Ex) | pop (i : Nat) | clr (i : Nat) | lc (w : Wx) (p : Pat) (t : Option Tx) (e : Ex) (vs : List Nat) | fst (es : List Ex) | fmr (e : Ex) | kt (ds : List S0)
inductive Tx where
  | tru (e : Ex) | nott (t : Tx) | and (ts : List Tx) | or (ts : List Tx) | cmp (o : CO) (a b : Ex) | chain (o p : CO) (a b c : Ex)
inductive Wx where
  | seq (e : Ex) | rng (es : List Ex) | enum (e : Ex) | zip (a b : Ex)
end
inductive Sm where
  | nx | fgt (is : List Nat) | asg (p : Pat) (e : Ex) | setIx (i : Nat) (a e : Ex) | setFld (i : Nat) (f : Str) (e : Ex) | drop (e : Ex) | iff (t : Tx) (a b : List Sm) | for (w : Wx) (p : Pat) (b : List Sm) | whl (n : Nat) (t : Tx) (b : List Sm) | ret (e : Ex) | retN | bad
/-- what the names of defs, methods, fields, classes mean -/
structure Ev where
  calls : Nat → Sel × Fn
  mths : Nat → Str → Option (Sel × Fn)
  flds : Str → Str → Option Nat
  isi : CK → CK → Option Bool
  sps : Str → Str → Option Fn
def isOwn1 : List D → Bool
  | .obj _ _ :: _ => true
  | _ => false
/-- slots of which nothing is kept -/
def fgtS : List Nat → Sl → Sl
  | [], s => s
  | i :: is, s => fgtS is (s.set i .un)
def finB : BO → Fin1
  | .add => finAdd
  | .sub => finP bSub
  | .mul => finIf isTI (finS qRepT) finMul
  | .div => finP bDiv
  | .mod => finP bMod
  | .pow => finP bPow
def finC (Γ : Ev) : CO → Fin1
  | .lt => finP bLt
  | .le => finP bLe
  | .gt => finP bGt
  | .ge => finP bGe
  | .eq => finIf isOwn1 (finP (bEqO Γ.isi (Γ.sps (Str.ofString "__eq__")) false)) (finIf isM1 (finP (bEqM Γ.isi (Γ.sps (Str.ofString "__eq__")) false)) finEq)
  | .ne => finIf isOwn1 (finP (bEqO Γ.isi (Γ.sps (Str.ofString "__eq__")) true)) (finIf isM1 (finP (bEqM Γ.isi (Γ.sps (Str.ofString "__eq__")) true)) finNe)
  | .is => finP (bIs false)
  | .isn => finP (bIs true)
  | .inn => finP (bIn false)
  | .nin => finP (bIn true)
def finBI (Γ : Ev) : BI → Fin1
  | .len => finIf isOwn1 (finP (bOwn (Γ.sps (Str.ofString "__len__")) okLen)) (finP bLen)
  | .sum => finP bSum
  | .all => finP bAll
  | .abs => finP bAbs
  | .max => finP bMax
  | .min => finP bMin
  | .int => finP bInt
  | .list => finS qListOf
  | .tuple => finS qTupOf
  | .repr => finIf isOwn1 (finP (bOwn (Γ.sps (Str.ofString "__repr__")) okStr)) (finP bRepr)
  | .str => finIf isOwn1 (finP (bOwn (Γ.sps (Str.ofString "__str__")) okStr)) (finP bStr)
def finFmr (Γ : Ev) : Fin1 := finIf isOwn1 (finP (bOwn (Γ.sps (Str.ofString "__repr__")) okStrZ)) (finP bRepr)
section
variable (Γ : Ev)
mutual
def evX : Ex → Sl → Out Op
  | .nm i => evName i
  | .k d => evC d.toD
  | .bin o a b => evF [evX a, evX b] (finB o)
  | .neg a => evF [evX a] finNeg
  | .cmp o a b => evF [evX a, evX b] (finC Γ o)
  | .chain o p a b c => evChain (evX a) (evX b) (evX c) (finC Γ o) (finC Γ p)
  | .nott a => evF [evX a] finNot
  | .and es => evBoolV .And (evXs es)
  | .or es => evBoolV .Or (evXs es)
  | .ix a b => evF [evX a, evX b] (finS qIx)
  | .cut a b c => evF [evX a, evInt (evX b), evInt (evX c)] (finS (qCut true true))
  | .cutL a b => evF [evX a, evInt (evX b)] (finS (qCut true false))
  | .cutU a b => evF [evX a, evInt (evX b)] (finS (qCut false true))
  | .rev a => evF [evX a] (finS qRvA)
  | .lst es => evF (evXs es) finList
  | .tup es => evF (evXs es) finTup
  | .bi b es => evF (evXs es) (finBI Γ b)
  | .call c es => evF (evXs es) (finSel (Γ.calls c).1 (finCall (Γ.calls c).2))
  | .mth m o es => evMeth (Γ.mths m) (evX o) (evXs es)
  | .fld f o => evFld (Γ.flds f) (evX o)
  | .isi c o => evIsi Γ.isi c (evX o)
  | .isiT ks o => evIsiT Γ.isi ks (evX o)
  | .lrg a => evF [evX a] (finS qLrg)
  | .trg a => evF [evX a] (finS qTrg)
  | .app i e => evApp i (evX e)
  | .pop i => evPop i
  | .clr i => evClear i
  | .lc w p t e vs => evLC (evW w) p (evTo t) (evX e) vs
  | .fst es => evJoin (evXs es) Str.empty
  | .fmr e => evF [evX e] (finFmr Γ)
  | .kt ds => evC (.tup (ds.map S0.toD))
def evXs : List Ex → List (Sl → Out Op)
  | [] => []
  | e :: es => evX e :: evXs es
def evT : Tx → Sl → Out Bool
  | .tru e => evTru (evX e)
  | .nott t => evNotB (evT t)
  | .and ts => evBoolB .And (evTs ts)
  | .or ts => evBoolB .Or (evTs ts)
  | .cmp o a b => evTest (evF [evX a, evX b] (finC Γ o))
  | .chain o p a b c => evTest (evChain (evX a) (evX b) (evX c) (finC Γ o) (finC Γ p))
def evTs : List Tx → List (Sl → Out Bool)
  | [] => []
  | t :: ts => evT t :: evTs ts
def evTo : Option Tx → Sl → Out Bool
  | none => evYes
  | some t => evT t
def evW : Wx → Sl → Out Walked
  | .seq e => evIterSeq (evX e)
  | .rng es => evRange (evXs es)
  | .enum e => evEnum (evX e)
  | .zip a b => evZip (evX a) (evX b)
end
mutual
def evSm : Sm → List Nat → Sl → SO
  | .nx, _ => evNx
  | .fgt is, _ => fun s => .nx (fgtS is s)
  | .asg p e, fx => evAsg fx p (evX Γ e)
  | .setIx i a e, _ => evSetIx i (evX Γ a) (evX Γ e)
  | .setFld i f e, _ => evSetFld i (Γ.flds f) (evX Γ e)
  | .drop e, _ => evDrop (evX Γ e)
  | .iff t a b, fx => evIfS (evT Γ t) (evSs a fx) (evSs b fx)
  | .for w p b, fx => evFor fx (evW Γ w) p (fun fy => evSs b fy)
  | .whl n t b, fx => evWhile (evT Γ t) (evSs b fx) n
  | .ret e, fx => evRet fx (evX Γ e)
  | .retN, _ => evRetN
  | .bad, _ => fun _ => .bad
def evSs : List Sm → List Nat → Sl → SO
  | [], _ => evNx
  | a :: b, fx => evSeq (evSm a fx) (evSs b fx)
end
end
/-- a def: its parameters, its names, the parameters that stay, its body -/
structure Df where
  n : Nat
  m : Nat
  fx : List Nat
  body : List Sm
def Df.run (Γ : Ev) (d : Df) : Fn := runF d.n d.m d.fx (evSs Γ d.body d.fx)

/-! ### the look that a text is this -/
def beqS0 : S0 → S0 → Bool
  | .non, .non => true
  | .bl a, .bl b => a == b
  | .int a, .int b => a == b
  | .str a, .str b => decide (a = b)
  | _, _ => false
theorem beqS0_eq {a b : S0} (h : beqS0 a b = true) : a = b := by
  cases a <;> cases b <;> simp_all [beqS0]
def beqS0s : List S0 → List S0 → Bool
  | [], [] => true
  | a :: as, b :: bs => beqS0 a b && beqS0s as bs
  | _, _ => false
theorem beqS0s_eq : ∀ {as bs : List S0}, beqS0s as bs = true → as = bs
  | [], [], _ => rfl
  | [], _ :: _, h => by simp [beqS0s] at h
  | _ :: _, [], h => by simp [beqS0s] at h
  | a :: as, b :: bs, h => by
    unfold beqS0s at h
    rw [Bool.and_eq_true] at h
    rw [beqS0_eq h.1, beqS0s_eq h.2]
structure Ck where
  N : List Str
  gls : List (Str × S0)
  calls : List (Str × Nat × List Str)
  mths : List (Str × Nat × List Str)
  clss : List (Str × Str)
  nob : List Str
  gts : List (Str × List S0)
def visB (sc : Scope) (x : Str) : Bool := match sc.names.lookup x with
  | some .local => true
  | some .cell => true
  | some .free => true
  | _ => false
def glB (sc : Scope) (x : Str) : Bool := match sc.names.lookup x with
  | some .globalImplicit => true
  | _ => false
def stB (fnT : Str → Bool) (sc : Scope) (x : Str) : Bool := match sc.names.lookup x with
  | some .local => true
  | some .cell => fnT x
  | _ => false
def plainName (x : Str) : Bool := !(x == ("__debug__" : Str)) && !(x == ("__classdict__" : Str))
def nameC (ck : Ck) (sc : Scope) (i : Nat) (x : Str) : Bool := decide (ck.N[i]? = some x) && visB sc x && plainName x
/-- a built-in's name, not stored in the module -/
def nobC (ck : Ck) (sc : Scope) (x : Str) : Bool := glB sc x && ck.nob.contains x
def constC : Const → S0 → Bool
  | .none, .non => true
  | .bool a, .bl b => a == b
  | .int a, .int b => a == b
  | .str a, .str b => decide (a = b)
  | _, _ => false
def boC : Operator → BO → Bool
  | .Add, .add => true
  | .Sub, .sub => true
  | .Mult, .mul => true
  | .FloorDiv, .div => true
  | .Mod, .mod => true
  | .Pow, .pow => true
  | _, _ => false
def coC : CmpOp → CO → Bool
  | .Lt, .lt => true
  | .LtE, .le => true
  | .Gt, .gt => true
  | .GtE, .ge => true
  | .Eq, .eq => true
  | .NotEq, .ne => true
  | .Is, .is => true
  | .IsNot, .isn => true
  | .In, .inn => true
  | .NotIn, .nin => true
  | _, _ => false
def biName : BI → Str
  | .len => "len"
  | .sum => "sum"
  | .all => "all"
  | .abs => "abs"
  | .max => "max"
  | .min => "min"
  | .int => "int"
  | .list => "list"
  | .tuple => "tuple"
  | .repr => "repr"
  | .str => "str"
def patNames (ck : Ck) (fnT : Str → Bool) (sc : Scope) : List Expr → List Nat → Bool
  | [], [] => true
  | .Name x _ :: es, i :: is => decide (ck.N[i]? = some x) && stB fnT sc x && patNames ck fnT sc es is
  | _, _ => false
def patC (ck : Ck) (fnT : Str → Bool) (sc : Scope) : Expr → Pat → Bool
  | .Name x p, .nm i => patNames ck fnT sc [.Name x p] [i]
  | .Tuple es _ _, .tp is => patNames ck fnT sc es is
  | _, _ => false
def clsC (ck : Ck) (sc : Scope) : CK → Expr → Bool
  | .inl n, .Name x _ => nobC ck sc x && decide (x = Str.ofString n) && (n == "int" || n == "bool" || n == "str" || n == "list" || n == "tuple") && plainName x
  | .inr c, .Name x _ => glB sc x && plainName x && decide (ck.clss.lookup x = some c)
  | _, _ => false
def clsCs (ck : Ck) (sc : Scope) : List CK → List Expr → Bool
  | [], [] => true
  | k :: ks, e :: es => clsC ck sc k e && clsCs ck sc ks es
  | _, _ => false
def tgC : Wx → Expr → Bool
  | .enum _, .Tuple .. => true
  | .zip _ _, .Tuple .. => true
  | .enum _, _ => false
  | .zip _ _, _ => false
  | _, _ => true
def slotNames (ck : Ck) (vs : List Nat) : List (Str × Nat) := vs.map fun i => (ck.N.getD i Str.empty, i)
mutual
def chkE : Nat → Ck → Scope → Expr → Ex → Bool
  | 0, _, _, _, _ => false
  | n + 1, ck, sc, e, x => match x, e with
    | .nm i, .Name s _ => nameC ck sc i s
    | .k d, .Constant c _ _ => constC c d
    | .k d, .Name s _ => glB sc s && plainName s && (match ck.gls.lookup s with
      | some d' => beqS0 d' d
      | none => false)
    | .bin o a b, .BinOp l op r _ => boC op o && chkE n ck sc l a && chkE n ck sc r b
    | .neg a, .UnaryOp .USub l _ => chkE n ck sc l a
    | .nott a, .UnaryOp .Not l _ => chkE n ck sc l a
    | .cmp o a b, .Compare l [op] [r] _ => coC op o && chkE n ck sc l a && chkE n ck sc r b && noSet r
    | .chain o p a b c, .Compare l [op, op'] [r, r'] _ => coC op o && coC op' p && chkE n ck sc l a && chkE n ck sc r b && chkE n ck sc r' c && noSet r'
    | .and es, .BoolOp .And ls _ => chkEs n ck sc ls es
    | .or es, .BoolOp .Or ls _ => chkEs n ck sc ls es
    | .ix a b, .Subscript l r _ => chkE n ck sc l a && chkE n ck sc r b && notSlice r
    | .cut a b c, .Subscript l (.Slice (some lo) (some hi) none _) _ => chkE n ck sc l a && chkE n ck sc lo b && chkE n ck sc hi c
    | .cutL a b, .Subscript l (.Slice (some lo) none none _) _ => chkE n ck sc l a && chkE n ck sc lo b
    | .cutU a b, .Subscript l (.Slice none (some hi) none _) _ => chkE n ck sc l a && chkE n ck sc hi b
    | .rev a, .Subscript l (.Slice none none (some (.UnaryOp .USub (.Constant (.int 1) _ _) _)) _) _ => chkE n ck sc l a
    | .lst es, .List ls _ => chkEs n ck sc ls es
    | .tup es, .Tuple ls _ _ => chkEs n ck sc ls es
    | .bi b es, .Call (.Name s _) (l :: ls) [] _ => nobC ck sc s && decide (s = biName b) && chkEs n ck sc (l :: ls) es
    | .call c es, .Call (.Name s _) ls kws _ => glB sc s && plainName s && decide (ck.calls[c]? = some (s, ls.length, kwNames kws)) && kwAll kws && chkEs n ck sc (ls ++ kws.map (·.value)) es
    | .mth m o es, .Call (.Attribute l s ap) ls kws p => decide (ck.mths[m]? = some (s, ls.length, kwNames kws)) && kwAll kws && absB l && decide (ls.length + kws.length < 29) && (ap.endLine == p.line) && chkE n ck sc l o && chkEs n ck sc (ls ++ kws.map (·.value)) es
    | .fld f o, .Attribute l s _ => decide (s = f) && absB l && chkE n ck sc l o
    | .isi c o, .Call (.Name s _) [l, cl] [] _ => nobC ck sc s && decide (s = Str.ofString "isinstance") && chkE n ck sc l o && notStar l && clsC ck sc c cl
    | .isiT ks o, .Call (.Name s _) [l, .Tuple cs _ _] [] _ => nobC ck sc s && decide (s = Str.ofString "isinstance") && chkE n ck sc l o && notStar l && clsCs ck sc ks cs && !ks.isEmpty && decide (ks.length < 1000)
    | .lrg a, .Call (.Name s _) [.Call (.Name s2 _) [l] [] _] [] _ => nobC ck sc s && decide (s = Str.ofString "list") && nobC ck sc s2 && decide (s2 = Str.ofString "range") && chkE n ck sc l a && notStar l
    | .trg a, .Call (.Name s _) [.Call (.Name s2 _) [l] [] _] [] _ => nobC ck sc s && decide (s = Str.ofString "tuple") && nobC ck sc s2 && decide (s2 = Str.ofString "range") && chkE n ck sc l a && notStar l
    | .app i a, .Call (.Attribute (.Name s _) m ap) [l] [] p => nameC ck sc i s && decide (m = Str.ofString "append") && (ap.endLine == p.line) && chkE n ck sc l a && notStar l
    | .pop i, .Call (.Attribute (.Name s _) m ap) [] [] p => nameC ck sc i s && decide (m = Str.ofString "pop") && (ap.endLine == p.line)
    | .clr i, .Call (.Attribute (.Name s _) m ap) [] [] p => nameC ck sc i s && decide (m = Str.ofString "clear") && (ap.endLine == p.line)
    | .lc w p t a vs, .ListComp elt [⟨tg, it, ifs, 0⟩] scope _ => chkW n ck sc it w && tgC w tg && noSet it && blkC ck.N sc scope (slotNames ck vs) && p.slots.all (fun j => vs.contains j) && patC ck (fun x => scope.names.lookup x == some .cell) (relS scope sc) tg p &&
        chkTo n ck (relS scope sc) ifs t && chkE n ck (relS scope sc) elt a
    | .fst es, .JoinedStr (v1 :: v2 :: vs) _ => chkEs n ck sc (v1 :: v2 :: vs) es
    | .fmr a, .FormattedValue l 114 none _ => chkE n ck sc l a
    | .kt ds, .Name s _ => glB sc s && plainName s && (match ck.gts.lookup s with
      | some ds' => beqS0s ds' ds
      | none => false)
    | _, _ => false
def chkEs : Nat → Ck → Scope → List Expr → List Ex → Bool
  | 0, _, _, _, _ => false
  | _ + 1, _, _, [], [] => true
  | n + 1, ck, sc, e :: es, x :: xs => notStar e && chkE n ck sc e x && chkEs n ck sc es xs
  | _ + 1, _, _, _, _ => false
def chkT : Nat → Ck → Scope → Expr → Tx → Bool
  | 0, _, _, _, _ => false
  | n + 1, ck, sc, e, t => match t, e with
    | .nott t, .UnaryOp .Not l _ => chkT n ck sc l t
    | .and ts, .BoolOp .And ls _ => chkTs n ck sc ls ts
    | .or ts, .BoolOp .Or ls _ => chkTs n ck sc ls ts
    | .cmp o a b, .Compare l [op] [r] _ => coC op o && chkE n ck sc l a && chkE n ck sc r b && noSet r
    | .chain o p a b c, .Compare l [op, op'] [r, r'] _ => coC op o && coC op' p && chkE n ck sc l a && chkE n ck sc r b && chkE n ck sc r' c && noSet r'
    | .tru a, e => plainTest e && chkE n ck sc e a
    | _, _ => false
def chkTs : Nat → Ck → Scope → List Expr → List Tx → Bool
  | 0, _, _, _, _ => false
  | _ + 1, _, _, [], [] => true
  | n + 1, ck, sc, e :: es, x :: xs => chkT n ck sc e x && chkTs n ck sc es xs
  | _ + 1, _, _, _, _ => false
def chkTo : Nat → Ck → Scope → List Expr → Option Tx → Bool
  | 0, _, _, _, _ => false
  | _ + 1, _, _, [], none => true
  | n + 1, ck, sc, [e], some t => chkT n ck sc e t
  | _ + 1, _, _, _, _ => false
def chkW : Nat → Ck → Scope → Expr → Wx → Bool
  | 0, _, _, _, _ => false
  | n + 1, ck, sc, e, w => match w, e with
    | .seq a, e => chkE n ck sc e a
    | .rng [a], .Call (.Name s _) [l] [] _ => nobC ck sc s && decide (s = Str.ofString "range") && chkE n ck sc l a && notStar l
    | .rng [a, b], .Call (.Name s _) [l, r] [] _ => nobC ck sc s && decide (s = Str.ofString "range") && chkE n ck sc l a && notStar l && chkE n ck sc r b && notStar r
    | .enum a, .Call (.Name s _) [l] [] _ => nobC ck sc s && decide (s = Str.ofString "enumerate") && chkE n ck sc l a && notStar l
    | .zip a b, .Call (.Name s _) [l, r] [] _ => nobC ck sc s && decide (s = Str.ofString "zip") && chkE n ck sc l a && notStar l && chkE n ck sc r b && notStar r
    | _, _ => false
end
def notComp : Expr → Bool
  | .ListComp .. => false
  | .SetComp .. => false
  | .DictComp .. => false
  | _ => true
def notTup : Expr → Bool
  | .Tuple .. => false
  | _ => true
/-- does the name's store go ahead of the comprehension's end -/
def swapB (sc scope : Scope) (t : Str) (pos vpos : Pos) : Bool := (match sc.names.lookup t with
  | some .local => true
  | _ => false) && (pos.line == vpos.line) && !(scope.names.any fun (n, k) => n == t && (k == .local || k == .cell))
mutual
def chkS : Nat → Ck → Scope → Stmt → Sm → Bool
  | 0, _, _, _, _ => false
  | n + 1, ck, sc, st, x => match x, st with
    | .nx, .Pass _ => true
    | .nx, .Expr (.Constant (.str _) _ _) _ => true
    | .asg p e, .Assign [.Name s q] v pos => patC ck (fun _ => true) sc (.Name s q) p && chkE n ck sc v e
    | .asg p e, .Assign [.Tuple es k q] v pos => patC ck (fun _ => true) sc (.Tuple es k q) p && chkE n ck sc v e && notTup v
    | .setIx i a e, .Assign [.Subscript (.Name s _) l _] v pos => nameC ck sc i s && chkE n ck sc l a && notSlice l && chkE n ck sc v e
    | .setFld i f e, .Assign [.Attribute (.Name s _) g _] v pos => nameC ck sc i s && decide (g = f) && chkE n ck sc v e && notComp v
    | .drop e, .Expr v pos => chkE n ck sc v e && notComp v
    | .iff t a b, .If c as bs _ => chkT n ck sc c t && chkSs n ck sc as a && chkSs n ck sc bs b
    | .for w p b, .For tg it bs [] _ => chkW n ck sc it w && tgC w tg && noSet it && patC ck (fun _ => true) sc tg p && chkSs n ck sc bs b
    | .whl _ t b, .While c bs [] _ => chkT n ck sc c t && chkSs n ck sc bs b
    | .ret e, .Return (some v) _ => chkE n ck sc v e
    | .retN, .Return none _ => true
    | .bad, _ => true
    | _, _ => false
def chkSs : Nat → Ck → Scope → List Stmt → List Sm → Bool
  | 0, _, _, _, _ => false
  | _ + 1, _, _, [], [] => true
  | n + 1, ck, sc, es, .fgt _ :: xs => chkSs n ck sc es xs
  | n + 1, ck, sc, e :: es, x :: xs => chkS n ck sc e x && chkSs n ck sc es xs
  | _ + 1, _, _, _, _ => false
end
end VS
/-! VSr: what the look finds means what the text does. -/
namespace VS
open PySem PySem.Spec PyProof.Rows L2

inductive CallOk (P : Program) (w : World) (K : PySem.W.Frag) (mg : Str → Option Value) (base : Heap) (A : Around) (G : GEnv) (x : Str) (n : Nat) (ks : List Str) (sf : Sel × Fn) : Prop
  | fn {k : Nat} {f : Addr} {fd : FuncData} {ps : List Str} (hF : FnG P w K mg base k f fd ps (spF K G sf.2)) (hr : Room k A) (hm : mg x = some (.ref f)) (hk : PySem.W.keepIn K (.ref f) = true) (hb : ∃ g, KBn K fd ps n ks g (fun vs zs => pickV sf.1 (vs ++ zs)))
  | mk {k : Nat} {f : Addr} {fd : FuncData} {ps : List Str} {c : Str} {ci : CInfo} {fr : Bool} {F : Fn} (hc : G c = some ci) (he : ci.exn = false) (M : Mk K ci.addr f) (hF : FnG P w K mg base k f fd ps (spF K G F)) (hr : Room (k + 1) A) (hm : mg x = some (.ref ci.addr))
      (hb : ∃ g, KBn K fd ps (n + 1) ks g (fun vs zs => pickV sf.1.up (vs ++ zs))) (e : sf.2 = makeF c fr F)
/-- a tuple of constants, a name of the module -/
def GtK (K : PySem.W.Frag) (mg : Str → Option Value) (x : Str) (ds : List S0) : Prop := ∃ (a : Addr) (o : Obj) (its : Array Value) (n : Nat), mg x = some (.ref a) ∧ K.lookup a = some o ∧ o.cls = .type "tuple" ∧ o.data = .seq its n ∧ its.size ≤ sizeLine ∧ Vals (ds.map S0.toV) its.toList
structure CxK (G : GEnv) (Γ : Ev) (ck : Ck) (X : Cx) : Prop where
  hN : X.N = ck.N
  nd : X.N.Nodup
  calm : X.calm = true
  gd : X.A.guards = some []
  un : X.A.units + 64 < cLine
  gls : ∀ x d, ck.gls.lookup x = some d → ∃ u, X.mg x = some u ∧ RelV d.toV u
  nob : ∀ x ∈ ck.nob, X.mg x = none
  calls : ∀ c x n ks, ck.calls[c]? = some (x, n, ks) → CallOk X.prog X.w X.K X.mg X.base X.A G x n ks (Γ.calls c)
  mths : ∀ m x n ks, ck.mths[m]? = some (x, n, ks) → MethOk X G x n ks (Γ.mths m)
  flds : ∀ f, FldOk X.K G f (Γ.flds f)
  isi : IsiTab X.K G Γ.isi
  clss : ∀ x c, ck.clss.lookup x = some c → ∃ ci, G c = some ci ∧ X.mg x = some (.ref ci.addr)
  sps : ∀ d c F, Γ.sps d c = some F → SpOk X G d c F
  gts : ∀ x ds, ck.gts.lookup x = some ds → GtK X.K X.mg x ds
section
variable {G : GEnv} {Γ : Ev} {ck : Ck} {X : Cx} {W : WX} {sc : Scope} {i : Nat} {x : Str}
theorem CxK.blk (h : CxK G Γ ck X) (s : Shared) (H : Hp) (scope : Scope) (env : Env) (fp : List Addr) : CxK G Γ ck (X.blk s H scope env fp) :=
  ⟨h.hN, h.nd, h.calm, h.gd, h.un, h.gls, h.nob, h.calls, h.mths, h.flds, h.isi, h.clss, fun d c F e => ⟨(h.sps d c F e).ex⟩, h.gts⟩
theorem visB_ok (hs : X.env.scope = sc) (h : visB sc x = true) : Vis X.env.scope x := by
  rw [hs]
  unfold visB at h
  split at h
  · next q => exact .inl q
  · next q => exact .inr (.inl q)
  · next q => exact .inr (.inr q)
  · cases h
theorem glB_ok (hs : X.env.scope = sc) (h : glB sc x = true) : Gl X x := by
  unfold Gl Env.kindOf
  rw [hs]
  unfold glB at h
  split at h
  · next q => exact q
  · cases h
theorem plainName_ok (h : plainName x = true) : (x == ("__debug__" : Str)) = false ∧ (x == ("__classdict__" : Str)) = false := by
  unfold plainName at h
  rw [Bool.and_eq_true, Bool.not_eq_true', Bool.not_eq_true'] at h
  exact h
theorem nameC_ok (h : CxK G Γ ck X) (hs : X.env.scope = sc) (q : nameC ck sc i x = true) : X.N[i]? = some x ∧ Vis X.env.scope x ∧ (x == ("__debug__" : Str)) = false ∧ (x == ("__classdict__" : Str)) = false := by
  unfold nameC at q
  rw [Bool.and_eq_true, Bool.and_eq_true, decide_eq_true_eq] at q
  obtain ⟨⟨h1, h2⟩, h3⟩ := q
  exact ⟨by rw [h.hN]; exact h1, visB_ok hs h2, (plainName_ok h3).1, (plainName_ok h3).2⟩
theorem nobC_ok (h : CxK G Γ ck X) (hs : X.env.scope = sc) (q : nobC ck sc x = true) : Gl X x ∧ X.mg x = none := by
  unfold nobC at q
  rw [Bool.and_eq_true] at q
  refine ⟨glB_ok hs q.1, h.nob x ?_⟩
  have := q.2
  rw [List.contains_eq_mem] at this
  exact of_decide_eq_true this
theorem const_ok {c : Const} {d : S0} {j : Nat} {p : Pos} (h : constC c d = true) : PE X (.Constant c j p) (tC d.toV) := by
  cases c <;> cases d <;> first | exact absurd h Bool.false_ne_true | skip
  · exact pe_non
  · have : _ = _ := beq_iff_eq.mp (show (_ == _) = true from h)
    subst this
    exact pe_bl
  · have : _ = _ := beq_iff_eq.mp (show (_ == _) = true from h)
    subst this
    exact pe_int
  · have : _ = _ := of_decide_eq_true (show decide _ = true from h)
    subst this
    exact pe_str
theorem vo_k {e : Expr} {d : S0} (h : PE X e (tC d.toV)) : VO X G W e (evC d.toD) := vo_const h fun _ => d.rep
theorem bo_ok {op : Operator} {o : BO} (h : boC op o = true) : Road X G W (binaryOp op) (finB o) := by
  cases op <;> cases o <;> first | exact absurd h Bool.false_ne_true | exact road_add | exact road_sub | exact road_repT.or road_mul | exact road_div | exact road_mod | exact road_pow
theorem co_ok (hx : CxK G Γ ck X) {op : CmpOp} {o : CO} (h : coC op o = true) : Road X G W (compareOp op) (finC Γ o) := by
  have hu := hx.un
  have r1 : Road X G W (compareOp .Eq) (finP (bEqO Γ.isi (Γ.sps (Str.ofString "__eq__")) false)) := road_prim (op_eqO (neg := false) hx.isi (fun c F e => (hx.sps _ c F e).eqC) hx.gd hu) prim_eqO
  have r2 : Road X G W (compareOp .NotEq) (finP (bEqO Γ.isi (Γ.sps (Str.ofString "__eq__")) true)) := road_prim (op_eqO (neg := true) hx.isi (fun c F e => (hx.sps _ c F e).eqC) hx.gd hu) prim_eqO
  have r3 : Road X G W (compareOp .Eq) (finP (bEqM Γ.isi (Γ.sps (Str.ofString "__eq__")) false)) := road_prim (op_eqM (neg := false) hx.isi (fun c F e => hx.sps _ c F e) hx.gd hu) prim_eqM
  have r4 : Road X G W (compareOp .NotEq) (finP (bEqM Γ.isi (Γ.sps (Str.ofString "__eq__")) true)) := road_prim (op_eqM (neg := true) hx.isi (fun c F e => hx.sps _ c F e) hx.gd hu) prim_eqM
  cases op <;> cases o <;> first | exact absurd h Bool.false_ne_true | exact road_lt | exact road_le | exact road_gt | exact road_ge | exact r1.or (r3.or (road_eq hu)) | exact r2.or (r4.or (road_ne hu)) | exact road_in | exact road_notIn | exact road_is | exact road_isnot
theorem vos_split : ∀ {a b : List Expr} {fs : List (Sl → Out Op)}, VOs X G W (a ++ b) fs → ∃ f1 f2, fs = f1 ++ f2 ∧ VOs X G W a f1 ∧ VOs X G W b f2
  | [], b, fs, h => ⟨[], fs, rfl, .nil, h⟩
  | e :: a, b, _, .cons h r => by
    obtain ⟨f1, f2, e, h1, h2⟩ := vos_split (a := a) r
    exact ⟨_ :: f1, f2, by rw [e]; rfl, .cons h h1, h2⟩
theorem vks_of : ∀ {ks : List Keyword} {fs : List (Sl → Out Op)}, VOs X G W (ks.map (·.value)) fs → VKs X G W ks fs
  | [], _, .nil => .nil
  | ⟨nm, e, p⟩ :: ks, _, .cons h r => .cons h (vks_of r)
/-- a call by the table -/
theorem call_c {sf : Sel × Fn} {es : List Expr} {kws : List Keyword} {p pos : Pos} {fs gs : List (Sl → Out Op)} (h : CxK G Γ ck X) (tk : Takes X W) (hg : Gl X x) (hc : CallOk X.prog X.w X.K X.mg X.base X.A G x es.length (kwNames kws) sf) (h1 : VOs X G W es fs) (hs : es.all notStar = true) (h2 : VKs X G W kws gs) (hks : kwAll kws = true)
    (hdb : (x == ("__debug__" : Str)) = false) : VO X G W (.Call (.Name x p) es kws pos) (evF (fs ++ gs) (finSel sf.1 (finCall sf.2))) := by
  cases hc with
  | fn hF hr hm hk hb => exact vo_fn tk hF hr h.gd hg hm hk hb h1 hs h2 hks hdb
  | mk hc he M hF hr hm hb e =>
    rw [e]
    exact vo_make tk hc he M hF hr h.gd hg hm hb h1 hs h2 hks hdb
/-! ### targets -/
def patG (K : PySem.W.Frag) : Pat → TG
  | .nm i => gName i
  | .tp is => fun v σ H Q => gTup K is.length (gNames is) v σ H Q ∨ gUnl K is.length (gNames is) v σ H Q
theorem patG_ok {K : PySem.W.Frag} : ∀ p : Pat, PatOk K G (patG K p) p
  | .nm i => pat_name
  | .tp is => pat_tup rfl
theorem patNames_ok {fnT : Str → Bool} (h : CxK G Γ ck X) (hs : X.env.scope = sc) (hf : ∀ x, fnT x = true → X.fn x = true) : ∀ {es : List Expr} {is : List Nat}, patNames ck fnT sc es is = true → NamesOk X es is
  | [], [], _ => .nil
  | [], _ :: _, q => by simp [patNames] at q
  | e :: es, [], q => by cases e <;> simp [patNames] at q
  | e :: es, i :: is, q => by
    unfold patNames at q
    split at q
    · next e1 => cases e1
    · next e1 e2 =>
      cases e1
      cases e2
      rw [Bool.and_eq_true, Bool.and_eq_true, decide_eq_true_eq] at q
      obtain ⟨⟨h1, h2⟩, h3⟩ := q
      refine .cons ⟨by rw [h.hN]; exact h1, ?_⟩ (patNames_ok h hs hf h3)
      rw [hs]
      unfold stB at h2
      split at h2
      · next q => exact ⟨.inl q, .inr q⟩
      · next q => exact ⟨.inr q, .inl (hf _ h2)⟩
      · cases h2
    · cases q
theorem patC_ok {fnT : Str → Bool} {tg : Expr} {p : Pat} (h : CxK G Γ ck X) (hs : X.env.scope = sc) (hf : ∀ x, fnT x = true → X.fn x = true) (q : patC ck fnT sc tg p = true) : PG X tg (patG X.K p) := by
  unfold patC at q
  split at q
  · cases patNames_ok h hs hf q with
    | cons h1 _ => exact pg_nameS h.nd h1
  · exact pg_tupS h.calm h.nd (patNames_ok h hs hf q)
  · cases q
theorem slotNames_snd {ck : Ck} : ∀ vs : List Nat, (slotNames ck vs).map (·.2) = vs
  | [] => rfl
  | v :: vs => by
    show v :: (slotNames ck vs).map (·.2) = _
    rw [slotNames_snd vs]
theorem notSet_fold {e : Expr} {env : Env} (h : noSet e = true) : ∀ x, foldedSetIterable e env x = pure x := fun x => by
  cases e <;> first | rfl | exact absurd h (by simp [noSet])
theorem cls_ok {c : CK} {e : Expr} (h : CxK G Γ ck X) (hs : X.env.scope = sc) (q : clsC ck sc c e = true) : ClsE X G c e := by
  unfold clsC at q
  split at q
  · next n s p =>
    rw [Bool.and_eq_true, Bool.and_eq_true, Bool.and_eq_true, decide_eq_true_eq] at q
    obtain ⟨⟨⟨h1, h2⟩, h3⟩, h4⟩ := q
    obtain ⟨hg, hm⟩ := nobC_ok h hs h1
    subst h2
    refine ⟨.ty n, .type n, ?_, .ty n, rfl, rfl⟩
    have hd := (plainName_ok h4).1
    simp only [Bool.or_eq_true, beq_iff_eq] at h3
    rcases h3 with (((h3 | h3) | h3) | h3) | h3 <;> subst h3
    · exact pe_bltn hg hm (u := .type "int") (by decide +kernel) rfl (by decide) hd
    · exact pe_bltn hg hm (u := .type "bool") (by decide +kernel) rfl (by decide) hd
    · exact pe_bltn hg hm (u := .type "str") (by decide +kernel) rfl (by decide) hd
    · exact pe_bltn hg hm (u := .type "list") (by decide +kernel) rfl (by decide) hd
    · exact pe_bltn hg hm (u := .type "tuple") (by decide +kernel) rfl (by decide) hd
  · next c s p =>
    rw [Bool.and_eq_true, Bool.and_eq_true, decide_eq_true_eq] at q
    obtain ⟨⟨h1, h2⟩, h3⟩ := q
    obtain ⟨ci, hc, hm⟩ := h.clss _ _ h3
    refine ⟨.ref ci.addr, .ref ci.addr, pe_glob (glB_ok hs h1) hm rfl (plainName_ok h2).1, .own _, ?_, rfl⟩
    unfold ckVal
    dsimp only
    rw [hc]
  · cases q
theorem clsCs_ok (h : CxK G Γ ck X) (hs : X.env.scope = sc) : ∀ {ks : List CK} {es : List Expr}, clsCs ck sc ks es = true → ClsEs X G ks es
  | [], [], _ => .nil
  | [], _ :: _, q => by simp [clsCs] at q
  | _ :: _, [], q => by simp [clsCs] at q
  | k :: ks, e :: es, q => by
    unfold clsCs at q
    rw [Bool.and_eq_true] at q
    exact .cons (cls_ok h hs q.1) (clsCs_ok h hs q.2)
theorem cr_or {v : Value} {r r' : List V → Hp → VK → Prop} (a : CallR X v r) (b : CallR X v r') : CallR X v (orR r r') := fun pins s σ H xs us Q I rv h => h.elim (a pins s σ H xs us Q I rv) (b pins s σ H xs us Q I rv)
/-- a call of a built-in -/
theorem bi_ok {b : BI} {e : Expr} {es : List Expr} {p pos : Pos} {fs : List (Sl → Out Op)} (h : CxK G Γ ck X) (hg : Gl X (biName b)) (hm : X.mg (biName b) = none) (h1 : VOs X G W (e :: es) fs) (hs : (e :: es).all notStar = true) : VO X G W (.Call (.Name (biName b) p) (e :: es) [] pos) (evF fs (finBI Γ b)) := by
  cases b with
  | len => exact vo_callB (cr_or (call_lenO (fun c F e => h.sps _ c F e) h.gd) call_len) (fin_or (fin_prim prim_own) (fin_prim prim_len)) hg hm (by decide +kernel) h1 hs (by decide) (by decide)
  | sum => exact vo_callB (cr_sum h.calm) (fin_prim prim_sum) hg hm (by decide +kernel) h1 hs (by decide) (by decide)
  | all => exact vo_callB (cr_all h.calm) (fin_prim prim_all) hg hm (by decide +kernel) h1 hs (by decide) (by decide)
  | abs => exact vo_callB call_abs (fin_prim prim_abs) hg hm (by decide +kernel) h1 hs (by decide) (by decide)
  | max => exact vo_callB (call_max2 h.calm) (fin_prim prim_max) hg hm (by decide +kernel) h1 hs (by decide) (by decide)
  | min => exact vo_callB (call_min2 h.calm) (fin_prim prim_min) hg hm (by decide +kernel) h1 hs (by decide) (by decide)
  | int => exact vo_callT call_int1 (fin_prim prim_intc) hg hm (by decide +kernel) h1 hs (by decide) (by decide)
  | list => exact vo_callT call_list_of (fin_seq prim_listOf) hg hm (by decide +kernel) h1 hs (by decide) (by decide)
  | tuple => exact vo_callT call_tuple_of (fin_seq prim_tupOf) hg hm (by decide +kernel) h1 hs (by decide) (by decide)
  | repr => exact vo_callB (cr_or (call_reprO (fun c F e => h.sps _ c F e) h.gd h.un) (cr_repr h.gd h.un)) (fin_or (fin_prim prim_own) (fin_prim prim_repr)) hg hm (by decide +kernel) h1 hs (by decide) (by decide)
  | str => exact vo_callT (cr_or (call_strO (fun c F e => h.sps _ c F e) h.gd h.un) cr_str) (fin_or (fin_prim prim_own) (fin_prim prim_str)) hg hm (by decide +kernel) h1 hs (by decide) (by decide)
end
end VS
/-! VSs: the look is sound. -/
namespace VS
open PySem PySem.Spec PyProof.Rows L2

section
variable {G : GEnv} {Γ : Ev} {ck : Ck}
structure SndE (G : GEnv) (Γ : Ev) (ck : Ck) (n : Nat) (X : Cx) (W : WX) (sc : Scope) : Prop where
  e : ∀ e x, chkE n ck sc e x = true → VO X G W e (evX Γ x)
  es : ∀ e x, chkEs n ck sc e x = true → VOs X G W e (evXs Γ x) ∧ e.all notStar = true
  t : ∀ e x, chkT n ck sc e x = true → VT X G W e (evT Γ x)
  ts : ∀ e x, chkTs n ck sc e x = true → VTs X G W e (evTs Γ x)
  o : ∀ e x, chkTo n ck sc e x = true → PTs X e (tT X.K G W (evTo Γ x))
  w : ∀ tg e x, chkW n ck sc e x = true → tgC x tg = true → VI X G W tg e (evW Γ x)
theorem sndE : ∀ (n : Nat) (X : Cx) (W : WX) (sc : Scope), CxK G Γ ck X → X.env.scope = sc → Takes X W → SndE G Γ ck n X W sc
  | 0, X, W, sc, h, hs, tk => ⟨fun e x q => (by simp [chkE] at q), fun e x q => (by simp [chkEs] at q), fun e x q => (by simp [chkT] at q), fun e x q => (by simp [chkTs] at q), fun e x q => (by simp [chkTo] at q), fun tg e x q => (by simp [chkW] at q)⟩
  | n + 1, X, W, sc, h, hs, tk => by
    have S := sndE n X W sc h hs tk
    refine ⟨fun e x q => ?_, fun e x q => ?_, fun e x q => ?_, fun e x q => ?_, fun e x q => ?_, fun tg e x q => ?_⟩
    · unfold chkE at q
      split at q
      · -- a name
        obtain ⟨h1, h2, h3, h4⟩ := nameC_ok h hs q
        simp only [evX]
        exact vo_name h1 h2 h3 h4
      · simp only [evX]
        exact vo_k (const_ok q)
      · -- a constant of the module
        rw [Bool.and_eq_true, Bool.and_eq_true] at q
        obtain ⟨⟨h1, h2⟩, h3⟩ := q
        split at h3
        · next d' hd =>
          have := beqS0_eq h3
          subst this
          obtain ⟨u, hm, r⟩ := h.gls _ _ hd
          simp only [evX]
          exact vo_k (pe_glob (glB_ok hs h1) hm r (plainName_ok h2).1)
        · cases h3
      · simp only [Bool.and_eq_true] at q
        simp only [evX]
        exact vo_bin (bo_ok q.1.1) (S.e _ _ q.1.2) (S.e _ _ q.2)
      · simp only [evX]
        exact vo_neg (S.e _ _ q)
      · simp only [evX]
        exact vo_not (S.e _ _ q)
      · simp only [Bool.and_eq_true] at q
        simp only [evX]
        exact vo_cmp (co_ok h q.1.1.1) (S.e _ _ q.1.1.2) (S.e _ _ q.1.2) (noMark q.2)
      · simp only [Bool.and_eq_true] at q
        simp only [evX]
        exact vo_chain (co_ok h q.1.1.1.1.1) (co_ok h q.1.1.1.1.2) (S.e _ _ q.1.1.1.2) (S.e _ _ q.1.1.2) (S.e _ _ q.1.2) q.2
      · simp only [evX]
        exact vo_bool (S.es _ _ q).1
      · simp only [evX]
        exact vo_bool (S.es _ _ q).1
      · simp only [Bool.and_eq_true] at q
        simp only [evX]
        exact vo_ix (S.e _ _ q.1.1) (S.e _ _ q.1.2) q.2
      · simp only [Bool.and_eq_true] at q
        simp only [evX]
        exact vo_cut2 (S.e _ _ q.1.1) (S.e _ _ q.1.2) (S.e _ _ q.2)
      · simp only [Bool.and_eq_true] at q
        simp only [evX]
        exact vo_cutL (S.e _ _ q.1) (S.e _ _ q.2)
      · simp only [Bool.and_eq_true] at q
        simp only [evX]
        exact vo_cutU (S.e _ _ q.1) (S.e _ _ q.2)
      · simp only [evX]
        exact vo_rvA (S.e _ _ q)
      · simp only [evX]
        exact vo_list (S.es _ _ q).1 (S.es _ _ q).2
      · simp only [evX]
        exact vo_tup (S.es _ _ q).1 (S.es _ _ q).2
      · -- a built-in
        simp only [Bool.and_eq_true, decide_eq_true_eq] at q
        obtain ⟨⟨h1, h2⟩, h3⟩ := q
        obtain ⟨hg, hm⟩ := nobC_ok h hs h1
        subst h2
        simp only [evX]
        exact bi_ok h hg hm (S.es _ _ h3).1 (S.es _ _ h3).2
      · -- a def, a class
        simp only [Bool.and_eq_true, decide_eq_true_eq] at q
        obtain ⟨⟨⟨⟨h1, h2⟩, h3⟩, h4⟩, h5⟩ := q
        obtain ⟨hv, hst⟩ := S.es _ _ h5
        obtain ⟨f1, f2, e1, v1, v2⟩ := vos_split hv
        rw [List.all_append, Bool.and_eq_true] at hst
        simp only [evX]
        rw [e1]
        exact call_c h tk (glB_ok hs h1) (h.calls _ _ _ _ h3) v1 hst.1 (vks_of v2) h4 (plainName_ok h2).1
      · -- a method
        simp only [Bool.and_eq_true, decide_eq_true_eq] at q
        obtain ⟨⟨⟨⟨⟨⟨h1, h2⟩, h3⟩, h4⟩, h5⟩, h6⟩, h7⟩ := q
        obtain ⟨hv, hst⟩ := S.es _ _ h7
        obtain ⟨f1, f2, e1, v1, v2⟩ := vos_split hv
        rw [List.all_append, Bool.and_eq_true] at hst
        simp only [evX]
        rw [e1]
        exact vo_meth tk h.gd (h.mths _ _ _ _ h1) (S.e _ _ h6) v1 hst.1 (vks_of v2) h2 h3 h4 h5
      · -- a field
        simp only [Bool.and_eq_true, decide_eq_true_eq] at q
        obtain ⟨⟨h1, h2⟩, h3⟩ := q
        subst h1
        simp only [evX]
        exact vo_fld (h.flds _) (S.e _ _ h3) h2
      · -- isinstance
        simp only [Bool.and_eq_true, decide_eq_true_eq] at q
        obtain ⟨⟨⟨⟨h1, h2⟩, h3⟩, h4⟩, h5⟩ := q
        subst h2
        obtain ⟨hg, hm⟩ := nobC_ok h hs h1
        simp only [evX]
        exact vo_isi h.isi hg hm (S.e _ _ h3) h4 (cls_ok h hs h5)
      · -- isinstance of several
        simp only [Bool.and_eq_true, decide_eq_true_eq] at q
        obtain ⟨⟨⟨⟨⟨⟨h1, h2⟩, h3⟩, h4⟩, h5⟩, h6⟩, h7⟩ := q
        subst h2
        obtain ⟨hg, hm⟩ := nobC_ok h hs h1
        simp only [evX]
        exact vo_isiT h.isi hg hm (S.e _ _ h3) h4 (clsCs_ok h hs h5) (by rintro rfl; simp at h6) h7
      · simp only [Bool.and_eq_true, decide_eq_true_eq] at q
        obtain ⟨⟨⟨⟨⟨h1, h2⟩, h3⟩, h4⟩, h5⟩, h6⟩ := q
        subst h2
        subst h4
        obtain ⟨hg, hm⟩ := nobC_ok h hs h1
        obtain ⟨hg2, hm2⟩ := nobC_ok h hs h3
        simp only [evX]
        exact vo_lrg h.calm hg hm hg2 hm2 (S.e _ _ h5) h6
      · simp only [Bool.and_eq_true, decide_eq_true_eq] at q
        obtain ⟨⟨⟨⟨⟨h1, h2⟩, h3⟩, h4⟩, h5⟩, h6⟩ := q
        subst h2
        subst h4
        obtain ⟨hg, hm⟩ := nobC_ok h hs h1
        obtain ⟨hg2, hm2⟩ := nobC_ok h hs h3
        simp only [evX]
        exact vo_trg h.calm hg hm hg2 hm2 (S.e _ _ h5) h6
      · -- append
        simp only [Bool.and_eq_true, decide_eq_true_eq] at q
        obtain ⟨⟨⟨⟨h1, h2⟩, h3⟩, h4⟩, h5⟩ := q
        subst h2
        obtain ⟨n1, n2, n3, n4⟩ := nameC_ok h hs h1
        simp only [evX]
        exact vo_app n1 n2 n3 n4 (S.e _ _ h4) h5 h3
      · simp only [Bool.and_eq_true, decide_eq_true_eq] at q
        obtain ⟨⟨h1, h2⟩, h3⟩ := q
        subst h2
        obtain ⟨n1, n2, n3, n4⟩ := nameC_ok h hs h1
        simp only [evX]
        exact vo_pop n1 n2 n3 n4 h3
      · simp only [Bool.and_eq_true, decide_eq_true_eq] at q
        obtain ⟨⟨h1, h2⟩, h3⟩ := q
        subst h2
        obtain ⟨n1, n2, n3, n4⟩ := nameC_ok h hs h1
        simp only [evX]
        exact vo_clear n1 n2 n3 n4 h3
      · -- a comprehension
        simp only [Bool.and_eq_true] at q
        obtain ⟨⟨⟨⟨⟨⟨⟨h1, h1t⟩, h2⟩, h3⟩, h4⟩, h5⟩, h6⟩, h7⟩ := q
        simp only [evX]
        rename_i w p t a vs elt tg it ifs scope pos
        have e0 := slotNames_snd (ck := ck) vs
        have hb : ∀ (s : Shared) (H : Hp) (C : Addr) (cl : List (Str × Addr)) (fp : List Addr), SndE G Γ ck n (X.blk s H scope (compEnvC scope cl C X.env) fp) WF (relS scope sc) := fun s H C cl fp =>
          sndE n _ WF _ (h.blk s H scope _ fp) (by rw [← hs]; rfl) takes0
        have hp : ∀ j ∈ p.slots, j ∈ (slotNames ck vs).map (·.2) := fun j hj => by
          rw [e0]
          have := List.all_eq_true.mp h4 j hj
          rw [List.contains_eq_mem] at this
          exact of_decide_eq_true this
        have := vo_lc (G := G) (W := W) (pos := pos) h.calm h.nd (S.w tg it w h1 h1t) (blkOk_by (by rw [h.hN, hs]; exact h3)) (patG_ok p) hp
          (fun s H C cl fp => patC_ok (h.blk s H scope _ fp) (by rw [← hs]; rfl) (fun x z => z) h5) (fun s H C cl fp => (hb s H C cl fp).o _ _ h6) (fun s H C cl fp => (hb s H C cl fp).e _ _ h7) (notSet_fold h2)
        rw [e0] at this
        exact this
      · -- an f-string
        simp only [evX]
        exact vo_join (S.es _ _ q).1
      · simp only [evX]
        exact vo_fmtR ((fm_own (fun c F e => h.sps _ c F e) h.gd h.un).or (fm_data h.gd h.un)) (fin_or (fin_prim prim_own) (fin_prim prim_repr)) (S.e _ _ q)
      · -- a tuple of the module
        rw [Bool.and_eq_true, Bool.and_eq_true] at q
        obtain ⟨⟨h1, h2⟩, h3⟩ := q
        split at h3
        · next ds' hd =>
          have := beqS0s_eq h3
          subst this
          obtain ⟨a, o, its, n', hm, l1, l2, l3, l4, l5⟩ := h.gts _ _ hd
          simp only [evX]
          refine vo_const (pe_glob (v := .ref a) (glB_ok hs h1) hm rfl (plainName_ok h2).1) fun Φ => .tup (.inr ⟨o, its, n', l1, l2, l3, l4, l5⟩) (by rw [List.length_map, List.length_map]) fun k d v h1 h2 => ?_
          rw [List.getElem?_map] at h1 h2
          obtain ⟨c, hc, rfl⟩ := Option.map_eq_some_iff.mp h1
          rw [hc] at h2
          cases h2
          exact c.rep
        · cases h3
      · cases q
    · unfold chkEs at q
      split at q
      · next e1 => cases e1
      · simp only [evXs]
        exact ⟨.nil, rfl⟩
      · next e1 =>
        cases e1
        simp only [Bool.and_eq_true] at q
        simp only [evXs]
        refine ⟨.cons (S.e _ _ q.1.2) (S.es _ _ q.2).1, ?_⟩
        rw [List.all_cons, q.1.1, (S.es _ _ q.2).2]
        rfl
      · cases q
    · unfold chkT at q
      split at q
      · simp only [evT]
        exact vt_not (S.t _ _ q)
      · simp only [evT]
        exact (vw_bool (S.ts _ _ q)).pt
      · simp only [evT]
        exact (vw_bool (S.ts _ _ q)).pt
      · simp only [Bool.and_eq_true] at q
        simp only [evT]
        exact vt_cmp (co_ok h q.1.1.1) (S.e _ _ q.1.1.2) (S.e _ _ q.1.2) (noMark q.2)
      · simp only [Bool.and_eq_true] at q
        simp only [evT]
        exact vt_chain (co_ok h q.1.1.1.1.1) (co_ok h q.1.1.1.1.2) (S.e _ _ q.1.1.1.2) (S.e _ _ q.1.1.2) (S.e _ _ q.1.2) q.2
      · simp only [Bool.and_eq_true] at q
        simp only [evT]
        exact vt_truth (S.e _ _ q.2) q.1
      · cases q
    · unfold chkTs at q
      split at q
      · next e1 => cases e1
      · simp only [evTs]
        exact .nil
      · next e1 =>
        cases e1
        simp only [Bool.and_eq_true] at q
        simp only [evTs]
        exact .cons (S.t _ _ q.1) (S.ts _ _ q.2)
      · cases q
    · unfold chkTo at q
      split at q
      · next e1 => cases e1
      · simp only [evTo]
        exact vts_nil
      · next e1 =>
        cases e1
        simp only [evTo]
        exact vts_one (S.t _ _ q)
      · cases q
    · unfold chkW at q
      split at q
      · intro ht
        simp only [evW]
        exact vi_seq (S.e _ _ q)
      · simp only [Bool.and_eq_true, decide_eq_true_eq] at q
        obtain ⟨⟨⟨h1, h2⟩, h3⟩, h4⟩ := q
        subst h2
        obtain ⟨hg, hm⟩ := nobC_ok h hs h1
        intro ht
        simp only [evW, evXs]
        exact vi_range1 hg hm (S.e _ _ h3) h4
      · simp only [Bool.and_eq_true, decide_eq_true_eq] at q
        obtain ⟨⟨⟨⟨⟨h1, h2⟩, h3⟩, h4⟩, h5⟩, h6⟩ := q
        subst h2
        obtain ⟨hg, hm⟩ := nobC_ok h hs h1
        intro ht
        simp only [evW, evXs]
        exact vi_range2 hg hm (S.e _ _ h3) (S.e _ _ h5) h4 h6
      · simp only [Bool.and_eq_true, decide_eq_true_eq] at q
        obtain ⟨⟨⟨h1, h2⟩, h3⟩, h4⟩ := q
        subst h2
        obtain ⟨hg, hm⟩ := nobC_ok h hs h1
        intro ht
        simp only [evW]
        cases tg <;> first | exact absurd ht Bool.false_ne_true | exact vi_enum hg hm (S.e _ _ h3) h4
      · simp only [Bool.and_eq_true, decide_eq_true_eq] at q
        obtain ⟨⟨⟨⟨⟨h1, h2⟩, h3⟩, h4⟩, h5⟩, h6⟩ := q
        subst h2
        obtain ⟨hg, hm⟩ := nobC_ok h hs h1
        intro ht
        simp only [evW]
        cases tg <;> first | exact absurd ht Bool.false_ne_true | exact vi_zip hg hm (S.e _ _ h3) h4 (S.e _ _ h5) h6
      · cases q
end
end VS
/-! VSt: the look is sound, statements; a def's promise. -/
namespace VS
open PySem PySem.Spec PyProof.Rows L2

section
variable {G : GEnv} {Γ : Ev} {ck : Ck} {X : Cx} {W : WX} {sc : Scope} {fx : List Nat}
theorem swaps_not {e : Expr} {t : Option Expr} {l : Nat} {env : Env} (h : notComp e = true) : swapsWith e t l env = pure false := by
  cases e <;> first | rfl | exact absurd h (by simp [notComp])
/-- name = [..]: stored ahead of the comprehension's end -/
theorem vs_setLc {i : Nat} {y : Str} {py pos spos : Pos} {elt tg iter : Expr} {ifs : List Expr} {scope : Scope} {own : List (Str × Nat)} {w : Sl → Out Walked} {tst : Sl → Out Bool} {ev : Sl → Out Op} {g : TG} {pat : Pat} (hc : X.calm = true) (hN : X.N.Nodup) (hy : X.N[i]? = some y) (hyl : X.env.scope.names.lookup y = some .local)
    (hsw : swapsWith (.ListComp elt [⟨tg, iter, ifs, 0⟩] scope pos) (some (.Name y py)) spos.line X.env = pure true) (hi : VI X G W tg iter w) (ok : BlkOk X.N X.env.scope scope own) (hp : PatOk X.K G g pat) (hpv : ∀ j ∈ pat.slots, j ∈ own.map (·.2))
    (hg : ∀ (s : Shared) (H : Hp) (C : Addr) (cl : List (Str × Addr)) (fp : List Addr), PG (X.blk s H scope (compEnvC scope cl C X.env) fp) tg g) (ht : ∀ (s : Shared) (H : Hp) (C : Addr) (cl : List (Str × Addr)) (fp : List Addr), PTs (X.blk s H scope (compEnvC scope cl C X.env) fp) ifs (tT X.K G WF tst))
    (he : ∀ (s : Shared) (H : Hp) (C : Addr) (cl : List (Str × Addr)) (fp : List Addr), VO (X.blk s H scope (compEnvC scope cl C X.env) fp) G WF elt ev) (hs : ∀ x, foldedSetIterable iter X.env x = pure x) :
    VS1 X G W fx (.Assign [.Name y py] (.ListComp elt [⟨tg, iter, ifs, 0⟩] scope pos) spos) (evAsg fx (.nm i) (evLC w pat tst ev (own.map (·.2)))) :=
  ps_imp (ps_setLc hc hN hy hyl hsw hi ok hg ht he hs) fun D σ H h => lc_ok hp hpv (asg_ok pat_name h)
/-- what swapsWith tells of a list comprehension -/
theorem swaps_lc {elt : Expr} {gens : List Comprehension} {scope : Scope} {pos py : Pos} {y : Str} {l : Nat} (hs : X.env.scope = sc) (hk : sc.kind = .function) : swapsWith (.ListComp elt gens scope pos) (some (.Name y py)) l X.env = pure (swapB sc scope y py pos) := by
  have hb : X.env.blockKind = .function := by
    unfold Env.blockKind
    rw [hs, hk]
    rfl
  unfold swapsWith swapB
  dsimp only
  rw [hb]
  unfold Env.kindOf
  rw [hs]
  cases q : sc.names.lookup y with
  | none => rfl
  | some k => cases k <;> rfl
end
theorem fgt_at {i : Nat} {t : T} : ∀ {is : List Nat} {s : Sl}, treeAt (fgtS is s) i = some t → treeAt s i = some t
  | [], s, h => h
  | j :: is, s, h => by
    have h1 := fgt_at (is := is) (s := s.set j .un) h
    by_cases e : j = i
    · subst e
      unfold treeAt at h1
      by_cases hl : j < s.length
      · rw [List.getElem?_set_self hl] at h1
        cases h1
      · rw [List.getElem?_eq_none (by rw [List.length_set]; omega)] at h1
        cases h1
    · unfold treeAt at h1 ⊢
      rwa [List.getElem?_set_ne e] at h1
theorem fgt_len : ∀ {is : List Nat} {s : Sl}, (fgtS is s).length = s.length
  | [], s => rfl
  | j :: is, s => by
    show (fgtS is (s.set j .un)).length = _
    rw [fgt_len, List.length_set]
theorem vss_fgt {X : Cx} {G : GEnv} {W : WX} {fx : List Nat} {st : List Stmt} {is : List Nat} {b : Sl → SO} (h : VSs X G W fx st b) : VSs X G W fx st (evSeq (fun s => .nx (fgtS is s)) b) :=
  pss_imp h fun D σ H ⟨Φ, s, F, st, p⟩ => ⟨Φ, fgtS is s, F, ⟨st.same, fun i t e => st.slot i t (fgt_at e), st.dis, st.unf, st.live, by rw [fgt_len]; exact st.len⟩, p⟩
structure SndS (G : GEnv) (Γ : Ev) (ck : Ck) (n : Nat) (X : Cx) (W : WX) (sc : Scope) : Prop where
  s : ∀ fx st x, chkS n ck sc st x = true → VS1 X G W fx st (evSm Γ x fx)
  ss : ∀ fx st x, chkSs n ck sc st x = true → VSs X G W fx st (evSs Γ x fx)
section
variable {G : GEnv} {Γ : Ev} {ck : Ck} {X : Cx} {W : WX} {sc : Scope}
theorem sndS (h : CxK G Γ ck X) (hs : X.env.scope = sc) (tk : Takes X W) (hf : ∀ x, X.fn x = true) (hk : sc.kind = .function) (hpo : PassesOwn (model X.prog X.w) X.A X.env X.xe) : ∀ n : Nat, SndS G Γ ck n X W sc
  | 0 => ⟨fun fx e x q => (by simp [chkS] at q), fun fx e x q => (by simp [chkSs] at q)⟩
  | n + 1 => by
    have S := sndS h hs tk hf hk hpo n
    have E : SndE G Γ ck n X W sc := sndE n X W sc h hs tk
    refine ⟨fun fx st x q => ?_, fun fx st x q => ?_⟩
    · unfold chkS at q
      split at q
      · simp only [evSm]; exact vs_pass
      · simp only [evSm]; exact vs_doc
      · -- name = value
        rename_i p e s qp v pos
        simp only [Bool.and_eq_true] at q
        obtain ⟨h1, h2⟩ := q
        simp only [evSm]
        cases p with
        | tp is => simp [patC] at h1
        | nm i =>
          have hst : StoreOk X s i := by
            cases patNames_ok (fnT := fun _ => true) h hs (fun x _ => hf x) (show patNames ck (fun _ => true) sc [.Name s qp] [i] = true from h1) with
            | cons h _ => exact h
          by_cases hnc : notComp v = true
          · exact vs_set h.nd hst (E.e _ _ h2) (swaps_not hnc)
          · cases v with
            | ListComp elt gens scope lpos =>
              have sw := swaps_lc (elt := elt) (gens := gens) (scope := scope) (pos := lpos) (py := qp) (y := s) (l := pos.line) hs hk
              cases hsb : swapB sc scope s qp lpos with
              | false => exact vs_set h.nd hst (E.e _ _ h2) (by rw [sw, hsb])
              | true =>
                rw [hsb] at sw
                have hyl : X.env.scope.names.lookup s = some .local := by
                  unfold swapB at hsb
                  rw [Bool.and_eq_true, Bool.and_eq_true] at hsb
                  have := hsb.1.1
                  rw [hs]
                  split at this
                  · next z => exact z
                  · cases this
                cases n with
                | zero => simp [chkE] at h2
                | succ m =>
                  unfold chkE at h2
                  split at h2 <;> first | cases h2; done | skip
                  all_goals first
                    | (rename_i hx hv; cases hv; done)
                    | skip
                  all_goals skip
                  rename_i w p t a vs elt' tg it ifs scope' lpos' hx
                  cases hx
                  simp only [Bool.and_eq_true] at h2
                  obtain ⟨⟨⟨⟨⟨⟨⟨h1', h1t⟩, h2'⟩, h3⟩, h4⟩, h5⟩, h6⟩, h7⟩ := h2
                  have e0 := slotNames_snd (ck := ck) vs
                  have E' : SndE G Γ ck m X W sc := sndE m X W sc h hs tk
                  have hb : ∀ (s : Shared) (H : Hp) (C : Addr) (cl : List (Str × Addr)) (fp : List Addr), SndE G Γ ck m (X.blk s H scope (compEnvC scope cl C X.env) fp) WF (relS scope sc) := fun s H C cl fp =>
                    sndE m _ WF _ (h.blk s H scope _ fp) (by rw [← hs]; rfl) takes0
                  have hp : ∀ j ∈ p.slots, j ∈ (slotNames ck vs).map (·.2) := fun j hj => by
                    rw [e0]
                    have := List.all_eq_true.mp h4 j hj
                    rw [List.contains_eq_mem] at this
                    exact of_decide_eq_true this
                  have := vs_setLc (G := G) (W := W) (fx := fx) (py := qp) (pos := lpos) (spos := pos) h.calm h.nd hst.1 hyl sw (E'.w tg it w h1' h1t) (blkOk_by (by rw [h.hN, hs]; exact h3)) (patG_ok p) hp
                    (fun s H C cl fp => patC_ok (h.blk s H scope _ fp) (by rw [← hs]; rfl) (fun x z => z) h5) (fun s H C cl fp => (hb s H C cl fp).o _ _ h6) (fun s H C cl fp => (hb s H C cl fp).e _ _ h7) (notSet_fold h2')
                  rw [e0] at this
                  simp only [evX]
                  exact this
            | SetComp _ _ _ _ =>
              cases n with
              | zero => simp [chkE] at h2
              | succ m => unfold chkE at h2; split at h2 <;> first | (cases h2; done) | (rename_i hx; cases hx; done) | (rename_i hx hv; cases hv; done)
            | DictComp _ _ _ _ _ =>
              cases n with
              | zero => simp [chkE] at h2
              | succ m => unfold chkE at h2; split at h2 <;> first | (cases h2; done) | (rename_i hx; cases hx; done) | (rename_i hx hv; cases hv; done)
            | _ => exact absurd rfl hnc
      · -- names = value
        rename_i p e es k qp v pos
        simp only [Bool.and_eq_true] at q
        obtain ⟨⟨h1, h2⟩, h3⟩ := q
        simp only [evSm]
        refine vs_asg (E.e _ _ h2) (patC_ok (fnT := fun _ => true) h hs (fun x _ => hf x) h1) (patG_ok p) ?_ ?_ rfl
        · cases v <;> rfl
        · cases v <;> first | rfl | exact absurd h3 (by simp [notTup])
      · -- an item stored
        rename_i i a e s qp l sp v pos
        simp only [Bool.and_eq_true] at q
        obtain ⟨⟨⟨h1, h2⟩, h3⟩, h4⟩ := q
        obtain ⟨n1, n2, n3, n4⟩ := nameC_ok h hs h1
        simp only [evSm]
        refine vs_setIx n1 n2 n3 n4 (E.e _ _ h2) (E.e _ _ h4) ?_ ?_ ?_ rfl
        · intro z
          cases l <;> first | rfl | exact absurd h3 (by simp [notSlice])
        · cases v <;> rfl
        · cases v <;> rfl
      · -- a field stored
        simp only [Bool.and_eq_true, decide_eq_true_eq] at q
        obtain ⟨⟨⟨h1, h2⟩, h3⟩, h4⟩ := q
        obtain ⟨n1, n2, n3, n4⟩ := nameC_ok h hs h1
        subst h2
        simp only [evSm]
        exact vs_setFld (h.flds _) n1 n2 n3 n4 (E.e _ _ h3) (swaps_not h4)
      · simp only [Bool.and_eq_true] at q
        simp only [evSm]
        exact vs_expr (E.e _ _ q.1) (swaps_not q.2)
      · simp only [Bool.and_eq_true] at q
        simp only [evSm]
        exact vs_if (E.t _ _ q.1.1) (S.ss fx _ _ q.1.2) (S.ss fx _ _ q.2)
      · simp only [Bool.and_eq_true] at q
        obtain ⟨⟨⟨⟨h1, h1t⟩, h2⟩, h3⟩, h4⟩ := q
        simp only [evSm]
        exact vs_for hpo h.calm (E.w _ _ _ h1 h1t) (patC_ok (fnT := fun _ => true) h hs (fun x _ => hf x) h3) (patG_ok _) (fun fy => S.ss fy _ _ h4) (notSet_fold h2)
      · simp only [Bool.and_eq_true] at q
        simp only [evSm]
        exact vs_while hpo (E.t _ _ q.1) (S.ss fx _ _ q.2)
      · simp only [evSm]
        exact vs_ret (E.e _ _ q)
      · simp only [evSm]
        exact vs_retN
      · simp only [evSm]
        exact vs_never
      · cases q
    · unfold chkSs at q
      split at q
      · next e1 => cases e1
      · simp only [evSs]
        exact vss_nil
      · next e1 =>
        cases e1
        simp only [evSs, evSm]
        exact vss_fgt (S.ss fx _ _ q)
      · next e1 =>
        cases e1
        simp only [Bool.and_eq_true] at q
        simp only [evSs]
        exact vss_cons (S.s fx _ _ q.1) (S.ss fx _ _ q.2)
      · cases q
end
end VS
/-! VSu: defs by their small texts; the law's head. -/
namespace VS
open PySem PySem.Spec PyProof.Rows L2

/-! ### what is known of the module, whatever runs -/
inductive CallK (P : Program) (w : World) (K : PySem.W.Frag) (mg : Str → Option Value) (base : Heap) (G : GEnv) (k : Nat) (x : Str) (n : Nat) (ks : List Str) (sf : Sel × Fn) : Prop
  | fn {j : Nat} {f : Addr} {fd : FuncData} {ps : List Str} (hF : FnG P w K mg base j f fd ps (spF K G sf.2)) (hj : j ≤ k) (hm : mg x = some (.ref f)) (hk : PySem.W.keepIn K (.ref f) = true) (hb : ∃ g, KBn K fd ps n ks g (fun vs zs => pickV sf.1 (vs ++ zs)))
  | mk {j : Nat} {f : Addr} {fd : FuncData} {ps : List Str} {c : Str} {ci : CInfo} {fr : Bool} {F : Fn} (hc : G c = some ci) (he : ci.exn = false) (M : Mk K ci.addr f) (hF : FnG P w K mg base j f fd ps (spF K G F)) (hj : j + 1 ≤ k) (hm : mg x = some (.ref ci.addr))
      (hb : ∃ g, KBn K fd ps (n + 1) ks g (fun vs zs => pickV sf.1.up (vs ++ zs))) (e : sf.2 = makeF c fr F)
def MethK (P : Program) (w : World) (K : PySem.W.Frag) (mg : Str → Option Value) (base : Heap) (G : GEnv) (k : Nat) (m : Str) (n : Nat) (ks : List Str) (D : Str → Option (Sel × Fn)) : Prop := ∀ c sel F, D c = some (sel, F) → ∃ ci j f fd ps, G c = some ci ∧ ci.exn = false ∧ Cls K ci.addr ∧ Meth K ci.addr m f ∧ m ∉ ci.flds ∧
  FnG P w K mg base j f fd ps (spF K G F) ∧ j ≤ k ∧ ∃ g, KBn K fd ps (n + 1) ks g (fun vs zs => pickV sel (vs ++ zs))
def SpK (P : Program) (w : World) (K : PySem.W.Frag) (mg : Str → Option Value) (base : Heap) (G : GEnv) (k : Nat) (d c : Str) (Fn : Fn) : Prop := ∃ ci j f fd ps, G c = some ci ∧ ci.exn = false ∧ PySem.W.findIn K (.ref ci.addr) d = some (some (.ref f)) ∧ PySem.W.isFn K (.ref f) = true ∧ PySem.W.mroIn K ci.addr (.type "object") = some true ∧
    (d = Str.ofString "__eq__" → PySem.W.findIn K (.ref ci.addr) "__ne__" = some (some (.builtin "object.__ne__"))) ∧
    FnG P w K mg base j f fd ps (spF K G Fn) ∧ j + 3 ≤ k ∧ Binds K fd ps []
structure ModK (P : Program) (w : World) (K : PySem.W.Frag) (mg : Str → Option Value) (base : Heap) (G : GEnv) (Γ : Ev) (ck : Ck) (k : Nat) : Prop where
  gls : ∀ x d, ck.gls.lookup x = some d → ∃ u, mg x = some u ∧ RelV d.toV u
  nob : ∀ x ∈ ck.nob, mg x = none
  calls : ∀ c x n ks, ck.calls[c]? = some (x, n, ks) → CallK P w K mg base G k x n ks (Γ.calls c)
  mths : ∀ m x n ks, ck.mths[m]? = some (x, n, ks) → MethK P w K mg base G k x n ks (Γ.mths m)
  flds : ∀ f, FldOk K G f (Γ.flds f)
  isi : IsiTab K G Γ.isi
  clss : ∀ x c, ck.clss.lookup x = some c → ∃ ci, G c = some ci ∧ mg x = some (.ref ci.addr)
  sps : ∀ d c F, Γ.sps d c = some F → SpK P w K mg base G k d c F
  gts : ∀ x ds, ck.gts.lookup x = some ds → GtK K mg x ds
section
variable {P : Program} {w : World} {K : PySem.W.Frag} {mg : Str → Option Value} {base : Heap} {G : GEnv} {Γ : Ev} {ck : Ck} {k : Nat}
theorem ModK.cx (M : ModK P w K mg base G Γ ck k) {qual : Str} {scope : Scope} {f : Addr} {cd : Value} {A : Around} {outer : List Env} {s : Shared} {H : Hp} {E : XK} (nd : ck.N.Nodup) (hr : Room k (A.deeper (envOfC qual scope s.heap.objs.size f cd))) (hg : A.guards = some []) :
    CxK G Γ ck (cxOf (L2.CX P w) P w K mg base ck.N qual scope f cd A outer s H E) := by
  refine ⟨rfl, nd, rfl, hg, ?_, M.gls, M.nob, fun c x n ks h => ?_, fun m x n ks h => ?_, M.flds, M.isi, M.clss, fun d c F h => ?_, M.gts⟩
  · have := hr.un
    show (A.deeper (envOfC qual scope s.heap.objs.size f cd)).units + 64 < cLine
    omega
  · cases M.calls c x n ks h with
    | fn hF hj hm hk hb => exact .fn hF (hr.mono hj) hm hk hb
    | mk hc he M hF hj hm hb e => exact .mk hc he M hF (hr.mono hj) hm hb e
  · intro c sel F hD
    obtain ⟨ci, j, f, fd, ps, h1, h2, h3, h4, h5, h6, h7, h8⟩ := M.mths m x n ks h c sel F hD
    exact ⟨ci, j, f, fd, ps, h1, h2, h3, h4, h5, h6, hr.mono h7, h8⟩
  · obtain ⟨ci, j, f, fd, ps, h1, h2, h3, h4, h5, h6, h7, h8, h9⟩ := M.sps d c F h
    exact ⟨ci, j, f, fd, ps, h1, h2, h3, h4, h5, h6, h7, hr.mono h8, h9⟩
/-- a def's promise, by its small text -/
theorem fn_df {x qual : Str} {params : Arguments} {stm : List Stmt} {scope : Scope} {f : Addr} {fd : FuncData} {ps : List Str} {d : Df} {n : Nat} (F : FunA K x qual params stm scope f fd) (S : FnScope ck.N ps scope) (M : ModK P w K mg base G Γ ck k)
    (hc : chkSs n ck scope stm d.body = true) (hd : (decide (d.n = ps.length) && decide (d.m = ck.N.length) && d.fx.all (fun i => decide (i < ps.length))) = true) : FnG P w K mg base (k + 1) f fd ps (spF K G (d.run Γ)) := by
  rw [Bool.and_eq_true, Bool.and_eq_true, decide_eq_true_eq, decide_eq_true_eq, List.all_eq_true] at hd
  obtain ⟨⟨h1, h2⟩, h3⟩ := hd
  have := fn_okG (G := G) (mg := mg) (base := base) (P := P) (w := w) (k := k) (fx := d.fx) (body := evSs Γ d.body d.fx) F S (fun cdv A outer s H E hr hg => ?_) fun i hi => of_decide_eq_true (h3 i hi)
  · unfold Df.run
    rw [h1, h2]
    exact this
  · exact (sndS (M.cx S.nd hr hg) rfl (takes_of rfl rfl rfl rfl) (fun _ => rfl) S.kind (passes_of rfl) n).ss d.fx _ _ hc
end
/-! ### isinstance of built-in types -/
def tyN (s : String) : Bool := s == "NoneType" || s == "bool" || s == "int" || s == "str" || s == "tuple" || s == "list"
def isiB (a b : String) : Bool := a == b || (a == "bool" && b == "int")
def isiT : CK → CK → Option Bool
  | .inl a, .inl b => if tyN a && tyN b then some (isiB a b) else none
  | _, _ => none
theorem isiB_ok : ∀ {a b : String}, tyN a = true → tyN b = true → kitB a b = some (isiB a b) := by
  intro a b ha hb
  unfold tyN at ha hb
  simp only [Bool.or_eq_true, beq_iff_eq] at ha hb
  rcases ha with ((((rfl | rfl) | rfl) | rfl) | rfl) | rfl <;> rcases hb with ((((rfl | rfl) | rfl) | rfl) | rfl) | rfl <;> decide +kernel
theorem isiT_ok {K : PySem.W.Frag} {G : GEnv} : IsiTab K G isiT := by
  refine ⟨fun c k b h => (by cases k <;> cases h), fun t k b h => ?_⟩
  cases t with
  | inr c => cases h
  | inl a =>
    cases k with
    | inr c => cases h
    | inl c =>
      unfold isiT at h
      dsimp only at h
      split at h
      · next hh =>
        cases h
        rw [Bool.and_eq_true] at hh
        exact ⟨_, _, rfl, rfl, kit_ty (isiB_ok hh.1 hh.2)⟩
      · cases h

/-! ### the law's head -/
theorem law_callG {P : Program} {w : World} {K : PySem.W.Frag} {mg mb : Str → Option Value} {k : Nat} {fa a : Addr} {fd : FuncData} {x : Str} {sp : Sp} {s₁ : Shared} {vs : List Value} {ns : List Int}
    (KX : K.In s₁.heap) (hns : s₁.heap.Ns mainGlobals mg) (hb : s₁.heap.Ns builtinsNs mb) (hbb : ∀ x : Str, x ≠ "__name__" → mb x = bootBuiltins x) (hlim : s₁.heap.NoLimit) (hg : s₁.gens = #[])
    (ha : s₁.heap.get? a = some { cls := .type "list", data := .seq vs.toArray }) (hi : IntsAre vs ns) (hl : ns.length ≤ sizeLine) (hr : Room k callerA)
    (F : ∀ base : Heap, K.In base → base.Ns mainGlobals mg → FnG P w K mg base k fa fd [x] sp) (hbind : ∀ (s : Shared) (u : Value), BindsTo s fd ⟨[u], []⟩ [(x, u)])
    (hsp : ∀ H : Hp, SqL K H a (ns.map V.int) → sp [.ref a] H (fun v _ => v = .bl true) fun _ _ _ => False) :
    codeAny (model P w) callerA (.call (.ref fa) ⟨[.ref a], []⟩) (fun r s' => r = .ok (.ret (.bool true)) ∧ OldK s₁.heap s'.heap ∧ s'.os = s₁.os ∧ AllBare s'.gens) s₁ := by
  have rv := vals_ints hi
  -- the abstract heap: the script alone, where the module has it not
  generalize hH : (fun b => if b = a ∧ K.lookup a = none then some (HO.frz { cls := .type "list", data := .seq vs.toArray } (.lst (ns.map V.int))) else none : Hp) = H
  have at_ : ∀ b u, H b = some u → b = a ∧ K.lookup a = none ∧ u = .frz { cls := .type "list", data := .seq vs.toArray } (.lst (ns.map V.int)) := fun b u e => by
    rw [← hH] at e
    dsimp only at e
    split at e
    · next h => exact ⟨h.1, h.2, (Option.some.inj e).symm⟩
    · cases e
  have hok : HOk P w H s₁.heap := fun b u e => by
    obtain ⟨rfl, _, rfl⟩ := at_ b u e
    exact ⟨ha, by rw [List.length_map]; exact hl, vs, _, rv, ha⟩
  have hS : SqL K H a (ns.map V.int) := by
    cases q : K.lookup a with
    | some o =>
      have e := KX a o q
      rw [ha] at e
      cases e
      exact .inr ⟨_, vs.toArray, _, q, rfl, rfl, rfl, by rw [List.size_toArray, hi.length]; exact hl, by simpa using rv⟩
    | none => exact .inl (.inr ⟨{ cls := .type "list", data := .seq vs.toArray }, by rw [← hH]; exact if_pos ⟨rfl, q⟩⟩)
  have dictFree : ∀ {b : Addr} {o : Obj} {es : Array DictEntry} {ep : Nat}, s₁.heap.get? b = some o → o.data = .dict es ep → H b = none := fun {b o es ep} e d => by
    cases q : H b with
    | none => rfl
    | some u =>
      obtain ⟨rfl, _, _⟩ := at_ b u q
      rw [ha] at e
      cases e
      cases d
  have nsB : ∀ {b : Addr} {m : Str → Option Value}, s₁.heap.Ns b m → (hidT s₁.heap H).Ns b m := fun {b m} ⟨o, es, ep, e, d, r⟩ => ⟨o, es, ep, hidT_get e (dictFree e d), d, r⟩
  have inB : K.In (hidT s₁.heap H) := fun b o e => hidT_get (KX b o e) (by
    cases q : H b with
    | none => rfl
    | some u =>
      obtain ⟨rfl, z, _⟩ := at_ b u q
      rw [z] at e
      cases e)
  obtain ⟨mc, c1, c2⟩ := hlim
  have e0 : Env0 P w K mg (hidT s₁.heap H) callerA [] s₁ H :=
    ⟨rfl, ⟨inB, nsB hns, ⟨mb, nsB hb, hbb⟩, ⟨mc, nsB c1, c2⟩⟩, fun b o e => of_hidT e, Nat.le_of_eq (hidT_size _ _), trivial, fun b hb => (nomatch hb), hok, .of_eq hg⟩
  refine codeAny_mono ((F _ inB (nsB hns)).run callerA [] s₁ H ⟨[.ref a], []⟩ [.ref a] [.ref a] _ _ hr rfl e0 (hbind s₁ (.ref a)) (.cons rfl .nil) (hsp H hS)) fun r s' h => ?_
  match r, h with
  | .error e, h =>
    obtain ⟨_, _, _, _, _, _, _, _, _, _, _, _, z⟩ := h
    exact z.elim
  | .ok (.ret u), ⟨v, H', os, bare, un, hok', r', q⟩ =>
    have q' : v = .bl true := q
    subst q'
    obtain rfl : u = Value.bool true := r'
    refine ⟨rfl, OldK.of_keep fun b o e => ?_, os, bare⟩
    cases q : H b with
    | none => exact un.keep b o e q (fun z => nomatch z) (by simp)
    | some u =>
      obtain ⟨rfl, _, rfl⟩ := at_ b u q
      obtain ⟨e1, _⟩ := hok b _ q
      obtain ⟨e2, _⟩ := hok' b _ (un.frzs b _ _ q)
      rw [e] at e1
      cases e1
      exact e2
/-- the goal that k_head leaves, from the law's function -/
theorem walk_G {l : PySem.W.OpenLaw} {n k : Nat} {q : Program} {loose : List Str} {XP : (Str → Option Value) → Heap → Prop} {YP : World → Heap → Prop} {d : DefRec} {K : Params → PySem.W.Frag} {x : Str} {f : Fn} (hn : l.most = some n) (hn2 : n ≤ sizeLine) (hdf : d.params.defaults = []) (hr : Room k callerA)
    (hY : ∀ (w : World) (h : Heap), YP w h → (K w.params).In h)
    (F : ∀ (w : World) (mg : Str → Option Value) (fa : Addr) (h : Heap), (K w.params).In h → h.Ns mainGlobals mg → mg d.name = some (.ref fa) →
      ∃ (G : GEnv) (fd : FuncData), (∀ (s : Shared) (u : Value), BindsTo s fd ⟨[u], []⟩ [(x, u)]) ∧ ∀ base : Heap, (K w.params).In base → base.Ns mainGlobals mg → FnG l.prog w (K w.params) mg base k fa fd [x] (spF (K w.params) G f))
    (hf : ∀ ns : List Int, ns.length ≤ n → ∃ ps, f [.leaf (.ro (ns.map .int))] = .ret (.leaf (.bl true)) ps) : PySem.W.WalkO q loose XP YP l.row.toRowW d [] (fun f vs => PySem.call f vs) := by
  refine Att.attach_call hn hdf fun w s₀ s₁ mg mb fa o pm cd doc a vs ns G Y ho hd hcd hmg hobj hints hlen hg => ?_
  have KX := hY w _ Y
  obtain ⟨GE, fd, hb, hF⟩ := F w mg fa _ KX G.T.g hmg
  refine law_callG KX G.T.g G.T.b G.T.builtins G.T.nolimit hg hobj hints (Nat.le_trans hlen hn2) hr hF hb fun H hS => ?_
  obtain ⟨ps, hps⟩ := hf ns hlen
  have rl : RepL (K w.params) GE H (ns.map .int) (ns.map V.int) := ⟨by rw [List.length_map, List.length_map], fun j d v h1 h2 => by
    rw [List.getElem?_map] at h1 h2
    obtain ⟨i, hi, rfl⟩ := Option.map_eq_some_iff.mp h1
    rw [hi] at h2
    cases h2
    exact .int i⟩
  refine ⟨H, [.leaf (.ro (ns.map .int))], fun _ => no, Same.refl H, ⟨rfl, fun j t v h1 h2 => ?_, fun _ _ _ _ z => z.elim, fun _ => TmpR.no⟩, ?_⟩
  · cases j with
    | zero =>
      cases h1
      cases h2
      exact .leaf (.ro hS rl.1 rl.2)
    | succ j => simp at h1
  · rw [hps]
    intro v H' Φ' Es' sm tr fr
    have ow := tr.own 0 _ v rfl rfl
    cases ow with
    | leaf r => exact rep_bl r
end VS
/-! VSv: tables of facts put together. -/
namespace VS
open PySem PySem.Spec PyProof.Rows L2

section
variable {P : Program} {w : World} {K : PySem.W.Frag} {mg : Str → Option Value} {base : Heap} {G : GEnv} {k : Nat}
inductive CallT (P : Program) (w : World) (K : PySem.W.Frag) (mg : Str → Option Value) (base : Heap) (G : GEnv) (k : Nat) : List (Str × Nat × List Str) → List (Sel × Fn) → Prop
  | nil {l : List (Sel × Fn)} : CallT P w K mg base G k [] l
  | cons {x : Str} {n : Nat} {ks : List Str} {l : List (Str × Nat × List Str)} {sf : Sel × Fn} {m : List (Sel × Fn)} (h : CallK P w K mg base G k x n ks sf) (r : CallT P w K mg base G k l m) : CallT P w K mg base G k ((x, n, ks) :: l) (sf :: m)
abbrev calls (l : List (Sel × Fn)) : Nat → Sel × Fn := fun c => l.getD c ([], fun _ => .bad)
theorem CallT.at_ : ∀ {l : List (Str × Nat × List Str)} {m : List (Sel × Fn)}, CallT P w K mg base G k l m → ∀ c x n ks, l[c]? = some (x, n, ks) → CallK P w K mg base G k x n ks (calls m c)
  | _, _, .nil, c, x, n, ks, h => by simp at h
  | _, _, .cons h r, 0, x, n, ks, e => by
    cases e
    exact h
  | _, _, .cons h r, c + 1, x, n, ks, e => by
    have := r.at_ c x n ks (by simpa using e)
    exact this
inductive MethT (P : Program) (w : World) (K : PySem.W.Frag) (mg : Str → Option Value) (base : Heap) (G : GEnv) (k : Nat) : List (Str × Nat × List Str) → List (Str → Option (Sel × Fn)) → Prop
  | nil {l : List (Str → Option (Sel × Fn))} : MethT P w K mg base G k [] l
  | cons {x : Str} {n : Nat} {ks : List Str} {l : List (Str × Nat × List Str)} {D : Str → Option (Sel × Fn)} {m : List (Str → Option (Sel × Fn))} (h : MethK P w K mg base G k x n ks D) (r : MethT P w K mg base G k l m) : MethT P w K mg base G k ((x, n, ks) :: l) (D :: m)
abbrev meths (l : List (Str → Option (Sel × Fn))) : Nat → Str → Option (Sel × Fn) := fun c => l.getD c fun _ => none
theorem MethT.at_ : ∀ {l : List (Str × Nat × List Str)} {m : List (Str → Option (Sel × Fn))}, MethT P w K mg base G k l m → ∀ c x n ks, l[c]? = some (x, n, ks) → MethK P w K mg base G k x n ks (meths m c)
  | _, _, .nil, c, x, n, ks, h => by simp at h
  | _, _, .cons h r, 0, x, n, ks, e => by
    cases e
    exact h
  | _, _, .cons h r, c + 1, x, n, ks, e => by
    have := r.at_ c x n ks (by simpa using e)
    exact this
/-- a look-up table -/
inductive AllT {α β : Type} (R : α → β → Prop) : List (α × β) → Prop
  | nil : AllT R []
  | cons {a : α} {b : β} {l : List (α × β)} (h : R a b) (r : AllT R l) : AllT R ((a, b) :: l)
theorem AllT.at_ {α β : Type} [BEq α] [LawfulBEq α] {R : α → β → Prop} : ∀ {l : List (α × β)}, AllT R l → ∀ x d, l.lookup x = some d → R x d
  | _, .nil, x, d, h => by simp at h
  | _, .cons (a := a) h r, x, d, e => by
    rw [List.lookup_cons] at e
    cases q : x == a with
    | true =>
      rw [q] at e
      cases e
      rw [eq_of_beq q]
      exact h
    | false =>
      rw [q] at e
      exact r.at_ x d e
inductive AllS {α : Type} (R : α → Prop) : List α → Prop
  | nil : AllS R []
  | cons {a : α} {l : List α} (h : R a) (r : AllS R l) : AllS R (a :: l)
theorem AllS.at_ {α : Type} {R : α → Prop} : ∀ {l : List α}, AllS R l → ∀ x ∈ l, R x
  | _, .nil, x, h => nomatch h
  | _, .cons h r, x, e => by
    rcases List.mem_cons.mp e with e | e
    · rw [e]; exact h
    · exact r.at_ x e
/-- a module without classes of its own -/
theorem modk0 {ck : Ck} {gs : List (Sel × Fn)} (h1 : AllT (fun x d => ∃ u, mg x = some u ∧ RelV (S0.toV d) u) ck.gls) (h2 : AllS (fun x => mg x = none) ck.nob) (h3 : CallT P w K mg base G k ck.calls gs) (h4 : ck.mths = []) (h5 : ck.clss = []) (h6 : ck.gts = []) :
    ModK P w K mg base G ⟨calls gs, fun _ _ => none, fun _ _ => none, isiT, fun _ _ => none⟩ ck k :=
  ⟨h1.at_, h2.at_, h3.at_, fun m x n ks h => (by rw [h4] at h; simp at h), fun f c j h => (nomatch h), isiT_ok, fun x c h => (by rw [h5] at h; cases h), fun d c F h => (nomatch h), fun x ds h => (by rw [h6] at h; cases h)⟩
end
/-! ### binding -/
def dflt : S0 → Value
  | .non => .none
  | .bl b => .bool b
  | .int i => .int i 0
  | .str s => .str s 0
def pickU (sel : Sel) (us : List Value) : List Value := sel.map fun x => match x with
  | .inl i => us.getD i .none
  | .inr c => dflt c
theorem pick_rel {sel : Sel} {vs : List V} {us : List Value} (r : Vals vs us) : Vals (pickV sel vs) (pickU sel us) := by
  induction sel with
  | nil => exact .nil
  | cons x sel ih =>
    refine .cons ?_ ih
    cases x with
    | inl i =>
      show RelV (vs.getD i .non) (us.getD i .none)
      rw [List.getD_eq_getElem?_getD, List.getD_eq_getElem?_getD]
      cases q : vs[i]? with
      | some v =>
        obtain ⟨u, hu, ru⟩ := r.get q
        rw [hu]
        exact ru
      | none =>
        have : us[i]? = none := by
          rw [List.getElem?_eq_none_iff] at q ⊢
          rw [← r.length]
          exact q
        rw [this]
        exact rfl
    | inr c =>
      cases c with
      | non => exact rfl
      | bl b => exact rfl
      | int i => exact ⟨_, rfl⟩
      | str s => exact ⟨_, rfl⟩
theorem kb_of {K : PySem.W.Frag} {fd : FuncData} {ps ks : List Str} {n : Nat} {sel : Sel} (h : ∀ (s : Shared) (us ws : List Value), us.length = n → ws.length = ks.length → BindsTo s fd ⟨us, ks.zip ws⟩ (ps.zip (pickU sel (us ++ ws)))) :
    ∃ g, KBn K fd ps n ks g (fun vs zs => pickV sel (vs ++ zs)) := ⟨fun us ws => pickU sel (us ++ ws), ⟨fun s us ws _ h1 h2 => h s us ws h1 h2, fun r1 r2 => pick_rel (r1.append r2)⟩⟩
end VS
/-! VTz: tables of own classes. -/
namespace VS
open PySem PySem.Spec PyProof.Rows L2

abbrev methsL (l : List (List (Str × Sel × Fn))) : Nat → Str → Option (Sel × Fn) := fun m c => (l.getD m []).lookup c
abbrev fldO (l : List (Str × List (Str × Nat))) : Str → Str → Option Nat := fun f c => (l.lookup f).bind fun t => t.lookup c
abbrev spsL (l : List ((Str × Str) × Fn)) : Str → Str → Option Fn := fun d c => l.lookup (d, c)
def gOf (l : List (Str × CInfo)) : GEnv := fun c => l.lookup c
def isiO (own : List Str) : CK → CK → Option Bool
  | .inl a, .inl b => if tyN a && tyN b then some (isiB a b) else none
  | .inl a, .inr c => if tyN a && own.contains c then some false else none
  | .inr c, .inl b => if tyN b && own.contains c then some false else none
  | .inr c, .inr c' => if own.contains c && own.contains c' then some (c == c') else none
theorem lookup_mem {α β : Type} [BEq α] [LawfulBEq α] : ∀ {l : List (α × β)} {x : α} {d : β}, l.lookup x = some d → (x, d) ∈ l
  | [], x, d, h => by simp at h
  | (a, b) :: l, x, d, h => by
    rw [List.lookup_cons] at h
    cases q : x == a with
    | true =>
      rw [q] at h
      cases h
      rw [eq_of_beq q]
      exact List.mem_cons_self
    | false =>
      rw [q] at h
      exact List.mem_cons_of_mem _ (lookup_mem h)
section
variable {P : Program} {w : World} {K : PySem.W.Frag} {mg : Str → Option Value} {base : Heap} {G : GEnv} {k : Nat}
/-- a class that a row of a table of fields asks for -/
abbrev FldK (K : PySem.W.Frag) (G : GEnv) (f c : Str) (j : Nat) : Prop := ∃ ci, G c = some ci ∧ ci.exn = false ∧ Cls K ci.addr ∧ NoAttr K ci.addr f ∧ fldIx f ci.flds = some j ∧ ci.flds.length < 1000
inductive FldT (K : PySem.W.Frag) (G : GEnv) : List (Str × List (Str × Nat)) → Prop
  | nil : FldT K G []
  | cons {f : Str} {t : List (Str × Nat)} {l : List (Str × List (Str × Nat))} (h : AllT (FldK K G f) t) (r : FldT K G l) : FldT K G ((f, t) :: l)
theorem fldO_ok : ∀ {l : List (Str × List (Str × Nat))}, FldT K G l → ∀ f, FldOk K G f (fldO l f)
  | _, .nil, f, c, j, h => by simp [fldO] at h
  | _, .cons (f := g) (t := t) h r, f, c, j, e => by
    unfold fldO at e
    rw [List.lookup_cons] at e
    cases q : f == g with
    | true =>
      rw [q] at e
      have := h.at_ c j e
      rw [eq_of_beq q]
      exact this
    | false =>
      rw [q] at e
      exact fldO_ok r f c j e
/-- what is asked of a class for isinstance -/
def OwnK (K : PySem.W.Frag) (G : GEnv) (own : List Str) (c : Str) : Prop := ∃ ci, G c = some ci ∧ ci.exn = false ∧ InsOk K ci.addr ∧ PySem.W.isClsIn K ci.addr = true ∧ PySem.W.typeIn K (.ref ci.addr) = some (.type "type") ∧
  (PySem.W.mroIn K ci.addr (.type "NoneType") = some false ∧ PySem.W.mroIn K ci.addr (.type "bool") = some false ∧ PySem.W.mroIn K ci.addr (.type "int") = some false ∧ PySem.W.mroIn K ci.addr (.type "str") = some false ∧ PySem.W.mroIn K ci.addr (.type "tuple") = some false ∧ PySem.W.mroIn K ci.addr (.type "list") = some false) ∧
  AllS (fun c' => ∃ ci', G c' = some ci' ∧ (c = c' ∨ ((Value.ref ci.addr == Value.ref ci'.addr) = false ∧ PySem.W.mroIn K ci.addr (.ref ci'.addr) = some false ∧ (c == c') = false))) own
theorem kit_ty_ref {a : String} {C : Addr} (ha : tyN a = true) (h1 : PySem.W.isClsIn K C = true) (h2 : PySem.W.typeIn K (.ref C) = some (.type "type")) : PySem.W.kitOne K (.type a) (.ref C) = some false := by
  unfold PySem.W.kitOne
  rw [if_neg (by simp)]
  unfold PySem.W.kitCls
  dsimp only
  rw [if_pos (by rw [Bool.and_eq_true]; exact ⟨h1, by rw [h2]; simp⟩)]
  unfold PySem.W.subIn
  dsimp only
  unfold tyN at ha
  simp only [Bool.or_eq_true, beq_iff_eq] at ha
  have go : ∀ l : List String, ∀ a, fastBuiltinMro a = some (l.map Value.type) → (fastBuiltinMro a).map (·.contains (Value.ref C)) = some false := fun l a e => by
    rw [e]
    simp only [Option.map_some]
    congr 1
    rw [List.contains_eq_mem]
    simp
  rcases ha with ((((rfl | rfl) | rfl) | rfl) | rfl) | rfl
  · exact go ["NoneType", "object"] _ (by decide +kernel)
  · exact go ["bool", "int", "object"] _ (by decide +kernel)
  · exact go ["int", "object"] _ (by decide +kernel)
  · exact go ["str", "object"] _ (by decide +kernel)
  · exact go ["tuple", "object"] _ (by decide +kernel)
  · exact go ["list", "object"] _ (by decide +kernel)
theorem kit_ref_ty {b : String} {C : Addr} (hb : tyN b = true) (h : PySem.W.mroIn K C (.type b) = some false) : PySem.W.kitOne K (.ref C) (.type b) = some false := by
  unfold PySem.W.kitOne
  rw [if_neg (by simp)]
  unfold PySem.W.kitCls
  dsimp only
  unfold tyN at hb
  simp only [Bool.or_eq_true, beq_iff_eq] at hb
  rcases hb with ((((rfl | rfl) | rfl) | rfl) | rfl) | rfl <;> (rw [if_pos (by decide +kernel)]; exact h)
theorem isiO_ok {own : List Str} (h : AllS (OwnK K G own) own) : IsiTab K G (isiO own) := by
  have at_ : ∀ {c : Str}, own.contains c = true → OwnK K G own c := fun {c} hc => by
    rw [List.contains_eq_mem] at hc
    exact h.at_ c (of_decide_eq_true hc)
  refine ⟨fun c k b e => ?_, fun t k b e => ?_⟩
  · have hc : own.contains c = true := by
      cases k with
      | inl b' =>
        unfold isiO at e
        dsimp only at e
        split at e
        · next q => rw [Bool.and_eq_true] at q; exact q.2
        · cases e
      | inr c' =>
        unfold isiO at e
        dsimp only at e
        split at e
        · next q => rw [Bool.and_eq_true] at q; exact q.1
        · cases e
    obtain ⟨ci, h1, h2, h3, _⟩ := at_ hc
    exact ⟨ci, h1, h2, h3⟩
  · cases t with
    | inl a =>
      cases k with
      | inl b' =>
        unfold isiO at e
        dsimp only at e
        split at e
        · next hh =>
          cases e
          rw [Bool.and_eq_true] at hh
          exact ⟨_, _, rfl, rfl, kit_ty (isiB_ok hh.1 hh.2)⟩
        · cases e
      | inr c =>
        unfold isiO at e
        dsimp only at e
        split at e
        · next hh =>
          cases e
          rw [Bool.and_eq_true] at hh
          obtain ⟨ci, h1, h2, h3, h4, h5, _⟩ := at_ hh.2
          exact ⟨_, .ref ci.addr, rfl, by unfold ckVal; dsimp only; rw [h1], kit_ty_ref hh.1 h4 h5⟩
        · cases e
    | inr c =>
      cases k with
      | inl b' =>
        unfold isiO at e
        dsimp only at e
        split at e
        · next hh =>
          cases e
          rw [Bool.and_eq_true] at hh
          obtain ⟨ci, h1, h2, h3, h4, h5, ⟨m1, m2, m3, m4, m5, m6⟩, _⟩ := at_ hh.2
          refine ⟨.ref ci.addr, _, by unfold ckVal; dsimp only; rw [h1], rfl, kit_ref_ty hh.1 ?_⟩
          have hb := hh.1
          unfold tyN at hb
          simp only [Bool.or_eq_true, beq_iff_eq] at hb
          rcases hb with ((((rfl | rfl) | rfl) | rfl) | rfl) | rfl
          · exact m1
          · exact m2
          · exact m3
          · exact m4
          · exact m5
          · exact m6
        · cases e
      | inr c' =>
        unfold isiO at e
        dsimp only at e
        split at e
        · next hh =>
          cases e
          rw [Bool.and_eq_true] at hh
          obtain ⟨ci, h1, h2, h3, h4, h5, _, h7⟩ := at_ hh.1
          have hm : c' ∈ own := by
            have := hh.2
            rw [List.contains_eq_mem] at this
            exact of_decide_eq_true this
          obtain ⟨ci', g1, g2⟩ := h7.at_ c' hm
          refine ⟨.ref ci.addr, .ref ci'.addr, by unfold ckVal; dsimp only; rw [h1], by unfold ckVal; dsimp only; rw [g1], ?_⟩
          rcases g2 with rfl | ⟨g2, g3, g4⟩
          · rw [h1] at g1
            cases g1
            unfold PySem.W.kitOne
            rw [if_pos (by simp)]
            simp
          · rw [g4]
            unfold PySem.W.kitOne
            rw [if_neg (by rw [g2]; decide)]
            unfold PySem.W.kitCls
            dsimp only
            obtain ⟨ci2, k1, _, _, k4, k5, _⟩ := at_ hh.2
            rw [k1] at g1
            cases g1
            rw [if_pos (by rw [Bool.and_eq_true]; exact ⟨k4, by rw [k5]; simp⟩)]
            exact g3
        · cases e
inductive MthT (P : Program) (w : World) (K : PySem.W.Frag) (mg : Str → Option Value) (base : Heap) (G : GEnv) (k : Nat) : List (Str × Nat × List Str) → (Nat → Str → Option (Sel × Fn)) → Prop
  | nil {D : Nat → Str → Option (Sel × Fn)} : MthT P w K mg base G k [] D
  | cons {x : Str} {n : Nat} {ks : List Str} {l : List (Str × Nat × List Str)} {D : Nat → Str → Option (Sel × Fn)} (h : MethK P w K mg base G k x n ks (D 0)) (r : MthT P w K mg base G k l fun m => D (m + 1)) : MthT P w K mg base G k ((x, n, ks) :: l) D
theorem MthT.at_ : ∀ {l : List (Str × Nat × List Str)} {D : Nat → Str → Option (Sel × Fn)}, MthT P w K mg base G k l D → ∀ m x n ks, l[m]? = some (x, n, ks) → MethK P w K mg base G k x n ks (D m)
  | _, _, .nil, m, x, n, ks, h => by simp at h
  | _, _, .cons h r, 0, x, n, ks, e => by
    cases e
    exact h
  | _, _, .cons h r, m + 1, x, n, ks, e => r.at_ m x n ks (by simpa using e)
inductive CalT (P : Program) (w : World) (K : PySem.W.Frag) (mg : Str → Option Value) (base : Heap) (G : GEnv) (k : Nat) : List (Str × Nat × List Str) → (Nat → Sel × Fn) → Prop
  | nil {D : Nat → Sel × Fn} : CalT P w K mg base G k [] D
  | cons {x : Str} {n : Nat} {ks : List Str} {l : List (Str × Nat × List Str)} {D : Nat → Sel × Fn} (h : CallK P w K mg base G k x n ks (D 0)) (r : CalT P w K mg base G k l fun m => D (m + 1)) : CalT P w K mg base G k ((x, n, ks) :: l) D
theorem CalT.at_ : ∀ {l : List (Str × Nat × List Str)} {D : Nat → Sel × Fn}, CalT P w K mg base G k l D → ∀ m x n ks, l[m]? = some (x, n, ks) → CallK P w K mg base G k x n ks (D m)
  | _, _, .nil, m, x, n, ks, h => by simp at h
  | _, _, .cons h r, 0, x, n, ks, e => by
    cases e
    exact h
  | _, _, .cons h r, m + 1, x, n, ks, e => r.at_ m x n ks (by simpa using e)
theorem modk {ck : Ck} {C : Nat → Sel × Fn} {M : Nat → Str → Option (Sel × Fn)} {fl : Str → Str → Option Nat} {isi : CK → CK → Option Bool} {sp : List ((Str × Str) × Fn)} (h1 : AllT (fun x d => ∃ u, mg x = some u ∧ RelV (S0.toV d) u) ck.gls) (h2 : AllS (fun x => mg x = none) ck.nob)
    (h3 : CalT P w K mg base G k ck.calls C) (h4 : MthT P w K mg base G k ck.mths M) (h5 : ∀ f, FldOk K G f (fl f)) (h6 : IsiTab K G isi) (h7 : AllT (fun x c => ∃ ci, G c = some ci ∧ mg x = some (.ref ci.addr)) ck.clss) (h8 : AllT (fun (d : Str × Str) F => SpK P w K mg base G k d.1 d.2 F) sp) (h9 : AllT (fun x ds => GtK K mg x ds) ck.gts) :
    ModK P w K mg base G ⟨C, M, fl, isi, spsL sp⟩ ck k :=
  ⟨h1.at_, h2.at_, h3.at_, h4.at_, h5, h6, h7.at_, fun d c F e => h8.at_ (d, c) F e, h9.at_⟩
theorem meth_ok {x : Str} {n : Nat} {ks : List Str} {l : List (Str × Sel × Fn)} (h : AllT (fun c (sf : Sel × Fn) => ∃ ci j f fd ps, G c = some ci ∧ ci.exn = false ∧ Cls K ci.addr ∧ Meth K ci.addr x f ∧ x ∉ ci.flds ∧ FnG P w K mg base j f fd ps (spF K G sf.2) ∧ j ≤ k ∧ ∃ g, KBn K fd ps (n + 1) ks g (fun vs zs => pickV sf.1 (vs ++ zs))) l) :
    MethK P w K mg base G k x n ks fun c => l.lookup c := fun c sel F e => h.at_ c (sel, F) e
theorem funA_mk {x qual : Str} {params : Arguments} {body : List Stmt} {scope : Scope} {f : Addr} {oc : Value} {od : Option Addr} {dV kV doc pm : Value} {an : Option Addr} {cdv ct : Value} {osl : Array (Option Value)}
    (l : K.lookup f = some ⟨oc, od, .func (PySem.W.fnOf x qual params body scope dV kV doc pm an cdv ct), osl⟩) (c : PySem.W.codeIn K cdv qual = true) : FunA K x qual params body scope f (PySem.W.fnOf x qual params body scope dV kV doc pm an cdv ct) :=
  ⟨oc, od, dV, kV, doc, pm, an, cdv, ct, osl, rfl, l, c⟩
end
/-! ### one default -/
def pickD (dv : Value) (sel : Sel) (us : List Value) : List Value := sel.map fun x => match x with
  | .inl i => us.getD i .none
  | .inr _ => dv
def oneD (c : S0) (sel : Sel) : Bool := sel.all fun x => match x with
  | .inl _ => true
  | .inr d => beqS0 d c
theorem pickD_rel {dv : Value} {c : S0} (hc : RelV c.toV dv) {vs : List V} {us : List Value} (r : Vals vs us) : ∀ {sel : Sel}, oneD c sel = true → Vals (pickV sel vs) (pickD dv sel us)
  | [], _ => .nil
  | x :: sel, h => by
    unfold oneD at h
    rw [List.all_cons, Bool.and_eq_true] at h
    refine .cons ?_ (pickD_rel hc r h.2)
    cases x with
    | inl i =>
      show RelV (vs.getD i .non) (us.getD i .none)
      rw [List.getD_eq_getElem?_getD, List.getD_eq_getElem?_getD]
      cases q : vs[i]? with
      | some v =>
        obtain ⟨u, hu, ru⟩ := r.get q
        rw [hu]
        exact ru
      | none =>
        have : us[i]? = none := by
          rw [List.getElem?_eq_none_iff] at q ⊢
          rw [← r.length]
          exact q
        rw [this]
        exact rfl
    | inr d =>
      have := beqS0_eq h.1
      subst this
      exact hc
theorem kb_d {K : PySem.W.Frag} {fd : FuncData} {ps ks : List Str} {n : Nat} {sel : Sel} {dv : Value} {c : S0} (hc : RelV c.toV dv) (ho : oneD c sel = true) (h : ∀ (s : Shared) (us ws : List Value), K.In s.heap → us.length = n → ws.length = ks.length → BindsTo s fd ⟨us, ks.zip ws⟩ (ps.zip (pickD dv sel (us ++ ws)))) :
    ∃ g, KBn K fd ps n ks g (fun vs zs => pickV sel (vs ++ zs)) := ⟨fun us ws => pickD dv sel (us ++ ws), ⟨h, fun r1 r2 => pickD_rel hc (r1.append r2) ho⟩⟩
theorem bind_d {K : PySem.W.Frag} {s : Shared} {fd : FuncData} {args : Args} {b : List (Str × Value)} {T : Addr} {oT : Value} {dT : Option Addr} {its : Array Value} {nT : Nat} {sT : Array (Option Value)} (X : K.In s.heap) (l : K.lookup T = some ⟨oT, dT, .seq its nT, sT⟩)
    (h : ∃ k, bindArgs fd args = seqItems? (.ref T) >>= k ∧ k (some its) = pure b) : BindsTo s fd args b := by
  obtain ⟨k, e1, e2⟩ := h
  refine BindsTo.of_looks fun M => ?_
  rw [e1]
  exact looks_items X l rfl (.of_pure e2)
end VS
/-! VSw: the small language run by simp. -/
namespace VS
open PySem PySem.Spec PyProof.Rows L2

def Out.bnd {α β : Type} (x : Out α) (k : α → Sl → Out β) : Out β := match x with
  | .ok a s => k a s
  | .er x s => .er x s
  | .bad => .bad
def Out.bns {α : Type} (x : Out α) (k : α → Sl → SO) : SO := match x with
  | .ok a s => k a s
  | .er x s => .er x s
  | .bad => .bad
def SO.bnd (x : SO) (k : Sl → SO) : SO := match x with
  | .nx s => k s
  | o => o
@[simp] theorem bnd_ok {α β : Type} {a : α} {s : Sl} {k : α → Sl → Out β} : (Out.ok a s).bnd k = k a s := Eq.trans rfl rfl
@[simp] theorem bns_ok {α : Type} {a : α} {s : Sl} {k : α → Sl → SO} : (Out.ok a s).bns k = k a s := Eq.trans rfl rfl
@[simp] theorem bnd_nx {s : Sl} {k : Sl → SO} : (SO.nx s).bnd k = k s := Eq.trans rfl rfl
@[simp] theorem bnd_rt {t : T} {s : Sl} {k : Sl → SO} : (SO.rt t s).bnd k = .rt t s := Eq.trans rfl rfl
@[simp] theorem bnd_er {x : D} {s : Sl} {k : Sl → SO} : (SO.er x s).bnd k = .er x s := Eq.trans rfl rfl
section
variable {Γ : Ev} {s : Sl} {f g h : Sl → Out Op} {fin : Fin1}
/-- operands one behind another: acc are there -/
def kF (fs : List (Sl → Out Op)) (fin : Fin1) (acc : List Op) (o : Op) (s : Sl) : Out Op := match evAs fs s with
  | .ok os s1 => fin (acc ++ o :: os) s1
  | .er x s1 => .er x s1
  | .bad => .bad
@[simp] theorem r_evF0 : evF [] fin s = fin [] s := Eq.trans rfl rfl
@[simp] theorem r_evFc {fs : List (Sl → Out Op)} : evF (f :: fs) fin s = (f s).bnd (kF fs fin []) := by
  simp only [evF, evAs]
  cases f s with
  | ok o s1 =>
    simp only [bnd_ok, kF]
    cases evAs fs s1 <;> rfl
  | _ => rfl
@[simp] theorem r_kF0 {acc : List Op} {o : Op} : kF [] fin acc o s = fin (acc ++ [o]) s := Eq.trans rfl rfl
@[simp] theorem r_kFc {fs : List (Sl → Out Op)} {acc : List Op} {o : Op} : kF (f :: fs) fin acc o s = (f s).bnd (kF fs fin (acc ++ [o])) := by
  simp only [kF, evAs]
  cases f s with
  | ok o s1 =>
    simp only [bnd_ok, kF]
    cases evAs fs s1 with
    | ok os s2 => simp [List.append_assoc]
    | _ => rfl
  | _ => rfl
/-! ### the language -/
@[simp] theorem r_nm {i : Nat} : evX Γ (.nm i) s = evName i s := by simp only [evX]
@[simp] theorem r_k {d : S0} : evX Γ (.k d) s = .ok (.vl (.leaf d.toD)) s := by simp only [evX]; rfl
@[simp] theorem r_bin {o : BO} {a b : Ex} : evX Γ (.bin o a b) s = evF [evX Γ a, evX Γ b] (finB o) s := by simp only [evX]
@[simp] theorem r_neg {a : Ex} : evX Γ (.neg a) s = evF [evX Γ a] finNeg s := by simp only [evX]
@[simp] theorem r_nott {a : Ex} : evX Γ (.nott a) s = evF [evX Γ a] finNot s := by simp only [evX]
@[simp] theorem r_cmp {o : CO} {a b : Ex} : evX Γ (.cmp o a b) s = evF [evX Γ a, evX Γ b] (finC Γ o) s := by simp only [evX]
@[simp] theorem r_chain {o p : CO} {a b c : Ex} : evX Γ (.chain o p a b c) s = evChain (evX Γ a) (evX Γ b) (evX Γ c) (finC Γ o) (finC Γ p) s := by simp only [evX]
@[simp] theorem r_and {es : List Ex} : evX Γ (.and es) s = evBoolV .And (evXs Γ es) s := by simp only [evX]
@[simp] theorem r_or {es : List Ex} : evX Γ (.or es) s = evBoolV .Or (evXs Γ es) s := by simp only [evX]
@[simp] theorem r_ix {a b : Ex} : evX Γ (.ix a b) s = evF [evX Γ a, evX Γ b] (finS qIx) s := by simp only [evX]
@[simp] theorem r_cut {a b c : Ex} : evX Γ (.cut a b c) s = evF [evX Γ a, evInt (evX Γ b), evInt (evX Γ c)] (finS (qCut true true)) s := by simp only [evX]
@[simp] theorem r_cutL {a b : Ex} : evX Γ (.cutL a b) s = evF [evX Γ a, evInt (evX Γ b)] (finS (qCut true false)) s := by simp only [evX]
@[simp] theorem r_cutU {a b : Ex} : evX Γ (.cutU a b) s = evF [evX Γ a, evInt (evX Γ b)] (finS (qCut false true)) s := by simp only [evX]
@[simp] theorem r_rev {a : Ex} : evX Γ (.rev a) s = evF [evX Γ a] (finS qRvA) s := by simp only [evX]
@[simp] theorem r_lst {es : List Ex} : evX Γ (.lst es) s = evF (evXs Γ es) finList s := by simp only [evX]
@[simp] theorem r_tup {es : List Ex} : evX Γ (.tup es) s = evF (evXs Γ es) finTup s := by simp only [evX]
@[simp] theorem r_bi {b : BI} {es : List Ex} : evX Γ (.bi b es) s = evF (evXs Γ es) (finBI Γ b) s := by simp only [evX]
@[simp] theorem r_call {c : Nat} {es : List Ex} : evX Γ (.call c es) s = evF (evXs Γ es) (finSel (Γ.calls c).1 (finCall (Γ.calls c).2)) s := by simp only [evX]
@[simp] theorem r_mth {m : Nat} {o : Ex} {es : List Ex} : evX Γ (.mth m o es) s = evMeth (Γ.mths m) (evX Γ o) (evXs Γ es) s := by simp only [evX]
@[simp] theorem r_fst {es : List Ex} : evX Γ (.fst es) s = evJoin (evXs Γ es) Str.empty s := by simp only [evX]
@[simp] theorem r_fmr {a : Ex} : evX Γ (.fmr a) s = evF [evX Γ a] (finFmr Γ) s := by simp only [evX]
@[simp] theorem r_kt {ds : List S0} : evX Γ (.kt ds) s = .ok (.vl (.leaf (.tup (ds.map S0.toD)))) s := by simp only [evX]; rfl
def kJ (fs : List (Sl → Out Op)) (acc : Str) : Op → Sl → Out Op
  | .vl (.leaf (.str y)), s => if (acc ++ y).length ≤ sizeLine then evJoin fs (acc ++ y) s else .bad
  | _, _ => .bad
@[simp] theorem r_jn {acc : Str} : evJoin [] acc s = .ok (.vl (.leaf (.str acc))) s := rfl
@[simp] theorem r_jc {f : Sl → Out Op} {fs : List (Sl → Out Op)} {acc : Str} : evJoin (f :: fs) acc s = (f s).bnd (kJ fs acc) := by
  unfold evJoin
  cases f s with
  | ok o s1 =>
    rw [bnd_ok]
    cases o with
    | rt i => rfl
    | vl t =>
      cases t with
      | leaf d => cases d <;> rfl
      | node _ => rfl
      | ins _ _ => rfl
  | er _ _ => rfl
  | bad => rfl
@[simp] theorem r_kJ {fs : List (Sl → Out Op)} {acc y : Str} (h : (acc ++ y).length ≤ sizeLine) : kJ fs acc (.vl (.leaf (.str y))) s = evJoin fs (acc ++ y) s := by
  show (if (acc ++ y).length ≤ sizeLine then evJoin fs (acc ++ y) s else .bad) = _
  exact if_pos h
@[simp] theorem r_fld {x : Str} {o : Ex} : evX Γ (.fld x o) s = evFld (Γ.flds x) (evX Γ o) s := by simp only [evX]
@[simp] theorem r_isi {c : CK} {o : Ex} : evX Γ (.isi c o) s = evIsi Γ.isi c (evX Γ o) s := by simp only [evX]
@[simp] theorem r_isiT {ks : List CK} {o : Ex} : evX Γ (.isiT ks o) s = evIsiT Γ.isi ks (evX Γ o) s := by simp only [evX]
@[simp] theorem r_lrg {a : Ex} : evX Γ (.lrg a) s = evF [evX Γ a] (finS qLrg) s := by simp only [evX]
@[simp] theorem r_trg {a : Ex} : evX Γ (.trg a) s = evF [evX Γ a] (finS qTrg) s := by simp only [evX]
@[simp] theorem r_app {i : Nat} {e : Ex} : evX Γ (.app i e) s = evApp i (evX Γ e) s := by simp only [evX]
@[simp] theorem r_pop {i : Nat} : evX Γ (.pop i) s = evPop i s := by simp only [evX]
@[simp] theorem r_clr {i : Nat} : evX Γ (.clr i) s = evClear i s := by simp only [evX]
@[simp] theorem r_lc {w : Wx} {p : Pat} {t : Option Tx} {e : Ex} {vs : List Nat} : evX Γ (.lc w p t e vs) s = evLC (evW Γ w) p (evTo Γ t) (evX Γ e) vs s := by simp only [evX]
@[simp] theorem r_xs0 : evXs Γ [] = [] := by simp only [evXs]
@[simp] theorem r_xs1 {e : Ex} {es : List Ex} : evXs Γ (e :: es) = evX Γ e :: evXs Γ es := by simp only [evXs]
def intK (o : Op) (s : Sl) : Out Op := match o with
  | .vl (.leaf (.int i)) => .ok (.vl (.leaf (.int i))) s
  | _ => .bad
@[simp] theorem r_intK {i : Int} : intK (.vl (.leaf (.int i))) s = .ok (.vl (.leaf (.int i))) s := Eq.trans rfl rfl
@[simp] theorem r_evInt : evInt f s = (f s).bnd intK := by
  unfold evInt
  cases f s with
  | ok o s1 =>
    cases o with
    | rt i => rfl
    | vl t =>
      cases t with
      | leaf d => cases d <;> rfl
      | _ => rfl
  | _ => rfl
def truK (o : Op) (s1 : Sl) : Out Bool := match (snapOp s1 o).bind truD with
  | some b => .ok b s1
  | none => .bad
@[simp] theorem r_tru {e : Ex} : evT Γ (.tru e) s = (evX Γ e s).bnd truK := by
  simp only [evT, evTru]
  cases evX Γ e s with
  | ok o s1 =>
    simp only [bnd_ok, truK]
    cases snapOp s1 o <;> rfl
  | _ => rfl
@[simp] theorem r_truB {b : Bool} : truK (.vl (.leaf (.bl b))) s = .ok b s := Eq.trans rfl rfl
def notK (b : Bool) (s : Sl) : Out Bool := .ok (!b) s
@[simp] theorem r_notK {b : Bool} : notK b s = .ok (!b) s := Eq.trans rfl rfl
@[simp] theorem r_tnot {t : Tx} : evT Γ (.nott t) s = (evT Γ t s).bnd notK := by
  simp only [evT, evNotB]
  cases evT Γ t s <;> rfl
def andK (Γ : Ev) (ts : List Tx) (b : Bool) (s : Sl) : Out Bool := if b = true then evT Γ (.and ts) s else .ok false s
def orK (Γ : Ev) (ts : List Tx) (b : Bool) (s : Sl) : Out Bool := if b = true then .ok true s else evT Γ (.or ts) s
@[simp] theorem r_andT {ts : List Tx} : andK Γ ts true s = evT Γ (.and ts) s := Eq.trans rfl rfl
@[simp] theorem r_andF {ts : List Tx} : andK Γ ts false s = .ok false s := Eq.trans rfl rfl
@[simp] theorem r_orT {ts : List Tx} : orK Γ ts true s = .ok true s := Eq.trans rfl rfl
@[simp] theorem r_orF {ts : List Tx} : orK Γ ts false s = evT Γ (.or ts) s := Eq.trans rfl rfl
@[simp] theorem r_tand1 {t : Tx} : evT Γ (.and [t]) s = evT Γ t s := by simp only [evT, evTs, evBoolB]
@[simp] theorem r_tand2 {t u : Tx} {ts : List Tx} : evT Γ (.and (t :: u :: ts)) s = (evT Γ t s).bnd (andK Γ (u :: ts)) := by
  simp only [evT, evTs, evBoolB, evAndB]
  cases evT Γ t s with
  | ok b s1 => cases b <;> simp only [bnd_ok, r_andT, r_andF, evT, evTs, evBoolB]
  | _ => rfl
@[simp] theorem r_tor1 {t : Tx} : evT Γ (.or [t]) s = evT Γ t s := by simp only [evT, evTs, evBoolB]
@[simp] theorem r_tor2 {t u : Tx} {ts : List Tx} : evT Γ (.or (t :: u :: ts)) s = (evT Γ t s).bnd (orK Γ (u :: ts)) := by
  simp only [evT, evTs, evBoolB, evOrB]
  cases evT Γ t s with
  | ok b s1 => cases b <;> simp only [bnd_ok, r_orT, r_orF, evT, evTs, evBoolB]
  | _ => rfl
def isBlK (o : Op) (s : Sl) : Out Bool := match o with
  | .vl (.leaf (.bl b)) => .ok b s
  | _ => .bad
@[simp] theorem r_isBl {b : Bool} : isBlK (.vl (.leaf (.bl b))) s = .ok b s := Eq.trans rfl rfl
theorem r_test : evTest f s = (f s).bnd isBlK := by
  unfold evTest
  cases f s with
  | ok o s1 =>
    cases o with
    | rt i => rfl
    | vl t =>
      cases t with
      | leaf d => cases d <;> rfl
      | _ => rfl
  | _ => rfl
@[simp] theorem r_tcmp {o : CO} {a b : Ex} : evT Γ (.cmp o a b) s = (evX Γ (.cmp o a b) s).bnd isBlK := by simp only [evT, r_test, evX]
@[simp] theorem r_tchain {o p : CO} {a b c : Ex} : evT Γ (.chain o p a b c) s = (evX Γ (.chain o p a b c) s).bnd isBlK := by simp only [evT, r_test, evX]
@[simp] theorem r_to0 : evTo Γ none s = .ok true s := by simp only [evTo]; rfl
@[simp] theorem r_to1 {t : Tx} : evTo Γ (some t) s = evT Γ t s := by simp only [evTo]
/-! ### statements -/
variable {fx : List Nat}
@[simp] theorem r_ss0 : evSs Γ [] fx s = .nx s := by simp only [evSs]; rfl
@[simp] theorem r_ss1 {a : Sm} {b : List Sm} : evSs Γ (a :: b) fx s = (evSm Γ a fx s).bnd (evSs Γ b fx) := by
  simp only [evSs, evSeq]
  cases evSm Γ a fx s <;> rfl
@[simp] theorem r_sfgt {is : List Nat} : evSm Γ (.fgt is) fx s = .nx (fgtS is s) := by simp only [evSm]
@[simp] theorem r_fgt0 : fgtS [] s = s := rfl
@[simp] theorem r_fgt1 {i : Nat} {is : List Nat} : fgtS (i :: is) s = fgtS is (s.set i .un) := rfl
@[simp] theorem r_snx : evSm Γ .nx fx s = .nx s := by simp only [evSm]; rfl
def asgK (fx : List Nat) (p : Pat) (o : Op) (s1 : Sl) : SO := match settle1 s1 o with
  | some (t, s2) => if p.slots.any (fun i => fx.contains i) = true then .bad else match bindP p t s2 with
    | some s3 => .nx s3
    | none => .bad
  | none => .bad
@[simp] theorem r_sasg {p : Pat} {e : Ex} : evSm Γ (.asg p e) fx s = (evX Γ e s).bns (asgK fx p) := by
  simp only [evSm, evAsg]
  cases evX Γ e s with
  | ok o s1 =>
    simp only [bns_ok, asgK] <;> cases settle1 s1 o <;> rfl
  | _ => rfl
def dropK (_ : Op) (s : Sl) : SO := .nx s
@[simp] theorem r_dropK {o : Op} : dropK o s = .nx s := Eq.trans rfl rfl
@[simp] theorem r_sdrop {e : Ex} : evSm Γ (.drop e) fx s = (evX Γ e s).bns dropK := by
  simp only [evSm, evDrop]
  cases evX Γ e s <;> rfl
def iffK (Γ : Ev) (a b : List Sm) (fx : List Nat) (c : Bool) (s : Sl) : SO := if c = true then evSs Γ a fx s else evSs Γ b fx s
@[simp] theorem r_iffT {a b : List Sm} : iffK Γ a b fx true s = evSs Γ a fx s := Eq.trans rfl rfl
@[simp] theorem r_iffF {a b : List Sm} : iffK Γ a b fx false s = evSs Γ b fx s := Eq.trans rfl rfl
@[simp] theorem r_siff {t : Tx} {a b : List Sm} : evSm Γ (.iff t a b) fx s = (evT Γ t s).bns (iffK Γ a b fx) := by
  simp only [evSm, evIfS]
  cases evT Γ t s with
  | ok b s1 => cases b <;> rfl
  | _ => rfl
def retK (fx : List Nat) (o : Op) (s1 : Sl) : SO := match moved fx s1 o with
  | some (t, s2) => .rt t s2
  | none => .bad
@[simp] theorem r_sret {e : Ex} : evSm Γ (.ret e) fx s = (evX Γ e s).bns (retK fx) := by
  simp only [evSm, evRet]
  cases evX Γ e s <;> rfl
@[simp] theorem r_sretN : evSm Γ .retN fx s = .rt (.leaf .non) s := by simp only [evSm]; rfl
@[simp] theorem r_sset {i : Nat} {a e : Ex} : evSm Γ (.setIx i a e) fx s = evSetIx i (evX Γ a) (evX Γ e) s := by simp only [evSm]
@[simp] theorem r_sfld {i : Nat} {x : Str} {e : Ex} : evSm Γ (.setFld i x e) fx s = evSetFld i (Γ.flds x) (evX Γ e) s := by simp only [evSm]
def forK (Γ : Ev) (p : Pat) (b : List Sm) (fx : List Nat) (wk : Walked) (s : Sl) : SO := if p.slots.any (fun i => (wk.src.map (·.1) ++ fx).contains i) = true then .bad else forL wk.src p (evSs Γ b (wk.src.map (·.1) ++ fx)) wk.ds s
@[simp] theorem r_sfor {w : Wx} {p : Pat} {b : List Sm} : evSm Γ (.for w p b) fx s = (evW Γ w s).bns (forK Γ p b fx) := by
  simp only [evSm, evFor]
  cases evW Γ w s <;> rfl
/-- a loop over things that no slot holds -/
theorem r_for0 {p : Pat} {b : List Sm} {ds : List D} (h : p.slots.any (fun i => fx.contains i) = false) : forK Γ p b fx ⟨ds, []⟩ s = forL [] p (evSs Γ b fx) ds s := by
  simp only [forK, List.map_nil, List.nil_append]
  rw [h]
  rfl
@[simp] theorem r_swhl {n : Nat} {t : Tx} {b : List Sm} : evSm Γ (.whl n t b) fx s = evWhile (evT Γ t) (evSs Γ b fx) n s := by simp only [evSm]
def rngK (o : Op) (s1 : Sl) : Out Walked := match snapOp s1 o with
  | some (.int j) => if in62 j && decide (j.toNat ≤ sizeLine) then .ok ⟨rangeD 0 j.toNat, []⟩ s1 else .bad
  | _ => .bad
@[simp] theorem r_rng1 {a : Ex} : evW Γ (.rng [a]) s = (evX Γ a s).bnd rngK := by
  simp only [evW, evXs, evRange, evAs]
  cases evX Γ a s with
  | ok o s1 =>
    simp only [bnd_ok, snapOps, rngK]
    cases snapOp s1 o with
    | none => rfl
    | some d => cases d <;> rfl
  | _ => rfl
def seqK (o : Op) (s1 : Sl) : Out Walked := match iterSrc s1 o with
  | some (_, ds, src, s2) => .ok ⟨ds, src⟩ s2
  | none => .bad
@[simp] theorem r_seq {a : Ex} : evW Γ (.seq a) s = (evX Γ a s).bnd seqK := by
  simp only [evW, evIterSeq]
  cases evX Γ a s <;> rfl
/-! ### names -/
def ofTree (i : Nat) (s : Sl) : Option T → Out Op
  | some (.leaf d) => .ok (.vl (.leaf d)) s
  | some _ => .ok (.rt i) s
  | none => .bad
@[simp] theorem r_name {i : Nat} : evName i s = ofTree i s (treeAt s i) := by
  unfold evName ofTree
  cases treeAt s i with
  | none => rfl
  | some t => cases t <;> rfl
@[simp] theorem r_ofL {i : Nat} {d : D} : ofTree i s (some (.leaf d)) = .ok (.vl (.leaf d)) s := rfl
@[simp] theorem r_ofN {i : Nat} {ts : List T} : ofTree i s (some (.node ts)) = .ok (.rt i) s := rfl
@[simp] theorem r_ofI {i : Nat} {c : Str} {ts : List T} : ofTree i s (some (.ins c ts)) = .ok (.rt i) s := rfl
@[simp] theorem r_at0 {x : SV} {l : Sl} : treeAt (x :: l) 0 = (match x with | .un => none | .tr t => some t | .lk t => some t) := by cases x <;> rfl
@[simp] theorem r_atS {x : SV} {l : Sl} {i : Nat} : treeAt (x :: l) (i + 1) = treeAt l i := rfl
/-! ### whole numbers: their size -/
class Bd (i : Int) (n : outParam Nat) : Prop where
  bd : i.natAbs < 2 ^ n
theorem log2_lt {a n : Nat} (h : a < 2 ^ n) (hn : 0 < n) : a.log2 < n := by
  by_cases h0 : a = 0
  · subst h0
    simpa using hn
  · exact (Nat.log2_lt h0).mpr h
theorem mulOk_bd {i j : Int} {n m : Nat} [a : Bd i n] [b : Bd j m] (h : n + m < 133999998) : mulOk i j = true := by
  unfold mulOk
  refine decide_eq_true ?_
  have h1 : i.natAbs.log2 < n + 1 := log2_lt (Nat.lt_of_lt_of_le a.bd (Nat.pow_le_pow_right (by omega) (by omega))) (by omega)
  have h2 : j.natAbs.log2 < m + 1 := log2_lt (Nat.lt_of_lt_of_le b.bd (Nat.pow_le_pow_right (by omega) (by omega))) (by omega)
  omega
/-! ### operators at whole numbers -/
variable {i j : Int} {d : D}
abbrev vI (i : Int) : Op := .vl (.leaf (.int i))
@[simp] theorem r_mulI (h : mulOk i j = true) : finB .mul [.vl (.leaf (.int i)), .vl (.leaf (.int j))] s = .ok (.vl (.leaf (.int (i * j)))) s := by
  simp [finB, finMul, finIf, snapOps, snapOp, isTI, isII, finP, bMul, bI, h, S0.toD]
@[simp] theorem r_addI : finB .add [.vl (.leaf (.int i)), .vl (.leaf (.int j))] s = .ok (.vl (.leaf (.int (i + j)))) s := by
  simp [finB, finAdd, finIf, snapOps, snapOp, isI2, finP, bAdd, bI, S0.toD]
@[simp] theorem r_subI : finB .sub [.vl (.leaf (.int i)), .vl (.leaf (.int j))] s = .ok (.vl (.leaf (.int (i - j)))) s := by
  simp [finB, snapOps, snapOp, finP, bSub, bI, S0.toD]
@[simp] theorem r_modI (h : j ≠ 0) : finB .mod [.vl (.leaf (.int i)), .vl (.leaf (.int j))] s = .ok (.vl (.leaf (.int (i.fmod j)))) s := by
  simp [finB, snapOps, snapOp, finP, bMod, bI, S0.toD, h]
@[simp] theorem r_divI (h : divOk j = true) : finB .div [.vl (.leaf (.int i)), .vl (.leaf (.int j))] s = .ok (.vl (.leaf (.int (i.fdiv j)))) s := by
  simp [finB, snapOps, snapOp, finP, bDiv, bI, S0.toD, h]
@[simp] theorem r_powI (h : (decide (0 ≤ j) && decide (j ≤ 1000000) && decide (i.natAbs < 2 ^ 64)) = true) : finB .pow [.vl (.leaf (.int i)), .vl (.leaf (.int j))] s = .ok (.vl (.leaf (.int (i ^ j.toNat)))) s := by
  simp only [finB, snapOps, snapOp, finP, bPow, bI, frz_leaf]
  rw [if_pos h]
  rfl
@[simp] theorem r_ltI : finC Γ .lt [.vl (.leaf (.int i)), .vl (.leaf (.int j))] s = .ok (.vl (.leaf (.bl (decide (i < j))))) s := by simp [finC, snapOps, snapOp, finP, bLt, bI, S0.toD]
@[simp] theorem r_leI : finC Γ .le [.vl (.leaf (.int i)), .vl (.leaf (.int j))] s = .ok (.vl (.leaf (.bl (decide (i ≤ j))))) s := by simp [finC, snapOps, snapOp, finP, bLe, bI, S0.toD]
@[simp] theorem r_gtI : finC Γ .gt [.vl (.leaf (.int i)), .vl (.leaf (.int j))] s = .ok (.vl (.leaf (.bl (decide (j < i))))) s := by simp [finC, snapOps, snapOp, finP, bGt, bI, S0.toD]
@[simp] theorem r_geI : finC Γ .ge [.vl (.leaf (.int i)), .vl (.leaf (.int j))] s = .ok (.vl (.leaf (.bl (decide (j ≤ i))))) s := by simp [finC, snapOps, snapOp, finP, bGe, bI, S0.toD]
@[simp] theorem isM1_int {l : List D} : isM1 (.int i :: l) = false := rfl
@[simp] theorem isM1_str {x : Str} {l : List D} : isM1 (.str x :: l) = false := rfl
@[simp] theorem r_eqI : finC Γ .eq [.vl (.leaf (.int i)), .vl (.leaf (.int j))] s = .ok (.vl (.leaf (.bl (decide (i = j))))) s := by simp [finC, finEq, finIf, isOwn1, isSc2, snapOps, snapOp, finP, bEqS, S0.toD]
@[simp] theorem r_neI : finC Γ .ne [.vl (.leaf (.int i)), .vl (.leaf (.int j))] s = .ok (.vl (.leaf (.bl (!decide (i = j))))) s := by simp [finC, finNe, finIf, isOwn1, isSc2, snapOps, snapOp, finP, bEqS, S0.toD]
@[simp] theorem r_eqS {x y : Str} : finC Γ .eq [.vl (.leaf (.str x)), .vl (.leaf (.str y))] s = .ok (.vl (.leaf (.bl (decide (x = y))))) s := by simp [finC, finEq, finIf, isOwn1, isSc2, snapOps, snapOp, finP, bEqS, S0.toD]
@[simp] theorem r_neS {x y : Str} : finC Γ .ne [.vl (.leaf (.str x)), .vl (.leaf (.str y))] s = .ok (.vl (.leaf (.bl (!decide (x = y))))) s := by simp [finC, finNe, finIf, isOwn1, isSc2, snapOps, snapOp, finP, bEqS, S0.toD]
@[simp] theorem r_negI : finNeg [.vl (.leaf (.int i))] s = .ok (.vl (.leaf (.int (-i)))) s := by simp [finNeg, snapOps, snapOp, finP, bNeg, S0.toD]
@[simp] theorem r_toDI : (S0.int i).toD = .int i := rfl
@[simp] theorem r_toDN : S0.non.toD = .non := rfl
@[simp] theorem r_toDB {b : Bool} : (S0.bl b).toD = .bl b := rfl
@[simp] theorem r_toDS {z : Str} : (S0.str z).toD = .str z := rfl
/-! ### stores -/
@[simp] theorem r_asgN {t : T} {n : Nat} (hf : fx.contains n = false) (hl : n < s.length) : asgK fx (.nm n) (.vl t) s = .nx (s.set n (.tr t)) := by
  simp only [asgK, settle1, Pat.slots, List.any_cons, List.any_nil, hf, Bool.false_or, Bool.false_eq_true, if_false, bindP, hl, if_true]
@[simp] theorem r_retV {t : T} : retK fx (.vl t) s = .rt t s := Eq.trans rfl rfl
end
instance bd_lit {n : Nat} : Bd (no_index (@OfNat.ofNat Int n instOfNat)) (n.log2 + 1) := ⟨by
  show (Int.ofNat n).natAbs < _
  exact Nat.lt_log2_self⟩
instance bd_add {i j : Int} {n m : Nat} [a : Bd i n] [b : Bd j m] : Bd (i + j) (n + m + 1) := ⟨by
  have h1 := a.bd
  have h2 := b.bd
  have h3 : 2 ^ n ≤ 2 ^ (n + m) := Nat.pow_le_pow_right (by omega) (by omega)
  have h4 : 2 ^ m ≤ 2 ^ (n + m) := Nat.pow_le_pow_right (by omega) (by omega)
  have h5 : 2 ^ (n + m + 1) = 2 * 2 ^ (n + m) := by rw [Nat.pow_succ]; omega
  have := Int.natAbs_add_le i j
  omega⟩
instance bd_sub {i j : Int} {n m : Nat} [a : Bd i n] [b : Bd j m] : Bd (i - j) (n + m + 1) := ⟨by
  have h1 := a.bd
  have h2 := b.bd
  have h3 : 2 ^ n ≤ 2 ^ (n + m) := Nat.pow_le_pow_right (by omega) (by omega)
  have h4 : 2 ^ m ≤ 2 ^ (n + m) := Nat.pow_le_pow_right (by omega) (by omega)
  have h5 : 2 ^ (n + m + 1) = 2 * 2 ^ (n + m) := by rw [Nat.pow_succ]; omega
  have : (i - j).natAbs ≤ i.natAbs + j.natAbs := by omega
  omega⟩
instance bd_mul {i j : Int} {n m : Nat} [a : Bd i n] [b : Bd j m] : Bd (i * j) (n + m) := ⟨by
  rw [Int.natAbs_mul, Nat.pow_add]
  exact Nat.mul_lt_mul'' a.bd b.bd⟩
instance bd_fmod {i : Int} {n : Nat} [z : NeZero n] : Bd (i.fmod (no_index (@OfNat.ofNat Int n instOfNat))) (n.log2 + 1) := ⟨by
  have h4 : (@OfNat.ofNat Int n instOfNat) = ((n : Nat) : Int) := rfl
  have h1 : (0 : Int) < (@OfNat.ofNat Int n instOfNat) := by
    rw [h4]
    exact Int.natCast_pos.mpr (Nat.pos_of_ne_zero z.out)
  have h2 := Int.fmod_nonneg_of_pos i h1
  have h3 := Int.fmod_lt_of_pos i h1
  have h5 : n < 2 ^ (n.log2 + 1) := Nat.lt_log2_self
  rw [h4] at h3 h2 ⊢
  omega⟩
/-! ### lists of whole numbers in slots -/
def nodeI (ns : List Int) : T := .node (ns.map fun i => .leaf (.int i))
section
variable {s s1 : Sl} {f : Sl → Out Op} {ns : List Int} {i : Nat} {v : Int}
@[simp] theorem r_ofNI {j : Nat} : ofTree j s (some (nodeI ns)) = .ok (.rt j) s := rfl
@[simp] theorem frz_nodeI : frz (nodeI ns) = .lst (ns.map .int) := by
  unfold nodeI
  rw [frz_node, List.map_map]
  congr 1
theorem nodeI_leaf : (ns.map fun i => T.leaf (.int i)).all isLeaf = true := by
  rw [List.all_map]
  exact List.all_eq_true.mpr fun _ _ => rfl
@[simp] theorem soft_nodeI : soft1 (nodeI ns) = nodeI ns := by
  unfold nodeI soft1
  dsimp only
  rw [if_pos nodeI_leaf]
theorem app_nodeI (h1 : treeAt s i = some (nodeI ns)) (h2 : f s = .ok (.vl (.leaf (.int v))) s1) (h3 : treeAt s1 i = some (nodeI ns)) (h4 : ns.length < sizeLine) : evApp i f s = .ok (.vl (.leaf .non)) (s1.set i (.tr (nodeI (ns ++ [v])))) := by
  unfold evApp
  rw [h1]
  unfold nodeI at *
  dsimp only
  rw [h2]
  dsimp only [settle1]
  rw [h3]
  dsimp only
  rw [if_pos (by rw [List.length_map]; exact h4)]
  rw [List.map_append]
  rfl
theorem name_nodeI (h : treeAt s i = some (nodeI ns)) : evName i s = .ok (.rt i) s := by
  unfold evName
  rw [h]
  rfl
/-- the slot is soft already -/
theorem soft_rt (h : s[i]? = some (.tr (nodeI ns))) : soft s (.rt i) = s := by
  unfold soft
  dsimp only
  rw [h]
  dsimp only [softV]
  rw [soft_nodeI]
  refine List.ext_getElem? fun j => ?_
  by_cases hj : i = j
  · subst hj
    have hl := (List.getElem?_eq_some_iff.mp h).1
    rw [List.getElem?_set_self hl, h]
  · rw [List.getElem?_set_ne hj]
theorem cutD_nat {ds : List D} {n : Nat} : cutD ds none (some (n : Int)) = ds.take n := by
  unfold cutD
  rw [HT.sIx_none, HT.sIx_nat, List.drop_zero, Nat.sub_zero, List.take_eq_take_iff]
  omega
theorem cutD_from {ds : List D} {n : Nat} : cutD ds (some (n : Int)) none = ds.drop n := by
  unfold cutD
  rw [HT.sIx_none, HT.sIx_nat, List.take_of_length_le (by rw [List.length_drop]; omega)]
  by_cases h : n ≤ ds.length
  · rw [Nat.min_eq_left h]
  · rw [Nat.min_eq_right (by omega), List.drop_length, List.drop_of_length_le (by omega)]
end
theorem while_up {c : Sl → Out Bool} {body : Sl → SO} (st : Nat → Sl) (lo n : Nat) (hc : ∀ m, lo ≤ m → m ≤ max lo n → c (st m) = .ok (decide (m < n)) (st m)) (hb : ∀ m, lo ≤ m → m < n → body (st m) = .nx (st (m + 1))) : ∀ (fuel m : Nat), lo ≤ m → m ≤ max lo n → n - m < fuel → evWhile c body fuel (st m) = .nx (st (max m n))
  | 0, m, h1, h2, h3 => by omega
  | fuel + 1, m, h1, h2, h3 => by
    unfold evWhile
    rw [hc m h1 h2]
    by_cases h : m < n
    · rw [decide_eq_true h]
      dsimp only
      rw [hb m h1 h]
      dsimp only
      rw [while_up st lo n hc hb fuel (m + 1) (by omega) (by omega) (by omega)]
      congr 2
      omega
    · rw [decide_eq_false h]
      dsimp only
      congr 2
      omega
/-! ### lists of whole numbers compared and shown -/
def pyI (ns : List Int) : PyData := .list (ns.map .int)
theorem toPyL_ints : ∀ ns : List Int, toPyL (ns.map D.int) = some (ns.map PyData.int)
  | [] => by simp [toPyL]
  | n :: ns => by simp [toPyL, toPy, toPyL_ints ns]
@[simp] theorem toPy_ints (ns : List Int) : toPy (.lst (ns.map D.int)) = some (pyI ns) := by
  simp only [toPy, toPyL_ints]
  rfl
@[simp] theorem toPy_intsT (ns : List Int) : toPy (.tup (ns.map D.int)) = some (.tuple (ns.map .int)) := by
  simp only [toPy, toPyL_ints]
theorem depthAll_ints : ∀ ns : List Int, PyData.depthAll (ns.map PyData.int) ≤ 1
  | [] => by simp [PyData.depthAll]
  | n :: ns => by
    have := depthAll_ints ns
    simp only [List.map_cons, PyData.depthAll, PyData.depth]
    omega
theorem canLay_ints : ∀ ns : List Int, PyData.canLayAll0 (ns.map PyData.int) = true
  | [] => by simp [PyData.canLayAll0]
  | n :: ns => by simp [PyData.canLayAll0, PyData.canLay0, canLay_ints ns]
@[simp] theorem shaped_ints (ns : List Int) : SeqAt.shaped (pyI ns) = true := by
  have := depthAll_ints ns
  unfold SeqAt.shaped pyI
  rw [Bool.and_eq_true, decide_eq_true_eq]
  refine ⟨by simp only [PyData.canLay0]; exact canLay_ints ns, ?_⟩
  simp only [PyData.depth]
  omega
theorem eqvAll_ints : ∀ xs ys : List Int, PyData.eqvAll (xs.map PyData.int) (ys.map PyData.int) = decide (xs = ys)
  | [], [] => by simp [PyData.eqvAll]
  | [], y :: ys => by simp [PyData.eqvAll]
  | x :: xs, [] => by simp [PyData.eqvAll]
  | x :: xs, y :: ys => by
    simp only [List.map_cons, PyData.eqvAll, PyData.eqv, eqvAll_ints xs ys]
    by_cases h : x = y <;> by_cases h2 : xs = ys <;> simp [h, h2]
@[simp] theorem eqv_ints (xs ys : List Int) : PyData.eqv (pyI xs) (pyI ys) = decide (xs = ys) := by
  unfold pyI
  simp only [PyData.eqv]
  exact eqvAll_ints xs ys
theorem showable_ints : ∀ ns : List Int, (∀ i ∈ ns, i.natAbs.log2 < 1920) → PyData.showableAll (ns.map PyData.int) = true
  | [], _ => by simp [PyData.showableAll]
  | n :: ns, h => by
    simp only [List.map_cons, PyData.showableAll, PyData.showable, Bool.and_eq_true, decide_eq_true_eq]
    exact ⟨h n List.mem_cons_self, showable_ints ns fun i hi => h i (List.mem_cons_of_mem _ hi)⟩
theorem shown_sum : ∀ ns : List Int, (∀ i ∈ ns, i.natAbs.log2 < 1920) → ((PyData.shownAll (ns.map PyData.int)).map (·.length)).sum ≤ 1921 * ns.length ∧ (PyData.shownAll (ns.map PyData.int)).length = ns.length
  | [], _ => by simp [PyData.shownAll]
  | n :: ns, h => by
    have ih := shown_sum ns fun i hi => h i (List.mem_cons_of_mem _ hi)
    have h1 := int_text_len_1921 (h n List.mem_cons_self)
    simp only [List.map_cons, PyData.shownAll, PyData.shown, List.sum_cons, List.length_cons]
    refine ⟨?_, by rw [ih.2]⟩
    have h2 : (toString n : Str).length ≤ 1921 := h1
    have := ih.1
    omega
theorem showOk_ints {ns : List Int} (h : ∀ i ∈ ns, i.natAbs.log2 < 1920) (hl : ns.length ≤ 1000) : showOk (pyI ns) = true := by
  unfold showOk pyI
  rw [Bool.and_eq_true, Bool.and_eq_true, decide_eq_true_eq, decide_eq_true_eq]
  refine ⟨⟨by simp only [PyData.showable]; exact showable_ints ns h, ?_⟩, ?_⟩
  · simp only [PyData.shown]
    have h1 := listText_len_le (PyData.shownAll (ns.map PyData.int))
    obtain ⟨h2, h3⟩ := shown_sum ns h
    rw [h3] at h1
    have : sizeLine = 16777216 := by decide
    omega
  · have := depthAll_ints ns
    simp only [PyData.depth]
    omega
theorem bd_log {i : Int} {n : Nat} [b : Bd i n] (h : n < 1920) : i.natAbs.log2 < 1920 := by
  by_cases h0 : i.natAbs = 0
  · rw [h0]
    decide
  · have := (Nat.log2_lt h0).mpr b.bd
    omega
end VS
/-! VSx: loops and comprehensions by their states. -/
namespace VS
open PySem PySem.Spec PyProof.Rows L2

/-! ### short forms of values -/
abbrev dI (xs : List Int) : List D := xs.map D.int
/-- a frozen list of whole numbers, a tuple of them -/
abbrev lfI (xs : List Int) : T := .leaf (.lst (dI xs))
abbrev tpI (xs : List Int) : T := .leaf (.tup (dI xs))
/-- a list of lists of whole numbers -/
def nodeII (xs : List (List Int)) : T := .node (xs.map nodeI)

/-! ### loops -/
theorem for_run {src : Src} {p : Pat} {body : Sl → SO} {ds : List D} (st : Nat → Sl) (hsrc : ∀ k, k ≤ ds.length → srcB src (st k) = true)
    (hs : ∀ k (hk : k < ds.length), ∃ s1, bindP p (.leaf ds[k]) (st k) = some s1 ∧ body s1 = .nx (st (k + 1))) : forL src p body ds (st 0) = .nx (st ds.length) := by
  have go : ∀ (m k : Nat) (es : List D), k + m = ds.length → es = ds.drop k → forL src p body es (st k) = .nx (st ds.length) := by
    intro m
    induction m with
    | zero =>
      intro k es hk he
      have hk' : k = ds.length := by omega
      subst hk'
      rw [List.drop_length] at he
      subst he
      unfold forL
      rw [if_pos (hsrc _ (Nat.le_refl _))]
    | succ m ih =>
      intro k es hk he
      have hlt : k < ds.length := by omega
      rw [List.drop_eq_getElem_cons hlt] at he
      subst he
      obtain ⟨s1, h1, h2⟩ := hs k hlt
      unfold forL
      rw [if_pos (hsrc k (by omega)), h1]
      dsimp only
      rw [h2]
      exact ih (k + 1) _ (by omega) rfl
  exact go ds.length 0 ds (by omega) rfl
/-- the loop ends by a return at turn n -/
theorem for_ret {src : Src} {p : Pat} {body : Sl → SO} {ds : List D} {t : T} {s' : Sl} (st : Nat → Sl) (n : Nat) (hn : n < ds.length) (hsrc : ∀ k, k ≤ n → srcB src (st k) = true)
    (hs : ∀ k (hk : k < n), ∃ s1, bindP p (.leaf (ds[k]'(by omega))) (st k) = some s1 ∧ body s1 = .nx (st (k + 1))) (hr : ∃ s1, bindP p (.leaf ds[n]) (st n) = some s1 ∧ body s1 = .rt t s') : forL src p body ds (st 0) = .rt t s' := by
  have go : ∀ (m k : Nat) (es : List D), k + m = n → es = ds.drop k → forL src p body es (st k) = .rt t s' := by
    intro m
    induction m with
    | zero =>
      intro k es hk he
      have hk' : k = n := by omega
      subst hk'
      rw [List.drop_eq_getElem_cons hn] at he
      subst he
      obtain ⟨s1, h1, h2⟩ := hr
      unfold forL
      rw [if_pos (hsrc _ (Nat.le_refl _)), h1]
      dsimp only
      rw [h2]
    | succ m ih =>
      intro k es hk he
      have hlt : k < ds.length := by omega
      rw [List.drop_eq_getElem_cons hlt] at he
      subst he
      obtain ⟨s1, h1, h2⟩ := hs k (by omega)
      unfold forL
      rw [if_pos (hsrc k (by omega)), h1]
      dsimp only
      rw [h2]
      exact ih (k + 1) _ (by omega) rfl
  exact go n 0 ds (by omega) rfl
/-- over range(n) -/
theorem rangeD_len (lo : Int) (n : Nat) : (rangeD lo n).length = n := by unfold rangeD; rw [List.length_map, List.length_range]
theorem rangeD_get {lo : Int} {n k : Nat} (h : k < (rangeD lo n).length) : (rangeD lo n)[k] = .int (lo + (k : Nat)) := by
  simp only [rangeD, List.getElem_map, List.getElem_range]
theorem for_rng {p : Pat} {body : Sl → SO} {lo : Int} {n : Nat} (st : Nat → Sl) (hs : ∀ k, k < n → ∃ s1, bindP p (.leaf (.int (lo + (k : Nat)))) (st k) = some s1 ∧ body s1 = .nx (st (k + 1))) : forL [] p body (rangeD lo n) (st 0) = .nx (st n) := by
  have := for_run (src := []) (p := p) (body := body) (ds := rangeD lo n) st (fun _ _ => rfl) fun k hk => by
    rw [rangeD_get]
    exact hs k (by rwa [rangeD_len] at hk)
  rwa [rangeD_len] at this
theorem for_rng0 {p : Pat} {body : Sl → SO} {n : Nat} (st : Nat → Sl) (hs : ∀ k, k < n → ∃ s1, bindP p (.leaf (.int (k : Nat))) (st k) = some s1 ∧ body s1 = .nx (st (k + 1))) : forL [] p body (rangeD 0 n) (st 0) = .nx (st n) :=
  for_rng st fun k hk => by rw [Int.zero_add]; exact hs k hk
/-! ### comprehensions -/
theorem comp_run {src : Src} {p : Pat} {elt : Sl → Out Op} {vs : List Nat} {ds : List D} (st : Nat → Sl) (t : Nat → T) (hl : ds.length ≤ sizeLine) (hsrc : ∀ k, k ≤ ds.length → srcB src (st k) = true)
    (hs : ∀ k (hk : k < ds.length), ∃ s1 s2, bindP p (.leaf ds[k]) (st k) = some s1 ∧ elt s1 = .ok (.vl (t k)) s2 ∧ wipeS s2 vs = st (k + 1)) : compL src p evYes elt vs ds [] (st 0) = .ok ((List.range ds.length).map t) (st ds.length) := by
  have go : ∀ (m k : Nat) (es : List D), k + m = ds.length → es = ds.drop k → compL src p evYes elt vs es ((List.range k).map t) (st k) = .ok ((List.range ds.length).map t) (st ds.length) := by
    intro m
    induction m with
    | zero =>
      intro k es hk he
      have hk' : k = ds.length := by omega
      subst hk'
      rw [List.drop_length] at he
      subst he
      unfold compL
      rw [if_pos (hsrc _ (Nat.le_refl _))]
    | succ m ih =>
      intro k es hk he
      have hlt : k < ds.length := by omega
      rw [List.drop_eq_getElem_cons hlt] at he
      subst he
      obtain ⟨s1, s2, h1, h2, h3⟩ := hs k hlt
      unfold compL
      rw [if_pos ⟨hsrc k (by omega), by rw [List.length_map, List.length_range]; omega⟩, h1]
      dsimp only [evYes]
      rw [h2]
      dsimp only [settle1]
      rw [h3]
      have e : (List.range k).map t ++ [t k] = (List.range (k + 1)).map t := by rw [List.range_succ, List.map_append]; rfl
      rw [e]
      exact ih (k + 1) _ (by omega) rfl
  exact go ds.length 0 ds (by omega) rfl
section
variable {Γ : Ev} {w : Wx} {p : Pat} {e : Ex} {vs : List Nat} {s : Sl} {ds : List D} {src : Src}
theorem evTo_none : evTo Γ none = evYes := by funext s; simp only [evTo]
/-- a comprehension: its state at each turn, its items -/
theorem lc_run {s1 : Sl} (hw : evW Γ w s = .ok ⟨ds, src⟩ s1) (hf : Walked.free ⟨ds, src⟩ vs = true) (st : Nat → Sl) (h0 : wipeS s1 vs = st 0) (t : Nat → T) (hl : ds.length ≤ sizeLine) (hsrc : ∀ k, k ≤ ds.length → srcB src (st k) = true)
    (hs : ∀ k (hk : k < ds.length), ∃ s1 s2, bindP p (.leaf ds[k]) (st k) = some s1 ∧ evX Γ e s1 = .ok (.vl (t k)) s2 ∧ wipeS s2 vs = st (k + 1)) :
    evX Γ (.lc w p none e vs) s = .ok (.vl (.node ((List.range ds.length).map t))) (restS s1 (st ds.length) vs) := by
  rw [r_lc]
  unfold evLC
  rw [hw]
  dsimp only
  rw [if_pos hf, evTo_none, h0, comp_run st t hl hsrc hs]
/-- over range(n) -/
theorem lc_rng {s1 : Sl} {n : Nat} (hw : evW Γ w s = .ok ⟨rangeD 0 n, []⟩ s1) (st : Nat → Sl) (h0 : wipeS s1 vs = st 0) (t : Nat → T) (hl : n ≤ sizeLine)
    (hs : ∀ k, k < n → ∃ s1 s2, bindP p (.leaf (.int (k : Nat))) (st k) = some s1 ∧ evX Γ e s1 = .ok (.vl (t k)) s2 ∧ wipeS s2 vs = st (k + 1)) :
    evX Γ (.lc w p none e vs) s = .ok (.vl (.node ((List.range n).map t))) (restS s1 (st n) vs) := by
  have := lc_run (e := e) (p := p) hw rfl st h0 t (by rw [rangeD_len]; exact hl) (fun _ _ => rfl) fun k hk => by
    rw [rangeD_get, Int.zero_add]
    exact hs k (by rwa [rangeD_len] at hk)
  rwa [rangeD_len] at this
end
theorem nodeI_range {n : Nat} {f : Nat → Int} : T.node ((List.range n).map fun k => .leaf (.int (f k))) = nodeI ((List.range n).map f) := by
  unfold nodeI
  rw [List.map_map]
  rfl
theorem nodeII_range {n : Nat} {f : Nat → List Int} : T.node ((List.range n).map fun k => nodeI (f k)) = nodeII ((List.range n).map f) := by
  unfold nodeII
  rw [List.map_map]
  rfl
theorem srcB_nil {s : Sl} : srcB [] s = true := rfl
theorem srcB_one {i : Nat} {t : T} {s : Sl} (h : treeAt s i = some t) : srcB [(i, t)] s = true := by
  unfold srcB srcB
  rw [h]
  dsimp only
  rw [beqT_refl]
  rfl
/-! ### items -/
section
variable {s s1 : Sl}
theorem atI_int {xs : List Int} {k : Nat} (h : k < xs.length) : atI (dI xs) (k : Int) = some (.int (xs.getD k 0)) := by
  have : (dI xs)[k]? = some (.int (xs.getD k 0)) := by
    rw [List.getElem?_map, List.getElem?_eq_getElem h, List.getD_eq_getElem?_getD, List.getElem?_eq_getElem h]
    rfl
  exact atI_nat this
theorem soft_node_int (xs : List Int) {i : Nat} (h : s[i]? = some (.tr (nodeI xs))) : soft s (.rt i) = s := soft_rt h
@[simp] theorem soft_vl {t : T} : soft s (.vl t) = s := rfl
/-- an item of a slot's list of whole numbers -/
theorem ix_nodeI {xs : List Int} {i k : Nat} (h : s[i]? = some (.tr (nodeI xs))) (hk : k < xs.length) : finS qIx [.rt i, .vl (.leaf (.int (k : Int)))] s = .ok (.vl (.leaf (.int (xs.getD k 0)))) s := by
  have ht : treeAt s i = some (nodeI xs) := by unfold treeAt; rw [h]
  simp only [finS, snapOps, snapOp, ht, Option.map_some, frz_nodeI, frz_leaf, qIx, atI_int hk, softs, soft_rt h, soft_vl]
theorem ix_leaf {xs : List Int} {k : Nat} {d : D} (hd : d = .lst (dI xs) ∨ d = .tup (dI xs)) (hk : k < xs.length) : finS qIx [.vl (.leaf d), .vl (.leaf (.int (k : Int)))] s = .ok (.vl (.leaf (.int (xs.getD k 0)))) s := by
  rcases hd with rfl | rfl <;> simp only [finS, snapOps, snapOp, frz_leaf, qIx, atI_int hk, softs, soft_vl]
end
/-- sums -/
def sumR (n : Nat) (f : Nat → Int) : Int := ((List.range n).map f).sum
theorem int?_dI : ∀ xs : List Int, ints? (dI xs) = some xs
  | [] => rfl
  | x :: xs => by
    have ih : all? int? (List.map D.int xs) = some xs := int?_dI xs
    simp only [List.map_cons, all?, int?]
    rw [ih]
theorem sum_nodeI {s : Sl} {Γ : Ev} {xs : List Int} : finBI Γ .sum [.vl (nodeI xs)] s = .ok (.vl (.leaf (.int xs.sum))) s := by
  simp only [finBI, finP, snapOps, snapOp, frz_nodeI, bSum, int?_dI]
  rfl
end VS
/-! VSy: lists and tuples of whole numbers, wherever they lie. -/
namespace VS
open PySem PySem.Spec PyProof.Rows L2

/-- n: a slot's own list; l: a frozen list; t: a tuple -/
inductive Kd where
  | n | l | t
deriving DecidableEq
def seqT : Kd → List Int → T
  | .n, xs => nodeI xs
  | .l, xs => .leaf (.lst (dI xs))
  | .t, xs => .leaf (.tup (dI xs))
def seqD : Kd → List Int → D
  | .t, xs => .tup (dI xs)
  | _, xs => .lst (dI xs)
def opS : Kd → List Int → Nat → Op
  | .n, _, j => .rt j
  | k, xs, _ => .vl (seqT k xs)
/-- a list among other things behind a look: frozen -/
def Kd.fz : Kd → Kd
  | .t => .t
  | _ => .l
@[simp] theorem fz_n : Kd.fz .n = .l := rfl
@[simp] theorem fz_l : Kd.fz .l = .l := rfl
@[simp] theorem fz_t : Kd.fz .t = .t := rfl
@[simp] theorem fz_fz (k : Kd) : k.fz.fz = k.fz := by cases k <;> rfl
@[simp] theorem frz_seqT (k : Kd) (xs : List Int) : frz (seqT k xs) = seqD k xs := by cases k <;> simp [seqT, seqD]
theorem leaf_seqD (k : Kd) (xs : List Int) : T.leaf (seqD k xs) = seqT k.fz xs := by cases k <;> rfl
theorem seqT_n (xs : List Int) : nodeI xs = seqT .n xs := rfl
theorem seqT_t (xs : List Int) : T.leaf (.tup (dI xs)) = seqT .t xs := rfl
theorem seqT_l (xs : List Int) : T.leaf (.lst (dI xs)) = seqT .l xs := rfl
theorem seqT_nil : T.node [] = seqT .n [] := rfl
theorem seqT_one (a : Int) : T.node [.leaf (.int a)] = seqT .n [a] := rfl
theorem seqT_two (a b : Int) : T.node [.leaf (.int a), .leaf (.int b)] = seqT .n [a, b] := rfl
theorem seqT_rng {n : Nat} {f : Nat → Int} : T.node ((List.range n).map fun k => .leaf (.int (f k))) = seqT .n ((List.range n).map f) := nodeI_range
@[simp] theorem soft_seqT (k : Kd) (xs : List Int) : soft1 (seqT k xs) = seqT k xs := by
  cases k with
  | n => exact soft_nodeI
  | l => rfl
  | t => rfl
section
variable {Γ : Ev} {s s1 : Sl} {k k' : Kd} {xs ys : List Int} {i j : Nat} {a b : Int} {fx : List Nat}
@[simp] theorem r_ofS : ofTree j s (some (seqT k xs)) = .ok (opS k xs j) s := by cases k <;> rfl
theorem atS (h : s[j]? = some (.tr (seqT k xs))) : treeAt s j = some (seqT k xs) := by unfold treeAt; rw [h]
/-- an operand that is such a list -/
inductive IsS (s : Sl) (k : Kd) (xs : List Int) : Op → Prop
  | rt {j : Nat} (h : s[j]? = some (.tr (seqT k xs))) : IsS s k xs (opS k xs j)
  | vl : IsS s k xs (.vl (seqT k xs))
theorem IsS.snap {o : Op} (h : IsS s k xs o) : snapOp s o = some (seqD k xs) := by
  cases h with
  | vl => simp [snapOp]
  | @rt j h =>
    cases k with
    | n =>
      show (treeAt s j).map frz = _
      rw [atS h]
      simp
    | l => rfl
    | t => rfl
theorem IsS.soft {o : Op} (h : IsS s k xs o) : soft s o = s := by
  cases h with
  | vl => rfl
  | @rt j h =>
    cases k with
    | n => exact soft_rt h
    | l => rfl
    | t => rfl
theorem IsS.snap2 {o : Op} {d : D} (h : IsS s k xs o) : snapOps s [o, .vl (.leaf d)] = some [seqD k xs, d] := by
  unfold snapOps snapOps snapOps
  rw [h.snap]
  rfl
theorem IsS.soft2 {o : Op} {d : D} (h : IsS s k xs o) : softs s [o, .vl (.leaf d)] = s := by
  unfold softs softs softs
  rw [h.soft]
  rfl
/-! an item, the length -/
theorem ixS {o : Op} (h : IsS s k xs o) (h0 : 0 ≤ a) (h1 : a < xs.length) : finS qIx [o, .vl (.leaf (.int a))] s = .ok (.vl (.leaf (.int (xs.getD a.toNat 0)))) s := by
  have e : atI (dI xs) a = some (.int (xs.getD a.toNat 0)) := by
    have := atI_int (xs := xs) (k := a.toNat) (by omega)
    rwa [Int.toNat_of_nonneg h0] at this
  unfold finS
  rw [h.snap2, h.soft2]
  cases k <;> simp only [seqD, qIx, e]
theorem ixS1 {o : Op} (h : IsS s k xs o) (h1 : 0 < xs.length) : finS qIx [o, .vl (.leaf (.int (-1)))] s = .ok (.vl (.leaf (.int (xs.getD (xs.length - 1) 0)))) s := by
  have e : atI (dI xs) (-1) = some (.int (xs.getD (xs.length - 1) 0)) := by
    have hk : ixN xs.length (-1) = some (xs.length - 1) := by
      unfold ixN
      rw [if_neg (by omega)]
      split
      · next h => simp; omega
      · next h => omega
    unfold atI
    rw [List.length_map, hk, Option.bind_some, List.getElem?_map, List.getElem?_eq_getElem (by omega), List.getD_eq_getElem?_getD, List.getElem?_eq_getElem (by omega)]
    rfl
  unfold finS
  rw [h.snap2, h.soft2]
  cases k <;> simp only [seqD, qIx, e]
@[simp] theorem r_ixs (h : s[j]? = some (.tr (seqT k xs))) (h0 : 0 ≤ a) (h1 : a < xs.length) : finS qIx [opS k xs j, .vl (.leaf (.int a))] s = .ok (.vl (.leaf (.int (xs.getD a.toNat 0)))) s := ixS (.rt h) h0 h1
@[simp] theorem r_ixsv (h0 : 0 ≤ a) (h1 : a < xs.length) : finS qIx [.vl (seqT k xs), .vl (.leaf (.int a))] s = .ok (.vl (.leaf (.int (xs.getD a.toNat 0)))) s := ixS .vl h0 h1
@[simp] theorem r_ixs1 (h : s[j]? = some (.tr (seqT k xs))) (h1 : 0 < xs.length) : finS qIx [opS k xs j, .vl (.leaf (.int (-1)))] s = .ok (.vl (.leaf (.int (xs.getD (xs.length - 1) 0)))) s := ixS1 (.rt h) h1
theorem lenS {o : Op} (h : IsS s k xs o) : finBI Γ .len [o] s = .ok (.vl (.leaf (.int xs.length))) s := by
  cases k <;> simp [finBI, finIf, snapOps, h.snap, seqD, isOwn1, finP, bLen, S0.toD]
@[simp] theorem r_len (h : s[j]? = some (.tr (seqT k xs))) : finBI Γ .len [opS k xs j] s = .ok (.vl (.leaf (.int xs.length))) s := lenS (.rt h)
@[simp] theorem r_lenv : finBI Γ .len [.vl (seqT k xs)] s = .ok (.vl (.leaf (.int xs.length))) s := lenS .vl
/-! sums, lists of them -/
theorem sumS {o : Op} (hk : k ≠ .t) (h : IsS s k xs o) : finBI Γ .sum [o] s = .ok (.vl (.leaf (.int xs.sum))) s := by
  cases k <;> first | exact absurd rfl hk | simp only [finBI, finP, snapOps, h.snap, seqD, bSum, int?_dI, S0.toD]
@[simp] theorem r_sum : finBI Γ .sum [.vl (seqT .n xs)] s = .ok (.vl (.leaf (.int xs.sum))) s := sumS (by decide) .vl
theorem lstS {o : Op} (h : IsS s k xs o) : finBI Γ .list [o] s = .ok (.vl (seqT .n xs)) s := by
  have e : T.node ((dI xs).map .leaf) = seqT .n xs := by
    show _ = nodeI xs
    unfold nodeI
    rw [List.map_map]
    rfl
  cases k <;> simp only [finBI, finS, snapOps, h.snap, seqD, qListOf, softs, h.soft, e]
@[simp] theorem r_list (h : s[j]? = some (.tr (seqT k xs))) : finBI Γ .list [opS k xs j] s = .ok (.vl (seqT .n xs)) s := lstS (.rt h)
@[simp] theorem r_listv : finBI Γ .list [.vl (seqT k xs)] s = .ok (.vl (seqT .n xs)) s := lstS .vl
theorem tupS {o : Op} (h : IsS s k xs o) : finBI Γ .tuple [o] s = .ok (.vl (seqT .t xs)) s := by
  cases k <;> simp only [finBI, finS, snapOps, h.snap, seqD, qTupOf, softs, h.soft, seqT]
@[simp] theorem r_tuple (h : s[j]? = some (.tr (seqT k xs))) : finBI Γ .tuple [opS k xs j] s = .ok (.vl (seqT .t xs)) s := tupS (.rt h)
@[simp] theorem r_tuplev : finBI Γ .tuple [.vl (seqT k xs)] s = .ok (.vl (seqT .t xs)) s := tupS .vl
/-! + of lists, of tuples; copies -/
theorem leafN (xs : List Int) : T.node ((dI xs).map .leaf) = seqT .n xs := by
  show _ = nodeI xs
  unfold nodeI
  rw [List.map_map]
  rfl
theorem catS {o o' : Op} (h : IsS s k xs o) (h' : IsS s k' ys o') (hk : k ≠ .t) (hk' : k' ≠ .t) (hl : xs.length + ys.length ≤ sizeLine) : finB .add [o, o'] s = .ok (.vl (seqT .n (xs ++ ys))) s := by
  have hs : softs s [o, o'] = s := by simp only [softs, h.soft, h'.soft]
  cases k <;> first | exact absurd rfl hk | skip
  all_goals
    cases k' <;> first | exact absurd rfl hk' | skip
    all_goals
      simp only [finB, finAdd, finIf, snapOps, h.snap, h'.snap, seqD, isI2, isS2, isL2, Bool.false_eq_true, if_false, if_true, finS, qCat, List.length_map]
      rw [if_pos hl]
      simp only [hs, ← List.map_append, leafN]
theorem catT {o o' : Op} (h : IsS s .t xs o) (h' : IsS s .t ys o') (hl : xs.length + ys.length ≤ sizeLine) : finB .add [o, o'] s = .ok (.vl (seqT .t (xs ++ ys))) s := by
  have hs : softs s [o, o'] = s := by simp only [softs, h.soft, h'.soft]
  simp only [finB, finAdd, finIf, snapOps, h.snap, h'.snap, seqD, isI2, isS2, isL2, Bool.false_eq_true, if_false, if_true, finS, qCatT, List.length_map]
  rw [if_pos hl]
  simp only [hs, ← List.map_append]
  rfl
theorem rep_flat {α : Type} (x : α) (n : Nat) : (List.replicate n [x]).flatten = List.replicate n x := by
  induction n with
  | zero => rfl
  | succ n ih => rw [List.replicate_succ, List.flatten_cons, ih]; rfl
@[simp] theorem r_rep1 {n : Int} (hn : n.toNat ≤ 1000) (h0 : -1000 ≤ n) : finB .mul [.vl (seqT .n [a]), .vl (.leaf (.int n))] s = .ok (.vl (seqT .n (List.replicate n.toNat a))) s := by
  have hl : ([D.int a].length * n.toNat ≤ sizeLine ∧ in62 n = true) := ⟨by
    show 1 * n.toNat ≤ sizeLine
    exact Nat.le_trans (by omega) (show 1000 ≤ sizeLine by decide), in62_of (by omega)⟩
  simp only [finB, finMul, finIf, snapOps, snapOp, frz_seqT, frz_leaf, seqD, List.map_cons, List.map_nil, isTI, isII, Bool.false_eq_true, if_false, finS, qRep]
  rw [if_pos hl]
  simp only [softs, soft_vl, rep_flat]
  rw [show List.replicate n.toNat (D.int a) = dI (List.replicate n.toNat a) by simp, leafN]
/-! slices -/
theorem cutS2 {o : Op} (h : IsS s k xs o) {lo hi : Option Int} {c : List Int} (hc : cutD (dI xs) lo hi = dI c) {wl wh : Bool} {args : List Op} (ha : qCut wl wh (seqD k xs :: args.map fun x => match x with
    | .vl (.leaf d) => d
    | _ => .non) = qCutD (seqD k xs) lo hi) (hv : ∀ x ∈ args, ∃ d, x = .vl (.leaf d)) : finS (qCut wl wh) (o :: args) s = .ok (.vl (if k = .t then seqT .t c else seqT .n c)) s := by
  have hs : snapOps s (o :: args) = some (seqD k xs :: args.map fun x => match x with
    | .vl (.leaf d) => d
    | _ => .non) := by
    have : snapOps s args = some (args.map fun x => match x with
      | .vl (.leaf d) => d
      | _ => .non) := by
      clear ha
      induction args with
      | nil => rfl
      | cons x args ih =>
        obtain ⟨d, rfl⟩ := hv _ List.mem_cons_self
        simp only [snapOps, snapOp, frz_leaf, List.map_cons]
        rw [ih fun y hy => hv y (List.mem_cons_of_mem _ hy)]
    simp only [snapOps, h.snap, this]
  have hsf : softs s (o :: args) = s := by
    have : ∀ l : List Op, (∀ x ∈ l, ∃ d, x = Op.vl (.leaf d)) → softs s l = s := by
      intro l
      induction l with
      | nil => intro _; rfl
      | cons x l ih =>
        intro hl
        obtain ⟨d, rfl⟩ := hl x List.mem_cons_self
        simp only [softs, soft_vl]
        exact ih fun y hy => hl y (List.mem_cons_of_mem _ hy)
    simp only [softs, h.soft]
    exact this args hv
  simp only [finS, hs, ha, hsf]
  cases k with
  | t => simp only [seqD, qCutD, hc, if_true]; rfl
  | n => simp only [seqD, qCutD, hc, leafN]; rfl
  | l => simp only [seqD, qCutD, hc, leafN]; rfl
def cutK : Kd → Kd
  | .t => .t
  | _ => .n
@[simp] theorem cutK_n : cutK .n = .n := rfl
@[simp] theorem cutK_l : cutK .l = .n := rfl
@[simp] theorem cutK_t : cutK .t = .t := rfl
theorem cutK_if {c : List Int} : (if k = .t then seqT .t c else seqT .n c) = seqT (cutK k) c := by cases k <;> rfl
theorem cut_from (n : Nat) : cutD (dI xs) (some (n : Int)) none = dI (xs.drop n) := by rw [cutD_from]; simp
theorem cut_to (n : Nat) : cutD (dI xs) none (some (n : Int)) = dI (xs.take n) := by rw [cutD_nat]; simp
theorem cut_last : cutD (dI xs) none (some (-1)) = dI xs.dropLast := by
  unfold cutD
  rw [HT.sIx_none]
  have h1 : HT.sIx xs.length xs.length (some (-1)) = xs.length - 1 := by
    unfold HT.sIx
    simp
    omega
  rw [List.length_map, h1, List.drop_zero, Nat.sub_zero, List.dropLast_eq_take]
  simp
theorem cutLS {o : Op} (h : IsS s k xs o) (h0 : 0 ≤ a) : finS (qCut true false) [o, .vl (.leaf (.int a))] s = .ok (.vl (seqT (cutK k) (xs.drop a.toNat))) s := by
  rw [← cutK_if]
  refine cutS2 (args := [.vl (.leaf (.int a))]) h (lo := some a) (hi := none) ?_ rfl (by intro x hx; rw [List.mem_singleton] at hx; exact ⟨_, hx⟩)
  have := cut_from (xs := xs) a.toNat
  rwa [Int.toNat_of_nonneg h0] at this
theorem cutUS {o : Op} (h : IsS s k xs o) (h0 : 0 ≤ a) : finS (qCut false true) [o, .vl (.leaf (.int a))] s = .ok (.vl (seqT (cutK k) (xs.take a.toNat))) s := by
  rw [← cutK_if]
  refine cutS2 (args := [.vl (.leaf (.int a))]) h (lo := none) (hi := some a) ?_ rfl (by intro x hx; rw [List.mem_singleton] at hx; exact ⟨_, hx⟩)
  have := cut_to (xs := xs) a.toNat
  rwa [Int.toNat_of_nonneg h0] at this
theorem cutPS {o : Op} (h : IsS s k xs o) : finS (qCut false true) [o, .vl (.leaf (.int (-1)))] s = .ok (.vl (seqT (cutK k) xs.dropLast)) s := by
  rw [← cutK_if]
  exact cutS2 (args := [.vl (.leaf (.int (-1)))]) h (lo := none) (hi := some (-1)) cut_last rfl (by intro x hx; rw [List.mem_singleton] at hx; exact ⟨_, hx⟩)
@[simp] theorem r_cutL' (h : s[j]? = some (.tr (seqT k xs))) (h0 : 0 ≤ a) : finS (qCut true false) [opS k xs j, .vl (.leaf (.int a))] s = .ok (.vl (seqT (cutK k) (xs.drop a.toNat))) s := cutLS (.rt h) h0
@[simp] theorem r_cutLv (h0 : 0 ≤ a) : finS (qCut true false) [.vl (seqT k xs), .vl (.leaf (.int a))] s = .ok (.vl (seqT (cutK k) (xs.drop a.toNat))) s := cutLS .vl h0
@[simp] theorem r_cutU' (h : s[j]? = some (.tr (seqT k xs))) (h0 : 0 ≤ a) : finS (qCut false true) [opS k xs j, .vl (.leaf (.int a))] s = .ok (.vl (seqT (cutK k) (xs.take a.toNat))) s := cutUS (.rt h) h0
@[simp] theorem r_cutUv (h0 : 0 ≤ a) : finS (qCut false true) [.vl (seqT k xs), .vl (.leaf (.int a))] s = .ok (.vl (seqT (cutK k) (xs.take a.toNat))) s := cutUS .vl h0
@[simp] theorem r_cutP' (h : s[j]? = some (.tr (seqT k xs))) : finS (qCut false true) [opS k xs j, .vl (.leaf (.int (-1)))] s = .ok (.vl (seqT (cutK k) xs.dropLast)) s := cutPS (.rt h)
@[simp] theorem r_cutPv : finS (qCut false true) [.vl (seqT k xs), .vl (.leaf (.int (-1)))] s = .ok (.vl (seqT (cutK k) xs.dropLast)) s := cutPS .vl
/-! stores -/
theorem node_set {xs : List Int} {n : Nat} {v : Int} : T.node ((xs.map fun i => T.leaf (.int i)).set n (.leaf (.int v))) = seqT .n (xs.set n v) := by
  show _ = nodeI (xs.set n v)
  unfold nodeI
  rw [List.map_set]
theorem node_app {xs : List Int} {v : Int} : T.node ((xs.map fun i => T.leaf (.int i)) ++ [.leaf (.int v)]) = seqT .n (xs ++ [v]) := by
  show _ = nodeI (xs ++ [v])
  unfold nodeI
  rw [List.map_append]
  rfl
theorem setS {fi fe : Sl → Out Op} {s2 : Sl} {v : Int} (he : fe s = .ok (.vl (.leaf (.int v))) s1) (h1 : s1[i]? = some (.tr (seqT .n xs))) (hi : fi s1 = .ok (.vl (.leaf (.int a))) s2) (h2 : s2[i]? = some (.tr (seqT .n xs))) (h0 : 0 ≤ a) (hl : a < xs.length) :
    evSetIx i fi fe s = .nx (s2.set i (.tr (seqT .n (xs.set a.toNat v)))) := by
  have hx : ixN (xs.map fun i => T.leaf (.int i)).length a = some a.toNat := by
    unfold ixN
    rw [List.length_map, if_pos h0, if_pos hl]
  unfold evSetIx
  rw [he]
  dsimp only [settle1]
  rw [atS h1]
  dsimp only
  rw [hi]
  dsimp only
  rw [atS h2]
  show (match (nodeI xs) with
    | .node ts => match ixN ts.length a with
      | some j => SO.nx (s2.set i (.tr (.node (ts.set j (.leaf (.int v))))))
      | none => .bad
    | _ => .bad) = _
  unfold nodeI
  dsimp only
  rw [hx]
  dsimp only
  rw [node_set]
theorem appS {f : Sl → Out Op} {v : Int} (h0 : s[i]? = some (.tr (seqT .n xs))) (he : f s = .ok (.vl (.leaf (.int v))) s1) (h1 : s1[i]? = some (.tr (seqT .n xs))) (hl : xs.length < sizeLine) :
    evApp i f s = .ok (.vl (.leaf .non)) (s1.set i (.tr (seqT .n (xs ++ [v])))) := by
  have := app_nodeI (atS h0) he (atS h1) hl
  exact this
/-! calls: arguments handed on and back -/
def clrK (k : Kd) (j : Nat) (s : Sl) : Sl := if k = .n then s.set j .un else s
@[simp] theorem clr_l : clrK .l j s = s := rfl
@[simp] theorem clr_t : clrK .t j s = s := rfl
@[simp] theorem clr_n : clrK .n j s = s.set j .un := rfl
theorem clr_get (h : j ≠ i) : (clrK k j s)[i]? = s[i]? := by
  unfold clrK
  split
  · rw [List.getElem?_set_ne h]
  · rfl
theorem clr_at (h : j ≠ i) : treeAt (clrK k j s) i = treeAt s i := by unfold treeAt; rw [clr_get h]
theorem clr_back (h : s[j]? = some (.tr (seqT k xs))) : (clrK k j s).set j (.tr (seqT k xs)) = s := by
  have hl := (List.getElem?_eq_some_iff.mp h).1
  unfold clrK
  split
  · rw [List.set_set]
    exact List.ext_getElem? fun m => by
      by_cases hm : j = m
      · subst hm; rw [List.getElem?_set_self hl, h]
      · rw [List.getElem?_set_ne hm]
  · exact List.ext_getElem? fun m => by
      by_cases hm : j = m
      · subst hm; rw [List.getElem?_set_self hl, h]
      · rw [List.getElem?_set_ne hm]
end
/-- the trees of operands that lie in slots of their own -/
def opTs (s : Sl) : List Op → Option (List T)
  | [] => some []
  | .vl t :: os => (opTs s os).map (t :: ·)
  | .rt i :: os => match s[i]? with
    | some (.tr t) => (opTs s os).map (t :: ·)
    | _ => none
def rtsOf : List Op → List Nat
  | [] => []
  | .vl _ :: os => rtsOf os
  | .rt i :: os => i :: rtsOf os
theorem takeO_put : ∀ {ops : List Op} {s0 s : Sl} {ts : List T}, opTs s0 ops = some ts → (rtsOf ops).Nodup → (∀ i ∈ rtsOf ops, s[i]? = s0[i]?) → s.length = s0.length → ∃ s1, takeO s ops = some (ts, s1) ∧ s1.length = s.length ∧ (∀ i, i ∉ rtsOf ops → s1[i]? = s[i]?) ∧
    ∀ s2 : Sl, s2.length = s.length → (∀ i, i ∉ rtsOf ops → s2[i]? = s[i]?) → putO s2 ops ts = some s
  | [], s0, s, ts, h, _, _, _ => by
    cases h
    refine ⟨s, rfl, rfl, fun _ _ => rfl, fun s2 hl h2 => ?_⟩
    show some s2 = some s
    congr 1
    exact List.ext_getElem? fun i => h2 i (by simp [rtsOf])
  | .vl t :: os, s0, s, ts, h, hn, ha, hl => by
    unfold opTs at h
    obtain ⟨r, hr, rfl⟩ := Option.map_eq_some_iff.mp h
    obtain ⟨s1, e1, l1, k1, p1⟩ := takeO_put (ops := os) hr hn ha hl
    refine ⟨s1, ?_, l1, k1, fun s2 h1 h2 => ?_⟩
    · unfold takeO; rw [e1]
    · show putO s2 os r = some s
      exact p1 s2 h1 h2
  | .rt i :: os, s0, s, ts, h, hn, ha, hl => by
    unfold opTs at h
    split at h
    · next t ht =>
      obtain ⟨r, hr, rfl⟩ := Option.map_eq_some_iff.mp h
      have hn' : i ∉ rtsOf os ∧ (rtsOf os).Nodup := List.nodup_cons.mp hn
      have hsi : s[i]? = some (.tr t) := by rw [ha i List.mem_cons_self]; exact ht
      have hil : i < s.length := (List.getElem?_eq_some_iff.mp hsi).1
      obtain ⟨s1, e1, l1, k1, p1⟩ := takeO_put (ops := os) (s := s.set i .un) hr hn'.2 (fun j hj => by
        rw [List.getElem?_set_ne (fun z => hn'.1 (by rw [z]; exact hj))]
        exact ha j (List.mem_cons_of_mem _ hj)) (by rw [List.length_set]; exact hl)
      rw [List.length_set] at l1
      refine ⟨s1, ?_, l1, fun j hj => ?_, fun s2 h1 h2 => ?_⟩
      · unfold takeO
        have : treeAt s i = some t := by unfold treeAt; rw [hsi]
        rw [this]
        dsimp only
        rw [e1]
      · have hj' : j ≠ i ∧ j ∉ rtsOf os := by
          exact ⟨fun z => hj (by rw [z]; exact List.mem_cons_self), fun z => hj (List.mem_cons_of_mem _ z)⟩
        rw [k1 j hj'.2, List.getElem?_set_ne (Ne.symm hj'.1)]
      · unfold putO
        rw [if_pos (by rw [h1]; exact hil)]
        -- put back i, then the others: the others put back into (s.set i un) gives s.set i un; track instead with s itself
        obtain ⟨s1', e1', l1', k1', p1'⟩ := takeO_put (ops := os) (s0 := s0) (s := s) hr hn'.2 (fun j hj => ha j (List.mem_cons_of_mem _ hj)) hl
        refine p1' (s2.set i (.tr t)) (by rw [List.length_set]; exact h1) fun j hj => ?_
        by_cases hji : i = j
        · subst hji
          rw [List.getElem?_set_self (by rw [h1]; exact hil), hsi]
        · rw [List.getElem?_set_ne hji]
          exact h2 j (fun z => (List.mem_cons.mp z).elim (fun q => hji q.symm) hj)
    · cases h
/-- a call that leaves its arguments as they were -/
theorem call_same {F : Fn} {ops : List Op} {s : Sl} {ts : List T} {r : T} (h : opTs s ops = some ts) (hn : (rtsOf ops).Nodup) (hF : F ts = .ret r ts) : finCall F ops s = .ok (.vl r) s := by
  obtain ⟨s1, e1, l1, k1, p1⟩ := takeO_put h hn (fun _ _ => rfl) rfl
  unfold finCall
  rw [e1]
  dsimp only
  rw [hF]
  dsimp only
  rw [p1 s1 l1 k1]
/-- a call that raises, its arguments as they were -/
theorem call_same_er {F : Fn} {ops : List Op} {s : Sl} {ts : List T} {x : D} (h : opTs s ops = some ts) (hn : (rtsOf ops).Nodup) (hF : F ts = .exc x ts) : finCall F ops s = .er x s := by
  obtain ⟨s1, e1, l1, k1, p1⟩ := takeO_put h hn (fun _ _ => rfl) rfl
  unfold finCall
  rw [e1]
  dsimp only
  rw [hF]
  dsimp only
  rw [p1 s1 l1 k1]
end VS
/-! VSz: own classes run by simp. -/
namespace VS
open PySem PySem.Spec PyProof.Rows L2

/-- a row of numbers as an instance -/
abbrev rowD (xs : List Int) : D := .obj "Row" [.tup (dI xs)]
abbrev rowT (xs : List Int) : T := .leaf (rowD xs)
abbrev tabD (f l : List Int) : D := .obj "Table" [rowD f, rowD l]
abbrev tabT (f l : List Int) : T := .leaf (tabD f l)
section
variable {Γ : Ev} {s s1 : Sl} {f g : Sl → Out Op} {fs : List (Sl → Out Op)} {c : Str} {ds : List D} {d : D} {i j : Nat} {D0 : Str → Option Nat} {M : Str → Option (Sel × Fn)} {T0 : CK → CK → Option Bool} {b : Bool}
def fldK (D : Str → Option Nat) (o : Op) (s1 : Sl) : Out Op := match opTree s1 o with
  | some t => match fldT D t with
    | some d => .ok (.vl (.leaf d)) s1
    | none => .bad
  | none => .bad
@[simp] theorem r_evFld : evFld D0 f s = (f s).bnd (fldK D0) := by
  unfold evFld
  cases f s <;> rfl
@[simp] theorem r_fldK (h : D0 c = some j) (h2 : ds[j]? = some d) : fldK D0 (.vl (.leaf (.obj c ds))) s = .ok (.vl (.leaf d)) s := by
  simp only [fldK, opTree, fldT, h, h2]
def methK (M : Str → Option (Sel × Fn)) (fs : List (Sl → Out Op)) (o : Op) (s1 : Sl) : Out Op := match snapOp s1 o with
  | some (.obj c _) => match M c with
    | some (sel, F) => kF fs (finSel sel (finCall F)) [] o s1
    | none => .bad
  | _ => .bad
@[simp] theorem r_evMeth : evMeth M f fs s = (f s).bnd (methK M fs) := by
  unfold evMeth
  cases f s with
  | ok o s1 =>
    simp only [bnd_ok, methK, kF]
    cases snapOp s1 o with
    | none => rfl
    | some d =>
      cases d with
      | obj c ds =>
        dsimp only
        cases M c with
        | none => rfl
        | some p => rfl
      | _ => rfl
  | _ => rfl
theorem r_methK {sel : Sel} {F : Fn} (h : M c = some (sel, F)) : methK M fs (.vl (.leaf (.obj c ds))) s = kF fs (finSel sel (finCall F)) [] (.vl (.leaf (.obj c ds))) s := by
  simp only [methK, snapOp, frz_leaf, h]
def isiK (T0 : CK → CK → Option Bool) (k : CK) (o : Op) (s1 : Sl) : Out Op := match snapOp s1 o with
  | some d => match T0 (tyK d) k with
    | some b => .ok (.vl (.leaf (.bl b))) s1
    | none => .bad
  | none => .bad
@[simp] theorem r_evIsi {k : CK} : evIsi T0 k f s = (f s).bnd (isiK T0 k) := by
  unfold evIsi
  cases f s <;> rfl
theorem r_isiK {k : CK} {o : Op} (h : snapOp s o = some d) (h2 : T0 (tyK d) k = some b) : isiK T0 k o s = .ok (.vl (.leaf (.bl b))) s := by
  simp only [isiK, h, h2]
@[simp] theorem r_isiV {k : CK} (h2 : T0 (tyK d) k = some b) : isiK T0 k (.vl (.leaf d)) s = .ok (.vl (.leaf (.bl b))) s := r_isiK (by simp [snapOp]) h2
def isiTK (T0 : CK → CK → Option Bool) (ks : List CK) (o : Op) (s1 : Sl) : Out Op := match snapOp s1 o with
  | some d => match isiAny T0 (tyK d) ks with
    | some b => .ok (.vl (.leaf (.bl b))) s1
    | none => .bad
  | none => .bad
@[simp] theorem r_evIsiT {ks : List CK} : evIsiT T0 ks f s = (f s).bnd (isiTK T0 ks) := by
  unfold evIsiT
  cases f s <;> rfl
theorem r_isiTK {ks : List CK} {o : Op} (h : snapOp s o = some d) (h2 : isiAny T0 (tyK d) ks = some b) : isiTK T0 ks o s = .ok (.vl (.leaf (.bl b))) s := by
  simp only [isiTK, h, h2]
@[simp] theorem tyK_seqD {k : Kd} {xs : List Int} : tyK (seqD k xs) = .inl (if k = .t then "tuple" else "list") := by cases k <;> rfl
@[simp] theorem tyK_obj : tyK (.obj c ds) = .inr c := rfl
@[simp] theorem tyK_int {i : Int} : tyK (.int i) = .inl "int" := rfl
@[simp] theorem tyK_bl : tyK (.bl b) = .inl "bool" := rfl
@[simp] theorem tyK_str {z : Str} : tyK (.str z) = .inl "str" := rfl
@[simp] theorem tyK_non : tyK .non = .inl "NoneType" := rfl
@[simp] theorem tyK_tup : tyK (.tup ds) = .inl "tuple" := rfl
@[simp] theorem tyK_lst : tyK (.lst ds) = .inl "list" := rfl
/-! and, or as values -/
def andVK (g : Sl → Out Op) (o : Op) (s1 : Sl) : Out Op := match (snapOp s1 o).bind truD with
  | some true => g s1
  | some false => .ok o s1
  | none => .bad
def orVK (g : Sl → Out Op) (o : Op) (s1 : Sl) : Out Op := match (snapOp s1 o).bind truD with
  | some true => .ok o s1
  | some false => g s1
  | none => .bad
@[simp] theorem r_andV1 : evBoolV .And [f] s = f s := Eq.trans rfl rfl
@[simp] theorem r_orV1 : evBoolV .Or [f] s = f s := Eq.trans rfl rfl
@[simp] theorem r_andV : evBoolV .And (f :: g :: fs) s = (f s).bnd (andVK (evBoolV .And (g :: fs))) := by
  show evAndV f _ s = _
  unfold evAndV
  cases f s with
  | ok o s1 =>
    simp only [bnd_ok, andVK] <;> (cases (snapOp s1 o).bind truD with
    | none => rfl
    | some b => cases b <;> rfl)
  | _ => rfl
@[simp] theorem r_orV : evBoolV .Or (f :: g :: fs) s = (f s).bnd (orVK (evBoolV .Or (g :: fs))) := by
  show evOrV f _ s = _
  unfold evOrV
  cases f s with
  | ok o s1 =>
    simp only [bnd_ok, orVK] <;> (cases (snapOp s1 o).bind truD with
    | none => rfl
    | some b => cases b <;> rfl)
  | _ => rfl
@[simp] theorem r_andVT : andVK g (.vl (.leaf (.bl true))) s = g s := Eq.trans rfl rfl
@[simp] theorem r_andVF : andVK g (.vl (.leaf (.bl false))) s = .ok (.vl (.leaf (.bl false))) s := Eq.trans rfl rfl
@[simp] theorem r_orVT : orVK g (.vl (.leaf (.bl true))) s = .ok (.vl (.leaf (.bl true))) s := Eq.trans rfl rfl
@[simp] theorem r_orVF : orVK g (.vl (.leaf (.bl false))) s = g s := Eq.trans rfl rfl
@[simp] theorem r_notB : finNot [.vl (.leaf (.bl b))] s = .ok (.vl (.leaf (.bl !b))) s := by
  simp only [finNot, finP, snapOps, snapOp, frz_leaf, bNot, truD]
  rfl
/-! == of instances -/
theorem r_eqO {F : Fn} {r : Bool} {qs : List T} (h : Γ.sps "__eq__" c = some F) (ht : Γ.isi (tyK d) (.inr c) = some false ∨ (Γ.isi (tyK d) (.inr c) = some true ∧ tyK d = .inr c)) (hF : F [.leaf (.obj c ds), .leaf d] = .ret (.leaf (.bl r)) qs) : finC Γ .eq [.vl (.leaf (.obj c ds)), .vl (.leaf d)] s = .ok (.vl (.leaf (.bl r))) s := by
  simp only [finC, finIf, snapOps, snapOp, frz_leaf, isOwn1, if_true, finP, bEqO, h]
  rw [if_pos ht, hF]
  simp [S0.toD]
theorem r_neO {F : Fn} {r : Bool} {qs : List T} (h : Γ.sps "__eq__" c = some F) (ht : Γ.isi (tyK d) (.inr c) = some false ∨ (Γ.isi (tyK d) (.inr c) = some true ∧ tyK d = .inr c)) (hF : F [.leaf (.obj c ds), .leaf d] = .ret (.leaf (.bl r)) qs) : finC Γ .ne [.vl (.leaf (.obj c ds)), .vl (.leaf d)] s = .ok (.vl (.leaf (.bl !r))) s := by
  simp only [finC, finIf, snapOps, snapOp, frz_leaf, isOwn1, if_true, finP, bEqO, h]
  rw [if_pos ht, hF]
  simp [S0.toD]
/-! == of lists and tuples of numbers -/
theorem shaped_intsT (ns : List Int) : SeqAt.shaped (.tuple (ns.map .int)) = true := by
  have := depthAll_ints ns
  unfold SeqAt.shaped
  rw [Bool.and_eq_true, decide_eq_true_eq]
  refine ⟨by simp only [PyData.canLay0]; exact canLay_ints ns, ?_⟩
  simp only [PyData.depth]
  omega
theorem eqv_intsT (xs ys : List Int) : PyData.eqv (.tuple (xs.map .int)) (.tuple (ys.map .int)) = decide (xs = ys) := by
  simp only [PyData.eqv]
  exact eqvAll_ints xs ys
@[simp] theorem isObj1_ints (xs : List Int) : isObj1 (dI xs) = false := by cases xs <;> rfl
theorem eqS {k k' : Kd} {xs ys : List Int} {o o' : Op} (hk : (k = .t ↔ k' = .t)) (h : IsS s k xs o) (h' : IsS s k' ys o') : finC Γ .eq [o, o'] s = .ok (.vl (.leaf (.bl (decide (xs = ys))))) s := by
  have hs : snapOps s [o, o'] = some [seqD k xs, seqD k' ys] := by
    unfold snapOps snapOps snapOps
    rw [h.snap, h'.snap]
  by_cases hq : k = .t
  · have hq' := hk.mp hq
    subst hq hq'
    simp only [finC, finIf, hs, seqD, isOwn1, isM1, isObj1_ints, Bool.false_eq_true, if_false, finEq, isSc2, finP, bEq, toPy_intsT, shaped_intsT, and_self, if_true, eqv_intsT, S0.toD]
  · have hq' : k' ≠ .t := fun z => hq (hk.mpr z)
    have e1 : seqD k xs = .lst (dI xs) := by cases k <;> first | rfl | exact absurd rfl hq
    have e2 : seqD k' ys = .lst (dI ys) := by cases k' <;> first | rfl | exact absurd rfl hq'
    simp only [finC, finIf, hs, e1, e2, isOwn1, isM1, isObj1_ints, Bool.false_eq_true, if_false, finEq, isSc2, finP, bEq, toPy_ints, shaped_ints, and_self, if_true, eqv_ints, S0.toD]
theorem neS {k k' : Kd} {xs ys : List Int} {o o' : Op} (hk : (k = .t ↔ k' = .t)) (h : IsS s k xs o) (h' : IsS s k' ys o') : finC Γ .ne [o, o'] s = .ok (.vl (.leaf (.bl (!decide (xs = ys))))) s := by
  have hs : snapOps s [o, o'] = some [seqD k xs, seqD k' ys] := by
    unfold snapOps snapOps snapOps
    rw [h.snap, h'.snap]
  by_cases hq : k = .t
  · have hq' := hk.mp hq
    subst hq hq'
    simp only [finC, finIf, hs, seqD, isOwn1, isM1, isObj1_ints, Bool.false_eq_true, if_false, finNe, isSc2, finP, bNe, toPy_intsT, shaped_intsT, and_self, if_true, eqv_intsT, S0.toD]
  · have hq' : k' ≠ .t := fun z => hq (hk.mpr z)
    have e1 : seqD k xs = .lst (dI xs) := by cases k <;> first | rfl | exact absurd rfl hq
    have e2 : seqD k' ys = .lst (dI ys) := by cases k' <;> first | rfl | exact absurd rfl hq'
    simp only [finC, finIf, hs, e1, e2, isOwn1, isM1, isObj1_ints, Bool.false_eq_true, if_false, finNe, isSc2, finP, bNe, toPy_ints, shaped_ints, and_self, if_true, eqv_ints, S0.toD]
/-! all -/
theorem bls?_true (n : Nat) : bls? (List.replicate n (D.bl true)) = some (List.replicate n true) := by
  induction n with
  | zero => rfl
  | succ n ih =>
    have ih' : all? bl? (List.replicate n (D.bl true)) = some (List.replicate n true) := ih
    simp only [List.replicate_succ, all?, bl?]
    rw [ih']
@[simp] theorem r_all {n : Nat} : finBI Γ .all [.vl (.node (List.replicate n (.leaf (.bl true))))] s = .ok (.vl (.leaf (.bl true))) s := by
  have hm : (List.replicate n (T.leaf (.bl true))).map frz = List.replicate n (D.bl true) := by simp
  simp only [finBI, finP, snapOps, snapOp, frz_node, hm, bAll, bls?_true]
  simp [S0.toD]
@[simp] theorem r_absI {i : Int} : finBI Γ .abs [.vl (.leaf (.int i))] s = .ok (.vl (.leaf (.int (if i < 0 then -i else i)))) s := by
  simp [finBI, finP, snapOps, snapOp, bAbs, S0.toD]
@[simp] theorem r_intB : finBI Γ .int [.vl (.leaf (.bl b))] s = .ok (.vl (.leaf (.int (if b then 1 else 0)))) s := by
  simp [finBI, finP, snapOps, snapOp, bInt, S0.toD]
/-! is -/
@[simp] theorem r_isB {b2 : Bool} : finC Γ .is [.vl (.leaf (.bl b)), .vl (.leaf (.bl b2))] s = .ok (.vl (.leaf (.bl (b == b2)))) s := by
  cases b <;> cases b2 <;> rfl
@[simp] theorem r_isnB {b2 : Bool} : finC Γ .isn [.vl (.leaf (.bl b)), .vl (.leaf (.bl b2))] s = .ok (.vl (.leaf (.bl !(b == b2)))) s := by
  cases b <;> cases b2 <;> rfl
end
end VS
/-! VZa: sums, products of rows of numbers, their sizes. -/
namespace VS
open PySem PySem.Spec PyProof.Rows L2

theorem sz {n : Nat} (h : n ≤ 1000000) : n ≤ sizeLine := Nat.le_trans h (by decide)
theorem szl {n : Nat} (h : n ≤ 1000000) : n < sizeLine := Nat.lt_of_le_of_lt h (by decide)
theorem rng_ok {n : Nat} (h : n ≤ 1000000) {s : Sl} : rngK (.vl (.leaf (.int (n : Int)))) s = .ok ⟨rangeD 0 n, []⟩ s := by
  have h1 : in62 (n : Int) = true := in62_of (by omega)
  simp only [rngK, snapOp, frz_leaf, h1, Int.toNat_natCast, Bool.true_and]
  rw [if_pos (decide_eq_true (sz h))]
theorem rng_ok' {a : Int} {n : Nat} (e : a = (n : Int)) (h : n ≤ 1000000) {s : Sl} : rngK (.vl (.leaf (.int a))) s = .ok ⟨rangeD 0 n, []⟩ s := by
  subst e
  exact rng_ok h
/-- all numbers below 2 ^ n -/
def Bs (xs : List Int) (n : Nat) : Prop := ∀ x ∈ xs, x.natAbs < 2 ^ n
theorem Bs.at_ {xs : List Int} {n : Nat} (h : Bs xs n) (i : Nat) : (xs.getD i 0).natAbs < 2 ^ n := by
  rw [List.getD_eq_getElem?_getD]
  cases q : xs[i]? with
  | none => simpa using Nat.pos_of_ne_zero (by simp)
  | some x => exact h x (List.mem_of_getElem? q)
theorem Bs.mono {xs : List Int} {n m : Nat} (h : Bs xs n) (hm : n ≤ m) : Bs xs m := fun x hx => Nat.lt_of_lt_of_le (h x hx) (Nat.pow_le_pow_right (by omega) hm)
theorem mulOk_lt {a b : Int} {n m : Nat} (ha : a.natAbs < 2 ^ n) (hb : b.natAbs < 2 ^ m) (h : n + m < 133999998) : mulOk a b = true := by
  haveI : Bd a n := ⟨ha⟩
  haveI : Bd b m := ⟨hb⟩
  exact mulOk_bd h
theorem Bs.mul {xs ys : List Int} {n m : Nat} (h : Bs xs n) (h' : Bs ys m) (hn : n + m < 133999998) (i j : Nat) : mulOk (xs.getD i 0) (ys.getD j 0) = true := mulOk_lt (h.at_ i) (h'.at_ j) hn
def prodZ (xs ys : List Int) : List Int := (List.range xs.length).map fun k => sumR (k + 1) fun i => xs.getD i 0 * ys.getD (k - i) 0
theorem prodZ_len (xs ys : List Int) : (prodZ xs ys).length = xs.length := by simp [prodZ]
theorem sumR_zero {f : Nat → Int} : sumR 0 f = 0 := rfl
theorem sumR_succ {n : Nat} {f : Nat → Int} : sumR (n + 1) f = sumR n f + f n := by
  unfold sumR
  rw [List.range_succ, List.map_append, List.sum_append]
  simp
theorem sumR_abs {f : Nat → Int} {B : Nat} : ∀ {n : Nat}, (∀ i, i < n → (f i).natAbs ≤ B) → (sumR n f).natAbs ≤ n * B
  | 0, _ => by simp [sumR_zero]
  | n + 1, h => by
    rw [sumR_succ]
    have h1 := sumR_abs (n := n) fun i hi => h i (by omega)
    have h2 := h n (by omega)
    have h3 := Int.natAbs_add_le (sumR n f) (f n)
    rw [Nat.add_mul]
    omega
theorem bs_of {xs : List Int} {n : Nat} (h : ∀ i, i < xs.length → (xs.getD i 0).natAbs < 2 ^ n) : Bs xs n := fun x hx => by
  obtain ⟨i, hi, rfl⟩ := List.getElem_of_mem hx
  have := h i hi
  rwa [List.getD_eq_getElem?_getD, List.getElem?_eq_getElem hi] at this
theorem getD_range {n i : Nat} {f : Nat → Int} (h : i < n) : (((List.range n).map f).getD i 0) = f i := by
  rw [List.getD_eq_getElem?_getD, List.getElem?_map, List.getElem?_range h]
  rfl
theorem prodZ_bs {xs ys : List Int} {n m : Nat} (h1 : Bs xs n) (h2 : Bs ys m) (hl : xs.length ≤ 16) : Bs (prodZ xs ys) (n + m + 4) := bs_of fun k hk => by
  rw [prodZ_len] at hk
  unfold prodZ
  rw [getD_range hk]
  have h3 : (sumR (k + 1) fun i => xs.getD i 0 * ys.getD (k - i) 0).natAbs ≤ (k + 1) * (2 ^ (n + m) - 1) := sumR_abs fun i hi => by
    rw [Int.natAbs_mul]
    have := Nat.mul_lt_mul'' (h1.at_ i) (h2.at_ (k - i))
    rw [← Nat.pow_add] at this
    omega
  have h4 : (k + 1) * (2 ^ (n + m) - 1) ≤ 16 * (2 ^ (n + m) - 1) := Nat.mul_le_mul_right _ (by omega)
  have h5 : 2 ^ (n + m + 4) = 16 * 2 ^ (n + m) := by rw [Nat.pow_add]; omega
  have h6 : 0 < 2 ^ (n + m) := Nat.pos_of_ne_zero (by simp)
  omega
/-! ### calls with lists among the arguments -/
section
variable {F : Fn} {s : Sl} {k k' : Kd} {xs ys : List Int} {i j : Nat} {r t u : T}
theorem opTs_S {os : List Op} {ts : List T} (h : s[j]? = some (.tr (seqT k xs))) (h2 : opTs s os = some ts) : opTs s (opS k xs j :: os) = some (seqT k xs :: ts) := by
  cases k with
  | n =>
    show (match s[j]? with
      | some (.tr t) => (opTs s os).map (t :: ·)
      | _ => none) = _
    rw [h]
    dsimp only
    rw [h2]
    rfl
  | l => show (opTs s os).map _ = _; rw [h2]; rfl
  | t => show (opTs s os).map _ = _; rw [h2]; rfl
theorem opTs_V {os : List Op} {ts : List T} (h2 : opTs s os = some ts) : opTs s (.vl t :: os) = some (t :: ts) := by
  show (opTs s os).map _ = _
  rw [h2]
  rfl
theorem rts_S {os : List Op} (h : (rtsOf os).Nodup) (h2 : j ∉ rtsOf os) : (rtsOf (opS k xs j :: os)).Nodup := by
  cases k with
  | n => exact List.nodup_cons.mpr ⟨h2, h⟩
  | l => exact h
  | t => exact h
theorem call_s (hF : F [seqT k xs] = .ret r [seqT k xs]) (h : s[j]? = some (.tr (seqT k xs))) : finCall F [opS k xs j] s = .ok (.vl r) s :=
  call_same (opTs_S h rfl) (rts_S (by simp [rtsOf]) (by simp [rtsOf])) hF
theorem call_sv (hF : F [seqT k xs, t] = .ret r [seqT k xs, t]) (h : s[j]? = some (.tr (seqT k xs))) : finCall F [opS k xs j, .vl t] s = .ok (.vl r) s :=
  call_same (opTs_S h (opTs_V rfl)) (rts_S (by simp [rtsOf]) (by simp [rtsOf])) hF
theorem call_vs (hF : F [t, seqT k xs] = .ret r [t, seqT k xs]) (h : s[j]? = some (.tr (seqT k xs))) : finCall F [.vl t, opS k xs j] s = .ok (.vl r) s :=
  call_same (opTs_V (opTs_S h rfl)) (show (rtsOf [opS k xs j]).Nodup from rts_S (by simp [rtsOf]) (by simp [rtsOf])) hF
theorem rtsOf_S1 : ∀ i ∈ rtsOf [opS k xs j], i = j := by
  cases k <;> simp [rtsOf, opS]
theorem call_ss (hF : F [seqT k xs, seqT k' ys] = .ret r [seqT k xs, seqT k' ys]) (h : s[i]? = some (.tr (seqT k xs))) (h' : s[j]? = some (.tr (seqT k' ys))) (hij : i ≠ j) : finCall F [opS k xs i, opS k' ys j] s = .ok (.vl r) s :=
  call_same (opTs_S h (opTs_S h' rfl)) (rts_S (rts_S (by simp [rtsOf]) (by simp [rtsOf])) fun z => hij (rtsOf_S1 i z)) hF
end
end VS
/-! VZb: walks over lists of whole numbers, wherever they lie. -/
namespace VS
open PySem PySem.Spec PyProof.Rows L2

def srcS : Kd → List Int → Nat → Src
  | .n, xs, j => [(j, nodeI xs)]
  | _, _, _ => []
def srcF : Kd → Nat → List Nat
  | .n, j => [j]
  | _, _ => []
section
variable {Γ : Ev} {s : Sl} {k k' : Kd} {xs ys : List Int} {i j a b : Nat} {fx : List Nat}
@[simp] theorem srcS_map : (srcS k xs j).map (·.1) = srcF k j := by cases k <;> rfl
theorem srcB_S (h : s[j]? = some (.tr (seqT k xs))) : srcB (srcS k xs j) s = true := by
  cases k with
  | n => exact srcB_one (atS h)
  | l => rfl
  | t => rfl
theorem srcB_app : ∀ {a b : Src}, srcB (a ++ b) s = (srcB a s && srcB b s)
  | [], b => by simp [srcB]
  | (i, t) :: a, b => by
    show (_ && srcB (a ++ b) s) = ((_ && srcB a s) && srcB b s)
    rw [srcB_app, Bool.and_assoc]
@[simp] theorem has_srcF (h : i ≠ j) : (srcF k j ++ fx).contains i = fx.contains i := by cases k <;> simp [srcF, h]
theorem iterS (h : s[j]? = some (.tr (seqT k xs))) : iterSrc s (opS k xs j) = some (decide (k = .t), dI xs, srcS k xs j, s) := by
  cases k with
  | n =>
    show iterSrc s (.rt j) = _
    unfold iterSrc
    dsimp only
    rw [soft_rt h, atS h]
    show some (false, (xs.map fun i => T.leaf (.int i)).map frz, [(j, nodeI xs)], s) = _
    rw [List.map_map]
    rfl
  | l => rfl
  | t => rfl
theorem iterV : iterSrc s (.vl (seqT k xs)) = some (decide (k = .t), dI xs, [], s) := by
  cases k with
  | n =>
    show some (false, (xs.map fun i => T.leaf (.int i)).map frz, [], s) = _
    rw [List.map_map]
    rfl
  | l => rfl
  | t => rfl
/-! what is walked -/
@[simp] theorem r_seqS (h : s[j]? = some (.tr (seqT k xs))) : seqK (opS k xs j) s = .ok ⟨dI xs, srcS k xs j⟩ s := by unfold seqK; rw [iterS h]
@[simp] theorem r_seqV : seqK (.vl (seqT k xs)) s = .ok ⟨dI xs, []⟩ s := by unfold seqK; rw [iterV]
def enumK (o : Op) (s1 : Sl) : Out Walked := match iterSrc s1 o with
  | some (_, ds, src, s2) => .ok ⟨enumD ds, src⟩ s2
  | none => .bad
@[simp] theorem r_enum {e : Ex} : evW Γ (.enum e) s = (evX Γ e s).bnd enumK := by
  simp only [evW, evEnum, evAs]
  cases evX Γ e s <;> rfl
@[simp] theorem r_enumS (h : s[j]? = some (.tr (seqT k xs))) : enumK (opS k xs j) s = .ok ⟨enumD (dI xs), srcS k xs j⟩ s := by unfold enumK; rw [iterS h]
@[simp] theorem r_enumV : enumK (.vl (seqT k xs)) s = .ok ⟨enumD (dI xs), []⟩ s := by unfold enumK; rw [iterV]
def zipK1 (f : Sl → Out Op) (o : Op) (s1 : Sl) : Out Walked := match f s1 with
  | .ok o' s2 => match iterSrc s2 o with
    | some (t1, ds, src, s3) => match iterSrc s3 o' with
      | some (t2, es, src', s4) => if (t1 || !t2) = true ∧ srcB src s4 = true then .ok ⟨zipD ds es, src ++ src'⟩ s4 else .bad
      | none => .bad
    | none => .bad
  | .er x s2 => .er x s2
  | .bad => .bad
@[simp] theorem r_zip {e e' : Ex} : evW Γ (.zip e e') s = (evX Γ e s).bnd (zipK1 (evX Γ e')) := by
  simp only [evW, evZip, evAs]
  cases evX Γ e s with
  | ok o s1 =>
    simp only [bnd_ok, zipK1]
    cases evX Γ e' s1 <;> rfl
  | _ => rfl
def zipK2 (o o' : Op) (s2 : Sl) : Out Walked := match iterSrc s2 o with
  | some (t1, ds, src, s3) => match iterSrc s3 o' with
    | some (t2, es, src', s4) => if (t1 || !t2) = true ∧ srcB src s4 = true then .ok ⟨zipD ds es, src ++ src'⟩ s4 else .bad
    | none => .bad
  | none => .bad
@[simp] theorem r_zipK1 {f : Sl → Out Op} {o : Op} : zipK1 f o s = (f s).bnd (zipK2 o) := by
  unfold zipK1 zipK2
  cases f s <;> rfl
theorem zipVV (h : k = .t ∨ k' ≠ .t) : zipK2 (.vl (seqT k xs)) (.vl (seqT k' ys)) s = .ok ⟨zipD (dI xs) (dI ys), []⟩ s := by
  unfold zipK2
  rw [iterV]
  dsimp only
  rw [iterV]
  dsimp only
  rw [if_pos ⟨by rcases h with h | h <;> simp [h], rfl⟩]
  rfl
theorem zipSS (h : k = .t ∨ k' ≠ .t) (h1 : s[i]? = some (.tr (seqT k xs))) (h2 : s[j]? = some (.tr (seqT k' ys))) : zipK2 (opS k xs i) (opS k' ys j) s = .ok ⟨zipD (dI xs) (dI ys), srcS k xs i ++ srcS k' ys j⟩ s := by
  unfold zipK2
  rw [iterS h1]
  dsimp only
  rw [iterS h2]
  dsimp only
  rw [if_pos ⟨by rcases h with h | h <;> simp [h], srcB_S h1⟩]
theorem zipSV (h : k = .t ∨ k' ≠ .t) (h1 : s[i]? = some (.tr (seqT k xs))) : zipK2 (opS k xs i) (.vl (seqT k' ys)) s = .ok ⟨zipD (dI xs) (dI ys), srcS k xs i⟩ s := by
  unfold zipK2
  rw [iterS h1]
  dsimp only
  rw [iterV]
  dsimp only
  rw [if_pos ⟨by rcases h with h | h <;> simp [h], srcB_S h1⟩, List.append_nil]
theorem enumI_len : (enumD (dI xs)).length = xs.length := by rw [enumD_len, List.length_map]
theorem enumI_get {m : Nat} (h : m < (enumD (dI xs)).length) : (enumD (dI xs))[m] = .tup [.int (m : Nat), .int (xs.getD m 0)] := by
  have hx : m < xs.length := by rwa [enumI_len] at h
  simp [enumD, hx]
theorem zipI_len : (zipD (dI xs) (dI ys)).length = min xs.length ys.length := by simp [zipD]
theorem zipI_get {m : Nat} (h : m < (zipD (dI xs) (dI ys)).length) : (zipD (dI xs) (dI ys))[m] = .tup [.int (xs.getD m 0), .int (ys.getD m 0)] := by
  have hx : m < min xs.length ys.length := by rwa [zipI_len] at h
  have h1 : m < xs.length := by omega
  have h2 : m < ys.length := by omega
  simp [zipD, h1, h2]
theorem dI_get {m : Nat} (h : m < (dI xs).length) : (dI xs)[m] = .int (xs.getD m 0) := by
  have hx : m < xs.length := by simpa using h
  simp [hx]
/-! loops over them -/
theorem for_src {src : Src} {p : Pat} {B : List Sm} {ds : List D} (hp : p.slots.any (fun i => (src.map (·.1) ++ fx).contains i) = false) (st : Nat → Sl) (hsrc : ∀ m, m ≤ ds.length → srcB src (st m) = true)
    (hs : ∀ m (hm : m < ds.length), ∃ s1, bindP p (.leaf ds[m]) (st m) = some s1 ∧ evSs Γ B (src.map (·.1) ++ fx) s1 = .nx (st (m + 1))) : forK Γ p B fx ⟨ds, src⟩ (st 0) = .nx (st ds.length) := by
  unfold forK
  rw [if_neg (by rw [hp]; exact Bool.false_ne_true)]
  exact for_run st hsrc hs
theorem for_enumS {B : List Sm} (st : Nat → Sl) (hst : ∀ m, m ≤ xs.length → (st m)[j]? = some (.tr (seqT k xs))) (hp : (Pat.tp [a, b]).slots.any (fun i => (srcF k j ++ fx).contains i) = false)
    (hs : ∀ m, m < xs.length → ∃ s1, bindP (.tp [a, b]) (.leaf (.tup [.int (m : Nat), .int (xs.getD m 0)])) (st m) = some s1 ∧ evSs Γ B (srcF k j ++ fx) s1 = .nx (st (m + 1))) : forK Γ (.tp [a, b]) B fx ⟨enumD (dI xs), srcS k xs j⟩ (st 0) = .nx (st xs.length) := by
  have := for_src (Γ := Γ) (src := srcS k xs j) (B := B) (ds := enumD (dI xs)) (fx := fx) (p := .tp [a, b]) (by rw [srcS_map]; exact hp) st (fun m hm => srcB_S (hst m (by rwa [enumI_len] at hm))) fun m hm => by
    rw [enumI_get, srcS_map]
    exact hs m (by rwa [enumI_len] at hm)
  rwa [enumI_len] at this
theorem for_seqS {B : List Sm} (st : Nat → Sl) (hst : ∀ m, m ≤ xs.length → (st m)[j]? = some (.tr (seqT k xs))) (hp : (Pat.nm a).slots.any (fun i => (srcF k j ++ fx).contains i) = false)
    (hs : ∀ m, m < xs.length → ∃ s1, bindP (.nm a) (.leaf (.int (xs.getD m 0))) (st m) = some s1 ∧ evSs Γ B (srcF k j ++ fx) s1 = .nx (st (m + 1))) : forK Γ (.nm a) B fx ⟨dI xs, srcS k xs j⟩ (st 0) = .nx (st xs.length) := by
  have := for_src (Γ := Γ) (src := srcS k xs j) (B := B) (ds := dI xs) (fx := fx) (p := .nm a) (by rw [srcS_map]; exact hp) st (fun m hm => srcB_S (hst m (by simpa using hm))) fun m hm => by
    rw [dI_get, srcS_map]
    exact hs m (by simpa using hm)
  simpa using this
theorem for_seqV {B : List Sm} (st : Nat → Sl) (hp : (Pat.nm a).slots.any (fun i => fx.contains i) = false)
    (hs : ∀ m, m < xs.length → ∃ s1, bindP (.nm a) (.leaf (.int (xs.getD m 0))) (st m) = some s1 ∧ evSs Γ B fx s1 = .nx (st (m + 1))) : forK Γ (.nm a) B fx ⟨dI xs, []⟩ (st 0) = .nx (st xs.length) := by
  have := for_src (Γ := Γ) (src := []) (B := B) (ds := dI xs) (fx := fx) (p := .nm a) hp st (fun m hm => rfl) fun m hm => by
    rw [dI_get]
    exact hs m (by simpa using hm)
  simpa using this
/-! comprehensions over them -/
theorem lc_zip {e : Ex} {w : Wx} {vs : List Nat} {s1 : Sl} {src : Src} (hw : evW Γ w s = .ok ⟨zipD (dI xs) (dI ys), src⟩ s1) (hf : Walked.free ⟨zipD (dI xs) (dI ys), src⟩ vs = true) (st : Nat → Sl) (h0 : wipeS s1 vs = st 0) (t : Nat → T) (hl : xs.length ≤ 1000000) (hxy : xs.length ≤ ys.length)
    (hsrc : ∀ m, m ≤ xs.length → srcB src (st m) = true) (hs : ∀ m, m < xs.length → ∃ s1 s2, bindP (.tp [a, b]) (.leaf (.tup [.int (xs.getD m 0), .int (ys.getD m 0)])) (st m) = some s1 ∧ evX Γ e s1 = .ok (.vl (t m)) s2 ∧ wipeS s2 vs = st (m + 1)) :
    evX Γ (.lc w (.tp [a, b]) none e vs) s = .ok (.vl (.node ((List.range xs.length).map t))) (restS s1 (st xs.length) vs) := by
  have hlen : (zipD (dI xs) (dI ys)).length = xs.length := by rw [zipI_len]; omega
  have := lc_run (e := e) (p := .tp [a, b]) hw hf st h0 t (by rw [hlen]; exact sz hl) (fun m hm => hsrc m (by rwa [hlen] at hm)) fun m hm => by
    rw [zipI_get]
    exact hs m (by rwa [hlen] at hm)
  rwa [hlen] at this
theorem lc_seq {e : Ex} {w : Wx} {vs : List Nat} {s1 : Sl} {src : Src} (hw : evW Γ w s = .ok ⟨dI xs, src⟩ s1) (hf : Walked.free ⟨dI xs, src⟩ vs = true) (st : Nat → Sl) (h0 : wipeS s1 vs = st 0) (t : Nat → T) (hl : xs.length ≤ 1000000)
    (hsrc : ∀ m, m ≤ xs.length → srcB src (st m) = true) (hs : ∀ m, m < xs.length → ∃ s1 s2, bindP (.nm a) (.leaf (.int (xs.getD m 0))) (st m) = some s1 ∧ evX Γ e s1 = .ok (.vl (t m)) s2 ∧ wipeS s2 vs = st (m + 1)) :
    evX Γ (.lc w (.nm a) none e vs) s = .ok (.vl (.node ((List.range xs.length).map t))) (restS s1 (st xs.length) vs) := by
  have hlen : (dI xs).length = xs.length := by simp
  have := lc_run (e := e) (p := .nm a) hw hf st h0 t (by rw [hlen]; exact sz hl) (fun m hm => hsrc m (by rwa [hlen] at hm)) fun m hm => by
    rw [dI_get]
    exact hs m (by rwa [hlen] at hm)
  rwa [hlen] at this
theorem lc_enum {e : Ex} {w : Wx} {vs : List Nat} {s1 : Sl} {src : Src} (hw : evW Γ w s = .ok ⟨enumD (dI xs), src⟩ s1) (hf : Walked.free ⟨enumD (dI xs), src⟩ vs = true) (st : Nat → Sl) (h0 : wipeS s1 vs = st 0) (t : Nat → T) (hl : xs.length ≤ 1000000)
    (hsrc : ∀ m, m ≤ xs.length → srcB src (st m) = true) (hs : ∀ m, m < xs.length → ∃ s1 s2, bindP (.tp [a, b]) (.leaf (.tup [.int (m : Nat), .int (xs.getD m 0)])) (st m) = some s1 ∧ evX Γ e s1 = .ok (.vl (t m)) s2 ∧ wipeS s2 vs = st (m + 1)) :
    evX Γ (.lc w (.tp [a, b]) none e vs) s = .ok (.vl (.node ((List.range xs.length).map t))) (restS s1 (st xs.length) vs) := by
  have hlen : (enumD (dI xs)).length = xs.length := enumI_len
  have := lc_run (e := e) (p := .tp [a, b]) hw hf st h0 t (by rw [hlen]; exact sz hl) (fun m hm => hsrc m (by rwa [hlen] at hm)) fun m hm => by
    rw [enumI_get]
    exact hs m (by rwa [hlen] at hm)
  rwa [hlen] at this
theorem free_S {ds : List D} {vs : List Nat} (h : j ∉ vs) : Walked.free ⟨ds, srcS k xs j⟩ vs = true := by cases k <;> simp [Walked.free, srcS, h]
theorem free_SS {ds : List D} {vs : List Nat} (h : i ∉ vs) (h2 : j ∉ vs) : Walked.free ⟨ds, srcS k xs i ++ srcS k' ys j⟩ vs = true := by cases k <;> cases k' <;> simp [Walked.free, srcS, h, h2]
end
theorem range_getD (xs : List Int) : (List.range xs.length).map (fun m => xs.getD m 0) = xs := by
  refine List.ext_getElem (by simp) fun i h1 h2 => ?_
  simp at h1
  simp [h1]
end VS
/-! VZc: more about lists of whole numbers: given back, joined, compared. -/
namespace VS
open PySem PySem.Spec PyProof.Rows L2
section
variable {Γ : Ev} {s s1 : Sl} {k k' : Kd} {xs ys : List Int} {i j : Nat} {a b : Int} {fx : List Nat}
@[simp] theorem r_retS (hf : fx.contains j = false) (h : s[j]? = some (.tr (seqT k xs))) : retK fx (opS k xs j) s = .rt (seqT k xs) (clrK k j s) := by
  cases k with
  | n =>
    show retK fx (.rt j) s = _
    unfold retK moved
    dsimp only
    rw [atS h, if_neg (by rw [hf]; decide)]
    rfl
  | l => exact r_retV
  | t => exact r_retV
@[simp] theorem r_catVV (hk : k ≠ .t) (hk' : k' ≠ .t) (hl : xs.length + ys.length ≤ 1000000) : finB .add [.vl (seqT k xs), .vl (seqT k' ys)] s = .ok (.vl (seqT .n (xs ++ ys))) s := catS .vl .vl hk hk' (sz hl)
@[simp] theorem r_catSV (h : s[i]? = some (.tr (seqT k xs))) (hk : k ≠ .t) (hk' : k' ≠ .t) (hl : xs.length + ys.length ≤ 1000000) : finB .add [opS k xs i, .vl (seqT k' ys)] s = .ok (.vl (seqT .n (xs ++ ys))) s := catS (.rt h) .vl hk hk' (sz hl)
@[simp] theorem r_catVS (h : s[i]? = some (.tr (seqT k' ys))) (hk : k ≠ .t) (hk' : k' ≠ .t) (hl : xs.length + ys.length ≤ 1000000) : finB .add [.vl (seqT k xs), opS k' ys i] s = .ok (.vl (seqT .n (xs ++ ys))) s := catS .vl (.rt h) hk hk' (sz hl)
@[simp] theorem r_catSS (h : s[i]? = some (.tr (seqT k xs))) (h' : s[j]? = some (.tr (seqT k' ys))) (hk : k ≠ .t) (hk' : k' ≠ .t) (hl : xs.length + ys.length ≤ 1000000) : finB .add [opS k xs i, opS k' ys j] s = .ok (.vl (seqT .n (xs ++ ys))) s := catS (.rt h) (.rt h') hk hk' (sz hl)
@[simp] theorem r_catTV (hl : xs.length + ys.length ≤ 1000000) : finB .add [.vl (seqT .t xs), .vl (seqT .t ys)] s = .ok (.vl (seqT .t (xs ++ ys))) s := catT .vl .vl (sz hl)
@[simp] theorem r_eqVV (hk : (k = .t ↔ k' = .t)) : finC Γ .eq [.vl (seqT k xs), .vl (seqT k' ys)] s = .ok (.vl (.leaf (.bl (decide (xs = ys))))) s := eqS hk .vl .vl
@[simp] theorem r_eqSV (h : s[i]? = some (.tr (seqT k xs))) (hk : (k = .t ↔ k' = .t)) : finC Γ .eq [opS k xs i, .vl (seqT k' ys)] s = .ok (.vl (.leaf (.bl (decide (xs = ys))))) s := eqS hk (.rt h) .vl
@[simp] theorem r_eqVS (h : s[i]? = some (.tr (seqT k' ys))) (hk : (k = .t ↔ k' = .t)) : finC Γ .eq [.vl (seqT k xs), opS k' ys i] s = .ok (.vl (.leaf (.bl (decide (xs = ys))))) s := eqS hk .vl (.rt h)
@[simp] theorem r_eqSS (h : s[i]? = some (.tr (seqT k xs))) (h' : s[j]? = some (.tr (seqT k' ys))) (hk : (k = .t ↔ k' = .t)) : finC Γ .eq [opS k xs i, opS k' ys j] s = .ok (.vl (.leaf (.bl (decide (xs = ys))))) s := eqS hk (.rt h) (.rt h')
@[simp] theorem r_neVV (hk : (k = .t ↔ k' = .t)) : finC Γ .ne [.vl (seqT k xs), .vl (seqT k' ys)] s = .ok (.vl (.leaf (.bl (!decide (xs = ys))))) s := neS hk .vl .vl
@[simp] theorem r_neSV (h : s[i]? = some (.tr (seqT k xs))) (hk : (k = .t ↔ k' = .t)) : finC Γ .ne [opS k xs i, .vl (seqT k' ys)] s = .ok (.vl (.leaf (.bl (!decide (xs = ys))))) s := neS hk (.rt h) .vl
@[simp] theorem r_neSS (h : s[i]? = some (.tr (seqT k xs))) (h' : s[j]? = some (.tr (seqT k' ys))) (hk : (k = .t ↔ k' = .t)) : finC Γ .ne [opS k xs i, opS k' ys j] s = .ok (.vl (.leaf (.bl (!decide (xs = ys))))) s := neS hk (.rt h) (.rt h')
def chK3 (ob : Op) (fc : Sl → Out Op) (fin' : Fin1) (o : Op) (s2 : Sl) : Out Op := match o with
  | .vl (.leaf (.bl true)) => match ob with
    | .vl (.leaf (.int i)) => match fc s2 with
      | .ok oc s3 => fin' [.vl (.leaf (.int i)), oc] s3
      | .er x s3 => .er x s3
      | .bad => .bad
    | _ => .bad
  | .vl (.leaf (.bl false)) => .ok (.vl (.leaf (.bl false))) s2
  | _ => .bad
def chK4 (a : Int) (fin' : Fin1) (o : Op) (s3 : Sl) : Out Op := fin' [.vl (.leaf (.int a)), o] s3
@[simp] theorem r_chK4 {a : Int} {fin' : Fin1} {o : Op} : chK4 a fin' o s = fin' [.vl (.leaf (.int a)), o] s := Eq.trans rfl rfl
def chK2 (oa : Op) (fc : Sl → Out Op) (fin fin' : Fin1) (ob : Op) (s1 : Sl) : Out Op := (fin [oa, ob] s1).bnd (chK3 ob fc fin')
@[simp] theorem r_chK2 {oa ob : Op} {fc : Sl → Out Op} {fin fin' : Fin1} : chK2 oa fc fin fin' ob s = (fin [oa, ob] s).bnd (chK3 ob fc fin') := Eq.trans rfl rfl
def chK1 (fb fc : Sl → Out Op) (fin fin' : Fin1) (oa : Op) (s1 : Sl) : Out Op := (fb s1).bnd (chK2 oa fc fin fin')
@[simp] theorem r_chK1 {oa : Op} {fb fc : Sl → Out Op} {fin fin' : Fin1} : chK1 fb fc fin fin' oa s = (fb s).bnd (chK2 oa fc fin fin') := Eq.trans rfl rfl
@[simp] theorem r_chK3T {fc : Sl → Out Op} {fin' : Fin1} : chK3 (.vl (.leaf (.int a))) fc fin' (.vl (.leaf (.bl true))) s = (fc s).bnd (chK4 a fin') := by
  show (match fc s with
    | .ok oc s3 => fin' [.vl (.leaf (.int a)), oc] s3
    | .er x s3 => Out.er x s3
    | .bad => .bad) = _
  cases fc s <;> rfl
@[simp] theorem r_chK3F {ob : Op} {fc : Sl → Out Op} {fin' : Fin1} : chK3 ob fc fin' (.vl (.leaf (.bl false))) s = .ok (.vl (.leaf (.bl false))) s := Eq.trans rfl rfl
@[simp] theorem r_evChain {fa fb fc : Sl → Out Op} {fin fin' : Fin1} : evChain fa fb fc fin fin' s = (fa s).bnd (chK1 fb fc fin fin') := by
  unfold evChain
  simp only [evAs]
  cases fa s with
  | ok oa s1 =>
    simp only [bnd_ok, chK1]
    cases fb s1 with
    | ok ob s2 =>
      simp only [bnd_ok, chK2]
      cases fin [oa, ob] s2 with
      | ok o s3 =>
        simp only [bnd_ok]
        cases o with
        | vl t => cases t with
          | leaf d => cases d with
            | bl b => cases b <;> rfl
            | _ => rfl
          | _ => rfl
        | _ => rfl
      | _ => rfl
    | _ => rfl
  | _ => rfl
@[simp] theorem r_lst0 : finList [] s = .ok (.vl (seqT .n [])) s := Eq.trans rfl rfl
@[simp] theorem r_lst1 : finList [.vl (.leaf (.int a))] s = .ok (.vl (seqT .n [a])) s := Eq.trans rfl rfl
@[simp] theorem r_lst2 : finList [.vl (.leaf (.int a)), .vl (.leaf (.int b))] s = .ok (.vl (seqT .n [a, b])) s := Eq.trans rfl rfl
@[simp] theorem r_lst3 {c : Int} : finList [.vl (.leaf (.int a)), .vl (.leaf (.int b)), .vl (.leaf (.int c))] s = .ok (.vl (seqT .n [a, b, c])) s := Eq.trans rfl rfl
theorem call_v (hF : F [t] = .ret r [t]) : finCall F [.vl t] s = .ok (.vl r) s := call_same (opTs_V rfl) (by simp [rtsOf]) hF
theorem call_vv (hF : F [t, u] = .ret r [t, u]) : finCall F [.vl t, .vl u] s = .ok (.vl r) s := call_same (opTs_V (opTs_V rfl)) (by simp [rtsOf]) hF
theorem flatten_dI (n : Nat) (xs : List Int) : (List.replicate n (dI xs)).flatten = dI (List.replicate n xs).flatten := by
  induction n with
  | zero => rfl
  | succ n ih => rw [List.replicate_succ, List.flatten_cons, ih, List.replicate_succ, List.flatten_cons]; simp
theorem r_repV {n : Int} (hn : n.toNat ≤ 1000) (h0 : -1000 ≤ n) (hl : xs.length ≤ 1000) : finB .mul [.vl (seqT .n xs), .vl (.leaf (.int n))] s = .ok (.vl (seqT .n (List.replicate n.toNat xs).flatten)) s := by
  have hl : ((dI xs).length * n.toNat ≤ sizeLine ∧ in62 n = true) := ⟨by
    rw [List.length_map]
    exact Nat.le_trans (Nat.mul_le_mul hl hn) (show 1000 * 1000 ≤ sizeLine by decide), in62_of (by omega)⟩
  simp only [finB, finMul, finIf, snapOps, snapOp, frz_seqT, frz_leaf, seqD, isTI, isII, Bool.false_eq_true, if_false, finS, qRep]
  rw [if_pos hl]
  simp only [softs, soft_vl, flatten_dI, leafN]
theorem r_lrgI {n : Int} (hn : n.toNat ≤ 100000) (h0 : -100000 ≤ n) : finS qLrg [.vl (.leaf (.int n))] s = .ok (.vl (seqT .n ((List.range n.toNat).map fun k : Nat => (k : Int)))) s := by
  have h1 : rgOk n = true := by
    unfold rgOk
    rw [in62_of (by omega), Bool.true_and, decide_eq_true_eq]
    omega
  have h2 : rangeD 0 n.toNat = dI ((List.range n.toNat).map fun k : Nat => (k : Int)) := by
    unfold rangeD
    rw [show dI ((List.range n.toNat).map fun k : Nat => (k : Int)) = List.map D.int ((List.range n.toNat).map fun k : Nat => (k : Int)) from rfl, List.map_map]
    refine List.map_congr_left fun k _ => ?_
    show D.int (0 + (k : Int)) = D.int k
    rw [Int.zero_add]
  simp only [finS, snapOps, snapOp, frz_leaf, qLrg, h1, if_true, softs, soft_vl, h2, leafN]
theorem call_vvv {v : T} (hF : F [t, u, v] = .ret r [t, u, v]) : finCall F [.vl t, .vl u, .vl v] s = .ok (.vl r) s := call_same (opTs_V (opTs_V (opTs_V rfl))) (by simp [rtsOf]) hF
theorem call_vvvv {v w : T} (hF : F [t, u, v, w] = .ret r [t, u, v, w]) : finCall F [.vl t, .vl u, .vl v, .vl w] s = .ok (.vl r) s := call_same (opTs_V (opTs_V (opTs_V (opTs_V rfl)))) (by simp [rtsOf]) hF
end
/-- every element answers true: all's own walk -/
theorem seqT_three (a b c : Int) : T.node [.leaf (.int a), .leaf (.int b), .leaf (.int c)] = seqT .n [a, b, c] := rfl
end VS
/-! VZd: ranges from a place on, [::-1], max, min of two. -/
namespace VS
open PySem PySem.Spec PyProof.Rows L2
section
variable {Γ : Ev} {s s1 : Sl} {k k' : Kd} {xs ys : List Int} {i j : Nat} {a b : Int} {fx : List Nat}
def rng2B (oa ob : Op) (s1 : Sl) : Out Walked := match snapOps s1 [oa, ob] with
  | some [.int i, .int j] => if in62 i && in62 j && decide ((j - i).toNat ≤ sizeLine) then .ok ⟨rangeD i (j - i).toNat, []⟩ s1 else .bad
  | _ => .bad
def rng2A (g : Sl → Out Op) (oa : Op) (s1 : Sl) : Out Walked := (g s1).bnd (rng2B oa)
@[simp] theorem r_rng2A {g : Sl → Out Op} {oa : Op} : rng2A g oa s = (g s).bnd (rng2B oa) := Eq.trans rfl rfl
theorem snapOps_two {oa ob : Op} : snapOps s [oa, ob] = match snapOp s oa, snapOp s ob with
  | some d, some d' => some [d, d']
  | _, _ => none := by
  simp only [snapOps]
  cases snapOp s oa <;> cases snapOp s ob <;> rfl
@[simp] theorem r_rng2 {e e' : Ex} : evW Γ (.rng [e, e']) s = (evX Γ e s).bnd (rng2A (evX Γ e')) := by
  simp only [evW, evXs, evRange, evAs]
  cases evX Γ e s with
  | ok o s1 =>
    simp only [bnd_ok, rng2A]
    cases evX Γ e' s1 with
    | ok o' s2 =>
      simp only [bnd_ok, rng2B, snapOps_two]
      cases snapOp s2 o with
      | none => cases snapOp s2 o' <;> rfl
      | some d => cases snapOp s2 o' with
        | none => cases d <;> rfl
        | some d' => cases d <;> first | rfl | (cases d' <;> rfl)
    | _ => rfl
  | _ => rfl
theorem rng2_ok {n : Nat} (h0 : -1000000 ≤ a) (h1 : a ≤ 1000000) (h2 : -1000000 ≤ b) (h3 : b ≤ 1000000) (e : (b - a).toNat = n) : rng2B (.vl (.leaf (.int a))) (.vl (.leaf (.int b))) s = .ok ⟨rangeD a n, []⟩ s := by
  subst e
  have q1 : in62 a = true := in62_of (by omega)
  have q2 : in62 b = true := in62_of (by omega)
  simp only [rng2B, snapOps, snapOp, frz_leaf, q1, q2, Bool.true_and]
  rw [if_pos (decide_eq_true (Nat.le_trans (show (b - a).toNat ≤ 2000000 by omega) (by decide)))]
theorem lc_rngL {e : Ex} {w : Wx} {p : Pat} {vs : List Nat} {s1 : Sl} {n : Nat} {lo : Int} (hw : evW Γ w s = .ok ⟨rangeD lo n, []⟩ s1) (st : Nat → Sl) (h0 : wipeS s1 vs = st 0) (t : Nat → T) (hl : n ≤ sizeLine)
    (hs : ∀ k, k < n → ∃ s1 s2, bindP p (.leaf (.int (lo + (k : Nat)))) (st k) = some s1 ∧ evX Γ e s1 = .ok (.vl (t k)) s2 ∧ wipeS s2 vs = st (k + 1)) :
    evX Γ (.lc w p none e vs) s = .ok (.vl (.node ((List.range n).map t))) (restS s1 (st n) vs) := by
  have := lc_run (e := e) (p := p) hw rfl st h0 t (by rw [rangeD_len]; exact hl) (fun _ _ => rfl) fun k hk => by
    rw [rangeD_get]
    exact hs k (by rwa [rangeD_len] at hk)
  rwa [rangeD_len] at this
theorem revS {o : Op} (h : IsS s k xs o) : finS qRvA [o] s = .ok (.vl (seqT (cutK k) xs.reverse)) s := by
  have hsn := h.snap
  have hso := h.soft
  simp only [finS, snapOps, hsn]
  cases k with
  | t =>
    simp only [seqD, qRvA, softs, hso]
    rw [← List.map_reverse]
    rfl
  | n =>
    simp only [seqD, qRvA, softs, hso]
    rw [← List.map_reverse, leafN]
    rfl
  | l =>
    simp only [seqD, qRvA, softs, hso]
    rw [← List.map_reverse, leafN]
    rfl
@[simp] theorem r_revS (h : s[j]? = some (.tr (seqT k xs))) : finS qRvA [opS k xs j] s = .ok (.vl (seqT (cutK k) xs.reverse)) s := revS (.rt h)
@[simp] theorem r_revV : finS qRvA [.vl (seqT k xs)] s = .ok (.vl (seqT (cutK k) xs.reverse)) s := revS .vl
@[simp] theorem r_maxI : finBI Γ .max [.vl (.leaf (.int a)), .vl (.leaf (.int b))] s = .ok (.vl (.leaf (.int (if b > a then b else a)))) s := by
  simp [finBI, snapOps, snapOp, finP, bMax, S0.toD]
@[simp] theorem r_minI : finBI Γ .min [.vl (.leaf (.int a)), .vl (.leaf (.int b))] s = .ok (.vl (.leaf (.int (if b < a then b else a)))) s := by
  simp [finBI, snapOps, snapOp, finP, bMin, S0.toD]
end
end VS
/-! VZm: rows of numbers as lists: products, quotients, powers, substitution, turning back. Plain Lean, no program in sight. -/
namespace VS
open PySem PySem.Spec PyProof.Rows L2
def zipZ (f : Int → Int → Int) (xs ys : List Int) : List Int := (List.range xs.length).map fun m => f (xs.getD m 0) (ys.getD m 0)
@[simp] theorem zipZ_len (f : Int → Int → Int) (xs ys : List Int) : (zipZ f xs ys).length = xs.length := by simp [zipZ]
def quoN (xs ys : List Int) : Nat → List Int
  | 0 => []
  | k + 1 => quoN xs ys k ++ [xs.getD k 0 - sumR k fun i => (quoN xs ys k).getD i 0 * ys.getD (k - i) 0]
def quoZ (xs ys : List Int) : List Int := quoN xs ys xs.length
@[simp] theorem quoN_len (xs ys : List Int) : ∀ k, (quoN xs ys k).length = k
  | 0 => rfl
  | k + 1 => by simp [quoN, quoN_len xs ys k]
@[simp] theorem quoZ_len (xs ys : List Int) : (quoZ xs ys).length = xs.length := quoN_len xs ys _
theorem quoN_bs {xs ys : List Int} {n m : Nat} (h1 : Bs xs n) (h2 : Bs ys m) : ∀ k, k ≤ 15 → Bs (quoN xs ys k) (n + k * (m + 5))
  | 0, _ => by intro x hx; simp [quoN] at hx
  | k + 1, hk => by
    have ih := quoN_bs h1 h2 k (by omega)
    intro x hx
    have e0 : n + (k + 1) * (m + 5) = n + k * (m + 5) + (m + 5) := by rw [Nat.add_mul]; omega
    simp only [quoN, List.mem_append, List.mem_singleton] at hx
    rcases hx with hx | rfl
    · exact Nat.lt_of_lt_of_le (ih x hx) (Nat.pow_le_pow_right (by omega) (by omega))
    · have h3 := h1.at_ k
      have h4 : (sumR k fun i => (quoN xs ys k).getD i 0 * ys.getD (k - i) 0).natAbs ≤ k * (2 ^ (n + k * (m + 5) + m) - 1) := sumR_abs fun i hi => by
        rw [Int.natAbs_mul]
        have := Nat.mul_lt_mul'' (ih.at_ i) (h2.at_ (k - i))
        rw [← Nat.pow_add] at this
        omega
      have h5 : k * (2 ^ (n + k * (m + 5) + m) - 1) ≤ 15 * (2 ^ (n + k * (m + 5) + m) - 1) := Nat.mul_le_mul_right _ (by omega)
      have h6 : 2 ^ n ≤ 2 ^ (n + k * (m + 5) + m) := Nat.pow_le_pow_right (by omega) (by omega)
      have h7 : 2 ^ (n + (k + 1) * (m + 5)) = 32 * 2 ^ (n + k * (m + 5) + m) := by
        rw [e0, show n + k * (m + 5) + (m + 5) = n + k * (m + 5) + m + 5 by omega, Nat.pow_add _ _ 5]
        omega
      have h8 : 0 < 2 ^ (n + k * (m + 5) + m) := Nat.pos_of_ne_zero (by simp)
      have h9 := Int.natAbs_sub_le (xs.getD k 0) (sumR k fun i => (quoN xs ys k).getD i 0 * ys.getD (k - i) 0)
      omega
theorem quoZ_bs {xs ys : List Int} {n m : Nat} (h1 : Bs xs n) (h2 : Bs ys m) (hl : xs.length ≤ 12) : Bs (quoZ xs ys) (n + 12 * (m + 5)) :=
  (quoN_bs h1 h2 _ (by omega)).mono (by have := Nat.mul_le_mul_right (m + 5) hl; omega)
def unitZ (n : Nat) : List Int := 1 :: List.replicate (n - 1) 0
theorem unitZ_len {n : Nat} (h : 1 ≤ n) : (unitZ n).length = n := by simp [unitZ]; omega
theorem unitZ_bs (n : Nat) : Bs (unitZ n) 1 := by
  intro x hx
  simp only [unitZ, List.mem_cons, List.mem_replicate] at hx
  rcases hx with rfl | ⟨_, rfl⟩ <;> decide
theorem unit_cat {n : Nat} : [1] ++ List.replicate (((n : Int) - 1).toNat) (0 : Int) = unitZ n := by
  have : ((n : Int) - 1).toNat = n - 1 := by omega
  rw [this]; rfl
def powN (xs : List Int) : Nat → List Int
  | 0 => unitZ xs.length
  | k + 1 => prodZ (powN xs k) xs
theorem powN_len {xs : List Int} (h : 1 ≤ xs.length) : ∀ k, (powN xs k).length = xs.length
  | 0 => unitZ_len h
  | k + 1 => (prodZ_len _ _).trans (powN_len h k)
theorem powN_bs {xs : List Int} {n : Nat} (h : 1 ≤ xs.length) (hl : xs.length ≤ 12) (hb : Bs xs n) : ∀ k, Bs (powN xs k) (1 + k * (n + 4))
  | 0 => (unitZ_bs _).mono (by omega)
  | k + 1 => (prodZ_bs (powN_bs h hl hb k) hb (by rw [powN_len h]; omega)).mono (by rw [Nat.add_mul]; omega)
def powZ (xs : List Int) (m : Int) : List Int := if m < 0 then quoZ (unitZ xs.length) (powN xs m.natAbs) else powN xs m.natAbs
theorem quoZ_len' {xs ys : List Int} : (quoZ xs ys).length = xs.length := by simp
theorem powZ_len {xs : List Int} (h : 1 ≤ xs.length) (m : Int) : (powZ xs m).length = xs.length := by
  unfold powZ
  split
  · rw [quoZ_len, unitZ_len h]
  · exact powN_len h _
theorem absZ (m : Int) : (if m < 0 then -m else m) = (m.natAbs : Int) := by split <;> omega
theorem map_true {n : Nat} : ((List.range n).map fun _ => T.leaf (.bl true)) = List.replicate n (.leaf (.bl true)) := by
  induction n with
  | zero => rfl
  | succ n ih => rw [List.range_succ, List.map_append, ih, List.map_cons, List.map_nil, List.replicate_succ']
theorem set_range {n i : Nat} {v : Int} {f : Nat → Int} : ((List.range n).map f).set i v = (List.range n).map fun m => if m = i then v else f m := by
  apply List.ext_getElem (by simp)
  intro m h1 h2
  simp only [List.getElem_set, List.getElem_map, List.getElem_range]
  by_cases h : i = m
  · rw [if_pos h, if_pos h.symm]
  · rw [if_neg h, if_neg fun e => h e.symm]
def accP (xs ys : List Int) (k j : Nat) : List Int := (List.range xs.length).map fun m => sumR (min k (m + 1)) (fun i => xs.getD i 0 * ys.getD (m - i) 0) + (if k ≤ m ∧ m < k + j then xs.getD k 0 * ys.getD (m - k) 0 else 0)
@[simp] theorem accP_len (xs ys : List Int) (k j : Nat) : (accP xs ys k j).length = xs.length := by simp [accP]
theorem accP_zero (xs ys : List Int) : accP xs ys 0 0 = List.replicate xs.length 0 := by
  apply List.ext_getElem (by simp)
  intro m h1 h2
  simp [accP, sumR_zero]
theorem accP_step {xs ys : List Int} {k j : Nat} (h : k + j < xs.length) : (accP xs ys k j).set (k + j) ((accP xs ys k j).getD (k + j) 0 + xs.getD k 0 * ys.getD j 0) = accP xs ys k (j + 1) := by
  unfold accP
  rw [getD_range h, set_range]
  refine List.map_congr_left fun m hm => ?_
  by_cases h1 : m = k + j
  · subst h1
    rw [if_pos rfl, if_neg (by omega), if_pos (by omega), show k + j - k = j by omega]
    omega
  · rw [if_neg h1]
    by_cases h2 : k ≤ m ∧ m < k + j
    · rw [if_pos h2, if_pos (by omega)]
    · rw [if_neg h2, if_neg (by omega)]
theorem accP_next {xs ys : List Int} {k : Nat} (h : k < xs.length) : accP xs ys k (xs.length - k) = accP xs ys (k + 1) 0 := by
  unfold accP
  refine List.map_congr_left fun m hm => ?_
  have hm := List.mem_range.mp hm
  by_cases h1 : k ≤ m
  · rw [if_pos (by omega), if_neg (by omega), show min k (m + 1) = k by omega, show min (k + 1) (m + 1) = k + 1 by omega, sumR_succ]
    omega
  · rw [if_neg (by omega), if_neg (by omega), show min k (m + 1) = m + 1 by omega, show min (k + 1) (m + 1) = m + 1 by omega]
theorem accP_last (xs ys : List Int) : accP xs ys xs.length 0 = prodZ xs ys := by
  unfold accP prodZ
  refine List.map_congr_left fun m hm => ?_
  have hm := List.mem_range.mp hm
  rw [if_neg (by omega), show min xs.length (m + 1) = m + 1 by omega]
  omega
theorem zipZ_bs {f : Int → Int → Int} {xs ys : List Int} {n : Nat} (h : ∀ a b : Int, a.natAbs < 2 ^ n → b.natAbs < 2 ^ n → (f a b).natAbs < 2 ^ (n + 1)) (h1 : Bs xs n) (h2 : Bs ys n) : Bs (zipZ f xs ys) (n + 1) := bs_of fun k hk => by
  unfold zipZ
  rw [getD_range (by simpa using hk)]
  exact h _ _ (h1.at_ k) (h2.at_ k)
/-! ### sums and products of rows -/
theorem sumR_front {n : Nat} {f : Nat → Int} : sumR (n + 1) f = f 0 + sumR n fun i => f (i + 1) := by
  simp only [sumR, List.range_succ_eq_map, List.map_cons, List.map_map, List.sum_cons]
  rfl
theorem sumR_congr {n : Nat} {f g : Nat → Int} (h : ∀ i, i < n → f i = g i) : sumR n f = sumR n g := by
  unfold sumR
  rw [List.map_congr_left fun i hi => h i (List.mem_range.mp hi)]
theorem sumR_add {n : Nat} {f g : Nat → Int} : (sumR n fun i => f i + g i) = sumR n f + sumR n g := by
  induction n with
  | zero => rfl
  | succ n ih => simp only [sumR_succ, ih]; omega
theorem sumR_mul {n : Nat} {a : Int} {f : Nat → Int} : (sumR n fun i => a * f i) = a * sumR n f := by
  induction n with
  | zero => simp [sumR_zero]
  | succ n ih => simp only [sumR_succ, ih, Int.mul_add]
theorem sumR_0 {n : Nat} {f : Nat → Int} (h : ∀ i, i < n → f i = 0) : sumR n f = 0 := by
  induction n with
  | zero => rfl
  | succ n ih => rw [sumR_succ, ih fun i hi => h i (by omega), h n (by omega)]; rfl
def cnv (f g : Nat → Int) (k : Nat) : Int := sumR (k + 1) fun i => f i * g (k - i)
theorem cnv_zero (f g : Nat → Int) : cnv f g 0 = f 0 * g 0 := by simp [cnv, sumR_succ, sumR_zero]
theorem cnv_succ (f g : Nat → Int) (k : Nat) : cnv f g (k + 1) = f 0 * g (k + 1) + cnv (fun i => f (i + 1)) g k := by
  unfold cnv
  rw [sumR_front]
  congr 1
  exact sumR_congr fun i hi => by rw [show k + 1 - (i + 1) = k - i by omega]
theorem cnv_last (f g : Nat → Int) (k : Nat) : cnv f g (k + 1) = cnv f (fun i => g (i + 1)) k + f (k + 1) * g 0 := by
  unfold cnv
  rw [sumR_succ (n := k + 1), show k + 1 - (k + 1) = 0 by omega]
  congr 1
  exact sumR_congr fun i hi => by rw [show k + 1 - i = k - i + 1 by omega]
theorem cnv_comm (f g : Nat → Int) (k : Nat) : cnv f g k = cnv g f k := by
  induction k generalizing f with
  | zero => rw [cnv_zero, cnv_zero, Int.mul_comm]
  | succ k ih => rw [cnv_succ, cnv_last, ih, Int.mul_comm (g (k + 1)), Int.add_comm]
theorem cnv_add (f f' g : Nat → Int) (k : Nat) : cnv (fun i => f i + f' i) g k = cnv f g k + cnv f' g k := by
  unfold cnv
  rw [← sumR_add]
  exact sumR_congr fun i _ => Int.add_mul ..
theorem cnv_smul (a : Int) (f g : Nat → Int) (k : Nat) : cnv (fun i => a * f i) g k = a * cnv f g k := by
  unfold cnv
  rw [← sumR_mul]
  exact sumR_congr fun i _ => Int.mul_assoc ..
theorem cnv_congr {f f' g g' : Nat → Int} {k : Nat} (h : ∀ i, i ≤ k → f i = f' i) (h' : ∀ i, i ≤ k → g i = g' i) : cnv f g k = cnv f' g' k := by
  unfold cnv
  exact sumR_congr fun i hi => by rw [h i (by omega), h' (k - i) (by omega)]
theorem cnv_assoc (f g h : Nat → Int) (k : Nat) : cnv (cnv f g) h k = cnv f (cnv g h) k := by
  induction k generalizing f with
  | zero => simp only [cnv_zero, Int.mul_assoc]
  | succ k ih =>
    have e1 : cnv (fun i => cnv f g (i + 1)) h k = cnv (fun i => f 0 * g (i + 1) + cnv (fun i => f (i + 1)) g i) h k := cnv_congr (fun i _ => cnv_succ f g i) fun _ _ => rfl
    rw [cnv_succ (cnv f g), e1, cnv_add, cnv_smul, ih, cnv_succ f, cnv_succ g, cnv_zero, Int.mul_add, Int.mul_assoc]
    omega
def one' (k : Nat) : Int := if k = 0 then 1 else 0
theorem cnv_one (f : Nat → Int) (k : Nat) : cnv one' f k = f k := by
  cases k with
  | zero => rw [cnv_zero]; simp [one']
  | succ k =>
    rw [cnv_succ, show cnv (fun i => one' (i + 1)) f k = 0 from sumR_0 fun i _ => by simp [one']]
    simp [one']
theorem unitZ_at (n k : Nat) : (unitZ n).getD k 0 = one' k := by
  cases k with
  | zero => rfl
  | succ k =>
    show (List.replicate (n - 1) 0).getD k 0 = 0
    rw [List.getD_eq_getElem?_getD, List.getElem?_replicate]
    split <;> rfl
theorem prodZ_at {xs ys : List Int} {k : Nat} (h : k < xs.length) : (prodZ xs ys).getD k 0 = cnv (fun i => xs.getD i 0) (fun i => ys.getD i 0) k := getD_range h
theorem prodZ_eq (xs ys : List Int) : prodZ xs ys = (List.range xs.length).map (cnv (fun i => xs.getD i 0) fun i => ys.getD i 0) := rfl
theorem ext_getD {xs ys : List Int} (h : xs.length = ys.length) (h2 : ∀ k, k < xs.length → xs.getD k 0 = ys.getD k 0) : xs = ys := by
  rw [← VS.range_getD xs, ← VS.range_getD ys, ← h]
  exact List.map_congr_left fun k hk => h2 k (List.mem_range.mp hk)
theorem prodZ_assoc {xs ys zs : List Int} (h : xs.length ≤ ys.length) : prodZ (prodZ xs ys) zs = prodZ xs (prodZ ys zs) := by
  refine ext_getD (by simp [prodZ_len]) fun k hk => ?_
  rw [prodZ_len, prodZ_len] at hk
  rw [prodZ_at (by rw [prodZ_len]; exact hk), prodZ_at hk, cnv_congr (f' := cnv (fun i => xs.getD i 0) fun i => ys.getD i 0) (g' := fun i => zs.getD i 0) (fun i hi => prodZ_at (by omega)) fun _ _ => rfl, cnv_assoc]
  exact cnv_congr (fun _ _ => rfl) fun i hi => (prodZ_at (by omega)).symm
theorem prodZ_one {xs : List Int} {n : Nat} (h : (unitZ n).length = xs.length) : prodZ (unitZ n) xs = xs := by
  refine ext_getD (by rw [prodZ_len, h]) fun k hk => ?_
  rw [prodZ_len] at hk
  rw [prodZ_at hk, cnv_congr (f' := one') (g' := fun i => xs.getD i 0) (fun i _ => unitZ_at n i) fun _ _ => rfl, cnv_one]
theorem prodZ_comm {xs ys : List Int} (h : xs.length = ys.length) : prodZ xs ys = prodZ ys xs := by
  refine ext_getD (by rw [prodZ_len, prodZ_len, h]) fun k hk => ?_
  rw [prodZ_len] at hk
  rw [prodZ_at hk, prodZ_at (by omega), cnv_comm]
theorem powN_add {xs : List Int} (h : 1 ≤ xs.length) (a b : Nat) : prodZ (powN xs a) (powN xs b) = powN xs (a + b) := by
  induction b with
  | zero =>
    show prodZ (powN xs a) (unitZ xs.length) = _
    rw [prodZ_comm (by rw [powN_len h, unitZ_len h]), prodZ_one (by rw [powN_len h, unitZ_len h])]
    rfl
  | succ b ih =>
    show prodZ (powN xs a) (prodZ (powN xs b) xs) = prodZ (powN xs (a + b)) xs
    rw [← prodZ_assoc (by rw [powN_len h, powN_len h]; omega), ih]
theorem powN_two {xs : List Int} (h : 1 ≤ xs.length) : powN xs 2 = prodZ xs xs := by
  show prodZ (prodZ (unitZ xs.length) xs) xs = _
  rw [prodZ_one (unitZ_len h)]
theorem quoN_at {xs ys : List Int} {k : Nat} : ∀ {n : Nat}, k < n → (quoN xs ys n).getD k 0 = xs.getD k 0 - sumR k fun i => (quoN xs ys k).getD i 0 * ys.getD (k - i) 0
  | 0, h => absurd h (by omega)
  | n + 1, h => by
    show (quoN xs ys n ++ [_]).getD k 0 = _
    by_cases hk : k < n
    · rw [List.getD_eq_getElem?_getD, List.getElem?_append_left (by rw [quoN_len]; exact hk), ← List.getD_eq_getElem?_getD]
      exact quoN_at hk
    · have : k = n := by omega
      subst this
      rw [List.getD_eq_getElem?_getD, List.getElem?_append_right (by rw [quoN_len]; omega), quoN_len, Nat.sub_self]
      rfl
theorem quoN_pre {xs ys : List Int} {k n m : Nat} (h : k < n) (h' : k < m) : (quoN xs ys n).getD k 0 = (quoN xs ys m).getD k 0 := by rw [quoN_at h, quoN_at h']
/-- over, then times -/
theorem quo_prod {xs ys : List Int} (hu : ys.getD 0 0 = 1) : prodZ (quoZ xs ys) ys = xs := by
  refine ext_getD (by rw [prodZ_len, quoZ_len]) fun k hk => ?_
  rw [prodZ_len, quoZ_len] at hk
  rw [prodZ_at (by rw [quoZ_len]; exact hk)]
  unfold cnv quoZ
  rw [sumR_succ]
  show (sumR k fun i => (quoN xs ys xs.length).getD i 0 * ys.getD (k - i) 0) + (quoN xs ys xs.length).getD k 0 * ys.getD (k - k) 0 = _
  rw [quoN_at hk, Nat.sub_self, hu, sumR_congr (g := fun i => (quoN xs ys k).getD i 0 * ys.getD (k - i) 0) fun i hi => by rw [quoN_pre (m := k) (by omega) hi]]
  omega
theorem powZ_two {xs : List Int} (h : 1 ≤ xs.length) : powZ xs 12 = powZ (powZ xs 6) 2 := by
  show powN xs 12 = powN (powN xs 6) 2
  rw [powN_two (by rw [powN_len h]; exact h), powN_add h]
theorem set_bs {xs : List Int} {i : Nat} {v : Int} {n : Nat} (h : Bs xs n) (hv : v.natAbs < 2 ^ n) : Bs (xs.set i v) n := fun x hx => by
  rcases List.mem_or_eq_of_mem_set hx with h1 | rfl
  · exact h x h1
  · exact hv
theorem drop1_bs {xs : List Int} {n : Nat} (hn : 0 < n) (h : Bs xs n) : Bs ([1] ++ xs.drop 1) n := fun x hx => by
  rcases List.mem_append.mp hx with h1 | h1
  · rw [List.mem_singleton.mp h1]
    exact Nat.one_lt_two_pow (by omega)
  · exact h x (List.mem_of_mem_drop h1)
/-! ### series: substitution -/
theorem cnv_addR (f g g' : Nat → Int) (k : Nat) : cnv f (fun i => g i + g' i) k = cnv f g k + cnv f g' k := by
  rw [cnv_comm, cnv_add, cnv_comm g, cnv_comm g']
theorem cnv_smulR (a : Int) (f g : Nat → Int) (k : Nat) : cnv f (fun i => a * g i) k = a * cnv f g k := by
  rw [cnv_comm, cnv_smul, cnv_comm g]
theorem cnv_oneR (f : Nat → Int) (k : Nat) : cnv f one' k = f k := by rw [cnv_comm, cnv_one]
/-- what is behind a series without constant matters below alone -/
theorem cnv_low {g g' u u' : Nat → Int} {k : Nat} (h0 : g 0 = 0) (h0' : g' 0 = 0) (hg : ∀ i, i ≤ k → g i = g' i) (h : ∀ i, i < k → u i = u' i) : cnv g u k = cnv g' u' k := by
  cases k with
  | zero => rw [cnv_zero, cnv_zero, h0, h0', Int.zero_mul, Int.zero_mul]
  | succ k =>
    rw [cnv_succ, cnv_succ, h0, h0', Int.zero_mul, Int.zero_mul]
    congr 1
    exact cnv_congr (fun i hi => hg (i + 1) (by omega)) fun i hi => h i (by omega)
def sh (f : Nat → Int) : Nat → Int := fun i => f (i + 1)
def cpF : Nat → (Nat → Int) → (Nat → Int) → Nat → Int
  | 0, _, _ => fun _ => 0
  | n + 1, f, g => fun k => f 0 * one' k + cnv g (cpF n (sh f) g) k
def cp (f g : Nat → Int) (k : Nat) : Int := cpF (k + 1) f g k
theorem cpF_stable {g : Nat → Int} (h0 : g 0 = 0) : ∀ (k n m : Nat) (f : Nat → Int), k < n → k < m → cpF n f g k = cpF m f g k := by
  intro k
  induction k using Nat.strongRecOn with
  | _ k ih =>
    intro n m f hn hm
    obtain ⟨n, rfl⟩ : ∃ n', n = n' + 1 := ⟨n - 1, by omega⟩
    obtain ⟨m, rfl⟩ : ∃ m', m = m' + 1 := ⟨m - 1, by omega⟩
    show f 0 * one' k + cnv g (cpF n (sh f) g) k = f 0 * one' k + cnv g (cpF m (sh f) g) k
    congr 1
    exact cnv_low h0 h0 (fun _ _ => rfl) fun i hi => ih i hi n m (sh f) (by omega) (by omega)
theorem cpF_cp {f g : Nat → Int} (h0 : g 0 = 0) {n k : Nat} (h : k < n) : cpF n f g k = cp f g k := cpF_stable h0 k n (k + 1) f h (by omega)
theorem cp_eq {f g : Nat → Int} (h0 : g 0 = 0) (k : Nat) : cp f g k = f 0 * one' k + cnv g (cp (sh f) g) k := by
  show f 0 * one' k + cnv g (cpF k (sh f) g) k = _
  congr 1
  exact cnv_low h0 h0 (fun _ _ => rfl) fun i hi => cpF_cp h0 hi
theorem cp_zero {f g : Nat → Int} (h0 : g 0 = 0) : cp f g 0 = f 0 := by
  rw [cp_eq h0, cnv_zero, h0]
  simp [one']
theorem cp_congr {g g' : Nat → Int} (h0 : g 0 = 0) (h0' : g' 0 = 0) : ∀ (k : Nat) {f f' : Nat → Int}, (∀ i, i ≤ k → f i = f' i) → (∀ i, i ≤ k → g i = g' i) → cp f g k = cp f' g' k := by
  intro k
  induction k using Nat.strongRecOn with
  | _ k ih =>
    intro f f' hf hg
    rw [cp_eq h0, cp_eq h0', hf 0 (by omega)]
    congr 1
    exact cnv_low h0 h0' hg fun i hi => ih i hi (fun j hj => hf (j + 1) (by omega)) fun j hj => hg j (by omega)
theorem cp_add {g : Nat → Int} (h0 : g 0 = 0) : ∀ (k : Nat) (f f' : Nat → Int), cp (fun i => f i + f' i) g k = cp f g k + cp f' g k := by
  intro k
  induction k using Nat.strongRecOn with
  | _ k ih =>
    intro f f'
    rw [cp_eq h0, cp_eq h0 (f := f), cp_eq h0 (f := f')]
    have e : cnv g (cp (sh fun i => f i + f' i) g) k = cnv g (fun i => cp (sh f) g i + cp (sh f') g i) k := cnv_low h0 h0 (fun _ _ => rfl) fun i hi => ih i hi (sh f) (sh f')
    rw [e, cnv_addR, Int.add_mul]
    omega
theorem cp_smul {g : Nat → Int} (h0 : g 0 = 0) : ∀ (k : Nat) (a : Int) (f : Nat → Int), cp (fun i => a * f i) g k = a * cp f g k := by
  intro k
  induction k using Nat.strongRecOn with
  | _ k ih =>
    intro a f
    rw [cp_eq h0, cp_eq h0 (f := f)]
    have e : cnv g (cp (sh fun i => a * f i) g) k = cnv g (fun i => a * cp (sh f) g i) k := cnv_low h0 h0 (fun _ _ => rfl) fun i hi => ih i hi a (sh f)
    rw [e, cnv_smulR, Int.mul_add, Int.mul_assoc]
theorem cp_const {g : Nat → Int} (h0 : g 0 = 0) (k : Nat) : cp one' g k = one' k := by
  rw [cp_eq h0]
  have e : cnv g (cp (sh one') g) k = 0 := by
    rw [cnv_low (u' := fun i => 0 * cp one' g i) h0 h0 (fun _ _ => rfl) fun i _ => by
      rw [show sh one' = fun i => 0 * one' i from by funext j; simp [sh, one']]
      exact cp_smul h0 i 0 one', cnv_smulR, Int.zero_mul]
  rw [e]
  simp [one']
/-- put in, products stay products -/
theorem cp_mul {g : Nat → Int} (h0 : g 0 = 0) : ∀ (k : Nat) (f h : Nat → Int), cp (cnv f h) g k = cnv (cp f g) (cp h g) k := by
  intro k
  induction k using Nat.strongRecOn with
  | _ k ih =>
    intro f h
    have e1 : cnv g (cp (sh (cnv f h)) g) k = cnv g (fun i => f 0 * cp (sh h) g i + cnv (cp (sh f) g) (cp h g) i) k := cnv_low h0 h0 (fun _ _ => rfl) fun i hi => by
      rw [show sh (cnv f h) = fun j => f 0 * sh h j + cnv (sh f) h j from by funext j; exact cnv_succ f h j, cp_add h0, cp_smul h0, ih i hi]
    have e2 : cnv (cp f g) (cp h g) k = cnv (fun i => f 0 * one' i + cnv g (cp (sh f) g) i) (cp h g) k := cnv_congr (fun i _ => cp_eq h0 i) fun _ _ => rfl
    rw [cp_eq h0, e1, cnv_addR, cnv_smulR, e2, cnv_add, cnv_smul, cnv_one, cnv_assoc, cp_eq h0 (f := h), cnv_zero, Int.mul_add, Int.mul_assoc]
    omega
def X' (k : Nat) : Int := if k = 1 then 1 else 0
theorem cp_X {g : Nat → Int} (h0 : g 0 = 0) (k : Nat) : cp X' g k = g k := by
  rw [cp_eq h0, show sh X' = one' from by funext j; simp [sh, X', one']]
  have e : cnv g (cp one' g) k = cnv g one' k := cnv_congr (fun _ _ => rfl) fun i _ => cp_const h0 i
  rw [e, cnv_oneR]
  simp [X']
theorem cnv_X (u : Nat → Int) (k : Nat) : cnv X' u (k + 1) = u k := by
  rw [cnv_succ, show (fun i => X' (i + 1)) = one' from by funext j; simp [X', one'], cnv_one]
  simp [X']
theorem cp_id : ∀ (k : Nat) (f : Nat → Int), cp f X' k = f k := by
  intro k
  induction k with
  | zero => intro f; exact cp_zero rfl
  | succ k ih =>
    intro f
    rw [cp_eq (show X' 0 = 0 from rfl), cnv_X, ih]
    simp [one', sh]
theorem cp_assoc {g h : Nat → Int} (h0 : g 0 = 0) (h1 : h 0 = 0) : ∀ (k : Nat) (f : Nat → Int), cp (cp f g) h k = cp f (cp g h) k := by
  have h2 : cp g h 0 = 0 := by rw [cp_zero h1, h0]
  intro k
  induction k using Nat.strongRecOn with
  | _ k ih =>
    intro f
    have e1 : cp (cp f g) h k = cp (fun i => f 0 * one' i + cnv g (cp (sh f) g) i) h k := cp_congr h1 h1 k (fun i _ => cp_eq h0 i) fun _ _ => rfl
    rw [e1, cp_add h1, cp_smul h1, cp_const h1, cp_mul h1, cp_eq h2]
    congr 1
    exact cnv_low h2 h2 (fun _ _ => rfl) fun i hi => ih i hi (sh f)
/-! ### series turned back -/
def rvN (f : Nat → Int) : Nat → List Int
  | 0 => []
  | k + 1 => rvN f k ++ [X' k - cp f (fun i => (rvN f k).getD i 0) k]
def rv (f : Nat → Int) (k : Nat) : Int := (rvN f (k + 1)).getD k 0
@[simp] theorem rvN_len (f : Nat → Int) : ∀ k, (rvN f k).length = k
  | 0 => rfl
  | k + 1 => by simp [rvN, rvN_len f k]
theorem rvN_low {f : Nat → Int} {k n : Nat} (h : k < n) : (rvN f n).getD k 0 = rv f k := by
  induction n with
  | zero => omega
  | succ n ih =>
    by_cases hk : k < n
    · show (rvN f n ++ [_]).getD k 0 = _
      rw [List.getD_eq_getElem?_getD, List.getElem?_append_left (by rw [rvN_len]; exact hk), ← List.getD_eq_getElem?_getD]
      exact ih hk
    · have : k = n := by omega
      subst this
      rfl
theorem rvN_high {f : Nat → Int} {k n : Nat} (h : n ≤ k) : (rvN f n).getD k 0 = 0 := by
  rw [List.getD_eq_getElem?_getD, List.getElem?_eq_none (by rw [rvN_len]; exact h)]
  rfl
theorem rv_eq (f : Nat → Int) (k : Nat) : rv f k = X' k - cp f (fun i => (rvN f k).getD i 0) k := by
  show (rvN f k ++ [_]).getD k 0 = _
  rw [List.getD_eq_getElem?_getD, List.getElem?_append_right (by rw [rvN_len]; omega), rvN_len, Nat.sub_self]
  rfl
theorem rv_zero {f : Nat → Int} (h : f 0 = 0) : rv f 0 = 0 := by
  rw [rv_eq, cp_zero (g := fun i => (rvN f 0).getD i 0) rfl, h]
  rfl
theorem rvN_zero {f : Nat → Int} (h : f 0 = 0) (k : Nat) : (rvN f k).getD 0 0 = 0 := by
  by_cases hk : 0 < k
  · rw [rvN_low hk, rv_zero h]
  · rw [rvN_high (by omega)]
/-- the last coefficient comes in once -/
theorem cp_last {f g g' : Nat → Int} {k : Nat} (h0 : g 0 = 0) (h0' : g' 0 = 0) (hk : 1 ≤ k) (h : ∀ i, i < k → g i = g' i) : cp f g k = cp f g' k + f 1 * (g k - g' k) := by
  obtain ⟨k, rfl⟩ : ∃ n, k = n + 1 := ⟨k - 1, by omega⟩
  rw [cp_eq h0, cp_eq h0', cnv_last, cnv_last, cp_zero h0, cp_zero h0']
  have e : cnv g (fun i => cp (sh f) g (i + 1)) k = cnv g' (fun i => cp (sh f) g' (i + 1)) k := cnv_low h0 h0' (fun i hi => h i (by omega)) fun i hi => cp_congr h0 h0' (i + 1) (fun _ _ => rfl) fun j hj => h j (by omega)
  rw [e, show sh f 0 = f 1 from rfl, Int.mul_sub, Int.mul_comm (g (k + 1)), Int.mul_comm (g' (k + 1))]
  omega
theorem cp_rv {f : Nat → Int} (h0 : f 0 = 0) (h1 : f 1 = 1) (k : Nat) : cp f (rv f) k = X' k := by
  by_cases hk : 1 ≤ k
  · rw [cp_last (g' := fun i => (rvN f k).getD i 0) (rv_zero h0) (rvN_zero h0 k) hk fun i hi => (rvN_low hi).symm, h1, rv_eq, rvN_high (Nat.le_refl k)]
    omega
  · have : k = 0 := by omega
    subst this
    rw [cp_zero (rv_zero h0), h0]
    rfl
theorem rv_one {f : Nat → Int} (h0 : f 0 = 0) : rv f 1 = 1 := by
  rw [rv_eq, cp_eq (rvN_zero h0 1), cnv_succ, cnv_zero, cp_zero (rvN_zero h0 1)]
  rw [show (rvN f 1).getD 0 0 = 0 from rvN_zero h0 1, rvN_high (Nat.le_refl 1)]
  simp [X', one']
theorem rv_rv {f : Nat → Int} (h0 : f 0 = 0) (h1 : f 1 = 1) (k : Nat) : rv (rv f) k = f k := by
  have z1 := rv_zero h0
  have z2 := rv_zero z1
  have e1 : cp (cp f (rv f)) (rv (rv f)) k = rv (rv f) k := by
    rw [cp_congr (f' := X') z2 z2 k (fun i _ => cp_rv h0 h1 i) fun _ _ => rfl, cp_X z2]
  rw [← e1, cp_assoc z1 z2, cp_congr (g' := X') (f' := f) (by rw [cp_zero z2, z1]) rfl k (fun _ _ => rfl) fun i _ => cp_rv z1 (rv_one h0) i, cp_id]
theorem rv_cp {f : Nat → Int} (h0 : f 0 = 0) (h1 : f 1 = 1) (k : Nat) : cp (rv f) f k = X' k := by
  have z1 := rv_zero h0
  rw [← cp_rv z1 (rv_one h0) k]
  exact cp_congr h0 (rv_zero z1) k (fun _ _ => rfl) fun i _ => (rv_rv h0 h1 i).symm
/-! ### put in: lists -/
def fn (xs : List Int) (i : Nat) : Int := xs.getD i 0
def pw (g : Nat → Int) : Nat → Nat → Int
  | 0 => one'
  | j + 1 => cnv (pw g j) g
theorem cnv_zeroR (f : Nat → Int) (k : Nat) : cnv f (fun _ => 0) k = 0 := sumR_0 fun i _ => Int.mul_zero _
/-- powers in a row are the same sum -/
theorem cpF_pw (g : Nat → Int) : ∀ (n k : Nat) (f : Nat → Int), cpF (n + 1) f g k = cpF n f g k + f n * pw g n k
  | 0, k, f => by
    show f 0 * one' k + cnv g (fun _ => 0) k = 0 + f 0 * one' k
    rw [cnv_zeroR]
    omega
  | n + 1, k, f => by
    show f 0 * one' k + cnv g (cpF (n + 1) (sh f) g) k = (f 0 * one' k + cnv g (cpF n (sh f) g) k) + f (n + 1) * cnv (pw g n) g k
    rw [show cpF (n + 1) (sh f) g = fun i => cpF n (sh f) g i + sh f n * pw g n i from by funext i; exact cpF_pw g n i (sh f), cnv_addR, cnv_smulR, cnv_comm g (pw g n)]
    show _ + (_ + f (n + 1) * _) = _
    omega
def hrn (xs ys : List Int) (m : Nat) : List Int := (List.range xs.length).map (cpF m (fun i => fn xs (xs.length - m + i)) (fn ys))
@[simp] theorem hrn_len (xs ys : List Int) (m : Nat) : (hrn xs ys m).length = xs.length := by simp [hrn]
theorem hrn_at {xs ys : List Int} {m k : Nat} (h : k < xs.length) : (hrn xs ys m).getD k 0 = cpF m (fun i => fn xs (xs.length - m + i)) (fn ys) k := getD_range h
theorem hrn_zero (xs ys : List Int) : hrn xs ys 0 = List.replicate xs.length 0 := by
  apply List.ext_getElem (by simp)
  intro m h1 h2
  simp [hrn, cpF]
theorem hrn_step {xs ys : List Int} {m : Nat} (h : m < xs.length) : (prodZ (hrn xs ys m) ys).set 0 ((prodZ (hrn xs ys m) ys).getD 0 0 + xs.reverse.getD m 0) = hrn xs ys (m + 1) := by
  have hx : xs.reverse.getD m 0 = fn xs (xs.length - (m + 1)) := by
    unfold fn
    rw [List.getD_eq_getElem?_getD, List.getElem?_reverse h, ← List.getD_eq_getElem?_getD]
    congr 1
    omega
  have hp : ∀ k, k < xs.length → (prodZ (hrn xs ys m) ys).getD k 0 = cnv (fn ys) (cpF m (fun i => fn xs (xs.length - m + i)) (fn ys)) k := fun k hk => by
    rw [prodZ_at (by rw [hrn_len]; exact hk), cnv_comm]
    exact cnv_congr (fun _ _ => rfl) fun i hi => hrn_at (by omega)
  have hs : (sh fun i => fn xs (xs.length - (m + 1) + i)) = fun i => fn xs (xs.length - m + i) := by
    funext i
    show fn xs (xs.length - (m + 1) + (i + 1)) = _
    congr 1
    omega
  refine ext_getD (by simp [prodZ_len]) fun k hk => ?_
  rw [List.length_set, prodZ_len, hrn_len] at hk
  rw [hrn_at hk]
  show _ = fn xs (xs.length - (m + 1) + 0) * one' k + cnv (fn ys) (cpF m (sh fun i => fn xs (xs.length - (m + 1) + i)) (fn ys)) k
  rw [hs, hx, show fn xs (xs.length - (m + 1) + 0) = fn xs (xs.length - (m + 1)) from rfl]
  cases k with
  | zero =>
    rw [List.getD_eq_getElem?_getD, List.getElem?_set_self (by rw [prodZ_len, hrn_len]; omega), Option.getD_some, hp 0 hk]
    simp only [one', if_true, Int.mul_one]
    omega
  | succ k =>
    rw [List.getD_eq_getElem?_getD, List.getElem?_set_ne (by omega), ← List.getD_eq_getElem?_getD, hp _ hk]
    simp [one']
def putZ (xs ys : List Int) : List Int := (List.range xs.length).map (cpF xs.length (fn xs) (fn ys))
@[simp] theorem putZ_len (xs ys : List Int) : (putZ xs ys).length = xs.length := by simp [putZ]
theorem hrn_last (xs ys : List Int) : hrn xs ys xs.length = putZ xs ys := by
  unfold hrn putZ
  rw [show (fun i => fn xs (xs.length - xs.length + i)) = fn xs from by funext i; rw [Nat.sub_self, Nat.zero_add]]
theorem putZ_at {xs ys : List Int} {k : Nat} (h0 : ys.getD 0 0 = 0) (h : k < xs.length) : (putZ xs ys).getD k 0 = cp (fn xs) (fn ys) k := (getD_range h).trans (cpF_cp h0 h)
theorem hrn_bs {xs ys : List Int} {a b : Nat} (ha : Bs xs a) (hb : Bs ys b) (hl : xs.length ≤ 12) : ∀ m, m ≤ xs.length → Bs (hrn xs ys m) (a + m * (b + 5))
  | 0, _ => by rw [hrn_zero]; intro x hx; rw [(List.mem_replicate.mp hx).2]; exact Nat.pos_of_ne_zero (by simp)
  | m + 1, h => by
    rw [← hrn_step (show m < xs.length by omega)]
    have h1 := prodZ_bs (hrn_bs ha hb hl m (by omega)) hb (by rw [hrn_len]; omega)
    have h2 : (xs.reverse.getD m 0).natAbs < 2 ^ (a + m * (b + 5) + b + 4) := Nat.lt_of_lt_of_le (Bs.at_ (fun x hx => ha x (List.mem_reverse.mp hx)) m) (Nat.pow_le_pow_right (by omega) (by omega))
    have h3 := h1.at_ 0
    intro x hx
    have e : 2 ^ (a + (m + 1) * (b + 5)) = 2 * 2 ^ (a + m * (b + 5) + b + 4) := by
      rw [show a + (m + 1) * (b + 5) = a + m * (b + 5) + b + 4 + 1 by rw [Nat.add_mul]; omega, Nat.pow_succ]
      omega
    rcases List.mem_or_eq_of_mem_set hx with h4 | rfl
    · have := h1 x h4
      omega
    · have := Int.natAbs_add_le ((prodZ (hrn xs ys m) ys).getD 0 0) (xs.reverse.getD m 0)
      omega
/-! the law's own way: powers in a row -/
def pwl (n : Nat) (ys : List Int) : Nat → List Int
  | 0 => unitZ n
  | j + 1 => prodZ (pwl n ys j) ys
theorem pwl_len {n : Nat} {ys : List Int} (h : 1 ≤ n) : ∀ j, (pwl n ys j).length = n
  | 0 => unitZ_len h
  | j + 1 => (prodZ_len _ _).trans (pwl_len h j)
theorem pwl_at {n : Nat} {ys : List Int} (h : 1 ≤ n) : ∀ (j k : Nat), k < n → (pwl n ys j).getD k 0 = pw (fn ys) j k
  | 0, k, _ => unitZ_at n k
  | j + 1, k, hk => by
    show (prodZ (pwl n ys j) ys).getD k 0 = cnv (pw (fn ys) j) (fn ys) k
    rw [prodZ_at (by rw [pwl_len h]; exact hk)]
    exact cnv_congr (fun i hi => pwl_at h j i (by omega)) fun _ _ => rfl
theorem pwl_bs {n : Nat} {ys : List Int} {b : Nat} (h : 1 ≤ n) (hl : n ≤ 12) (hb : Bs ys b) : ∀ j, Bs (pwl n ys j) (1 + j * (b + 4))
  | 0 => (unitZ_bs n).mono (by omega)
  | j + 1 => (prodZ_bs (pwl_bs h hl hb j) hb (by rw [pwl_len h]; omega)).mono (by rw [Nat.add_mul]; omega)
def smz (xs ys : List Int) (m : Nat) : List Int := (List.range xs.length).map (cpF m (fn xs) (fn ys))
@[simp] theorem smz_len (xs ys : List Int) (m : Nat) : (smz xs ys m).length = xs.length := by simp [smz]
theorem smz_zero (xs ys : List Int) : smz xs ys 0 = List.replicate xs.length 0 := by
  apply List.ext_getElem (by simp)
  intro m h1 h2
  simp [smz, cpF]
theorem smz_step {xs ys : List Int} {m : Nat} (h : 1 ≤ xs.length) : ((List.range (smz xs ys m).length).map fun k => (smz xs ys m).getD k 0 + xs.getD m 0 * (pwl xs.length ys m).getD k 0) = smz xs ys (m + 1) := by
  rw [smz_len]
  refine List.map_congr_left fun k hk => ?_
  have hk := List.mem_range.mp hk
  rw [pwl_at h m k hk, cpF_pw]
  congr 1
  exact getD_range hk
/-! ### turned back: lists -/
def rvZ (xs : List Int) : List Int := rvN (fn xs) xs.length
@[simp] theorem rvZ_len (xs : List Int) : (rvZ xs).length = xs.length := rvN_len _ _
theorem rvZ_at {xs : List Int} {k : Nat} (h : k < xs.length) : (rvZ xs).getD k 0 = rv (fn xs) k := rvN_low h
theorem rvN_congr {f f' : Nat → Int} (h0 : f 0 = 0) (h0' : f' 0 = 0) : ∀ n, (∀ i, i < n → f i = f' i) → rvN f n = rvN f' n
  | 0, _ => rfl
  | n + 1, h => by
    have ih := rvN_congr h0 h0' n fun i hi => h i (by omega)
    show rvN f n ++ [X' n - cp f (fun i => (rvN f n).getD i 0) n] = rvN f' n ++ [X' n - cp f' (fun i => (rvN f' n).getD i 0) n]
    rw [ih, cp_congr (f' := f') (rvN_zero h0' n) (rvN_zero h0' n) n (fun i hi => h i (by omega)) fun _ _ => rfl]
theorem rv_congr {f f' : Nat → Int} (h0 : f 0 = 0) (h0' : f' 0 = 0) {k : Nat} (h : ∀ i, i ≤ k → f i = f' i) : rv f k = rv f' k := by
  unfold rv
  rw [rvN_congr h0 h0' (k + 1) fun i hi => h i (by omega)]
def Lean (xs : List Int) : Prop := 2 ≤ xs.length ∧ xs.getD 0 0 = 0 ∧ xs.getD 1 0 = 1
theorem rvZ_lean {xs : List Int} (h : Lean xs) : Lean (rvZ xs) := by
  obtain ⟨h1, h2, h3⟩ := h
  exact ⟨by rw [rvZ_len]; exact h1, by rw [rvZ_at (by omega), rv_zero h2], by rw [rvZ_at (by omega), rv_one h2]⟩
theorem rvZ_rvZ {xs : List Int} (h : Lean xs) : rvZ (rvZ xs) = xs := by
  have hl := rvZ_lean h
  obtain ⟨h1, h2, h3⟩ := h
  refine ext_getD (by simp) fun k hk => ?_
  rw [rvZ_len, rvZ_len] at hk
  rw [rvZ_at (by rw [rvZ_len]; exact hk), rv_congr (f := fn (rvZ xs)) (f' := rv (fn xs)) hl.2.1 (rv_zero h2) fun i hi => rvZ_at (show i < xs.length by omega), rv_rv h2 h3]
  rfl
def plZ (n : Nat) : List Int := (List.range n).map X'
@[simp] theorem plZ_len (n : Nat) : (plZ n).length = n := by simp [plZ]
theorem put_rvZ {xs : List Int} (h : Lean xs) : putZ xs (rvZ xs) = plZ xs.length := by
  have hl := rvZ_lean h
  obtain ⟨h1, h2, h3⟩ := h
  refine ext_getD (by simp) fun k hk => ?_
  rw [putZ_len] at hk
  rw [putZ_at hl.2.1 hk, cp_congr (f' := fn xs) (g := fn (rvZ xs)) (g' := rv (fn xs)) hl.2.1 (rv_zero h2) k (fun _ _ => rfl) fun i hi => rvZ_at (show i < xs.length by omega), cp_rv h2 h3]
  exact (getD_range hk).symm
theorem rvZ_put {xs : List Int} (h : Lean xs) : putZ (rvZ xs) xs = plZ xs.length := by
  have := put_rvZ (rvZ_lean h)
  rwa [rvZ_rvZ h, rvZ_len] at this
/-! how great they get -/
theorem cnv_abs {f g : Nat → Int} {B : Nat} {k : Nat} (h : ∀ i, i ≤ k → (f i * g (k - i)).natAbs ≤ B) : (cnv f g k).natAbs ≤ (k + 1) * B := sumR_abs fun i hi => h i (by omega)
/-- without constant, behind it numbers that grow by c bits a place -/
theorem grow_mul {g u : Nat → Int} {a c k : Nat} (hk : k ≤ 14) (h0 : g 0 = 0) (hg : ∀ i, 1 ≤ i → i ≤ k → (g i).natAbs ≤ 2 ^ (c * (i - 1))) (hu : ∀ i, i < k → (u i).natAbs ≤ 2 ^ (a + c * i)) : (cnv g u k).natAbs ≤ 2 ^ (a + 4 + c * (k - 1)) := by
  have h1 : (cnv g u k).natAbs ≤ (k + 1) * 2 ^ (a + c * (k - 1)) := cnv_abs fun i hi => by
    cases i with
    | zero => rw [h0, Int.zero_mul]; exact Nat.zero_le _
    | succ i =>
      rw [Int.natAbs_mul]
      refine Nat.le_trans (Nat.mul_le_mul (hg (i + 1) (by omega) hi) (hu (k - (i + 1)) (by omega))) ?_
      rw [← Nat.pow_add]
      refine Nat.pow_le_pow_right (by omega) ?_
      have e : c * (k - 1) = c * i + c * (k - (i + 1)) := by rw [← Nat.mul_add]; congr 1; omega
      have e2 : i + 1 - 1 = i := by omega
      rw [e2]
      omega
  refine Nat.le_trans h1 (Nat.le_trans (Nat.mul_le_mul_right _ (show k + 1 ≤ 16 by omega)) ?_)
  rw [show a + 4 + c * (k - 1) = a + c * (k - 1) + 4 by omega, Nat.pow_add _ _ 4]
  omega
theorem cp_grow {g : Nat → Int} {a c : Nat} (hc : 4 ≤ c) (h0 : g 0 = 0) : ∀ (k : Nat) (f : Nat → Int), k ≤ 14 → (∀ i, 1 ≤ i → i ≤ k → (g i).natAbs ≤ 2 ^ (c * (i - 1))) → (∀ i, (f i).natAbs ≤ 2 ^ a) → (cp f g k).natAbs ≤ 2 ^ (a + c * k) := by
  intro k
  induction k using Nat.strongRecOn with
  | _ k ih =>
    intro f hk hg hf
    cases k with
    | zero => rw [cp_zero h0]; exact hf 0
    | succ k =>
      have h1 := grow_mul (g := g) (u := cp (sh f) g) (a := a) (c := c) hk h0 hg fun i hi => ih i hi (sh f) (by omega) (fun j h1 h2 => hg j h1 (by omega)) fun j => hf (j + 1)
      rw [cp_eq h0, show one' (k + 1) = 0 from rfl, Int.mul_zero, Int.zero_add]
      refine Nat.le_trans h1 (Nat.pow_le_pow_right (by omega) ?_)
      rw [Nat.mul_add]
      have : k + 1 - 1 = k := by omega
      rw [this]
      omega
theorem rv_grow {f : Nat → Int} {a : Nat} (h0 : f 0 = 0) (h1 : f 1 = 1) (hf : ∀ i, (f i).natAbs ≤ 2 ^ a) : ∀ k, 1 ≤ k → k ≤ 14 → (rv f k).natAbs ≤ 2 ^ ((a + 8) * (k - 1)) := by
  intro k
  induction k using Nat.strongRecOn with
  | _ k ih =>
    intro hk1 hk
    by_cases hk2 : k = 1
    · subst hk2
      rw [rv_one h0]
      simp
    · have z := rvN_zero h0 k
      have hg : ∀ i, 1 ≤ i → i ≤ k → ((fun i => (rvN f k).getD i 0) i).natAbs ≤ 2 ^ ((a + 8) * (i - 1)) := fun i h1 h2 => by
        show ((rvN f k).getD i 0).natAbs ≤ _
        by_cases hi : i < k
        · rw [rvN_low hi]
          exact ih i hi h1 (by omega)
        · rw [rvN_high (by omega)]
          exact Nat.zero_le _
      generalize hgg : (fun i => (rvN f k).getD i 0) = g at z hg
      have hk0 : g k = 0 := by rw [← hgg]; exact rvN_high (Nat.le_refl k)
      obtain ⟨k, rfl⟩ : ∃ n, k = n + 2 := ⟨k - 2, by omega⟩
      have z' : g 0 = 0 := by rw [← hgg]; exact z
      have e : rv f (k + 2) = - cnv g (fun i => cnv g (cp (sh (sh f)) g) i) (k + 2) := by
        rw [rv_eq, hgg, cp_eq z', h0]
        have e2 : cnv g (cp (sh f) g) (k + 2) = cnv g (fun i => 1 * one' i + cnv g (cp (sh (sh f)) g) i) (k + 2) := cnv_low z' z' (fun _ _ => rfl) fun i _ => by
          rw [cp_eq z', show sh f 0 = 1 from h1]
        rw [e2, cnv_addR, cnv_smulR, cnv_oneR, hk0]
        simp [X']
      rw [e, Int.natAbs_neg]
      have hu : ∀ i, i < k + 2 → (cnv g (cp (sh (sh f)) g) i).natAbs ≤ 2 ^ ((a + 4) + (a + 8) * (i - 1)) := fun i hi =>
        grow_mul (a := a) (c := a + 8) (by omega) z' (fun j h1 h2 => hg j h1 (by omega)) fun j hj => cp_grow (by omega) z' j _ (by omega) (fun l h1 h2 => hg l h1 (by omega)) fun l => hf _
      have hb : (cnv g (fun i => cnv g (cp (sh (sh f)) g) i) (k + 2)).natAbs ≤ (k + 2 + 1) * 2 ^ (a + 4 + (a + 8) * k) := cnv_abs fun i hi => by
        cases i with
        | zero => rw [z', Int.zero_mul]; exact Nat.zero_le _
        | succ i =>
          rw [Int.natAbs_mul]
          by_cases hl : k + 2 - (i + 1) = 0
          · rw [hl, cnv_zero, z', Int.zero_mul]
            exact Nat.zero_le _
          · refine Nat.le_trans (Nat.mul_le_mul (hg (i + 1) (by omega) hi) (hu (k + 2 - (i + 1)) (by omega))) ?_
            rw [← Nat.pow_add]
            refine Nat.pow_le_pow_right (by omega) ?_
            have e1 : (a + 8) * k = (a + 8) * i + (a + 8) * (k + 2 - (i + 1) - 1) := by rw [← Nat.mul_add]; congr 1; omega
            have e2 : i + 1 - 1 = i := by omega
            rw [e2]
            omega
      refine Nat.le_trans hb (Nat.le_trans (Nat.mul_le_mul_right _ (show k + 2 + 1 ≤ 16 by omega)) ?_)
      have e3 : (a + 8) * (k + 2 - 1) = a + 4 + (a + 8) * k + 4 := by
        have : k + 2 - 1 = k + 1 := by omega
        rw [this, Nat.mul_add]
        omega
      rw [e3, Nat.pow_add _ _ 4]
      omega
theorem rvZ_bs {xs : List Int} (h : Lean xs) (hl : xs.length ≤ 12) (hb : Bs xs 35) : Bs (rvZ xs) 480 := bs_of fun k hk => by
  rw [rvZ_len] at hk
  rw [rvZ_at hk]
  cases k with
  | zero => rw [rv_zero h.2.1]; decide
  | succ k =>
    have := rv_grow (f := fn xs) (a := 35) h.2.1 h.2.2 (fun i => Nat.le_of_lt (hb.at_ i)) (k + 1) (by omega) (by omega)
    have e : (2 : Nat) ^ ((35 + 8) * (k + 1 - 1)) ≤ 2 ^ (43 * 11) := Nat.pow_le_pow_right (by omega) (by omega)
    exact Nat.lt_of_le_of_lt (Nat.le_trans this e) (by decide)
/-! padding -/
theorem getD_pad (l : List Int) (n i : Nat) : (l ++ List.replicate n 0).getD i 0 = l.getD i 0 := by
  by_cases h : i < l.length
  · rw [List.getD_eq_getElem?_getD, List.getElem?_append_left h, ← List.getD_eq_getElem?_getD]
  · rw [List.getD_eq_getElem?_getD, List.getElem?_append_right (by omega), List.getElem?_replicate, List.getD_eq_getElem?_getD, List.getElem?_eq_none (by omega)]
    split <;> rfl
theorem fn_pad (l : List Int) (n : Nat) : fn (l ++ List.replicate n 0) = fun i => l.getD i 0 := by
  funext i
  exact getD_pad l n i
theorem rvN_pre {xs : List Int} {m b : Nat} (hm : m ≤ xs.length) (hb : Bs (rvZ xs) b) (n : Nat) : Bs (rvN (fn xs) m ++ List.replicate n 0) b := bs_of fun k _ => by
  rw [getD_pad]
  by_cases h : k < m
  · rw [rvN_low h, ← rvZ_at (show k < xs.length by omega)]
    exact hb.at_ k
  · rw [rvN_high (by omega)]
    exact Nat.pos_of_ne_zero (by simp)
theorem take_at {xs : List Int} {m k : Nat} (h : k < m) : (xs.take m).getD k 0 = xs.getD k 0 := by
  rw [List.getD_eq_getElem?_getD, List.getElem?_take_of_lt h, ← List.getD_eq_getElem?_getD]
theorem take_bs {xs : List Int} {m n : Nat} (h : Bs xs n) : Bs (xs.take m) n := fun x hx => h x (List.mem_of_mem_take hx)
/-- the next number of what turns back -/
theorem rv_told {xs : List Int} {m : Nat} (h : Lean xs) (h2 : 2 ≤ m) (hm : m < xs.length) : rvN (fn xs) m ++ [0 - (putZ (xs.take (m + 1)) (rvN (fn xs) m ++ [0])).getD m 0] = rvN (fn xs) (m + 1) := by
  have e : (rvN (fn xs) m ++ [0]) = rvN (fn xs) m ++ List.replicate 1 0 := rfl
  have z := rvN_zero (f := fn xs) h.2.1 m
  show _ = rvN (fn xs) m ++ [X' m - cp (fn xs) (fun i => (rvN (fn xs) m).getD i 0) m]
  rw [e, putZ_at (by rw [getD_pad]; exact z) (by rw [List.length_take]; omega), fn_pad, cp_congr (f := fn (xs.take (m + 1))) (f' := fn xs) z z m (fun i hi => take_at (by omega)) fun _ _ => rfl]
  have : X' m = 0 := if_neg (by omega)
  rw [this]
def bkl (xs : List Int) (m : Nat) : List Int := rvN (fn xs) m ++ List.replicate (xs.length - m) 0
theorem bkl_len {xs : List Int} {m : Nat} (h : m ≤ xs.length) : (bkl xs m).length = xs.length := by simp [bkl]; omega
theorem bkl_step {xs : List Int} {m : Nat} (h : Lean xs) (h2 : 2 ≤ m) (hm : m < xs.length) : (bkl xs m).set m ((bkl xs m).getD m 0 - (putZ xs (bkl xs m)).getD m 0) = bkl xs (m + 1) := by
  have z := rvN_zero (f := fn xs) h.2.1 m
  unfold bkl
  rw [putZ_at (by rw [getD_pad]; exact z) hm, fn_pad, getD_pad, rvN_high (Nat.le_refl m), List.set_append_right _ _ (by rw [rvN_len]; omega), rvN_len, Nat.sub_self]
  obtain ⟨r, hr⟩ : ∃ r, xs.length - m = r + 1 := ⟨xs.length - m - 1, by omega⟩
  rw [hr, List.replicate_succ, List.set_cons_zero, show xs.length - (m + 1) = r by omega]
  show _ = (rvN (fn xs) m ++ [X' m - cp (fn xs) (fun i => (rvN (fn xs) m).getD i 0) m]) ++ _
  have : X' m = 0 := if_neg (by omega)
  rw [this, List.append_assoc]
  rfl
theorem rvN_two {xs : List Int} (h : Lean xs) : rvN (fn xs) 2 = [0, 1] := by
  have e0 := rv_zero (f := fn xs) h.2.1
  have e1 := rv_one (f := fn xs) h.2.1
  refine ext_getD (by simp) fun k hk => ?_
  rw [rvN_len] at hk
  rw [rvN_low hk]
  match k, hk with
  | 0, _ => exact e0
  | 1, _ => exact e1
theorem bkl_two {xs : List Int} (h : Lean xs) : bkl xs 2 = [0, 1] ++ List.replicate (xs.length - 2) 0 := by
  unfold bkl
  rw [rvN_two h]
theorem bkl_last (xs : List Int) : (bkl xs xs.length).take xs.length = rvZ xs := by
  unfold bkl
  rw [Nat.sub_self, List.replicate_zero, List.append_nil, List.take_of_length_le (by rw [rvN_len]; omega)]
  rfl
/-! slopes -/
theorem drop_at {xs : List Int} {n k : Nat} : (xs.drop n).getD k 0 = xs.getD (n + k) 0 := by
  rw [List.getD_eq_getElem?_getD, List.getElem?_drop, ← List.getD_eq_getElem?_getD]
def slZ (xs : List Int) : List Int := ((List.range xs.length).map fun k : Nat => (k : Int) * xs.getD k 0).drop 1
@[simp] theorem slZ_len (xs : List Int) : (slZ xs).length = xs.length - 1 := by simp [slZ]
theorem slZ_eq (xs : List Int) : ((List.range (xs.length - 1)).map fun k : Nat => (1 + (k : Int)) * xs.getD (1 + k) 0) = slZ xs := by
  refine ext_getD (by simp) fun k hk => ?_
  rw [List.length_map, List.length_range] at hk
  rw [getD_range hk]
  unfold slZ
  rw [drop_at, getD_range (by omega)]
  congr 1
theorem plZ_eq (n : Nat) : ((List.range n).map fun k : Nat => if (k : Int) = 1 then (1 : Int) else 0) = plZ n := by
  refine List.map_congr_left fun k _ => ?_
  unfold X'
  by_cases h : k = 1
  · rw [if_pos h, if_pos (by omega)]
  · rw [if_neg h, if_neg (by omega)]
/-! calls with one list twice: both hands see it frozen -/
section
variable {s : Sl} {j : Nat} {ys : List Int} {F : Fn} {r : T} {ps : List T}
theorem call_dup (hF : F [seqT .l ys, seqT .l ys] = .ret r ps) (h : s[j]? = some (.tr (seqT .n ys))) : finCall F [opS .n ys j, opS .n ys j] s = .ok (.vl r) (s.set j (.tr (seqT .l ys))) := by
  have hl := (List.getElem?_eq_some_iff.mp h).1
  have e1 : treeAt s j = some (seqT .n ys) := atS h
  have e2 : treeAt (s.set j .un) j = none := by unfold treeAt; rw [List.getElem?_set_self hl]
  have e3 : treeAt (s.set j (.tr (seqT .l ys))) j = some (seqT .l ys) := atS (List.getElem?_set_self hl)
  have ht : takeO s [opS .n ys j, opS .n ys j] = none := by
    simp only [opS, takeO, e1, e2]
  have hs : VS.settle s [opS .n ys j, opS .n ys j] = some ([seqT .l ys, seqT .l ys], s.set j (.tr (seqT .l ys))) := by
    have f1 : VS.settle1 s (.rt j) = some (seqT .l ys, s.set j (.tr (seqT .l ys))) := by
      simp only [VS.settle1, e1, h]
      show some (T.leaf (frz (seqT .n ys)), s.set j (frzSV (.tr (seqT .n ys)))) = _
      rw [frzSV, frz_seqT]
      rfl
    have f2 : VS.settle1 (s.set j (.tr (seqT .l ys))) (.rt j) = some (seqT .l ys, s.set j (.tr (seqT .l ys))) := by
      simp only [VS.settle1, e3, List.getElem?_set_self hl]
      show some (T.leaf (frz (seqT .l ys)), (s.set j (.tr (seqT .l ys))).set j (frzSV (.tr (seqT .l ys)))) = _
      rw [frzSV, frz_seqT, List.set_set]
      rfl
    simp only [opS, VS.settle, f1, f2]
  unfold finCall
  rw [ht]
  dsimp only
  rw [hs]
  dsimp only
  rw [hF]
end
end VS
/-! VZe: lists of lists of whole numbers. -/
namespace VS
open PySem PySem.Spec PyProof.Rows L2

/-- s: a slot's own list with frozen lists in it; f: frozen as a whole -/
inductive Kl where
  | s | f
abbrev dL (xss : List (List Int)) : List D := xss.map fun xs => .lst (dI xs)
def LT : Kl → List (List Int) → T
  | .s, xss => .node (xss.map (seqT .l))
  | .f, xss => .leaf (.lst (dL xss))
def opL : Kl → List (List Int) → Nat → Op
  | .s, _, j => .rt j
  | .f, xss, _ => .vl (LT .f xss)
def lD (xss : List (List Int)) : D := .lst (dL xss)
/-- a list of lists, its last one still its own -/
def mxT (xss : List (List Int)) (p : List Int) : T := .node (xss.map (seqT .l) ++ [seqT .n p])
section
variable {Γ : Ev} {s s1 : Sl} {k k' : Kl} {xss yss : List (List Int)} {i j : Nat} {a : Int} {fx : List Nat} {t u : T}
/-- a list of lists that a slot owns: what it tells, and what it is after a look -/
def LL (t : T) (xss : List (List Int)) : Prop := ∃ ts, t = .node ts ∧ soft1 (.node ts) = LT .s xss ∧ ts.map frz = dL xss
theorem all_leaf_l (xss : List (List Int)) : (xss.map (seqT .l)).all isLeaf = true := by
  rw [List.all_map]
  exact List.all_eq_true.mpr fun _ _ => rfl
theorem soft_LT : soft1 (LT k xss) = LT k xss := by
  cases k with
  | f => rfl
  | s =>
    unfold LT soft1
    dsimp only
    rw [if_pos (all_leaf_l xss)]
theorem map_frz_l (xss : List (List Int)) : (xss.map (seqT .l)).map frz = dL xss := by
  rw [List.map_map]
  refine List.map_congr_left fun xs _ => ?_
  exact frz_seqT .l xs
theorem LL.own : LL (LT .s xss) xss := ⟨_, rfl, soft_LT (k := .s), map_frz_l xss⟩
theorem LL.mx {p : List Int} : LL (mxT xss p) (xss ++ [p]) := by
  have e : (xss.map (seqT .l) ++ [seqT .n p]).map frz = dL (xss ++ [p]) := by
    rw [List.map_append, map_frz_l]
    simp [seqD]
  refine ⟨_, rfl, ?_, e⟩
  unfold soft1
  dsimp only
  have hn : ((xss.map (seqT .l) ++ [seqT .n p]).all isLeaf) = false := by
    rw [List.all_append]
    show (_ && (isLeaf (seqT .n p) && true)) = false
    rw [show isLeaf (seqT .n p) = false from rfl]
    simp
  rw [if_neg (by rw [hn]; exact Bool.false_ne_true)]
  unfold LT
  congr 1
  have e3 : (xss.map (seqT .l) ++ [seqT .n p]).map (fun t => T.leaf (frz t)) = ((xss.map (seqT .l) ++ [seqT .n p]).map frz).map T.leaf := by rw [List.map_map]; rfl
  rw [e3, e, List.map_map]
  rfl
theorem LL.two {x y : List Int} : LL (.node [seqT .n x, seqT .n y]) [x, y] := by
  refine ⟨[seqT .n x, seqT .n y], rfl, ?_, ?_⟩
  · show (if (isLeaf (seqT .n x) && (isLeaf (seqT .n y) && true)) = true then T.node [seqT .n x, seqT .n y] else T.node ([seqT .n x, seqT .n y].map fun t => .leaf (VS.frz t))) = _
    rw [show isLeaf (seqT .n x) = false from rfl, Bool.false_and, if_neg Bool.false_ne_true]
    simp only [List.map_cons, List.map_nil, frz_seqT, seqD]
    rfl
  · simp only [List.map_cons, List.map_nil, frz_seqT, seqD]
theorem LL.frz (h : LL t xss) : frz t = lD xss := by
  obtain ⟨ts, rfl, _, e⟩ := h
  rw [frz_node, e]
  rfl
@[simp] theorem frz_LT : VS.frz (LT k xss) = lD xss := by
  cases k with
  | f => rfl
  | s => exact LL.own.frz
@[simp] theorem r_ofL' : ofTree j s (some (LT k xss)) = .ok (opL k xss j) s := by cases k <;> rfl
theorem LL.of (h : LL t xss) : ofTree j s (some t) = .ok (.rt j) s := by
  obtain ⟨ts, rfl, _⟩ := h
  rfl
theorem atT (h : s[j]? = some (.tr t)) : treeAt s j = some t := by unfold treeAt; rw [h]
theorem snap_rt (h : s[j]? = some (.tr t)) : snapOp s (.rt j) = some (frz t) := by
  show (treeAt s j).map frz = _
  rw [atT h]
  rfl
theorem snap_vl : snapOp s (.vl t) = some (frz t) := rfl
theorem snap_opL (h : s[j]? = some (.tr (LT k xss))) : snapOp s (opL k xss j) = some (lD xss) := by
  cases k with
  | f => exact (snap_vl).trans (by rw [frz_LT])
  | s => exact (snap_rt h).trans (by rw [frz_LT])
theorem soft_at (h : s[j]? = some (.tr t)) : soft s (.rt j) = s.set j (.tr (soft1 t)) := by
  show (match s[j]? with
    | some x => s.set j (softV x)
    | none => s) = _
  rw [h]
  rfl
theorem set_same {x : SV} (h : s[j]? = some x) : s.set j x = s := by
  apply List.ext_getElem (by simp)
  intro m h1 h2
  rw [List.getElem_set]
  split
  · next e => subst e; rw [List.getElem?_eq_getElem h2] at h; exact (Option.some.inj h).symm
  · rfl
theorem soft_opL (h : s[j]? = some (.tr (LT k xss))) : soft s (opL k xss j) = s := by
  cases k with
  | f => rfl
  | s =>
    show soft s (.rt j) = s
    rw [soft_at h, soft_LT, set_same h]
theorem atI_L {m : Nat} (h : m < xss.length) : atI (dL xss) (m : Int) = some (.lst (dI (xss.getD m []))) := by
  have h2 : m < (dL xss).length := by simpa using h
  have e : (dL xss)[m]? = some (.lst (dI (xss.getD m []))) := by
    rw [List.getElem?_map, List.getElem?_eq_getElem h, List.getD_eq_getElem?_getD, List.getElem?_eq_getElem h]
    rfl
  unfold atI ixN
  rw [if_pos (by omega), if_pos (by omega), Int.toNat_natCast]
  exact e
theorem atI_L1 (h : 0 < xss.length) : atI (dL xss) (-1) = some (.lst (dI (xss.getD (xss.length - 1) []))) := by
  have hl : (dL xss).length = xss.length := by simp
  have h2 : xss.length - 1 < xss.length := by omega
  have e : (dL xss)[xss.length - 1]? = some (.lst (dI (xss.getD (xss.length - 1) []))) := by
    rw [List.getElem?_map, List.getElem?_eq_getElem h2, List.getD_eq_getElem?_getD, List.getElem?_eq_getElem h2]
    rfl
  unfold atI ixN
  rw [hl, if_neg (by omega), if_pos (by omega)]
  have : ((-1 : Int) + (xss.length : Int)).toNat = xss.length - 1 := by omega
  rw [this]
  exact e
theorem ix_of {o : Op} {d : D} (h1 : snapOp s o = some (lD xss)) (h2 : soft s o = s1) (h3 : atI (dL xss) a = some d) : finS qIx [o, .vl (.leaf (.int a))] s = .ok (.vl (.leaf d)) s1 := by
  have hs : snapOps s [o, .vl (.leaf (.int a))] = some [lD xss, .int a] := by
    unfold snapOps snapOps snapOps
    rw [h1]
    rfl
  unfold lD at hs
  simp only [finS, hs, qIx, h3, softs, h2, soft_vl]
theorem ix_nat {o : Op} (h1 : snapOp s o = some (lD xss)) (h2 : soft s o = s1) (h0 : 0 ≤ a) (hl : a < xss.length) : finS qIx [o, .vl (.leaf (.int a))] s = .ok (.vl (seqT .l (xss.getD a.toNat []))) s1 := by
  obtain ⟨m, rfl⟩ := Int.eq_ofNat_of_zero_le h0
  exact ix_of h1 h2 (atI_L (by omega))
@[simp] theorem r_ixL (h : s[j]? = some (.tr (LT k xss))) (h0 : 0 ≤ a) (hl : a < xss.length) : finS qIx [opL k xss j, .vl (.leaf (.int a))] s = .ok (.vl (seqT .l (xss.getD a.toNat []))) s := ix_nat (snap_opL h) (soft_opL h) h0 hl
@[simp] theorem r_ixLv (h0 : 0 ≤ a) (hl : a < xss.length) : finS qIx [.vl (LT k xss), .vl (.leaf (.int a))] s = .ok (.vl (seqT .l (xss.getD a.toNat []))) s := ix_nat ((snap_vl).trans (by rw [frz_LT])) rfl h0 hl
theorem LL.ix (hL : LL t xss) (h : s[j]? = some (.tr t)) (h0 : 0 ≤ a) (hl : a < xss.length) : finS qIx [.rt j, .vl (.leaf (.int a))] s = .ok (.vl (seqT .l (xss.getD a.toNat []))) (s.set j (.tr (LT .s xss))) := by
  refine ix_nat ((snap_rt h).trans (by rw [hL.frz])) ?_ h0 hl
  obtain ⟨ts, rfl, e, _⟩ := hL
  rw [soft_at h, e]
theorem LL.ixV (hL : LL t xss) (h0 : 0 ≤ a) (hl : a < xss.length) : finS qIx [.vl t, .vl (.leaf (.int a))] s = .ok (.vl (seqT .l (xss.getD a.toNat []))) s := ix_nat ((snap_vl).trans (by rw [hL.frz])) rfl h0 hl
theorem LL.ix1 (hL : LL t xss) (h : s[j]? = some (.tr t)) (hl : 0 < xss.length) : finS qIx [.rt j, .vl (.leaf (.int (-1)))] s = .ok (.vl (seqT .l (xss.getD (xss.length - 1) []))) (s.set j (.tr (LT .s xss))) := by
  refine ix_of ((snap_rt h).trans (by rw [hL.frz])) ?_ (atI_L1 hl)
  obtain ⟨ts, rfl, e, _⟩ := hL
  rw [soft_at h, e]
theorem len_of {o : Op} (h : snapOp s o = some (lD xss)) : finBI Γ .len [o] s = .ok (.vl (.leaf (.int xss.length))) s := by
  simp [finBI, finIf, snapOps, h, lD, isOwn1, finP, bLen, S0.toD]
@[simp] theorem r_lenL (h : s[j]? = some (.tr (LT k xss))) : finBI Γ .len [opL k xss j] s = .ok (.vl (.leaf (.int xss.length))) s := len_of (snap_opL h)
theorem LL.len (hL : LL t xss) (h : s[j]? = some (.tr t)) : finBI Γ .len [.rt j] s = .ok (.vl (.leaf (.int xss.length))) s := len_of ((snap_rt h).trans (by rw [hL.frz]))
/-! == -/
theorem toPyL_L : ∀ xss : List (List Int), toPyL (dL xss) = some (xss.map pyI)
  | [] => by simp [toPyL]
  | x :: xss => by
    show toPyL (.lst (dI x) :: dL xss) = _
    simp only [toPyL, toPy_ints, toPyL_L xss, List.map_cons]
theorem toPy_L (xss : List (List Int)) : toPy (lD xss) = some (.list (xss.map pyI)) := by
  unfold lD
  simp only [toPy, toPyL_L]
theorem depthAll_L : ∀ xss : List (List Int), PyData.depthAll (xss.map pyI) ≤ 2
  | [] => by simp [PyData.depthAll]
  | x :: xss => by
    have h1 := depthAll_L xss
    have h2 := depthAll_ints x
    simp only [List.map_cons, PyData.depthAll, pyI, PyData.depth]
    show max _ (PyData.depthAll (xss.map pyI)) ≤ 2
    omega
theorem canLay_L : ∀ xss : List (List Int), PyData.canLayAll0 (xss.map pyI) = true
  | [] => by simp [PyData.canLayAll0]
  | x :: xss => by
    have h1 := canLay_L xss
    have h2 := canLay_ints x
    simp only [List.map_cons, PyData.canLayAll0, Bool.and_eq_true]
    exact ⟨by unfold pyI; simp only [PyData.canLay0]; exact h2, h1⟩
theorem shaped_L (xss : List (List Int)) : SeqAt.shaped (.list (xss.map pyI)) = true := by
  have := depthAll_L xss
  unfold SeqAt.shaped
  rw [Bool.and_eq_true, decide_eq_true_eq]
  refine ⟨by simp only [PyData.canLay0]; exact canLay_L xss, ?_⟩
  simp only [PyData.depth]
  omega
theorem eqvAll_L : ∀ xss yss : List (List Int), PyData.eqvAll (xss.map pyI) (yss.map pyI) = decide (xss = yss)
  | [], [] => by simp [PyData.eqvAll]
  | [], y :: ys => by simp [PyData.eqvAll]
  | x :: xs, [] => by simp [PyData.eqvAll]
  | x :: xs, y :: ys => by
    simp only [List.map_cons, PyData.eqvAll, eqv_ints, eqvAll_L xs ys]
    by_cases h : x = y <;> by_cases h2 : xs = ys <;> simp [h, h2]
theorem eqv_L (xss yss : List (List Int)) : PyData.eqv (.list (xss.map pyI)) (.list (yss.map pyI)) = decide (xss = yss) := by
  simp only [PyData.eqv]
  exact eqvAll_L xss yss
@[simp] theorem isObj1_dL (xss : List (List Int)) : isObj1 (dL xss) = false := by cases xss <;> rfl
theorem eqL {o o' : Op} (h : snapOp s o = some (lD xss)) (h' : snapOp s o' = some (lD yss)) : finC Γ .eq [o, o'] s = .ok (.vl (.leaf (.bl (decide (xss = yss))))) s := by
  have hs : snapOps s [o, o'] = some [lD xss, lD yss] := by
    unfold snapOps snapOps snapOps
    rw [h, h']
  have e1 := toPy_L xss
  have e2 := toPy_L yss
  unfold lD at hs e1 e2
  simp only [finC, finIf, hs, isOwn1, isM1, isObj1_dL, Bool.false_eq_true, if_false, finEq, isSc2, finP, bEq, e1, e2, shaped_L, and_self, if_true, eqv_L, S0.toD]
theorem neL {o o' : Op} (h : snapOp s o = some (lD xss)) (h' : snapOp s o' = some (lD yss)) : finC Γ .ne [o, o'] s = .ok (.vl (.leaf (.bl (!decide (xss = yss))))) s := by
  have hs : snapOps s [o, o'] = some [lD xss, lD yss] := by
    unfold snapOps snapOps snapOps
    rw [h, h']
  have e1 := toPy_L xss
  have e2 := toPy_L yss
  unfold lD at hs e1 e2
  simp only [finC, finIf, hs, isOwn1, isM1, isObj1_dL, Bool.false_eq_true, if_false, finNe, isSc2, finP, bNe, e1, e2, shaped_L, and_self, if_true, eqv_L, S0.toD]
theorem LL.vl (h : LL t xss) : snapOp s (.vl t) = some (lD xss) := (snap_vl).trans (by rw [h.frz])
/-! appending -/
theorem appL {f : Sl → Out Op} {p : List Int} (h0 : ∃ ts, treeAt s i = some (.node ts)) (he : f s = .ok (.vl (seqT .n p)) s1) (h1 : s1[i]? = some (.tr (LT .s xss))) (hl : xss.length < sizeLine) :
    evApp i f s = .ok (.vl (.leaf .non)) (s1.set i (.tr (mxT xss p))) := by
  obtain ⟨ts, h0⟩ := h0
  unfold evApp
  rw [h0]
  dsimp only
  rw [he]
  dsimp only [settle1]
  rw [atT h1]
  unfold LT
  dsimp only
  rw [if_pos (by rw [List.length_map]; exact hl)]
  rfl
/-- a call that changes the one list handed in -/
theorem call_rt1 {F : Fn} {r p : T} (hF : F [t] = .ret r [p]) (h : s[j]? = some (.tr t)) : finCall F [.rt j] s = .ok (.vl r) (s.set j (.tr p)) := by
  have hl := (List.getElem?_eq_some_iff.mp h).1
  simp only [finCall, takeO, atT h, hF, putO, List.length_set, hl, if_true, List.set_set]
theorem call_L {F : Fn} {r : T} (hF : F [LT k xss] = .ret r [LT k xss]) (h : s[j]? = some (.tr (LT k xss))) : finCall F [opL k xss j] s = .ok (.vl r) s := by
  cases k with
  | f => exact call_v hF
  | s =>
    show finCall F [.rt j] s = _
    rw [call_rt1 hF h, set_same h]
/-- a call on values alone -/
theorem call_v' {F : Fn} {r : T} {ps : List T} {p : T} (hF : F [t] = .ret r [p]) : finCall F [.vl t] s = .ok (.vl r) s := by
  simp only [finCall, takeO, hF, putO]
theorem call_vv' {F : Fn} {r p q : T} (hF : F [t, u] = .ret r [p, q]) : finCall F [.vl t, .vl u] s = .ok (.vl r) s := by
  simp only [finCall, takeO, hF, putO]
end
end VS
/-! VZf: columns of a table of numbers; displays of things. -/
namespace VS
open PySem PySem.Spec PyProof.Rows L2
section
variable {Γ : Ev} {s s1 : Sl} {k k' : Kl} {xss yss : List (List Int)} {i j : Nat} {a : Int} {fx : List Nat} {t u v : T} {d d' : D}
theorem r_retT {ts : List T} (hf : fx.contains j = false) (h : s[j]? = some (.tr (.node ts))) : retK fx (.rt j) s = .rt (.node ts) (s.set j .un) := by
  unfold retK moved
  dsimp only
  rw [atT h, if_neg (by rw [hf]; decide)]
theorem lst_t : finList [.vl t] s = .ok (.vl (.node [t])) s := Eq.trans rfl rfl
theorem lst_tt : finList [.vl t, .vl u] s = .ok (.vl (.node [t, u])) s := Eq.trans rfl rfl
theorem lst_ttt : finList [.vl t, .vl u, .vl v] s = .ok (.vl (.node [t, u, v])) s := Eq.trans rfl rfl
@[simp] theorem r_tup2 : finTup [.vl (.leaf d), .vl (.leaf d')] s = .ok (.vl (.leaf (.tup [d, d']))) s := Eq.trans rfl rfl
theorem LT_one {f : List Int} : T.node [seqT .l f] = LT .s [f] := rfl
theorem LL.node (hL : LL t xss) (hf : fx.contains j = false) (h : s[j]? = some (.tr t)) : retK fx (.rt j) s = .rt t (s.set j .un) := by
  obtain ⟨ts, rfl, _⟩ := hL
  exact r_retT hf h
theorem ix_tup0 {ds : List D} (h : atI ds a = some d) : finS qIx [.vl (.leaf (.tup ds)), .vl (.leaf (.int a))] s = .ok (.vl (.leaf d)) s := by
  simp only [finS, snapOps, snapOp, frz_leaf, qIx, h, softs, soft_vl]
end
/-! columns: first times so many leans -/
def colZ (f l : List Int) : Nat → List Int
  | 0 => f
  | k + 1 => prodZ (colZ f l k) l
@[simp] theorem colZ_len (f l : List Int) : ∀ k, (colZ f l k).length = f.length
  | 0 => rfl
  | k + 1 => (prodZ_len _ _).trans (colZ_len f l k)
theorem colZ_bs {f l : List Int} {a b : Nat} (h1 : Bs f a) (h2 : Bs l b) (hl : f.length ≤ 12) : ∀ k, Bs (colZ f l k) (a + k * (b + 4))
  | 0 => h1.mono (by omega)
  | k + 1 => (prodZ_bs (colZ_bs h1 h2 hl k) h2 (by rw [colZ_len]; omega)).mono (by rw [Nat.add_mul]; omega)
theorem colZ_at {f l : List Int} : ∀ (k i : Nat), i < f.length → (colZ f l k).getD i 0 = cnv (fn f) (pw (fn l) k) i
  | 0, i, h => (cnv_oneR (fn f) i).symm
  | k + 1, i, h => by
    show (prodZ (colZ f l k) l).getD i 0 = cnv (fn f) (cnv (pw (fn l) k) (fn l)) i
    rw [prodZ_at (by rw [colZ_len]; exact h), ← cnv_assoc]
    exact cnv_congr (fun j hj => colZ_at k j (by omega)) fun _ _ => rfl
def colsZ (f l : List Int) (m : Nat) : List (List Int) := (List.range m).map (colZ f l)
@[simp] theorem colsZ_len (f l : List Int) (m : Nat) : (colsZ f l m).length = m := by simp [colsZ]
theorem colsZ_succ (f l : List Int) (m : Nat) : colsZ f l (m + 1) = colsZ f l m ++ [colZ f l m] := by
  unfold colsZ
  rw [List.range_succ, List.map_append]
  rfl
theorem colsZ_at {f l : List Int} {m k : Nat} (h : k < m) : (colsZ f l m).getD k [] = colZ f l k := by
  unfold colsZ
  rw [List.getD_eq_getElem?_getD, List.getElem?_map, List.getElem?_range h]
  rfl
/-- what a walk over the columns makes -/
def gT (f l : List Int) (m : Nat) : T := if m = 0 then LT .s [f] else mxT (colsZ f l m) (colZ f l m)
theorem gT_zero (f l : List Int) : gT f l 0 = LT .s [f] := rfl
theorem gT_succ (f l : List Int) (m : Nat) : gT f l (m + 1) = mxT (colsZ f l (m + 1)) (colZ f l (m + 1)) := rfl
theorem gT_LL (f l : List Int) (m : Nat) : LL (gT f l m) (colsZ f l (m + 1)) := by
  cases m with
  | zero => exact LL.own
  | succ m => rw [gT_succ, colsZ_succ f l (m + 1)]; exact LL.mx
/-! powers of the base alone -/
theorem cnv_Xr (u : Nat → Int) (k : Nat) : cnv u X' (k + 1) = u k := by rw [cnv_comm, cnv_X]
theorem cnv_Xr0 (u : Nat → Int) : cnv u X' 0 = 0 := by rw [cnv_zero]; exact Int.mul_zero _
theorem cnv_pwX (f : Nat → Int) : ∀ j i, cnv f (pw X' j) i = if j ≤ i then f (i - j) else 0
  | 0, i => by rw [if_pos (Nat.zero_le i)]; exact cnv_oneR f i
  | j + 1, i => by
    show cnv f (cnv (pw X' j) X') i = _
    rw [← cnv_assoc]
    cases i with
    | zero => rw [cnv_Xr0, if_neg (by omega)]
    | succ i =>
      rw [cnv_Xr, cnv_pwX f j i]
      by_cases h : j ≤ i
      · rw [if_pos h, if_pos (by omega), show i + 1 - (j + 1) = i - j by omega]
      · rw [if_neg h, if_neg (by omega)]
theorem fn_pl {n i : Nat} (h : i < n) : fn (plZ n) i = X' i := getD_range h
theorem pw_congr {g g' : Nat → Int} {n : Nat} (h : ∀ i, i < n → g i = g' i) : ∀ j i, i < n → pw g j i = pw g' j i
  | 0, _, _ => rfl
  | j + 1, i, hi => cnv_congr (fun k hk => pw_congr h j k (by omega)) fun k hk => h k (by omega)
theorem col_plain {f : List Int} {n j i : Nat} (hn : f.length = n) (hi : i < n) : (colZ f (plZ n) j).getD i 0 = if j ≤ i then f.getD (i - j) 0 else 0 := by
  subst hn
  rw [colZ_at _ _ hi]
  refine Eq.trans ?_ (cnv_pwX (fn f) j i)
  exact cnv_congr (fun _ _ => rfl) fun k hk => pw_congr (fun i hi => fn_pl hi) j k (by omega)
theorem pl_two {n : Nat} (h : 2 ≤ n) : [0, 1] ++ List.replicate (n - 2) (0 : Int) = plZ n := by
  refine ext_getD (by simp; omega) fun k hk => ?_
  have hk : k < n := by simp at hk; omega
  rw [show (plZ n).getD k 0 = X' k from fn_pl hk, getD_pad]
  match k with
  | 0 => rfl
  | 1 => rfl
  | k + 2 => rfl
theorem plZ_lean {n : Nat} (h : 2 ≤ n) : Lean (plZ n) := ⟨by rw [plZ_len]; exact h, fn_pl (by omega), fn_pl (by omega)⟩
theorem plZ_bs (n : Nat) : Bs (plZ n) 1 := bs_of fun k hk => by
  rw [plZ_len] at hk
  rw [show (plZ n).getD k 0 = X' k from fn_pl hk]
  unfold X'
  split <;> decide
theorem put_plain {xs : List Int} {n : Nat} (h : xs.length = n) : putZ xs (plZ n) = xs := by
  refine ext_getD (by simp) fun k hk => ?_
  rw [putZ_len] at hk
  have z : fn (plZ n) 0 = 0 := fn_pl (by omega)
  rw [putZ_at z hk, cp_congr (f' := fn xs) (g' := X') z rfl k (fun _ _ => rfl) fun i hi => fn_pl (by omega), cp_id]
  rfl
theorem plain_put {xs : List Int} {n : Nat} (h : xs.length = n) (h0 : xs.getD 0 0 = 0) : putZ (plZ n) xs = xs := by
  refine ext_getD (by simp [h]) fun k hk => ?_
  rw [putZ_len, plZ_len] at hk
  rw [putZ_at h0 (by rw [plZ_len]; exact hk), cp_congr (f' := X') (g' := fn xs) h0 h0 k (fun i hi => fn_pl (by omega)) fun _ _ => rfl, cp_X h0]
  rfl
theorem prod_unit {xs : List Int} {n : Nat} (h : xs.length = n) (h1 : 1 ≤ n) : prodZ xs (unitZ n) = xs := by
  rw [prodZ_comm (by rw [unitZ_len h1, h]), prodZ_one (by rw [unitZ_len h1, h])]
theorem sumR_cut {g : Nat → Int} {m : Nat} : ∀ n, m ≤ n → (∀ j, m ≤ j → j < n → g j = 0) → sumR n g = sumR m g
  | 0, h, _ => by rw [show m = 0 by omega]
  | n + 1, h, hz => by
    by_cases hm : m = n + 1
    · rw [hm]
    · rw [sumR_succ, hz n (by omega) (by omega), Int.add_zero]
      exact sumR_cut n (by omega) fun j h1 h2 => hz j h1 (by omega)
end VS
/-! VZg: rules of tables: each row of the row above it. Plain Lean. -/
namespace VS
open PySem PySem.Spec PyProof.Rows L2
/-! quotients of series -/
def qsN (f g : Nat → Int) : Nat → List Int
  | 0 => []
  | k + 1 => qsN f g k ++ [f k - sumR k fun i => (qsN f g k).getD i 0 * g (k - i)]
def qs (f g : Nat → Int) (k : Nat) : Int := (qsN f g (k + 1)).getD k 0
@[simp] theorem qsN_len (f g : Nat → Int) : ∀ k, (qsN f g k).length = k
  | 0 => rfl
  | k + 1 => by simp [qsN, qsN_len f g k]
theorem qsN_low {f g : Nat → Int} {k n : Nat} (h : k < n) : (qsN f g n).getD k 0 = qs f g k := by
  induction n with
  | zero => omega
  | succ n ih =>
    by_cases hk : k < n
    · show (qsN f g n ++ [_]).getD k 0 = _
      rw [List.getD_eq_getElem?_getD, List.getElem?_append_left (by rw [qsN_len]; exact hk), ← List.getD_eq_getElem?_getD]
      exact ih hk
    · have : k = n := by omega
      subst this
      rfl
theorem qs_eq (f g : Nat → Int) (k : Nat) : qs f g k = f k - sumR k fun i => qs f g i * g (k - i) := by
  show (qsN f g k ++ [_]).getD k 0 = _
  rw [List.getD_eq_getElem?_getD, List.getElem?_append_right (by rw [qsN_len]; omega), qsN_len, Nat.sub_self]
  show f k - _ = _
  congr 1
  exact sumR_congr fun i hi => by rw [qsN_low hi]
theorem qs_mul {f g : Nat → Int} (h : g 0 = 1) (k : Nat) : cnv (qs f g) g k = f k := by
  unfold cnv
  rw [sumR_succ, qs_eq f g k, Nat.sub_self, h]
  omega
theorem quoN_qs (xs ys : List Int) : ∀ k, quoN xs ys k = qsN (fn xs) (fn ys) k
  | 0 => rfl
  | k + 1 => by
    show quoN xs ys k ++ [_] = qsN (fn xs) (fn ys) k ++ [_]
    rw [quoN_qs xs ys k]
    rfl
theorem qsN_congr {f f' g g' : Nat → Int} : ∀ n, (∀ i, i < n → f i = f' i) → (∀ i, i < n → g i = g' i) → qsN f g n = qsN f' g' n
  | 0, _, _ => rfl
  | n + 1, h, h' => by
    show qsN f g n ++ [f n - sumR n fun i => (qsN f g n).getD i 0 * g (n - i)] = qsN f' g' n ++ [f' n - sumR n fun i => (qsN f' g' n).getD i 0 * g' (n - i)]
    rw [qsN_congr n (fun i hi => h i (by omega)) fun i hi => h' i (by omega), h n (by omega)]
    congr 3
    exact sumR_congr fun i hi => by rw [h' (n - i) (by omega)]
theorem quoZ_qs {xs ys : List Int} {f g : Nat → Int} (h : ∀ i, i < xs.length → fn xs i = f i) (h' : ∀ i, i < xs.length → fn ys i = g i) {k : Nat} (hk : k < xs.length) : (quoZ xs ys).getD k 0 = qs f g k := by
  unfold quoZ
  rw [quoN_qs, qsN_congr _ h h', qsN_low hk]
/-! sums of powers -/
theorem cpF_sum (f g : Nat → Int) (k : Nat) : ∀ m, cpF m f g k = sumR m fun j => f j * pw g j k
  | 0 => rfl
  | m + 1 => by rw [cpF_pw, cpF_sum f g k m, sumR_succ]
theorem cnv_sumR (f : Nat → Int) (a : Nat → Int) (u : Nat → Nat → Int) (k : Nat) : ∀ m, cnv f (fun i => sumR m fun j => a j * u j i) k = sumR m fun j => a j * cnv f (u j) k
  | 0 => cnv_zeroR f k
  | m + 1 => by
    rw [sumR_succ, ← cnv_sumR f a u k m, ← cnv_smulR, ← cnv_addR]
    exact cnv_congr (fun _ _ => rfl) fun i _ => sumR_succ
/-- behind f, put in: a sum of columns -/
theorem cols_cp {f g a : Nat → Int} (h0 : g 0 = 0) (k : Nat) : (sumR (k + 1) fun j => a j * cnv f (pw g j) k) = cnv f (cp a g) k := by
  rw [← cnv_sumR]
  exact cnv_congr (fun _ _ => rfl) fun i hi => by rw [← cpF_sum, cpF_cp h0 (by omega)]
theorem pw_add (g : Nat → Int) (a : Nat) : ∀ b k, pw g (a + b) k = cnv (pw g a) (pw g b) k
  | 0, k => (cnv_oneR _ _).symm
  | b + 1, k => by
    show cnv (pw g (a + b)) g k = cnv (pw g a) (cnv (pw g b) g) k
    rw [← cnv_assoc]
    exact cnv_congr (fun i _ => pw_add g a b i) fun _ _ => rfl
theorem pw_low {g : Nat → Int} (h0 : g 0 = 0) : ∀ j i, i < j → pw g j i = 0
  | j + 1, i, h => sumR_0 fun m hm => by
    by_cases hj : m < j
    · rw [pw_low h0 j m hj, Int.zero_mul]
    · rw [show i - m = 0 by omega, h0, Int.mul_zero]
theorem pw_diag {g : Nat → Int} (h0 : g 0 = 0) (h1 : g 1 = 1) : ∀ j, pw g j j = 1
  | 0 => rfl
  | j + 1 => by
    show cnv (pw g j) g (j + 1) = 1
    unfold cnv
    rw [sumR_succ, sumR_succ, sumR_0 fun m hm => by rw [pw_low h0 j m hm, Int.zero_mul], pw_diag h0 h1 j, Nat.sub_self, h0, show j + 1 - j = 1 by omega, h1]
    omega
theorem cl_low {f g : Nat → Int} (h0 : g 0 = 0) {j i : Nat} (h : i < j) : cnv f (pw g j) i = 0 := by
  rw [cnv_comm]
  exact sumR_0 fun m hm => by rw [pw_low h0 j m (by omega), Int.zero_mul]
theorem cl_diag {f g : Nat → Int} (h0 : g 0 = 0) (h1 : g 1 = 1) (hf : f 0 = 1) (j : Nat) : cnv f (pw g j) j = 1 := by
  rw [cnv_comm]
  unfold cnv
  rw [sumR_succ, sumR_0 fun m hm => by rw [pw_low h0 j m hm, Int.zero_mul], pw_diag h0 h1, Nat.sub_self, hf]
  rfl
/-! the rule -/
def abS (l : Nat → Int) : Nat → Int := qs one' (sh (rv l))
def edS (f l : Nat → Int) : Nat → Int := cp (fun i => 0 - qs one' f (i + 1)) (rv l)
theorem sh_rv {l : Nat → Int} (h0 : l 0 = 0) : sh (rv l) 0 = 1 := rv_one h0
/-- the lean is the base times above, the lean put in -/
theorem lean_ab {l : Nat → Int} (h0 : l 0 = 0) (h1 : l 1 = 1) (k : Nat) : cnv X' (cp (abS l) l) k = l k := by
  have e1 : ∀ i, cnv l (cp (sh (rv l)) l) i = X' i := fun i => by
    rw [← rv_cp h0 h1 i, cp_eq h0, rv_zero h0]
    omega
  have e2 : ∀ i, cnv (cp (sh (rv l)) l) (cp (abS l) l) i = one' i := fun i => by
    rw [cnv_comm, ← cp_mul h0, cp_congr (f := cnv (abS l) (sh (rv l))) (f' := one') h0 h0 i (fun j _ => qs_mul (sh_rv h0) j) fun _ _ => rfl, cp_const h0]
  rw [cnv_congr (f' := cnv l (cp (sh (rv l)) l)) (g' := cp (abS l) l) (fun i _ => (e1 i).symm) fun _ _ => rfl, cnv_assoc, cnv_congr (f' := l) (g' := one') (fun _ _ => rfl) fun i _ => e2 i, cnv_oneR]
theorem col_above {f l : Nat → Int} (h0 : l 0 = 0) (h1 : l 1 = 1) (k n : Nat) (hk : k ≤ n) : cnv f (pw l (k + 1)) (n + 1) = sumR (n + 1 - k) fun j => abS l j * cnv f (pw l (k + j)) n := by
  have e1 : cnv f (pw l (k + 1)) (n + 1) = cnv (cnv f (pw l k)) (cp (abS l) l) n := by
    show cnv f (cnv (pw l k) l) (n + 1) = _
    rw [← cnv_assoc, cnv_congr (f' := cnv f (pw l k)) (g' := cnv X' (cp (abS l) l)) (fun _ _ => rfl) fun i _ => (lean_ab h0 h1 i).symm, cnv_comm, cnv_assoc, cnv_X, cnv_comm]
  rw [e1, ← cols_cp h0]
  rw [sumR_congr (g := fun j => abS l j * cnv f (pw l (k + j)) n) fun j _ => by
    congr 1
    rw [cnv_assoc]
    exact cnv_congr (fun _ _ => rfl) fun i _ => (pw_add l k j i).symm]
  exact sumR_cut (n + 1) (by omega) fun j h2 h3 => by rw [cl_low h0 (by omega), Int.mul_zero]
theorem col_edge {f l : Nat → Int} (h0 : l 0 = 0) (h1 : l 1 = 1) (hf : f 0 = 1) (n : Nat) : f (n + 1) = sumR (n + 1) fun j => edS f l j * cnv f (pw l j) n := by
  have z := rv_zero h0
  rw [cols_cp h0, cnv_congr (f' := f) (g' := fun i => 0 - qs one' f (i + 1)) (fun _ _ => rfl) fun i _ => by
    show cp (cp (fun i => 0 - qs one' f (i + 1)) (rv l)) l i = _
    rw [cp_assoc z h0, cp_congr (f' := fun i => 0 - qs one' f (i + 1)) (g' := X') (by rw [cp_zero h0, z]) rfl i (fun _ _ => rfl) fun j _ => rv_cp h0 h1 j, cp_id]]
  have e1 : cnv f (qs one' f) (n + 1) = 0 := by rw [cnv_comm, qs_mul hf]; rfl
  have e0 : qs one' f 0 = 1 := by
    rw [qs_eq]
    rfl
  rw [cnv_last, e0] at e1
  have e2 : cnv f (fun i => 0 - qs one' f (i + 1)) n = 0 - cnv f (fun i => qs one' f (i + 1)) n := by
    rw [show (fun i => 0 - qs one' f (i + 1)) = fun i => (-1) * qs one' f (i + 1) from by funext i; omega, cnv_smulR]
    omega
  rw [e2]
  omega
/-! the law's own reckoning, row by row -/
def dueN (C : List (List Int)) (c : Nat) : Nat → List Int
  | 0 => []
  | k + 1 => dueN C c k ++ [(C.getD c []).getD (k + 1) 0 - sumR k fun j => (dueN C c k).getD j 0 * (C.getD j []).getD k 0]
@[simp] theorem dueN_len (C : List (List Int)) (c : Nat) : ∀ k, (dueN C c k).length = k
  | 0 => rfl
  | k + 1 => by simp [dueN, dueN_len C c k]
theorem due_eq {C : List (List Int)} {c : Nat} {a : Nat → Int} {n : Nat} (h : ∀ k, k < n → (C.getD c []).getD (k + 1) 0 = sumR (k + 1) fun j => a j * (C.getD j []).getD k 0) (hd : ∀ k, k < n → (C.getD k []).getD k 0 = 1) : ∀ k, k ≤ n → dueN C c k = (List.range k).map a
  | 0, _ => rfl
  | k + 1, hk => by
    have ih := due_eq h hd k (by omega)
    show dueN C c k ++ [_] = _
    rw [h k (by omega), sumR_succ, hd k (by omega), List.range_succ, List.map_append, ih]
    congr 2
    have e : (sumR k fun j => ((List.range k).map a).getD j 0 * (C.getD j []).getD k 0) = sumR k fun j => a j * (C.getD j []).getD k 0 := sumR_congr fun j hj => by rw [getD_range hj]
    rw [e]
    omega
def abZ (l : List Int) : List Int := quoZ (unitZ (l.length - 1)) ((rvZ l).drop 1)
def ngZ (f : List Int) : List Int := (List.range (f.length - 1)).map fun k => 0 - ((quoZ (unitZ f.length) f).drop 1).getD k 0
def edZ (f l : List Int) : List Int := putZ (ngZ f) (rvZ l).dropLast
theorem abZ_eq {l : List Int} (h : Lean l) : abZ l = (List.range (l.length - 1)).map (abS (fn l)) := by
  have h1 := h.1
  have lu := unitZ_len (n := l.length - 1) (by omega)
  refine ext_getD (by unfold abZ; simp [lu]) fun k hk => ?_
  unfold abZ at hk ⊢
  rw [quoZ_len, lu] at hk
  rw [getD_range hk]
  exact quoZ_qs (fun i _ => unitZ_at _ i) (fun i hi => by
    rw [lu] at hi
    show ((rvZ l).drop 1).getD i 0 = rv (fn l) (i + 1)
    rw [drop_at, rvZ_at (by omega), Nat.add_comm]) (by rw [lu]; exact hk)
theorem dropLast_at {xs : List Int} {k : Nat} (h : k + 1 < xs.length) : xs.dropLast.getD k 0 = xs.getD k 0 := by
  rw [List.dropLast_eq_take, take_at (by omega)]
theorem ngZ_at {f : List Int} {k : Nat} (h : k + 1 < f.length) : (ngZ f).getD k 0 = 0 - qs one' (fn f) (k + 1) := by
  have lu := unitZ_len (n := f.length) (by omega)
  unfold ngZ
  rw [getD_range (by omega), drop_at, quoZ_qs (f := one') (g := fn f) (fun i _ => unitZ_at _ i) (fun i _ => rfl) (by rw [lu]; omega), Nat.add_comm]
@[simp] theorem ngZ_len (f : List Int) : (ngZ f).length = f.length - 1 := by simp [ngZ]
theorem edZ_eq {f l : List Int} (h : Lean l) (hn : f.length = l.length) : edZ f l = (List.range (f.length - 1)).map (edS (fn f) (fn l)) := by
  have h1 := h.1
  refine ext_getD (by unfold edZ; simp) fun k hk => ?_
  unfold edZ at hk ⊢
  rw [putZ_len, ngZ_len] at hk
  have z0 : (rvZ l).dropLast.getD 0 0 = 0 := by rw [dropLast_at (by rw [rvZ_len]; omega), rvZ_at (by omega), rv_zero h.2.1]
  rw [getD_range hk, putZ_at z0 (by rw [ngZ_len]; exact hk)]
  exact cp_congr z0 (rv_zero h.2.1) k (fun i hi => ngZ_at (by omega)) fun i hi => by
    show (rvZ l).dropLast.getD i 0 = _
    rw [dropLast_at (by rw [rvZ_len]; omega), rvZ_at (by omega)]
section
variable {f l : List Int} (h : f.length = l.length) (hl : Lean l) (hf : f.getD 0 0 = 1)
include h hl hf
theorem cols_above {k n : Nat} (hk : k ≤ n) (hn : n + 1 < f.length) : (colZ f l (k + 1)).getD (n + 1) 0 = sumR (n + 1 - k) fun j => (abZ l).getD j 0 * (colZ f l (k + j)).getD n 0 := by
  rw [colZ_at _ _ hn, col_above hl.2.1 hl.2.2 k n hk]
  exact sumR_congr fun j hj => by rw [abZ_eq hl, getD_range (by omega), colZ_at _ _ (by omega)]
theorem cols_edge {n : Nat} (hn : n + 1 < f.length) : (colZ f l 0).getD (n + 1) 0 = sumR (n + 1) fun j => (edZ f l).getD j 0 * (colZ f l j).getD n 0 := by
  show fn f (n + 1) = _
  rw [col_edge (f := fn f) (l := fn l) hl.2.1 hl.2.2 hf n]
  exact sumR_congr fun j hj => by rw [edZ_eq hl h, getD_range (by omega), colZ_at _ _ (by omega)]
theorem due_above {k : Nat} (hk : k < f.length) : dueN (colsZ f l f.length) 1 k = (abZ l).take k := by
  have h1 := hl.1
  have e : (abZ l).take k = (List.range k).map (abS (fn l)) := by
    rw [abZ_eq hl, ← List.map_take, List.take_range, Nat.min_eq_left (by omega)]
  rw [e]
  refine due_eq (n := f.length - 1) (fun m hm => ?_) (fun m hm => ?_) k (by omega)
  · rw [colsZ_at (by omega), cols_above h hl hf (k := 0) (Nat.zero_le m) (by omega), Nat.sub_zero]
    exact sumR_congr fun j hj => by rw [colsZ_at (by omega), Nat.zero_add, abZ_eq hl, getD_range (by omega)]
  · rw [colsZ_at (by omega), colZ_at _ _ (by omega), cl_diag hl.2.1 hl.2.2 hf]
theorem due_edge {k : Nat} (hk : k < f.length) : dueN (colsZ f l f.length) 0 k = (edZ f l).take k := by
  have h1 := hl.1
  have e : (edZ f l).take k = (List.range k).map (edS (fn f) (fn l)) := by
    rw [edZ_eq hl h, ← List.map_take, List.take_range, Nat.min_eq_left (by omega)]
  rw [e]
  refine due_eq (n := f.length - 1) (fun m hm => ?_) (fun m hm => ?_) k (by omega)
  · rw [colsZ_at (by omega), cols_edge h hl hf (by omega)]
    exact sumR_congr fun j hj => by rw [colsZ_at (by omega), edZ_eq hl h, getD_range (by omega)]
  · rw [colsZ_at (by omega), colZ_at _ _ (by omega), cl_diag hl.2.1 hl.2.2 hf]
end
theorem abZ_one {l : List Int} (h : Lean l) : (abZ l).getD 0 0 = 1 := by
  have h1 := h.1
  rw [abZ_eq h, getD_range (by omega)]
  show qs one' _ 0 = 1
  rw [qs_eq]
  rfl
@[simp] theorem abZ_len {l : List Int} (h : Lean l) : (abZ l).length = l.length - 1 := by
  rw [abZ_eq h]
  simp
@[simp] theorem edZ_len (f l : List Int) : (edZ f l).length = f.length - 1 := by simp [edZ]
end VS
/-! VZh: tables multiplied: sums of entries. Plain Lean; and rows of a table. -/
namespace VS
open PySem PySem.Spec PyProof.Rows L2
def smF (xss yss : List (List Int)) (k i j : Nat) : Int := (xss.getD j []).getD i 0 * (yss.getD k []).getD j 0
def smZ (xss yss : List (List Int)) (n m : Nat) : List (List Int) := (List.range m).map fun k => (List.range n).map fun i => sumR n (smF xss yss k i)
theorem smZ_succ (xss yss : List (List Int)) (n m : Nat) : smZ xss yss n (m + 1) = smZ xss yss n m ++ [(List.range n).map fun i => sumR n (smF xss yss m i)] := by
  unfold smZ
  rw [List.range_succ, List.map_append]
  rfl
theorem cp_pw {g l : Nat → Int} (h0 : g 0 = 0) : ∀ k i, cp (pw l k) g i = pw (cp l g) k i
  | 0, i => cp_const h0 i
  | k + 1, i => by
    show cp (cnv (pw l k) l) g i = cnv (pw (cp l g) k) (cp l g) i
    rw [cp_mul h0]
    exact cnv_congr (fun j _ => cp_pw h0 k j) fun _ _ => rfl
theorem pw_congr' {g g' : Nat → Int} {n : Nat} (h : ∀ i, i ≤ n → g i = g' i) (j : Nat) {i : Nat} (hi : i ≤ n) : pw g j i = pw g' j i := pw_congr (n := n + 1) (fun i hi => h i (by omega)) j i (by omega)
/-- the product's columns are the sums of entries -/
theorem smZ_mul {f1 l1 f2 l2 : List Int} {n : Nat} (n1 : f1.length = n) (n2 : l1.length = n) (n3 : f2.length = n) (n4 : l2.length = n) (h0 : l1.getD 0 0 = 0) :
    smZ (colsZ f1 l1 n) (colsZ f2 l2 n) n n = colsZ (prodZ f1 (putZ f2 l1)) (putZ l2 l1) n := by
  unfold smZ
  show _ = (List.range n).map (colZ (prodZ f1 (putZ f2 l1)) (putZ l2 l1))
  refine List.map_congr_left fun k hk => ?_
  have hk := List.mem_range.mp hk
  refine ext_getD (by simp [prodZ_len, n1]) fun i hi => ?_
  have hi : i < n := by simpa using hi
  rw [getD_range hi, colZ_at _ _ (by rw [prodZ_len, n1]; exact hi)]
  have e : ∀ j, j < n → smF (colsZ f1 l1 n) (colsZ f2 l2 n) k i j = cnv (fn f2) (pw (fn l2) k) j * cnv (fn f1) (pw (fn l1) j) i := fun j hj => by
    unfold smF
    rw [colsZ_at hj, colsZ_at hk, colZ_at _ _ (by omega), colZ_at _ _ (by omega), Int.mul_comm]
  rw [sumR_congr e, sumR_cut (m := i + 1) n (by omega) fun j h1 _ => by rw [cl_low (f := fn f1) (g := fn l1) h0 (show i < j by omega), Int.mul_zero], cols_cp h0]
  rw [cnv_congr (f' := fn f1) (g' := cnv (cp (fn f2) (fn l1)) (pw (cp (fn l2) (fn l1)) k)) (fun _ _ => rfl) fun j _ => by
    rw [cp_mul h0]
    exact cnv_congr (fun _ _ => rfl) fun m _ => cp_pw h0 k m, ← cnv_assoc]
  refine cnv_congr (fun j hj => ?_) fun j hj => ?_
  · show _ = (prodZ f1 (putZ f2 l1)).getD j 0
    rw [prodZ_at (by omega)]
    exact cnv_congr (fun _ _ => rfl) fun m hm => (putZ_at h0 (by omega)).symm
  · exact pw_congr' (n := i) (fun m hm => (putZ_at h0 (by omega)).symm) k hj
theorem putZ_lean {l1 l2 : List Int} (h1 : Lean l1) (h2 : Lean l2) (hn : l2.length = l1.length) : Lean (putZ l2 l1) := by
  obtain ⟨a1, a2, a3⟩ := h1
  obtain ⟨b1, b2, b3⟩ := h2
  refine ⟨by rw [putZ_len]; exact b1, ?_, ?_⟩
  · rw [putZ_at a2 (by omega), cp_zero a2]; exact b2
  · rw [putZ_at a2 (by omega), cp_eq a2, cnv_last, cnv_zero, cp_zero a2]
    show fn l2 0 * one' 1 + (fn l1 0 * _ + fn l1 1 * sh (fn l2) 0) = 1
    rw [show fn l1 0 = 0 from a2, show fn l1 1 = 1 from a3, show sh (fn l2) 0 = 1 from b3, show one' 1 = 0 from rfl, Int.mul_zero, Int.zero_mul]
    rfl
theorem mul_first {f1 l1 f2 : List Int} (h1 : 1 ≤ f1.length) (h2 : 1 ≤ f2.length) (h0 : l1.getD 0 0 = 0) (u1 : f1.getD 0 0 = 1) (u2 : f2.getD 0 0 = 1) : (prodZ f1 (putZ f2 l1)).getD 0 0 = 1 := by
  rw [prodZ_at (by omega), cnv_zero]
  show f1.getD 0 0 * (putZ f2 l1).getD 0 0 = 1
  rw [putZ_at h0 (by omega), cp_zero h0, u1]
  show 1 * f2.getD 0 0 = 1
  rw [u2]
  rfl
/-! the table back -/
def bfZ (f l : List Int) : List Int := quoZ (unitZ f.length) (putZ f (rvZ l))
@[simp] theorem bfZ_len {f l : List Int} (h : 1 ≤ f.length) : (bfZ f l).length = f.length := by unfold bfZ; rw [quoZ_len, unitZ_len h]
section
variable {f l : List Int} (h : f.length = l.length) (hl : Lean l) (hf : f.getD 0 0 = 1)
include h hl hf
theorem put_first : (putZ f (rvZ l)).getD 0 0 = 1 := by
  have h1 := hl.1
  have hv := rvZ_lean hl
  rw [putZ_at hv.2.1 (by omega), cp_zero hv.2.1]
  exact hf
theorem bfZ_first : (bfZ f l).getD 0 0 = 1 := by
  have h1 := hl.1
  have lu := unitZ_len (n := f.length) (by omega)
  unfold bfZ
  rw [quoZ_qs (f := one') (g := fn (putZ f (rvZ l))) (fun i _ => unitZ_at _ i) (fun _ _ => rfl) (by rw [lu]; omega), qs_eq]
  rfl
/-- the table times its back -/
theorem mul_back : prodZ f (putZ (bfZ f l) l) = unitZ f.length := by
  have h1 := hl.1
  have lu := unitZ_len (n := f.length) (by omega)
  have hv := rvZ_lean hl
  have z := rv_zero (f := fn l) hl.2.1
  have e0 : cp (fn f) (rv (fn l)) 0 = 1 := by rw [cp_zero z]; exact hf
  refine ext_getD (by rw [prodZ_len, lu]) fun k hk => ?_
  rw [prodZ_len] at hk
  rw [prodZ_at hk, unitZ_at]
  have eb : ∀ i, i < f.length → (bfZ f l).getD i 0 = qs one' (cp (fn f) (rv (fn l))) i := fun i hi => by
    unfold bfZ
    exact quoZ_qs (fun i _ => unitZ_at _ i) (fun i hi => by
      rw [lu] at hi
      show (putZ f (rvZ l)).getD i 0 = _
      rw [putZ_at hv.2.1 hi]
      exact cp_congr hv.2.1 z i (fun _ _ => rfl) fun j hj => rvZ_at (by omega)) (by rw [lu]; exact hi)
  have e1 : ∀ i, cp (cp (fn f) (rv (fn l))) (fn l) i = fn f i := fun i => by
    rw [cp_assoc z hl.2.1, cp_congr (f' := fn f) (g' := X') (by rw [cp_zero hl.2.1, z]) rfl i (fun _ _ => rfl) fun j _ => rv_cp hl.2.1 hl.2.2 j, cp_id]
  rw [cnv_congr (f := fun i => f.getD i 0) (f' := cp (cp (fn f) (rv (fn l))) (fn l)) (g' := cp (qs one' (cp (fn f) (rv (fn l)))) (fn l)) (fun i _ => (e1 i).symm) fun i hi => by
    show (putZ (bfZ f l) l).getD i 0 = _
    rw [putZ_at hl.2.1 (by rw [bfZ_len (by omega)]; omega)]
    exact cp_congr hl.2.1 hl.2.1 i (fun j hj => eb j (by omega)) fun _ _ => rfl, cnv_comm, ← cp_mul hl.2.1, cp_congr (f := cnv (qs one' (cp (fn f) (rv (fn l)))) (cp (fn f) (rv (fn l)))) (f' := one') hl.2.1 hl.2.1 k (fun j _ => qs_mul e0 j) fun _ _ => rfl, cp_const hl.2.1]
theorem back_mul : prodZ (bfZ f l) (putZ f (rvZ l)) = unitZ f.length := quo_prod (put_first h hl hf)
end
/-! rows -/
def roZ (f l : List Int) : List (List Int) := (List.range f.length).map fun i => (List.range (i + 1)).map fun k => (colZ f l k).getD i 0
def paZ (f l : List Int) : List (List Int) := (List.range f.length).map fun i => ((List.range (i + 1)).map fun k => (colZ f l k).getD i 0) ++ List.replicate (f.length - (i + 1)) 0
theorem paZ_at {f l : List Int} (hl : Lean l) {i k : Nat} (hi : i < f.length) : ((paZ f l).getD i []).getD k 0 = if k < f.length then (colZ f l k).getD i 0 else 0 := by
  have e : (paZ f l).getD i [] = ((List.range (i + 1)).map fun k => (colZ f l k).getD i 0) ++ List.replicate (f.length - (i + 1)) 0 := by
    unfold paZ
    rw [List.getD_eq_getElem?_getD, List.getElem?_map, List.getElem?_range hi]
    rfl
  rw [e, getD_pad]
  by_cases hk : k < i + 1
  · rw [getD_range hk, if_pos (by omega)]
  · rw [List.getD_eq_getElem?_getD, List.getElem?_eq_none (by simp; omega)]
    show (0 : Int) = _
    split
    · rw [colZ_at _ _ hi, cl_low hl.2.1 (by omega)]
    · rfl
def utZ (n : Nat) : List (List Int) := (List.range n).map fun k : Nat => (List.range n).map fun i : Nat => if (i : Int) = (k : Int) then (1 : Int) else 0
theorem utZ_eq {n : Nat} (h : 1 ≤ n) : utZ n = colsZ (unitZ n) (plZ n) n := by
  have lu := unitZ_len (n := n) h
  unfold utZ
  show _ = (List.range n).map (colZ (unitZ n) (plZ n))
  refine List.map_congr_left fun k hk => ?_
  refine ext_getD (by simp [lu]) fun i hi => ?_
  have hi : i < n := by simpa using hi
  rw [getD_range hi, col_plain lu hi]
  by_cases hki : k ≤ i
  · rw [if_pos hki, unitZ_at]
    unfold one'
    by_cases he : i = k
    · rw [if_pos (by omega), if_pos (by omega)]
    · rw [if_neg (by omega), if_neg (by omega)]
  · rw [if_neg hki, if_neg (by omega)]
end VS
/-! VZi: lists of lists: cut, walked, of one's own; len of own instances. -/
namespace VS
open PySem PySem.Spec PyProof.Rows L2
section
variable {Γ : Ev} {s s1 : Sl} {k k' : Kl} {xss yss : List (List Int)} {i j : Nat} {a : Int} {fx : List Nat} {t u : T}
theorem lenO {F : Fn} {c : Str} {ds : List D} {qs : List T} {n : Int} (h : Γ.sps "__len__" c = some F) (hF : F [.leaf (.obj c ds)] = .ret (.leaf (.int n)) qs) (ok : okLen (.int n) = true) : finBI Γ .len [.vl (.leaf (.obj c ds))] s = .ok (.vl (.leaf (.int n))) s := by
  simp only [finBI, finIf, snapOps, snapOp, frz_leaf, isOwn1, if_true, finP, bOwn, h, hF, ok]
  simp [S0.toD]
def nnT (xss : List (List Int)) : T := .node (xss.map (seqT .n))
theorem nn_frzs (xss : List (List Int)) : (xss.map (seqT .n)).map frz = dL xss := by
  rw [List.map_map]
  exact List.map_congr_left fun xs _ => frz_seqT .n xs
theorem nn_frz (xss : List (List Int)) : frz (nnT xss) = lD xss := by
  unfold nnT lD
  rw [frz_node, nn_frzs]
theorem LL.nn : LL (nnT xss) xss := by
  refine ⟨_, rfl, ?_, nn_frzs xss⟩
  cases xss with
  | nil => rfl
  | cons x xs =>
    unfold soft1
    dsimp only
    rw [if_neg (by rw [List.map_cons, List.all_cons, show isLeaf (seqT .n x) = false from rfl, Bool.false_and]; exact Bool.false_ne_true)]
    unfold LT
    congr 1
    rw [List.map_map]
    exact List.map_congr_left fun xs _ => congrArg T.leaf (frz_seqT .n xs)
theorem app_nn {f : Sl → Out Op} {p : List Int} (h0 : s[i]? = some (.tr (nnT xss))) (he : f s = .ok (.vl (seqT .n p)) s1) (h1 : s1[i]? = some (.tr (nnT xss))) (hl : xss.length < sizeLine) :
    evApp i f s = .ok (.vl (.leaf .non)) (s1.set i (.tr (nnT (xss ++ [p])))) := by
  unfold evApp
  rw [atT h0]
  unfold nnT
  dsimp only
  rw [he]
  dsimp only [settle1]
  rw [atT h1]
  unfold nnT
  dsimp only
  rw [if_pos (by rw [List.length_map]; exact hl), List.map_append]
  rfl
theorem nn_rng {n : Nat} {f : Nat → List Int} : T.node ((List.range n).map fun k => seqT .n (f k)) = nnT ((List.range n).map f) := by
  unfold nnT
  rw [List.map_map]
  rfl
/-- walking over a list of lists that is a value -/
theorem seqLV (h : LL t xss) : seqK (.vl t) s = .ok ⟨dL xss, []⟩ s := by
  obtain ⟨ts, rfl, _, e⟩ := h
  unfold seqK iterSrc
  dsimp only
  rw [e]
theorem seqLL {t : T} (hL : LL t xss) (h : s[j]? = some (.tr t)) : seqK (.rt j) s = .ok ⟨dL xss, [(j, LT .s xss)]⟩ (s.set j (.tr (LT .s xss))) := by
  obtain ⟨ts, rfl, e, e2⟩ := hL
  have hl := (List.getElem?_eq_some_iff.mp h).1
  have hs : soft s (.rt j) = s.set j (.tr (LT .s xss)) := by rw [soft_at h, e]
  have ha : treeAt (s.set j (.tr (LT .s xss))) j = some (LT .s xss) := atT (List.getElem?_set_self hl)
  unfold seqK iterSrc
  dsimp only
  rw [hs, ha]
  show Out.ok _ _ = _
  rw [map_frz_l]
  rfl
theorem dL_get {m : Nat} (h : m < (dL xss).length) : T.leaf (dL xss)[m] = seqT .l (xss.getD m []) := by
  have h2 : m < xss.length := by simpa using h
  rw [List.getElem_map, List.getD_eq_getElem?_getD, List.getElem?_eq_getElem h2]
  rfl
theorem lc_LL {a : Nat} {e : Ex} {w : Wx} {vs : List Nat} (hw : evW Γ w s = .ok ⟨dL xss, [(j, LT .s xss)]⟩ s1) (hf : Walked.free ⟨dL xss, [(j, LT .s xss)]⟩ vs = true) (st : Nat → Sl) (h0 : wipeS s1 vs = st 0) (t : Nat → T) (hl : xss.length ≤ 1000000)
    (hsrc : ∀ m, m ≤ xss.length → (st m)[j]? = some (.tr (LT .s xss))) (hs : ∀ m, m < xss.length → ∃ s1 s2, bindP (.nm a) (seqT .l (xss.getD m [])) (st m) = some s1 ∧ evX Γ e s1 = .ok (.vl (t m)) s2 ∧ wipeS s2 vs = st (m + 1)) :
    evX Γ (.lc w (.nm a) none e vs) s = .ok (.vl (.node ((List.range xss.length).map t))) (restS s1 (st xss.length) vs) := by
  have hlen : (dL xss).length = xss.length := by simp
  have := lc_run (e := e) (p := .nm a) hw hf st h0 t (by rw [hlen]; exact sz hl) (fun m hm => srcB_one (atT (hsrc m (by rwa [hlen] at hm)))) fun m hm => by
    rw [dL_get]
    exact hs m (by rwa [hlen] at hm)
  rwa [hlen] at this
theorem lc_LV {a : Nat} {e : Ex} {w : Wx} {vs : List Nat} (hw : evW Γ w s = .ok ⟨dL xss, []⟩ s1) (st : Nat → Sl) (h0 : wipeS s1 vs = st 0) (t : Nat → T) (hl : xss.length ≤ 1000000)
    (hs : ∀ m, m < xss.length → ∃ s1 s2, bindP (.nm a) (seqT .l (xss.getD m [])) (st m) = some s1 ∧ evX Γ e s1 = .ok (.vl (t m)) s2 ∧ wipeS s2 vs = st (m + 1)) :
    evX Γ (.lc w (.nm a) none e vs) s = .ok (.vl (.node ((List.range xss.length).map t))) (restS s1 (st xss.length) vs) := by
  have hlen : (dL xss).length = xss.length := by simp
  have := lc_run (e := e) (p := .nm a) hw rfl st h0 t (by rw [hlen]; exact sz hl) (fun m hm => rfl) fun m hm => by
    rw [dL_get]
    exact hs m (by rwa [hlen] at hm)
  rwa [hlen] at this
/-- columns[:n] -/
theorem cutLL (hL : LL t xss) (h : s[j]? = some (.tr t)) (h0 : 0 ≤ a) : finS (qCut false true) [.rt j, .vl (.leaf (.int a))] s = .ok (.vl (LT .s (xss.take a.toNat))) (s.set j (.tr (LT .s xss))) := by
  obtain ⟨n, rfl⟩ := Int.eq_ofNat_of_zero_le h0
  have hsn := (snap_rt h).trans (by rw [hL.frz] : some (VS.frz t) = some (lD xss))
  obtain ⟨ts, rfl, e, _⟩ := hL
  have hs : snapOps s [.rt j, .vl (.leaf (.int (n : Int)))] = some [.lst (dL xss), .int (n : Int)] := by
    unfold snapOps snapOps snapOps
    rw [hsn]
    rfl
  have hq : qCut false true [.lst (dL xss), .int (n : Int)] = .lst (dL (xss.take n)) := by
    show SQ.lst (cutD (dL xss) none (some (n : Int))) = _
    rw [cutD_nat]
    simp
  have hf : softs s [.rt j, .vl (.leaf (.int (n : Int)))] = s.set j (.tr (LT .s xss)) := by
    show soft s (.rt j) = _
    rw [soft_at h, e]
  simp only [finS, hs, hq, hf, Int.toNat_natCast]
  unfold LT
  congr 2
  rw [List.map_map]
  rfl
def gs (j : Nat) (t : T) (xss : List (List Int)) : T := if j = 0 then t else LT .s xss
theorem gs_LL (h : LL t xss) : LL (gs j t xss) xss := by
  unfold gs
  split
  · exact h
  · exact LL.own
theorem take_atL {m n : Nat} (h : m < n) : (xss.take n).getD m [] = xss.getD m [] := by
  rw [List.getD_eq_getElem?_getD, List.getElem?_take_of_lt h, ← List.getD_eq_getElem?_getD]
end
end VS
/-! VZj: tables by rules: what by_rule makes; == of lists and tuples of own instances; tuples of noughts. -/
namespace VS
open PySem PySem.Spec PyProof.Rows L2

/-! ### the mathematics of by_rule -/
theorem quo_quo {x : List Int} {n : Nat} (hn : x.length = n) (h1 : 1 ≤ n) (hx : x.getD 0 0 = 1) : quoZ (unitZ n) (quoZ (unitZ n) x) = x := by
  have lu := unitZ_len h1
  have ly : (quoZ (unitZ n) x).length = n := by rw [quoZ_len, lu]
  have hy : (quoZ (unitZ n) x).getD 0 0 = 1 := by
    unfold quoZ
    rw [quoN_at (by omega), sumR_zero, Int.sub_zero, unitZ_at]
    rfl
  have p1 := quo_prod (xs := unitZ n) (ys := x) hx
  have p2 := quo_prod (xs := unitZ n) (ys := quoZ (unitZ n) x) hy
  have lz : (quoZ (unitZ n) (quoZ (unitZ n) x)).length = n := by rw [quoZ_len, lu]
  generalize quoZ (unitZ n) x = y at *
  generalize quoZ (unitZ n) y = z at *
  have e : prodZ (prodZ z y) x = prodZ z (prodZ y x) := prodZ_assoc (by omega)
  rw [p1, p2, prodZ_one (by omega), prod_unit lz h1] at e
  exact e.symm
theorem put_undo {e L B : List Int} {u v : Nat → Int} {n : Nat} (he : e.length = n) (h0 : L.getD 0 0 = 0) (h0' : B.getD 0 0 = 0) (hu : u 0 = 0) (hv : v 0 = 0) (hL : ∀ i, i < n → fn L i = u i) (hB : ∀ i, i < n → fn B i = v i) (h : ∀ i, cp u v i = X' i) :
    putZ (putZ e L) B = e := by
  refine ext_getD (by simp) fun k hk => ?_
  have hk1 : k < n := by simpa [he] using hk
  rw [putZ_at h0' (by simp; omega)]
  have e1 : cp (fn (putZ e L)) (fn B) k = cp (cp (fn e) (fn L)) (fn B) k := cp_congr h0' h0' k (fun i hi => putZ_at h0 (by omega)) fun _ _ => rfl
  rw [e1, cp_assoc h0 h0']
  have e2 : cp (fn e) (cp (fn L) (fn B)) k = cp (fn e) X' k := by
    refine cp_congr (g' := X') ?_ (show X' 0 = 0 from rfl) k (fun _ _ => rfl) fun i hi => ?_
    · rw [cp_zero h0']; exact h0
    · rw [cp_congr (g := fn B) (g' := v) (f := fn L) (f' := u) h0' hv i (fun j hj => hL j (by omega)) fun j hj => hB j (by omega)]
      exact h i
  rw [e2, cp_id]
  rfl
/-- what by_rule makes -/
def blZ (a : List Int) : List Int := 0 :: quoZ (unitZ a.length) a
def brL (a : List Int) : List Int := rvZ (blZ a)
def brP (a e : List Int) : List Int := 1 :: (List.range e.length).map fun k => 0 - (putZ e (brL a).dropLast).getD k 0
def brF (a e : List Int) : List Int := quoZ (unitZ (a.length + 1)) (brP a e)
theorem quo_first {x : List Int} {n : Nat} (h1 : 1 ≤ n) : (quoZ (unitZ n) x).getD 0 0 = 1 := by
  unfold quoZ
  rw [quoN_at (by rw [unitZ_len h1]; omega), sumR_zero, Int.sub_zero, unitZ_at]
  rfl
section
variable {a e : List Int}
theorem blZ_len (h1 : 1 ≤ a.length) : (blZ a).length = a.length + 1 := by simp [blZ, unitZ_len h1]
theorem blZ_lean (h1 : 1 ≤ a.length) : Lean (blZ a) := ⟨by rw [blZ_len h1]; omega, rfl, quo_first h1⟩
theorem brL_len (h1 : 1 ≤ a.length) : (brL a).length = a.length + 1 := by simp [brL, blZ_len h1]
theorem brL_lean (h1 : 1 ≤ a.length) : Lean (brL a) := rvZ_lean (blZ_lean h1)
theorem brP_len : (brP a e).length = e.length + 1 := by simp [brP]
theorem brF_len : (brF a e).length = a.length + 1 := by simp [brF, unitZ_len (n := a.length + 1) (by omega)]
theorem brF_first : (brF a e).getD 0 0 = 1 := quo_first (by omega)
theorem rv_brL (h1 : 1 ≤ a.length) : rvZ (brL a) = blZ a := rvZ_rvZ (blZ_lean h1)
/-- the rule of the made table -/
theorem ab_br (h1 : 1 ≤ a.length) (ha : a.getD 0 0 = 1) : abZ (brL a) = a := by
  unfold abZ
  rw [rv_brL h1, brL_len h1]
  show quoZ (unitZ (a.length + 1 - 1)) (quoZ (unitZ a.length) a) = a
  rw [Nat.add_sub_cancel]
  exact quo_quo rfl h1 ha
theorem quo_brF (h1 : 1 ≤ a.length) (he : e.length = a.length) : quoZ (unitZ (brF a e).length) (brF a e) = brP a e := by
  rw [brF_len]
  exact quo_quo (by rw [brP_len, he]) (by omega) rfl
theorem ed_br (h1 : 1 ≤ a.length) (he : e.length = a.length) : edZ (brF a e) (brL a) = e := by
  have hb := blZ_lean h1
  have lb := blZ_len h1
  have hl := brL_lean h1
  have ll := brL_len h1
  unfold edZ
  rw [rv_brL h1]
  have en : ngZ (brF a e) = putZ e (brL a).dropLast := by
    unfold ngZ
    rw [quo_brF h1 he, brF_len, Nat.add_sub_cancel]
    refine ext_getD (by simp [he]) fun k hk => ?_
    have hk1 : k < a.length := by simpa using hk
    rw [getD_range (by omega)]
    unfold brP
    rw [List.drop_one, List.tail_cons, getD_range (by omega)]
    omega
  rw [en]
  refine put_undo (n := a.length) (u := rv (fn (blZ a))) (v := fn (blZ a)) he ?_ ?_ (rv_zero hb.2.1) hb.2.1 (fun i hi => ?_) (fun i hi => dropLast_at (by omega)) fun i => rv_cp (f := fn (blZ a)) hb.2.1 hb.2.2 i
  · rw [dropLast_at (by omega)]; exact hl.2.1
  · rw [dropLast_at (by omega)]; exact hb.2.1
  · show (brL a).dropLast.getD i 0 = _
    rw [dropLast_at (by omega)]
    exact rvZ_at (by omega)
end
/-! by_rule of a table's rule is the table -/
section
variable {f l : List Int}
theorem bl_ab (hl : Lean l) : blZ (abZ l) = rvZ l := by
  have hv := rvZ_lean hl
  have lv := rvZ_len l
  have l1 := hl.1
  unfold blZ
  rw [abZ_len hl]
  unfold abZ
  rw [quo_quo (by rw [List.length_drop]; omega) (by omega) (by rw [drop_at]; exact hv.2.2)]
  refine ext_getD (by rw [List.length_cons, List.length_drop]; omega) fun k hk => ?_
  cases k with
  | zero => exact hv.2.1.symm
  | succ k =>
    rw [List.getD_cons_succ, drop_at, Nat.add_comm]
theorem br_ab (hl : Lean l) : brL (abZ l) = l := by
  unfold brL
  rw [bl_ab hl, rvZ_rvZ hl]
theorem brP_ed (hl : Lean l) (hn : f.length = l.length) (hf : f.getD 0 0 = 1) : brP (abZ l) (edZ f l) = quoZ (unitZ f.length) f := by
  have l1 := hl.1
  have hv := rvZ_lean hl
  have lv := rvZ_len l
  have u : putZ (edZ f l) l.dropLast = ngZ f := by
    unfold edZ
    refine put_undo (n := f.length - 1) (u := rv (fn l)) (v := fn l) (ngZ_len f) ?_ ?_ (rv_zero hl.2.1) hl.2.1 (fun i hi => ?_) (fun i hi => dropLast_at (by omega)) fun i => rv_cp (f := fn l) hl.2.1 hl.2.2 i
    · rw [dropLast_at (by omega)]; exact hv.2.1
    · rw [dropLast_at (by omega)]; exact hl.2.1
    · show (rvZ l).dropLast.getD i 0 = _
      rw [dropLast_at (by omega)]
      exact rvZ_at (by omega)
  unfold brP
  rw [br_ab hl, u]
  refine ext_getD (by simp [edZ_len, unitZ_len (n := f.length) (by omega)]; omega) fun k hk => ?_
  cases k with
  | zero => exact (quo_first (by omega)).symm
  | succ k =>
    have hk1 : k < f.length - 1 := by simpa [edZ_len] using hk
    rw [List.getD_cons_succ, getD_range (by rw [edZ_len]; exact hk1)]
    unfold ngZ
    rw [getD_range hk1, drop_at, Nat.add_comm 1 k]
    omega
theorem brF_ed (hl : Lean l) (hn : f.length = l.length) (hf : f.getD 0 0 = 1) : brF (abZ l) (edZ f l) = f := by
  have l1 := hl.1
  unfold brF
  rw [brP_ed hl hn hf, abZ_len hl, show l.length - 1 + 1 = f.length by omega]
  exact quo_quo rfl (by omega) hf
end
/-! ### bounds -/
theorem quoU_bs {x : List Int} {n b : Nat} (hn : n ≤ 12) (h1 : 1 ≤ n) (b1 : Bs x b) : Bs (quoZ (unitZ n) x) (1 + 12 * (b + 5)) := quoZ_bs (unitZ_bs n) b1 (by rw [unitZ_len h1]; exact hn)
theorem blZ_bs {a : List Int} {b : Nat} (h1 : 1 ≤ a.length) (h2 : a.length ≤ 12) (b1 : Bs a b) : Bs (blZ a) (1 + 12 * (b + 5)) := fun x hx => by
  unfold blZ at hx
  rcases List.mem_cons.mp hx with rfl | h
  · exact Nat.two_pow_pos _
  · exact quoU_bs h2 h1 b1 x h
theorem rvZ_grow {xs : List Int} {b : Nat} (h : Lean xs) (hl : xs.length ≤ 12) (hb : Bs xs b) : Bs (rvZ xs) (11 * (b + 8) + 1) := bs_of fun k hk => by
  rw [rvZ_len] at hk
  rw [rvZ_at hk]
  have hf : ∀ i, (fn xs i).natAbs ≤ 2 ^ b := fun i => Nat.le_of_lt (hb.at_ i)
  rcases Nat.eq_zero_or_pos k with rfl | h0
  · rw [rv_zero h.2.1]
    exact Nat.two_pow_pos _
  · have q := rv_grow h.2.1 h.2.2 hf k h0 (by omega)
    refine Nat.lt_of_le_of_lt q (Nat.pow_lt_pow_right (by omega) ?_)
    have : (b + 8) * (k - 1) ≤ (b + 8) * 11 := Nat.mul_le_mul_left _ (by omega)
    omega
theorem brL_bs {a : List Int} (h1 : 1 ≤ a.length) (h2 : a.length ≤ 11) (b1 : Bs a 35) : Bs (brL a) 5380 :=
  (rvZ_grow (blZ_lean h1) (by rw [blZ_len h1]; omega) (blZ_bs h1 (by omega) b1)).mono (by omega)
theorem put_bs {xs ys : List Int} {a b : Nat} (ha : Bs xs a) (hb : Bs ys b) (hl : xs.length ≤ 12) : Bs (putZ xs ys) (a + 12 * (b + 5)) := by
  have q := hrn_bs ha hb hl xs.length (Nat.le_refl _)
  rw [hrn_last] at q
  refine q.mono ?_
  have := Nat.mul_le_mul_right (b + 5) hl
  omega
theorem brP_bs {a e : List Int} {b c : Nat} (he : e.length ≤ 12) (b1 : Bs (brL a) b) (b2 : Bs e c) : Bs (brP a e) (c + 12 * (b + 5)) := fun x hx => by
  unfold brP at hx
  rcases List.mem_cons.mp hx with rfl | h
  · exact Nat.one_lt_two_pow (by omega)
  · obtain ⟨k, hk, rfl⟩ := List.mem_map.mp h
    rw [Int.zero_sub, Int.natAbs_neg]
    have bd : Bs (brL a).dropLast b := fun x hx => b1 x (by
      rw [List.dropLast_eq_take] at hx
      exact List.mem_of_mem_take hx)
    exact (put_bs b2 bd he).at_ k
theorem brF_bs {a e : List Int} {b : Nat} (ha : a.length ≤ 11) (b1 : Bs (brP a e) b) : Bs (brF a e) (1 + 12 * (b + 5)) := quoU_bs (by omega) (by omega) b1
/-! ### the rows that a rule makes -/
def rowN (f l : List Int) (i : Nat) : List Int := (List.range (i + 1)).map fun k => (colZ f l k).getD i 0
@[simp] theorem rowN_len (f l : List Int) (i : Nat) : (rowN f l i).length = i + 1 := by simp [rowN]
theorem rowN_at {f l : List Int} {i k : Nat} (h : k ≤ i) : (rowN f l i).getD k 0 = (colZ f l k).getD i 0 := getD_range (by omega)
theorem roZ_rowN (f l : List Int) : roZ f l = (List.range f.length).map (rowN f l) := rfl
theorem rowN_zero {f l : List Int} (hf : f.getD 0 0 = 1) : rowN f l 0 = [1] := by
  show [(colZ f l 0).getD 0 0] = [1]
  rw [show (colZ f l 0).getD 0 0 = f.getD 0 0 from rfl, hf]
theorem rowN_next {f l : List Int} {i : Nat} (h : f.length = l.length) (hl : Lean l) (hf : f.getD 0 0 = 1) (hi : i + 1 < f.length) :
    rowN f l (i + 1) = (sumR (i + 1) fun j => (edZ f l).getD j 0 * (rowN f l i).getD j 0) :: (List.range (i + 1)).map fun k => sumR (i + 1 - k) fun j => (abZ l).getD j 0 * (rowN f l i).getD (k + j) 0 := by
  unfold rowN
  rw [List.range_succ_eq_map, List.map_cons, List.map_map]
  congr 1
  · rw [cols_edge h hl hf (by omega)]
    exact sumR_congr fun j hj => by rw [getD_range (by omega)]
  · refine List.map_congr_left fun k hk => ?_
    rw [List.mem_range] at hk
    show (colZ f l (k + 1)).getD (i + 1) 0 = _
    rw [cols_above h hl hf (by omega) (by omega)]
    exact sumR_congr fun j hj => by rw [getD_range (by omega)]
/-! ### == of lists and tuples of own instances -/
section
variable {Γ : Ev} {s : Sl} {ops : List Op} {ds es : List D}
theorem eqM_L (hs : snapOps s ops = some [.lst ds, .lst es]) (ho : isObj1 ds = true) (hm : eqMems Γ.isi (Γ.sps (Str.ofString "__eq__")) ds es = true) : finC Γ .eq ops s = .ok (.vl (.leaf (.bl true))) s := by
  simp only [finC, finIf, hs, isOwn1, isM1, ho, Bool.false_eq_true, if_false, if_true, finP, bEqM, hm]
  rfl
theorem neM_L (hs : snapOps s ops = some [.lst ds, .lst es]) (ho : isObj1 ds = true) (hm : eqMems Γ.isi (Γ.sps (Str.ofString "__eq__")) ds es = true) : finC Γ .ne ops s = .ok (.vl (.leaf (.bl false))) s := by
  simp only [finC, finIf, hs, isOwn1, isM1, ho, Bool.false_eq_true, if_false, if_true, finP, bEqM, hm]
  rfl
theorem eqM_T (hs : snapOps s ops = some [.tup ds, .tup es]) (ho : isObj1 ds = true) (hm : eqMems Γ.isi (Γ.sps (Str.ofString "__eq__")) ds es = true) : finC Γ .eq ops s = .ok (.vl (.leaf (.bl true))) s := by
  simp only [finC, finIf, hs, isOwn1, isM1, ho, Bool.false_eq_true, if_false, if_true, finP, bEqM, hm]
  rfl
theorem neM_T (hs : snapOps s ops = some [.tup ds, .tup es]) (ho : isObj1 ds = true) (hm : eqMems Γ.isi (Γ.sps (Str.ofString "__eq__")) ds es = true) : finC Γ .ne ops s = .ok (.vl (.leaf (.bl false))) s := by
  simp only [finC, finIf, hs, isOwn1, isM1, ho, Bool.false_eq_true, if_false, if_true, finP, bEqM, hm]
  rfl
theorem eqMems_cons {T : CK → CK → Option Bool} {E : Str → Option Fn} {d e : D} (h1 : eqMem T E d e = true) (h2 : eqMems T E ds es = true) : eqMems T E (d :: ds) (e :: es) = true := by
  unfold eqMems
  rw [h1, h2]
  rfl
theorem eqMem_obj {T : CK → CK → Option Bool} {E : Str → Option Fn} {c : Str} {xs ys : List D} {F : Fn} {qs : List VS.T} (hE : E c = some F) (ht : T (.inr c) (.inr c) = some true) (hF : F [.leaf (.obj c xs), .leaf (.obj c ys)] = .ret (.leaf (.bl true)) qs) : eqMem T E (.obj c xs) (.obj c ys) = true := by
  simp only [eqMem, hE, ht, hF]
  simp
/-! tuples of noughts and the like -/
theorem r_mulT {a n : Int} (h0 : -1000 ≤ n) (h1 : n ≤ 1000) : finB .mul [.vl (seqT .t [a]), .vl (.leaf (.int n))] s = .ok (.vl (seqT .t (List.replicate n.toNat a))) s := by
  have hc : ([D.int a] ≠ [] ∧ [D.int a].length ≤ 1000 ∧ -1000 ≤ n ∧ n ≤ 1000) := ⟨by simp, by simp, h0, h1⟩
  simp only [finB, finIf, snapOps, snapOp, frz_seqT, frz_leaf, seqD, List.map_cons, List.map_nil, isTI, if_true, finS, qRepT]
  rw [if_pos hc]
  simp only [softs, soft_vl, rep_flat]
  rw [show List.replicate n.toNat (D.int a) = dI (List.replicate n.toNat a) by simp]
  rfl
/-- a slot's list of numbers appended to a slot's list of lists -/
theorem appLs {f : Sl → Out Op} {s1 : Sl} {i j : Nat} {p : List Int} {xss : List (List Int)} (h0 : ∃ ts, treeAt s i = some (.node ts)) (he : f s = .ok (.rt j) s1) (hp : s1[j]? = some (.tr (seqT .n p))) (h1 : s1[i]? = some (.tr (LT .s xss))) (hij : j ≠ i) (hl : xss.length < sizeLine) :
    evApp i f s = .ok (.vl (.leaf .non)) ((s1.set j (.tr (seqT .l p))).set i (.tr (LT .s (xss ++ [p])))) := by
  obtain ⟨ts, h0⟩ := h0
  unfold evApp
  rw [h0]
  dsimp only
  rw [he]
  dsimp only [settle1]
  rw [atT hp, hp]
  dsimp only [frzSV]
  rw [frz_seqT]
  have h2 : (s1.set j (.tr (.leaf (seqD .n p))))[i]? = some (.tr (LT .s xss)) := by rw [List.getElem?_set_ne hij]; exact h1
  rw [atT h2]
  unfold LT
  dsimp only
  rw [if_pos (by rw [List.length_map]; exact hl), List.map_append]
  rfl
/-- items of a slot's list of frozen things -/
theorem snap_node {j : Nat} (h : s[j]? = some (.tr (.node (ds.map .leaf)))) : snapOp s (.rt j) = some (.lst ds) := by
  rw [snap_rt h, frz_node, List.map_map]
  congr 2
  exact (List.map_congr_left fun d _ => frz_leaf d).trans (List.map_id ds)
theorem soft_node (ds : List D) : soft1 (.node (ds.map .leaf)) = .node (ds.map .leaf) := by
  unfold soft1
  dsimp only
  rw [if_pos]
  rw [List.all_map]
  exact List.all_eq_true.mpr fun d _ => rfl
theorem ix_node {j : Nat} {a : Int} {d : D} (h : s[j]? = some (.tr (.node (ds.map .leaf)))) (hd : atI ds a = some d) : finS qIx [.rt j, .vl (.leaf (.int a))] s = .ok (.vl (.leaf d)) s := by
  have hs : snapOps s [.rt j, .vl (.leaf (.int a))] = some [.lst ds, .int a] := by
    unfold snapOps snapOps snapOps
    rw [snap_node h]
    rfl
  simp only [finS, hs, qIx, hd, softs, soft_vl]
  rw [soft_at h, soft_node, set_same h]
theorem snap_nodeV (ds : List D) : snapOp s (.vl (.node (ds.map .leaf))) = some (.lst ds) := by
  rw [snap_vl, frz_node, List.map_map]
  congr 2
  exact (List.map_congr_left fun d _ => frz_leaf d).trans (List.map_id ds)
end
end VS
namespace Lk21
open PySem PySem.Spec PyProof.Rows L2 VS
def fldL : List (Str × List (Str × Nat)) := [("numbers", [("Row", 0)]), ("first", [("Table", 0)]), ("lean", [("Table", 1)])]
def ownL : List Str := ["Row", "Table"]
@[simp] theorem fl_numbers_Row : fldO fldL "numbers" "Row" = some 0 := rfl
@[simp] theorem fl_first_Table : fldO fldL "first" "Table" = some 0 := rfl
@[simp] theorem fl_lean_Table : fldO fldL "lean" "Table" = some 1 := rfl
def E_law_mixed : Ev := ⟨calls [], methsL [], fldO fldL, isiO ownL, spsL []⟩
def d_law_mixed : Df := ⟨2, 3, [0, 1],
    [(.asg (.nm 2) (.bin .mod (.bin .add (.bin .add (.bin .mul (.bin .mod (.nm 0) (.k (.int 2147483647))) (.k (.int 48271))) (.bin .mul (.nm 1) (.k (.int 69621)))) (.k (.int 1048583))) (.k (.int 2147483629)))),
    (.asg (.nm 2) (.bin .mod (.bin .mul (.nm 2) (.nm 2)) (.k (.int 2147483587)))),
    (.ret (.bin .mod (.bin .mul (.nm 2) (.bin .add (.nm 2) (.k (.int 2)))) (.k (.int 2147483579))))]⟩
def F_law_mixed : Fn := d_law_mixed.run E_law_mixed
@[simp] theorem Ei_law_mixed : E_law_mixed.isi = isiO ownL := rfl
@[simp] theorem Ef_law_mixed : E_law_mixed.flds = fldO fldL := rfl
def E_Row_len : Ev := ⟨calls [], methsL [], fldO fldL, isiO ownL, spsL []⟩
def d_Row_len : Df := ⟨1, 1, [0],
    [(.ret (.bi .len [(.fld "numbers" (.nm 0))]))]⟩
def F_Row_len : Fn := d_Row_len.run E_Row_len
@[simp] theorem Ei_Row_len : E_Row_len.isi = isiO ownL := rfl
@[simp] theorem Ef_Row_len : E_Row_len.flds = fldO fldL := rfl
def E_Table_len : Ev := ⟨calls [], methsL [], fldO fldL, isiO ownL, spsL [(("__len__", "Row"), F_Row_len)]⟩
def d_Table_len : Df := ⟨1, 1, [0],
    [(.ret (.bi .len [(.fld "numbers" (.fld "first" (.nm 0)))]))]⟩
def F_Table_len : Fn := d_Table_len.run E_Table_len
@[simp] theorem Es_Table_len_len_Row : E_Table_len.sps "__len__" "Row" = some F_Row_len := rfl
@[simp] theorem Ei_Table_len : E_Table_len.isi = isiO ownL := rfl
@[simp] theorem Ef_Table_len : E_Table_len.flds = fldO fldL := rfl
def E_law_cell : Ev := ⟨calls [([.inl 0, .inl 1], F_law_mixed)], methsL [], fldO fldL, isiO ownL, spsL [(("__len__", "Row"), F_Row_len), (("__len__", "Table"), F_Table_len)]⟩
def B_law_cell_1 : List Sm := [(.asg (.nm 3) (.bin .add (.bin .mul (.nm 3) (.k (.int 2147483579))) (.call 0 [(.nm 2), (.bin .add (.bin .add (.bin .mul (.k (.int 7)) (.nm 1)) (.bin .mul (.k (.int 100)) (.nm 4))) (.bin .mul (.nm 4) (.nm 4)))]))),
    (.fgt [4])]
def d_law_cell : Df := ⟨2, 5, [0, 1],
    [(.asg (.nm 2) (.k (.int 0))),
    (.iff (.cmp .lt (.nm 1) (.bi .len [(.nm 0)]))
    [(.asg (.nm 2) (.ix (.nm 0) (.nm 1)))]
    []),
    (.iff (.cmp .ge (.nm 2) (.bin .pow (.k (.int 10)) (.k (.int 18))))
    [(.ret (.bin .mod (.bin .sub (.nm 2) (.bin .pow (.k (.int 10)) (.k (.int 18)))) (.bin .mul (.bin .mul (.bin .mul (.bin .pow (.k (.int 10)) (.k (.int 60))) (.bin .pow (.k (.int 10)) (.k (.int 60)))) (.bin .pow (.k (.int 10)) (.k (.int 60)))) (.bin .pow (.k (.int 10)) (.k (.int 60))))))]
    []),
    (.asg (.nm 3) (.k (.int 0))),
    (.for (.rng [(.k (.int 24))]) (.nm 4)
    B_law_cell_1),
    (.fgt [4]),
    (.ret (.nm 3))]⟩
def F_law_cell : Fn := d_law_cell.run E_law_cell
@[simp] theorem Ec_law_cell_0 : E_law_cell.calls 0 = ([.inl 0, .inl 1], F_law_mixed) := rfl
@[simp] theorem Es_law_cell_len_Row : E_law_cell.sps "__len__" "Row" = some F_Row_len := rfl
@[simp] theorem Es_law_cell_len_Table : E_law_cell.sps "__len__" "Table" = some F_Table_len := rfl
@[simp] theorem Ei_law_cell : E_law_cell.isi = isiO ownL := rfl
@[simp] theorem Ef_law_cell : E_law_cell.flds = fldO fldL := rfl
def E_law_take : Ev := ⟨calls [], methsL [], fldO fldL, isiO ownL, spsL []⟩
def d_law_take : Df := ⟨2, 3, [0, 1],
    [(.asg (.nm 2) (.bin .mod (.ix (.nm 0) (.k (.int 0))) (.nm 1))),
    (.setIx 0 (.k (.int 0)) (.bin .div (.ix (.nm 0) (.k (.int 0))) (.nm 1))),
    (.ret (.nm 2))]⟩
def F_law_take : Fn := d_law_take.run E_law_take
@[simp] theorem Ei_law_take : E_law_take.isi = isiO ownL := rfl
@[simp] theorem Ef_law_take : E_law_take.flds = fldO fldL := rfl
def E_Row_eq : Ev := ⟨calls [], methsL [], fldO fldL, isiO ownL, spsL []⟩
def d_Row_eq : Df := ⟨2, 2, [0, 1],
    [(.ret (.and [(.isi (.inr "Row") (.nm 1)), (.cmp .eq (.fld "numbers" (.nm 0)) (.fld "numbers" (.nm 1)))]))]⟩
def F_Row_eq : Fn := d_Row_eq.run E_Row_eq
@[simp] theorem Ei_Row_eq : E_Row_eq.isi = isiO ownL := rfl
@[simp] theorem Ef_Row_eq : E_Row_eq.flds = fldO fldL := rfl
def E_Table_eq : Ev := ⟨calls [], methsL [], fldO fldL, isiO ownL, spsL [(("__eq__", "Row"), F_Row_eq)]⟩
def d_Table_eq : Df := ⟨2, 2, [0, 1],
    [(.ret (.and [(.isi (.inr "Table") (.nm 1)), (.cmp .eq (.fld "first" (.nm 0)) (.fld "first" (.nm 1))), (.cmp .eq (.fld "lean" (.nm 0)) (.fld "lean" (.nm 1)))]))]⟩
def F_Table_eq : Fn := d_Table_eq.run E_Table_eq
@[simp] theorem Es_Table_eq_eq_Row : E_Table_eq.sps "__eq__" "Row" = some F_Row_eq := rfl
@[simp] theorem Ei_Table_eq : E_Table_eq.isi = isiO ownL := rfl
@[simp] theorem Ef_Table_eq : E_Table_eq.flds = fldO fldL := rfl
def E_law_number : Ev := ⟨calls [([.inl 0, .inl 1], F_law_take)], methsL [], fldO fldL, isiO ownL, spsL [(("__eq__", "Row"), F_Row_eq), (("__eq__", "Table"), F_Table_eq)]⟩
def d_law_number : Df := ⟨1, 2, [0],
    [(.asg (.nm 1) (.call 0 [(.nm 0), (.k (.int 6))])),
    (.iff (.cmp .eq (.nm 1) (.k (.int 0)))
    [(.ret (.bin .add (.bin .sub (.call 0 [(.nm 0), (.bin .sub (.bin .mul (.k (.int 2)) (.bin .pow (.k (.int 10)) (.k (.int 10)))) (.k (.int 1)))]) (.bin .pow (.k (.int 10)) (.k (.int 10)))) (.k (.int 1))))]
    []),
    (.ret (.bin .sub (.call 0 [(.nm 0), (.ix (.lst [(.k (.int 2)), (.k (.int 3)), (.k (.int 5)), (.k (.int 9)), (.k (.int 41))]) (.bin .sub (.nm 1) (.k (.int 1))))]) (.ix (.lst [(.k (.int 0)), (.k (.int 1)), (.k (.int 2)), (.k (.int 4)), (.k (.int 20))]) (.bin .sub (.nm 1) (.k (.int 1))))))]⟩
def F_law_number : Fn := d_law_number.run E_law_number
@[simp] theorem Ec_law_number_0 : E_law_number.calls 0 = ([.inl 0, .inl 1], F_law_take) := rfl
@[simp] theorem Es_law_number_eq_Row : E_law_number.sps "__eq__" "Row" = some F_Row_eq := rfl
@[simp] theorem Es_law_number_eq_Table : E_law_number.sps "__eq__" "Table" = some F_Table_eq := rfl
@[simp] theorem Ei_law_number : E_law_number.isi = isiO ownL := rfl
@[simp] theorem Ef_law_number : E_law_number.flds = fldO fldL := rfl
def E_law_some : Ev := ⟨calls [([.inl 0], F_law_number)], methsL [], fldO fldL, isiO ownL, spsL []⟩
def X_law_some_1 : Ex := (.lc (.rng [(.nm 1)]) (.nm 2) none (.call 0 [(.nm 0)]) [2])
def d_law_some : Df := ⟨2, 3, [0, 1],
    [(.ret X_law_some_1)]⟩
def F_law_some : Fn := d_law_some.run E_law_some
@[simp] theorem Ec_law_some_0 : E_law_some.calls 0 = ([.inl 0], F_law_number) := rfl
@[simp] theorem Ei_law_some : E_law_some.isi = isiO ownL := rfl
@[simp] theorem Ef_law_some : E_law_some.flds = fldO fldL := rfl
def E_is_number : Ev := ⟨calls [], methsL [], fldO fldL, isiO ownL, spsL []⟩
def d_is_number : Df := ⟨1, 1, [0],
    [(.ret (.and [(.isi (.inl "int") (.nm 0)), (.nott (.isi (.inl "bool") (.nm 0)))]))]⟩
def F_is_number : Fn := d_is_number.run E_is_number
@[simp] theorem Ei_is_number : E_is_number.isi = isiO ownL := rfl
@[simp] theorem Ef_is_number : E_is_number.flds = fldO fldL := rfl
def E_look_at_numbers : Ev := ⟨calls [([.inl 0], F_is_number)], methsL [], fldO fldL, isiO ownL, spsL []⟩
def B_look_at_numbers_1 : List Sm := [(.iff (.nott (.tru (.call 0 [(.nm 2)])))
    [.bad]
    []),
    (.fgt [1, 2])]
def d_look_at_numbers : Df := ⟨1, 3, [0],
    [(.iff (.or [(.nott (.tru (.isiT [(.inl "list"), (.inl "tuple")] (.nm 0)))), (.cmp .lt (.bi .len [(.nm 0)]) (.k (.int 1))), (.cmp .gt (.bi .len [(.nm 0)]) (.k (.int 12)))])
    [.bad]
    []),
    (.for (.enum (.nm 0)) (.tp [1, 2])
    B_look_at_numbers_1),
    (.fgt [1, 2])]⟩
def F_look_at_numbers : Fn := d_look_at_numbers.run E_look_at_numbers
@[simp] theorem Ec_look_at_numbers_0 : E_look_at_numbers.calls 0 = ([.inl 0], F_is_number) := rfl
@[simp] theorem Ei_look_at_numbers : E_look_at_numbers.isi = isiO ownL := rfl
@[simp] theorem Ef_look_at_numbers : E_look_at_numbers.flds = fldO fldL := rfl
def E_Row_init : Ev := ⟨calls [([.inl 0], F_look_at_numbers)], methsL [], fldO fldL, isiO ownL, spsL []⟩
def d_Row_init : Df := ⟨2, 2, [0, 1],
    [(.drop (.call 0 [(.nm 1)])),
    (.setFld 0 "numbers" (.bi .tuple [(.nm 1)]))]⟩
def F_Row_init : Fn := d_Row_init.run E_Row_init
@[simp] theorem Ec_Row_init_0 : E_Row_init.calls 0 = ([.inl 0], F_look_at_numbers) := rfl
@[simp] theorem Ei_Row_init : E_Row_init.isi = isiO ownL := rfl
@[simp] theorem Ef_Row_init : E_Row_init.flds = fldO fldL := rfl
def E_is_row : Ev := ⟨calls [], methsL [], fldO fldL, isiO ownL, spsL []⟩
def d_is_row : Df := ⟨1, 1, [0],
    [(.ret (.isi (.inr "Row") (.nm 0)))]⟩
def F_is_row : Fn := d_is_row.run E_is_row
@[simp] theorem Ei_is_row : E_is_row.isi = isiO ownL := rfl
@[simp] theorem Ef_is_row : E_is_row.flds = fldO fldL := rfl
def E_look_at_row : Ev := ⟨calls [([.inl 0], F_is_row)], methsL [], fldO fldL, isiO ownL, spsL []⟩
def d_look_at_row : Df := ⟨1, 1, [0],
    [(.iff (.nott (.tru (.call 0 [(.nm 0)])))
    [.bad]
    [])]⟩
def F_look_at_row : Fn := d_look_at_row.run E_look_at_row
@[simp] theorem Ec_look_at_row_0 : E_look_at_row.calls 0 = ([.inl 0], F_is_row) := rfl
@[simp] theorem Ei_look_at_row : E_look_at_row.isi = isiO ownL := rfl
@[simp] theorem Ef_look_at_row : E_look_at_row.flds = fldO fldL := rfl
def E_look_at_depths : Ev := ⟨calls [], methsL [], fldO fldL, isiO ownL, spsL [(("__eq__", "Row"), F_Row_eq)]⟩
def d_look_at_depths : Df := ⟨2, 2, [0, 1],
    [(.iff (.cmp .ne (.nm 0) (.nm 1))
    [.bad]
    [])]⟩
def F_look_at_depths : Fn := d_look_at_depths.run E_look_at_depths
@[simp] theorem Es_look_at_depths_eq_Row : E_look_at_depths.sps "__eq__" "Row" = some F_Row_eq := rfl
@[simp] theorem Ei_look_at_depths : E_look_at_depths.isi = isiO ownL := rfl
@[simp] theorem Ef_look_at_depths : E_look_at_depths.flds = fldO fldL := rfl
def E_quotient : Ev := ⟨calls [], methsL [], fldO fldL, isiO ownL, spsL []⟩
def X_quotient_1 : Ex := (.lc (.rng [(.nm 3)]) (.nm 5) none (.bin .mul (.ix (.nm 2) (.nm 5)) (.ix (.nm 1) (.bin .sub (.nm 3) (.nm 5)))) [5])
def B_quotient_1 : List Sm := [(.drop (.app 2 (.bin .sub (.nm 4) (.bi .sum [X_quotient_1])))),
    (.fgt [3, 4])]
def d_quotient : Df := ⟨2, 6, [0, 1],
    [(.asg (.nm 2) (.lst [])),
    (.for (.enum (.nm 0)) (.tp [3, 4])
    B_quotient_1),
    (.fgt [3, 4]),
    (.ret (.nm 2))]⟩
def F_quotient : Fn := d_quotient.run E_quotient
@[simp] theorem Ei_quotient : E_quotient.isi = isiO ownL := rfl
@[simp] theorem Ef_quotient : E_quotient.flds = fldO fldL := rfl
def E_unit : Ev := ⟨calls [], methsL [], fldO fldL, isiO ownL, spsL []⟩
def d_unit : Df := ⟨1, 1, [0],
    [(.ret (.bin .add (.lst [(.k (.int 1))]) (.bin .mul (.lst [(.k (.int 0))]) (.bin .sub (.nm 0) (.k (.int 1))))))]⟩
def F_unit : Fn := d_unit.run E_unit
@[simp] theorem Ei_unit : E_unit.isi = isiO ownL := rfl
@[simp] theorem Ef_unit : E_unit.flds = fldO fldL := rfl
def E_product : Ev := ⟨calls [], methsL [], fldO fldL, isiO ownL, spsL [(("__len__", "Row"), F_Row_len)]⟩
def X_product_1 : Ex := (.lc (.rng [(.bin .add (.nm 2) (.k (.int 1)))]) (.nm 3) none (.bin .mul (.ix (.nm 0) (.nm 3)) (.ix (.nm 1) (.bin .sub (.nm 2) (.nm 3)))) [3])
def X_product_2 : Ex := (.lc (.rng [(.bi .len [(.nm 0)])]) (.nm 2) none (.bi .sum [X_product_1]) [2])
def d_product : Df := ⟨2, 4, [0, 1],
    [(.ret X_product_2)]⟩
def F_product : Fn := d_product.run E_product
@[simp] theorem Es_product_len_Row : E_product.sps "__len__" "Row" = some F_Row_len := rfl
@[simp] theorem Ei_product : E_product.isi = isiO ownL := rfl
@[simp] theorem Ef_product : E_product.flds = fldO fldL := rfl
def E_put_in : Ev := ⟨calls [([.inl 0, .inl 1], F_product)], methsL [], fldO fldL, isiO ownL, spsL [(("__len__", "Row"), F_Row_len)]⟩
def B_put_in_1 : List Sm := [(.asg (.nm 2) (.call 0 [(.nm 2), (.nm 1)])),
    (.setIx 2 (.k (.int 0)) (.bin .add (.ix (.nm 2) (.k (.int 0))) (.nm 3))),
    (.fgt [3])]
def d_put_in : Df := ⟨2, 4, [0, 1],
    [(.asg (.nm 2) (.bin .mul (.lst [(.k (.int 0))]) (.bi .len [(.nm 0)]))),
    (.for (.seq (.rev (.nm 0))) (.nm 3)
    B_put_in_1),
    (.fgt [3]),
    (.ret (.nm 2))]⟩
def F_put_in : Fn := d_put_in.run E_put_in
@[simp] theorem Ec_put_in_0 : E_put_in.calls 0 = ([.inl 0, .inl 1], F_product) := rfl
@[simp] theorem Es_put_in_len_Row : E_put_in.sps "__len__" "Row" = some F_Row_len := rfl
@[simp] theorem Ei_put_in : E_put_in.isi = isiO ownL := rfl
@[simp] theorem Ef_put_in : E_put_in.flds = fldO fldL := rfl
def E_turned_back : Ev := ⟨calls [([.inl 0, .inl 1], F_put_in)], methsL [], fldO fldL, isiO ownL, spsL [(("__len__", "Row"), F_Row_len)]⟩
def B_turned_back_1 : List Sm := [(.asg (.nm 3) (.call 0 [(.cutU (.nm 0) (.bin .add (.nm 2) (.k (.int 1)))), (.bin .add (.nm 1) (.lst [(.k (.int 0))]))])),
    (.drop (.app 1 (.bin .sub (.k (.int 0)) (.ix (.nm 3) (.nm 2))))),
    (.fgt [2, 3])]
def d_turned_back : Df := ⟨1, 4, [0],
    [(.asg (.nm 1) (.lst [(.k (.int 0)), (.k (.int 1))])),
    (.for (.rng [(.k (.int 2)), (.bi .len [(.nm 0)])]) (.nm 2)
    B_turned_back_1),
    (.fgt [2, 3]),
    (.ret (.nm 1))]⟩
def F_turned_back : Fn := d_turned_back.run E_turned_back
@[simp] theorem Ec_turned_back_0 : E_turned_back.calls 0 = ([.inl 0, .inl 1], F_put_in) := rfl
@[simp] theorem Es_turned_back_len_Row : E_turned_back.sps "__len__" "Row" = some F_Row_len := rfl
@[simp] theorem Ei_turned_back : E_turned_back.isi = isiO ownL := rfl
@[simp] theorem Ef_turned_back : E_turned_back.flds = fldO fldL := rfl
def E_Table_init : Ev := ⟨calls [([.inl 0], F_look_at_row), ([.inl 0, .inl 1], F_look_at_depths)], methsL [], fldO fldL, isiO ownL, spsL [(("__eq__", "Row"), F_Row_eq), (("__len__", "Row"), F_Row_len)]⟩
def d_Table_init : Df := ⟨3, 3, [0, 1, 2],
    [(.drop (.call 0 [(.nm 1)])),
    (.drop (.call 0 [(.nm 2)])),
    (.drop (.call 1 [(.bi .len [(.fld "numbers" (.nm 1))]), (.bi .len [(.fld "numbers" (.nm 2))])])),
    (.iff (.cmp .ne (.ix (.fld "numbers" (.nm 1)) (.k (.int 0))) (.k (.int 1)))
    [.bad]
    []),
    (.iff (.cmp .ne (.cutU (.fld "numbers" (.nm 2)) (.k (.int 2))) (.tup [(.k (.int 0)), (.k (.int 1))]))
    [.bad]
    []),
    (.setFld 0 "first" (.nm 1)),
    (.setFld 0 "lean" (.nm 2))]⟩
def F_Table_init : Fn := d_Table_init.run E_Table_init
@[simp] theorem Ec_Table_init_0 : E_Table_init.calls 0 = ([.inl 0], F_look_at_row) := rfl
@[simp] theorem Ec_Table_init_1 : E_Table_init.calls 1 = ([.inl 0, .inl 1], F_look_at_depths) := rfl
@[simp] theorem Es_Table_init_eq_Row : E_Table_init.sps "__eq__" "Row" = some F_Row_eq := rfl
@[simp] theorem Es_Table_init_len_Row : E_Table_init.sps "__len__" "Row" = some F_Row_len := rfl
@[simp] theorem Ei_Table_init : E_Table_init.isi = isiO ownL := rfl
@[simp] theorem Ef_Table_init : E_Table_init.flds = fldO fldL := rfl
def E_by_rule : Ev := ⟨calls [([.inl 0], F_look_at_row), ([.inl 0, .inl 1], F_look_at_depths), ([.inl 0, .inl 1], F_quotient), ([.inl 0], F_unit), ([.inl 0], F_turned_back), ([.inl 0, .inl 1], F_put_in), ([.inl 0, .inl 1], makeF "Table" true F_Table_init), ([.inl 0], makeF "Row" true F_Row_init)], methsL [], fldO fldL, isiO ownL, spsL [(("__eq__", "Row"), F_Row_eq), (("__len__", "Row"), F_Row_len), (("__eq__", "Table"), F_Table_eq), (("__len__", "Table"), F_Table_len)]⟩
def X_by_rule_1 : Ex := (.lc (.seq (.call 5 [(.fld "numbers" (.nm 1)), (.cutU (.nm 3) (.neg (.k (.int 1))))])) (.nm 5) none (.bin .sub (.k (.int 0)) (.nm 5)) [5])
def d_by_rule : Df := ⟨2, 6, [0, 1],
    [(.drop (.call 0 [(.nm 0)])),
    (.drop (.call 0 [(.nm 1)])),
    (.drop (.call 1 [(.bi .len [(.fld "numbers" (.nm 0))]), (.bi .len [(.fld "numbers" (.nm 1))])])),
    (.iff (.cmp .ge (.bi .len [(.fld "numbers" (.nm 0))]) (.k (.int 12)))
    [.bad]
    []),
    (.iff (.cmp .ne (.ix (.fld "numbers" (.nm 0)) (.k (.int 0))) (.k (.int 1)))
    [.bad]
    []),
    (.asg (.nm 2) (.bin .add (.lst [(.k (.int 0))]) (.call 2 [(.call 3 [(.bi .len [(.fld "numbers" (.nm 0))])]), (.fld "numbers" (.nm 0))]))),
    (.asg (.nm 3) (.call 4 [(.nm 2)])),
    (.asg (.nm 4) (.bin .add (.lst [(.k (.int 1))]) X_by_rule_1)),
    (.ret (.call 6 [(.call 7 [(.call 2 [(.call 3 [(.bi .len [(.nm 3)])]), (.nm 4)])]), (.call 7 [(.nm 3)])]))]⟩
def F_by_rule : Fn := d_by_rule.run E_by_rule
@[simp] theorem Ec_by_rule_0 : E_by_rule.calls 0 = ([.inl 0], F_look_at_row) := rfl
@[simp] theorem Ec_by_rule_1 : E_by_rule.calls 1 = ([.inl 0, .inl 1], F_look_at_depths) := rfl
@[simp] theorem Ec_by_rule_2 : E_by_rule.calls 2 = ([.inl 0, .inl 1], F_quotient) := rfl
@[simp] theorem Ec_by_rule_3 : E_by_rule.calls 3 = ([.inl 0], F_unit) := rfl
@[simp] theorem Ec_by_rule_4 : E_by_rule.calls 4 = ([.inl 0], F_turned_back) := rfl
@[simp] theorem Ec_by_rule_5 : E_by_rule.calls 5 = ([.inl 0, .inl 1], F_put_in) := rfl
@[simp] theorem Ec_by_rule_6 : E_by_rule.calls 6 = ([.inl 0, .inl 1], makeF "Table" true F_Table_init) := rfl
@[simp] theorem Ec_by_rule_7 : E_by_rule.calls 7 = ([.inl 0], makeF "Row" true F_Row_init) := rfl
@[simp] theorem Es_by_rule_eq_Row : E_by_rule.sps "__eq__" "Row" = some F_Row_eq := rfl
@[simp] theorem Es_by_rule_len_Row : E_by_rule.sps "__len__" "Row" = some F_Row_len := rfl
@[simp] theorem Es_by_rule_eq_Table : E_by_rule.sps "__eq__" "Table" = some F_Table_eq := rfl
@[simp] theorem Es_by_rule_len_Table : E_by_rule.sps "__len__" "Table" = some F_Table_len := rfl
@[simp] theorem Ei_by_rule : E_by_rule.isi = isiO ownL := rfl
@[simp] theorem Ef_by_rule : E_by_rule.flds = fldO fldL := rfl
def E_law_rows : Ev := ⟨calls [], methsL [], fldO fldL, isiO ownL, spsL [(("__len__", "Row"), F_Row_len), (("__len__", "Table"), F_Table_len)]⟩
def X_law_rows_1 : Ex := (.lc (.rng [(.bi .len [(.nm 3)])]) (.nm 6) none (.bin .mul (.ix (.nm 1) (.nm 6)) (.ix (.nm 3) (.nm 6))) [6])
def X_law_rows_2 : Ex := (.lc (.rng [(.bin .sub (.bi .len [(.nm 3)]) (.nm 5))]) (.nm 6) none (.bin .mul (.ix (.nm 0) (.nm 6)) (.ix (.nm 3) (.bin .add (.nm 5) (.nm 6)))) [6])
def B_law_rows_1 : List Sm := [(.drop (.app 4 (.bi .sum [X_law_rows_2]))),
    (.fgt [5])]
def B_law_rows_2 : List Sm := [(.asg (.nm 3) (.ix (.nm 2) (.neg (.k (.int 1))))),
    (.asg (.nm 4) (.lst [(.bi .sum [X_law_rows_1])])),
    (.for (.rng [(.bi .len [(.nm 3)])]) (.nm 5)
    B_law_rows_1),
    (.fgt [5]),
    (.drop (.app 2 (.nm 4))),
    (.fgt [3, 4, 5])]
def d_law_rows : Df := ⟨2, 7, [0, 1],
    [(.asg (.nm 2) (.lst [(.lst [(.k (.int 1))])])),
    (.whl 1000000 (.cmp .le (.bi .len [(.nm 2)]) (.bi .len [(.nm 0)]))
    B_law_rows_2),
    (.fgt [3, 4, 5]),
    (.ret (.nm 2))]⟩
def F_law_rows : Fn := d_law_rows.run E_law_rows
@[simp] theorem Es_law_rows_len_Row : E_law_rows.sps "__len__" "Row" = some F_Row_len := rfl
@[simp] theorem Es_law_rows_len_Table : E_law_rows.sps "__len__" "Table" = some F_Table_len := rfl
@[simp] theorem Ei_law_rows : E_law_rows.isi = isiO ownL := rfl
@[simp] theorem Ef_law_rows : E_law_rows.flds = fldO fldL := rfl
def E_Table_deep : Ev := ⟨calls [], methsL [], fldO fldL, isiO ownL, spsL [(("__len__", "Row"), F_Row_len)]⟩
def d_Table_deep : Df := ⟨1, 1, [0],
    [(.ret (.bi .len [(.fld "numbers" (.fld "first" (.nm 0)))]))]⟩
def F_Table_deep : Fn := d_Table_deep.run E_Table_deep
@[simp] theorem Es_Table_deep_len_Row : E_Table_deep.sps "__len__" "Row" = some F_Row_len := rfl
@[simp] theorem Ei_Table_deep : E_Table_deep.isi = isiO ownL := rfl
@[simp] theorem Ef_Table_deep : E_Table_deep.flds = fldO fldL := rfl
def E_Table_columns : Ev := ⟨calls [([.inl 0, .inl 1], F_product)], methsL [[("Table", [.inl 0], F_Table_deep)]], fldO fldL, isiO ownL, spsL [(("__len__", "Row"), F_Row_len)]⟩
def B_Table_columns_1 : List Sm := [(.drop (.app 1 (.call 0 [(.ix (.nm 1) (.neg (.k (.int 1)))), (.fld "numbers" (.fld "lean" (.nm 0)))])))]
def d_Table_columns : Df := ⟨1, 2, [0],
    [(.asg (.nm 1) (.lst [(.bi .list [(.fld "numbers" (.fld "first" (.nm 0)))])])),
    (.whl 1000000 (.cmp .lt (.bi .len [(.nm 1)]) (.mth 0 (.nm 0) []))
    B_Table_columns_1),
    (.ret (.nm 1))]⟩
def F_Table_columns : Fn := d_Table_columns.run E_Table_columns
@[simp] theorem Ec_Table_columns_0 : E_Table_columns.calls 0 = ([.inl 0, .inl 1], F_product) := rfl
@[simp] theorem Em_Table_columns_0_Table : E_Table_columns.mths 0 "Table" = some ([.inl 0], F_Table_deep) := rfl
@[simp] theorem Es_Table_columns_len_Row : E_Table_columns.sps "__len__" "Row" = some F_Row_len := rfl
@[simp] theorem Ei_Table_columns : E_Table_columns.isi = isiO ownL := rfl
@[simp] theorem Ef_Table_columns : E_Table_columns.flds = fldO fldL := rfl
def E_Table_rows : Ev := ⟨calls [], methsL [[("Table", [.inl 0], F_Table_columns)], [("Table", [.inl 0], F_Table_deep)]], fldO fldL, isiO ownL, spsL []⟩
def X_Table_rows_1 : Ex := (.lc (.seq (.cutU (.nm 1) (.bin .add (.nm 2) (.k (.int 1))))) (.nm 3) none (.ix (.nm 3) (.nm 2)) [3])
def X_Table_rows_2 : Ex := (.lc (.rng [(.mth 1 (.nm 0) [])]) (.nm 2) none X_Table_rows_1 [2])
def d_Table_rows : Df := ⟨1, 4, [0],
    [(.asg (.nm 1) (.mth 0 (.nm 0) [])),
    (.ret X_Table_rows_2)]⟩
def F_Table_rows : Fn := d_Table_rows.run E_Table_rows
@[simp] theorem Em_Table_rows_0_Table : E_Table_rows.mths 0 "Table" = some ([.inl 0], F_Table_columns) := rfl
@[simp] theorem Em_Table_rows_1_Table : E_Table_rows.mths 1 "Table" = some ([.inl 0], F_Table_deep) := rfl
@[simp] theorem Ei_Table_rows : E_Table_rows.isi = isiO ownL := rfl
@[simp] theorem Ef_Table_rows : E_Table_rows.flds = fldO fldL := rfl
def E_Table_rule : Ev := ⟨calls [([.inl 0], F_turned_back), ([.inl 0, .inl 1], F_quotient), ([.inl 0], F_unit), ([.inl 0], makeF "Row" true F_Row_init), ([.inl 0, .inl 1], F_put_in)], methsL [[("Table", [.inl 0], F_Table_deep)]], fldO fldL, isiO ownL, spsL []⟩
def X_Table_rule_1 : Ex := (.lc (.seq (.cutL (.nm 3) (.k (.int 1)))) (.nm 5) none (.bin .sub (.k (.int 0)) (.nm 5)) [5])
def d_Table_rule : Df := ⟨1, 6, [0],
    [(.asg (.nm 1) (.call 0 [(.fld "numbers" (.fld "lean" (.nm 0)))])),
    (.asg (.nm 2) (.call 1 [(.call 2 [(.bin .sub (.mth 0 (.nm 0) []) (.k (.int 1)))]), (.cutL (.nm 1) (.k (.int 1)))])),
    (.asg (.nm 3) (.call 1 [(.call 2 [(.mth 0 (.nm 0) [])]), (.fld "numbers" (.fld "first" (.nm 0)))])),
    (.asg (.nm 4) X_Table_rule_1),
    (.ret (.tup [(.call 3 [(.nm 2)]), (.call 3 [(.call 4 [(.nm 4), (.cutU (.nm 1) (.neg (.k (.int 1))))])])]))]⟩
def F_Table_rule : Fn := d_Table_rule.run E_Table_rule
@[simp] theorem Ec_Table_rule_0 : E_Table_rule.calls 0 = ([.inl 0], F_turned_back) := rfl
@[simp] theorem Ec_Table_rule_1 : E_Table_rule.calls 1 = ([.inl 0, .inl 1], F_quotient) := rfl
@[simp] theorem Ec_Table_rule_2 : E_Table_rule.calls 2 = ([.inl 0], F_unit) := rfl
@[simp] theorem Ec_Table_rule_3 : E_Table_rule.calls 3 = ([.inl 0], makeF "Row" true F_Row_init) := rfl
@[simp] theorem Ec_Table_rule_4 : E_Table_rule.calls 4 = ([.inl 0, .inl 1], F_put_in) := rfl
@[simp] theorem Em_Table_rule_0_Table : E_Table_rule.mths 0 "Table" = some ([.inl 0], F_Table_deep) := rfl
@[simp] theorem Ei_Table_rule : E_Table_rule.isi = isiO ownL := rfl
@[simp] theorem Ef_Table_rule : E_Table_rule.flds = fldO fldL := rfl
def E_law : Ev := ⟨calls [([.inl 0, .inl 1], F_law_cell), ([.inl 0, .inl 1], F_law_take), ([.inl 0, .inl 1], F_law_some), ([.inl 0], makeF "Row" true F_Row_init), ([.inl 0, .inl 1], F_by_rule), ([.inl 0, .inl 1], F_law_rows), ([.inl 1, .inl 0], F_by_rule)], methsL [[("Table", [.inl 0], F_Table_rows)], [("Table", [.inl 0], F_Table_rule)]], fldO fldL, isiO ownL, spsL [(("__eq__", "Row"), F_Row_eq), (("__len__", "Row"), F_Row_len), (("__eq__", "Table"), F_Table_eq), (("__len__", "Table"), F_Table_len)]⟩
def B_law_1 : List Sm := [(.asg (.nm 2) (.lst [(.call 0 [(.nm 0), (.nm 1)])])),
    (.asg (.nm 3) (.bin .add (.k (.int 1)) (.call 1 [(.nm 2), (.k (.int 11))]))),
    (.asg (.nm 4) (.bin .add (.lst [(.k (.int 1))]) (.call 2 [(.nm 2), (.bin .sub (.nm 3) (.k (.int 1)))]))),
    (.asg (.nm 5) (.call 2 [(.nm 2), (.nm 3)])),
    (.asg (.nm 6) (.lst [(.call 3 [(.nm 4)]), (.call 3 [(.nm 5)])])),
    (.asg (.nm 7) (.call 4 [(.ix (.nm 6) (.k (.int 0))), (.ix (.nm 6) (.k (.int 1)))])),
    (.iff (.or [(.nott (.tru (.isi (.inr "Table") (.nm 7)))), (.cmp .ne (.mth 0 (.nm 7) []) (.call 5 [(.nm 4), (.nm 5)])), (.cmp .ne (.bi .len [(.nm 7)]) (.bin .add (.nm 3) (.k (.int 1))))])
    [(.ret (.k (.bl false)))]
    []),
    (.iff (.or [(.cmp .ne (.call 6 [(.ix (.nm 6) (.k (.int 1))), (.ix (.nm 6) (.k (.int 0)))]) (.nm 7)), (.cmp .ne (.mth 1 (.nm 7) []) (.tup [(.ix (.nm 6) (.k (.int 0))), (.ix (.nm 6) (.k (.int 1)))]))])
    [(.ret (.k (.bl false)))]
    []),
    (.iff (.cmp .ne (.nm 6) (.lst [(.call 3 [(.nm 4)]), (.call 3 [(.nm 5)])]))
    [(.ret (.k (.bl false)))]
    []),
    (.fgt [1, 2, 3, 4, 5, 6, 7])]
def d_law : Df := ⟨1, 8, [0],
    [(.for (.rng [(.k (.int 3))]) (.nm 1)
    B_law_1),
    (.fgt [1, 2, 3, 4, 5, 6, 7]),
    (.ret (.cmp .eq (.mth 0 (.call 4 [(.call 3 [(.lst [(.k (.int 1))])]), (.call 3 [(.lst [(.k (.int 7))])])]) []) (.lst [(.lst [(.k (.int 1))]), (.lst [(.k (.int 7)), (.k (.int 1))])])))]⟩
def F_law : Fn := d_law.run E_law
@[simp] theorem Ec_law_0 : E_law.calls 0 = ([.inl 0, .inl 1], F_law_cell) := rfl
@[simp] theorem Ec_law_1 : E_law.calls 1 = ([.inl 0, .inl 1], F_law_take) := rfl
@[simp] theorem Ec_law_2 : E_law.calls 2 = ([.inl 0, .inl 1], F_law_some) := rfl
@[simp] theorem Ec_law_3 : E_law.calls 3 = ([.inl 0], makeF "Row" true F_Row_init) := rfl
@[simp] theorem Ec_law_4 : E_law.calls 4 = ([.inl 0, .inl 1], F_by_rule) := rfl
@[simp] theorem Ec_law_5 : E_law.calls 5 = ([.inl 0, .inl 1], F_law_rows) := rfl
@[simp] theorem Ec_law_6 : E_law.calls 6 = ([.inl 1, .inl 0], F_by_rule) := rfl
@[simp] theorem Em_law_0_Table : E_law.mths 0 "Table" = some ([.inl 0], F_Table_rows) := rfl
@[simp] theorem Em_law_1_Table : E_law.mths 1 "Table" = some ([.inl 0], F_Table_rule) := rfl
@[simp] theorem Es_law_eq_Row : E_law.sps "__eq__" "Row" = some F_Row_eq := rfl
@[simp] theorem Es_law_len_Row : E_law.sps "__len__" "Row" = some F_Row_len := rfl
@[simp] theorem Es_law_eq_Table : E_law.sps "__eq__" "Table" = some F_Table_eq := rfl
@[simp] theorem Es_law_len_Table : E_law.sps "__len__" "Table" = some F_Table_len := rfl
@[simp] theorem Ei_law : E_law.isi = isiO ownL := rfl
@[simp] theorem Ef_law : E_law.flds = fldO fldL := rfl
theorem x_product_1 {k1 k2 : Kd} {xs ys : List Int} {n m k : Nat} (h1 : Bs xs n) (h2 : Bs ys m) (hnm : n + m < 133999998) (hx : k < xs.length) (hy : k < ys.length) (hk : k < 1000) :
    evX E_product X_product_1 [.tr (seqT k1 xs), .tr (seqT k2 ys), .tr (.leaf (.int k)), .un] = .ok (.vl (seqT .n ((List.range (k + 1)).map fun i => xs.getD i 0 * ys.getD (k - i) 0))) [.tr (seqT k1 xs), .tr (seqT k2 ys), .tr (.leaf (.int k)), .un] := by
  unfold X_product_1
  rw [lc_rng (n := k + 1) (s1 := [.tr (seqT k1 xs), .tr (seqT k2 ys), .tr (.leaf (.int k)), .un]) ?_ (fun _ => [.tr (seqT k1 xs), .tr (seqT k2 ys), .tr (.leaf (.int k)), .un]) rfl (fun i => .leaf (.int (xs.getD i 0 * ys.getD (k - i) 0))) (sz (by omega)) ?_, seqT_rng]
  · rfl
  · simp (disch := first | decide | with_unfolding_all rfl | omega | assumption | (rw [has_srcF (by decide)]; decide) | (simp <;> omega) | fail) [-List.getD_eq_getElem?_getD, -List.map_reverse, List.getD_cons_zero, List.getD_cons_succ, rng_ok' (n := k + 1) (a := (k : Int) + 1)]
  · intro i hi
    refine ⟨_, [.tr (seqT k1 xs), .tr (seqT k2 ys), .tr (.leaf (.int k)), .tr (.leaf (.int i))], rfl, ?_, rfl⟩
    have e1 : ((k : Int) - (i : Int)).toNat = k - i := by omega
    have e5 := h1.mul h2 hnm i (k - i)
    simp (disch := first | decide | with_unfolding_all rfl | omega | assumption | (rw [has_srcF (by decide)]; decide) | (simp <;> omega) | fail) [-List.getD_eq_getElem?_getD, -List.map_reverse, List.getD_cons_zero, List.getD_cons_succ, e1]
theorem x_product_2 {k1 k2 : Kd} {xs ys : List Int} {n m : Nat} (h1 : Bs xs n) (h2 : Bs ys m) (hnm : n + m < 133999998) (hl : xs.length ≤ ys.length) (hx : xs.length ≤ 1000) :
    evX E_product X_product_2 [.tr (seqT k1 xs), .tr (seqT k2 ys), .un, .un] = .ok (.vl (seqT .n (prodZ xs ys))) [.tr (seqT k1 xs), .tr (seqT k2 ys), .un, .un] := by
  unfold X_product_2
  rw [lc_rng (n := xs.length) (s1 := [.tr (seqT k1 xs), .tr (seqT k2 ys), .un, .un]) ?_ (fun _ => [.tr (seqT k1 xs), .tr (seqT k2 ys), .un, .un]) rfl (fun k => .leaf (.int (sumR (k + 1) fun i => xs.getD i 0 * ys.getD (k - i) 0))) (sz (by omega)) ?_, seqT_rng]
  · rfl
  · simp (disch := first | decide | with_unfolding_all rfl | omega | assumption | (rw [has_srcF (by decide)]; decide) | (simp <;> omega) | fail) [-List.getD_eq_getElem?_getD, -List.map_reverse, List.getD_cons_zero, List.getD_cons_succ, rng_ok (n := xs.length)]
  · intro k hk
    refine ⟨_, [.tr (seqT k1 xs), .tr (seqT k2 ys), .tr (.leaf (.int k)), .un], rfl, ?_, rfl⟩
    simp (disch := first | decide | with_unfolding_all rfl | omega | assumption | (rw [has_srcF (by decide)]; decide) | (simp <;> omega) | fail) [-List.getD_eq_getElem?_getD, -List.map_reverse, List.getD_cons_zero, List.getD_cons_succ, x_product_1 h1 h2 hnm hk (show k < ys.length by omega) (show k < 1000 by omega)]
    rfl
theorem t_product {k1 k2 : Kd} {xs ys : List Int} {n m : Nat} (h1 : Bs xs n) (h2 : Bs ys m) (hnm : n + m < 133999998) (hl : xs.length ≤ ys.length) (hx : xs.length ≤ 1000) :
    F_product [seqT k1 xs, seqT k2 ys] = .ret (seqT .n (prodZ xs ys)) [seqT k1 xs, seqT k2 ys] := by
  simp (disch := first | decide | with_unfolding_all rfl | omega | assumption | (rw [has_srcF (by decide)]; decide) | (simp <;> omega) | fail) [-List.getD_eq_getElem?_getD, -List.map_reverse, List.getD_cons_zero, List.getD_cons_succ, F_product, Df.run, runF, entryF, outsF, finSel, Sel.ok, Sel.ixs, pickO, d_product, x_product_2 h1 h2 hnm hl hx]
/-! ### what the law draws -/
def mixed (c k : Int) : Int :=
  let n := (c.fmod 2147483647 * 48271 + k * 69621 + 1048583).fmod 2147483629
  let m := (n * n).fmod 2147483587
  (m * (m + 2)).fmod 2147483579
theorem t_law_mixed (c k : Int) {n : Nat} [Bd k n] (hn : n < 1000) : F_law_mixed [.leaf (.int c), .leaf (.int k)] = .ret (.leaf (.int (mixed c k))) [.leaf (.int c), .leaf (.int k)] := by
  haveI b1 : Bd (69621 : Int) 17 := ⟨by decide⟩
  have h1 : mulOk k 69621 = true := mulOk_bd (n := n) (m := 17) (by omega)
  simp (decide := true) [F_law_mixed, Df.run, runF, entryF, outsF, finSel, Sel.ok, Sel.ixs, pickO, d_law_mixed, mulOk_bd, mixed, h1]
theorem mixed_bd (c k : Int) : (mixed c k).natAbs < 2 ^ 31 := by
  have : Bd (mixed c k) (Nat.log2 2147483579 + 1) := by
    unfold mixed
    infer_instance
  exact this.bd
theorem t_law_take {z m : Int} (h0 : m ≠ 0) (h : divOk m = true) : F_law_take [seqT .n [z], .leaf (.int m)] = .ret (.leaf (.int (z.fmod m))) [seqT .n [z.fdiv m], .leaf (.int m)] := by
  show F_law_take [nodeI [z], .leaf (.int m)] = .ret (.leaf (.int (z.fmod m))) [nodeI [z.fdiv m], .leaf (.int m)]
  unfold nodeI
  simp (decide := true) [F_law_take, Df.run, runF, entryF, outsF, finSel, Sel.ok, Sel.ixs, pickO, d_law_take, finS, snapOps, snapOp, qIx, softs, soft, softV, soft1, isLeaf, evSetIx, settle1, atI, ixN, h0, h]
/-- taking a digit off a pile in a slot -/
theorem call_take {s : Sl} {j : Nat} {z m : Int} (h0 : m ≠ 0) (h : divOk m = true) (hs : s[j]? = some (.tr (seqT .n [z]))) : finCall F_law_take [opS .n [z] j, .vl (.leaf (.int m))] s = .ok (.vl (.leaf (.int (z.fmod m)))) (s.set j (.tr (seqT .n [z.fdiv m]))) := by
  have hl := (List.getElem?_eq_some_iff.mp hs).1
  simp only [opS, finCall, takeO, atS hs, t_law_take h0 h, putO, List.length_set, hl, if_true, List.set_set]
theorem fmod6 (z : Int) : z.fmod 6 = 0 ∨ z.fmod 6 = 1 ∨ z.fmod 6 = 2 ∨ z.fmod 6 = 3 ∨ z.fmod 6 = 4 ∨ z.fmod 6 = 5 := by
  have h1 := Int.fmod_nonneg_of_pos z (show (0 : Int) < 6 by decide)
  have h2 := Int.fmod_lt_of_pos z (show (0 : Int) < 6 by decide)
  omega
def szw (w : Int) : Int := if w = 0 then 19999999999 else if w = 1 then 2 else if w = 2 then 3 else if w = 3 then 5 else if w = 4 then 9 else 41
def ofw (w : Int) : Int := if w = 0 then 9999999999 else if w = 1 then 0 else if w = 2 then 1 else if w = 3 then 2 else if w = 4 then 4 else 20
def numX (z : Int) : Int := (z.fdiv 6).fmod (szw (z.fmod 6)) - ofw (z.fmod 6)
def numR (z : Int) : Int := (z.fdiv 6).fdiv (szw (z.fmod 6))
theorem t_law_number (z : Int) : F_law_number [seqT .n [z]] = .ret (.leaf (.int (numX z))) [seqT .n [numR z]] := by
  have d1 : divOk 6 = true := by decide
  have d2 : divOk 19999999999 = true := by decide
  have d3 : divOk 2 = true := by decide
  have d4 : divOk 3 = true := by decide
  have d5 : divOk 5 = true := by decide
  have d6 : divOk 9 = true := by decide
  have d7 : divOk 41 = true := by decide
  rcases fmod6 z with h | h | h | h | h | h
  · have e : (z.fdiv 6).fmod 19999999999 - 10000000000 + 1 = (z.fdiv 6).fmod 19999999999 - 9999999999 := by omega
    simp (decide := true) [F_law_number, Df.run, runF, entryF, outsF, finSel, Sel.ok, Sel.ixs, pickO, d_law_number, call_take, d1, d2, h, e, numX, numR, szw, ofw]
  all_goals simp (decide := true) [F_law_number, Df.run, runF, entryF, outsF, finSel, Sel.ok, Sel.ixs, pickO, d_law_number, call_take, d1, d3, d4, d5, d6, d7, h, numX, numR, szw, ofw, finList, VS.settle, settle1, finS, snapOps, snapOp, qIx, softs, soft, softV, soft1, isLeaf, atI, ixN]
theorem szw_pos (w : Int) : 0 < szw w ∧ szw w ≤ 19999999999 ∧ 0 ≤ ofw w ∧ ofw w ≤ 9999999999 := by
  unfold szw ofw
  repeat' split
  all_goals omega
theorem numX_bd (z : Int) : (numX z).natAbs < 2 ^ 35 := by
  obtain ⟨h1, h2, h3, h4⟩ := szw_pos (z.fmod 6)
  have h5 := Int.fmod_nonneg_of_pos (z.fdiv 6) h1
  have h6 := Int.fmod_lt_of_pos (z.fdiv 6) h1
  unfold numX
  omega
def someL : Nat → Int → List Int
  | 0, _ => []
  | n + 1, z => numX z :: someL n (numR z)
def someR : Nat → Int → Int
  | 0, z => z
  | n + 1, z => someR n (numR z)
theorem someR_succ (n : Nat) (z : Int) : someR (n + 1) z = numR (someR n z) := by
  induction n generalizing z with
  | zero => rfl
  | succ n ih =>
    show someR (n + 1) (numR z) = numR (someR n (numR z))
    exact ih (numR z)
theorem someL_eq (n : Nat) (z : Int) : someL n z = (List.range n).map fun k => numX (someR k z) := by
  induction n generalizing z with
  | zero => rfl
  | succ n ih =>
    show numX z :: someL n (numR z) = _
    rw [List.range_succ_eq_map, List.map_cons, List.map_map, ih]
    rfl
@[simp] theorem someL_len (n : Nat) (z : Int) : (someL n z).length = n := by simp [someL_eq]
theorem someL_bs (n : Nat) (z : Int) : Bs (someL n z) 35 := by
  rw [someL_eq]
  intro x hx
  obtain ⟨k, _, rfl⟩ := List.mem_map.mp hx
  exact numX_bd _
theorem call_number {s : Sl} {j : Nat} {z : Int} (hs : s[j]? = some (.tr (seqT .n [z]))) : finCall F_law_number [opS .n [z] j] s = .ok (.vl (.leaf (.int (numX z)))) (s.set j (.tr (seqT .n [numR z]))) := by
  have hl := (List.getElem?_eq_some_iff.mp hs).1
  simp only [opS, finCall, takeO, atS hs, t_law_number, putO, List.length_set, hl, if_true, List.set_set]
theorem w_law_some {m : Nat} {z : Int} (h : m ≤ 1000) : evW E_law_some (.rng [(.nm 1)]) [.tr (seqT .n [z]), .tr (.leaf (.int m)), .un] = .ok ⟨rangeD 0 m, []⟩ [.tr (seqT .n [z]), .tr (.leaf (.int m)), .un] := by
  simp (disch := first | decide | with_unfolding_all rfl | omega | assumption | (rw [has_srcF (by decide)]; decide) | (simp <;> omega) | fail) [-List.getD_eq_getElem?_getD, -List.map_reverse, List.getD_cons_zero, List.getD_cons_succ, rng_ok (n := m)]
theorem x_law_some {m : Nat} {z : Int} (h : m ≤ 1000) : evX E_law_some X_law_some_1 [.tr (seqT .n [z]), .tr (.leaf (.int m)), .un] = .ok (.vl (seqT .n (someL m z))) [.tr (seqT .n [someR m z]), .tr (.leaf (.int m)), .un] := by
  unfold X_law_some_1
  rw [lc_rng (n := m) (s1 := [.tr (seqT .n [z]), .tr (.leaf (.int m)), .un]) (w_law_some h) (fun k => [.tr (seqT .n [someR k z]), .tr (.leaf (.int m)), .un]) rfl (fun k => .leaf (.int (numX (someR k z)))) (sz (by omega)) ?_, seqT_rng, ← someL_eq]
  · rfl
  · intro k hk
    refine ⟨_, [.tr (seqT .n [someR (k + 1) z]), .tr (.leaf (.int m)), .tr (.leaf (.int k))], rfl, ?_, rfl⟩
    rw [someR_succ]
    simp (disch := first | decide | with_unfolding_all rfl | omega | assumption | (rw [has_srcF (by decide)]; decide) | (simp <;> omega) | fail) [-List.getD_eq_getElem?_getD, -List.map_reverse, List.getD_cons_zero, List.getD_cons_succ, Df.run, runF, entryF, outsF, finSel, Sel.ok, Sel.ixs, pickO, call_number]
theorem t_law_some {n : Int} {m : Nat} {z : Int} (e : n = (m : Int)) (h : m ≤ 1000) : F_law_some [seqT .n [z], .leaf (.int n)] = .ret (seqT .n (someL m z)) [seqT .n [someR m z], .leaf (.int n)] := by
  subst e
  simp (disch := first | decide | with_unfolding_all rfl | omega | assumption | (rw [has_srcF (by decide)]; decide) | (simp <;> omega) | fail) [-List.getD_eq_getElem?_getD, -List.map_reverse, List.getD_cons_zero, List.getD_cons_succ, F_law_some, Df.run, runF, entryF, outsF, finSel, Sel.ok, Sel.ixs, pickO, d_law_some, x_law_some h]
/-- numbers drawn off a pile in a slot -/
theorem call_some {s : Sl} {j : Nat} {n : Int} {m : Nat} {z : Int} (e : n = (m : Int)) (h : m ≤ 1000) (hs : s[j]? = some (.tr (seqT .n [z]))) : finCall F_law_some [opS .n [z] j, .vl (.leaf (.int n))] s = .ok (.vl (seqT .n (someL m z))) (s.set j (.tr (seqT .n [someR m z]))) := by
  have hl := (List.getElem?_eq_some_iff.mp hs).1
  simp only [opS, finCall, takeO, atS hs, t_law_some e h, putO, List.length_set, hl, if_true, List.set_set]
/-! ### cells -/
def cv (c : Int) (k : Nat) : Nat → Int
  | 0 => 0
  | j + 1 => cv c k j * 2147483579 + mixed c (7 * (k : Int) + 100 * (j : Int) + (j : Int) * (j : Int))
theorem cv_bd (c : Int) (k : Nat) : ∀ j, (cv c k j).natAbs < 2 ^ (40 * j + 1)
  | 0 => by simp [cv]
  | j + 1 => by
    have h1 := cv_bd c k j
    have h2 := mixed_bd c (7 * (k : Int) + 100 * (j : Int) + (j : Int) * (j : Int))
    have h3 : (cv c k j * 2147483579).natAbs < 2 ^ (40 * j + 1) * 2 ^ 31 := by
      rw [Int.natAbs_mul]
      exact Nat.mul_lt_mul'' h1 (by decide)
    rw [← Nat.pow_add] at h3
    have e1 : (2 : Nat) ^ (40 * j + 1 + 31) ≤ 2 ^ (40 * (j + 1)) := Nat.pow_le_pow_right (by omega) (by omega)
    have e2 : (2 : Nat) ^ 31 ≤ 2 ^ (40 * (j + 1)) := Nat.pow_le_pow_right (by omega) (by omega)
    have e3 : (2 : Nat) ^ (40 * (j + 1) + 1) = 2 * 2 ^ (40 * (j + 1)) := by rw [Nat.pow_succ]; omega
    show (cv c k j * 2147483579 + mixed c _).natAbs < _
    have := Int.natAbs_add_le (cv c k j * 2147483579) (mixed c (7 * (k : Int) + 100 * (j : Int) + (j : Int) * (j : Int)))
    omega
theorem cell_loop (r : D) (k : Nat) (hk : k < 1000) (c : Int) : forL [] (.nm 4) (evSs E_law_cell B_law_cell_1 [0, 1]) (rangeD 0 24) [.tr (.leaf r), .tr (.leaf (.int k)), .tr (.leaf (.int c)), .tr (.leaf (.int 0)), .un] =
    .nx [.tr (.leaf r), .tr (.leaf (.int k)), .tr (.leaf (.int c)), .tr (.leaf (.int (cv c k 24))), .un] := by
  refine for_rng0 (n := 24) (fun j => [.tr (.leaf r), .tr (.leaf (.int k)), .tr (.leaf (.int c)), .tr (.leaf (.int (cv c k j))), .un]) fun j hj => ⟨_, rfl, ?_⟩
  have m1 : mulOk (cv c k j) 2147483579 = true := mulOk_lt (cv_bd c k j) (m := 31) (by decide) (by omega)
  have m2 : mulOk 7 (k : Int) = true := mulOk_lt (n := 3) (m := 10) (by decide) (by omega) (by decide)
  have m3 : mulOk 100 (j : Int) = true := mulOk_lt (n := 7) (m := 10) (by decide) (by omega) (by decide)
  have m4 : mulOk (j : Int) (j : Int) = true := mulOk_lt (n := 10) (m := 10) (by omega) (by omega) (by decide)
  haveI b5 : Bd (7 * (k : Int) + 100 * (j : Int) + (j : Int) * (j : Int)) 100 := ⟨by
    have h0 : (j : Int) * (j : Int) ≤ 24 * 24 := Int.mul_le_mul (by omega) (by omega) (by omega) (by omega)
    have h1 : 0 ≤ (j : Int) * (j : Int) := Int.mul_nonneg (by omega) (by omega)
    generalize (j : Int) * (j : Int) = q at *
    have : (1000000 : Nat) < 2 ^ 100 := by decide
    omega⟩
  have tm := t_law_mixed c (7 * (k : Int) + 100 * (j : Int) + (j : Int) * (j : Int)) (n := 100) (by decide)
  simp (disch := first | decide | with_unfolding_all rfl | omega | assumption | (rw [has_srcF (by decide)]; decide) | (simp <;> omega) | fail) [-List.getD_eq_getElem?_getD, -List.map_reverse, List.getD_cons_zero, List.getD_cons_succ, B_law_cell_1, Df.run, runF, entryF, outsF, finSel, Sel.ok, Sel.ixs, pickO, m1, m2, m3, m4, finCall, takeO, putO, tm]
  rfl
def cellX (ns : List Int) (k : Nat) : Int := if k < ns.length then (if (1000000000000000000 : Int) ≤ ns.getD k 0 then (ns.getD k 0 - 1000000000000000000).fmod (10 ^ 240) else cv (ns.getD k 0) k 24) else cv 0 k 24
theorem t_law_cell (ns : List Int) {a : Int} {k : Nat} (e : a = (k : Int)) (hk : k < 1000) : F_law_cell [.leaf (.ro (ns.map .int)), .leaf (.int a)] = .ret (.leaf (.int (cellX ns k))) [.leaf (.ro (ns.map .int)), .leaf (.int a)] := by
  subst e
  have hln : ∀ s : Sl, finBI E_law_cell .len [.vl (.leaf (.ro (ns.map .int)))] s = .ok (.vl (.leaf (.int ns.length))) s := fun s => by simp [finBI, finIf, snapOps, snapOp, isOwn1, finP, bLen, S0.toD]
  have r24 : ∀ s : Sl, rngK (.vl (.leaf (.int 24))) s = .ok ⟨rangeD 0 24, []⟩ s := fun s => rng_ok (n := 24) (by decide)
  have hix : ∀ s : Sl, k < ns.length → finS qIx [.vl (.leaf (.ro (ns.map .int))), .vl (.leaf (.int (k : Int)))] s = .ok (.vl (.leaf (.int (ns.getD k 0)))) s := fun s h => by
    simp only [finS, snapOps, snapOp, frz_leaf, qIx, atI_int h, softs, soft_vl]
  by_cases hl : k < ns.length
  · have e1 : ((k : Int) < (ns.length : Int)) := by omega
    by_cases hc : (1000000000000000000 : Int) ≤ ns.getD k 0
    · have e3 : cellX ns k = (ns.getD k 0 - 1000000000000000000).fmod (10 ^ 240) := by unfold cellX; rw [if_pos hl, if_pos hc]
      rw [e3]
      simp (decide := true) [-List.getD_eq_getElem?_getD, F_law_cell, Df.run, runF, entryF, outsF, finSel, Sel.ok, Sel.ixs, pickO, d_law_cell, hln, e1, hix _ hl, hc, mulOk_bd]
    · have e3 : cellX ns k = cv (ns.getD k 0) k 24 := by unfold cellX; rw [if_pos hl, if_neg hc]
      rw [e3]
      simp (decide := true) [-List.getD_eq_getElem?_getD, F_law_cell, Df.run, runF, entryF, outsF, finSel, Sel.ok, Sel.ixs, pickO, d_law_cell, hln, e1, hix _ hl, hc, r24, r_for0, cell_loop _ k hk]
  · have e1 : ¬ ((k : Int) < (ns.length : Int)) := by omega
    have e3 : cellX ns k = cv 0 k 24 := by unfold cellX; rw [if_neg hl]
    rw [e3]
    simp (decide := true) [-List.getD_eq_getElem?_getD, F_law_cell, Df.run, runF, entryF, outsF, finSel, Sel.ok, Sel.ixs, pickO, d_law_cell, hln, e1, r24, r_for0, cell_loop _ k hk]
theorem t_is_number (i : Int) : F_is_number [.leaf (.int i)] = .ret (.leaf (.bl true)) [.leaf (.int i)] := by
  simp (decide := true) [F_is_number, Df.run, runF, entryF, outsF, finSel, Sel.ok, Sel.ixs, pickO, d_is_number, isiO, isiB, tyN]
theorem isiT_lt {own : List Str} {s : Sl} {k : Kd} {xs : List Int} {j : Nat} (h : s[j]? = some (.tr (seqT k xs))) : isiTK (isiO own) [.inl "list", .inl "tuple"] (opS k xs j) s = .ok (.vl (.leaf (.bl true))) s :=
  r_isiTK ((IsS.rt h).snap) (by cases k <;> rfl)
theorem t_look_at_numbers {k : Kd} {xs : List Int} (h1 : 1 ≤ xs.length) (h2 : xs.length ≤ 12) : F_look_at_numbers [seqT k xs] = .ret (.leaf .non) [seqT k xs] := by
  have hb : forK E_look_at_numbers (.tp [1, 2]) B_look_at_numbers_1 [0] ⟨enumD (dI xs), srcS k xs 0⟩ [.tr (seqT k xs), .un, .un] = .nx [.tr (seqT k xs), .un, .un] := by
    refine for_enumS (fun _ => [.tr (seqT k xs), .un, .un]) (fun m _ => rfl) (by cases k <;> rfl) fun m hm => ⟨_, rfl, ?_⟩
    simp (disch := first | decide | with_unfolding_all rfl | omega | assumption | (rw [has_srcF (by decide)]; decide) | (simp <;> omega) | fail) [-List.getD_eq_getElem?_getD, -List.map_reverse, List.getD_cons_zero, List.getD_cons_succ, B_look_at_numbers_1, Df.run, runF, entryF, outsF, finSel, Sel.ok, Sel.ixs, pickO, finCall, takeO, putO, t_is_number]
  have e1 : decide ((xs.length : Int) < 1) = false := decide_eq_false (by omega)
  have e2 : decide (12 < (xs.length : Int)) = false := decide_eq_false (by omega)
  simp (disch := first | decide | with_unfolding_all rfl | omega | assumption | (rw [has_srcF (by decide)]; decide) | (simp <;> omega) | fail) [-List.getD_eq_getElem?_getD, -List.map_reverse, List.getD_cons_zero, List.getD_cons_succ, F_look_at_numbers, Df.run, runF, entryF, outsF, finSel, Sel.ok, Sel.ixs, pickO, d_look_at_numbers, isiT_lt, e1, e2, hb]
def setFK (i : Nat) (D : Str → Option Nat) (o : Op) (s1 : Sl) : SO := match settle1 s1 o with
  | some (t, s2) => match treeAt s2 i with
    | some u => match putT D t u with
      | some u' => .nx (s2.set i (.tr u'))
      | none => .bad
    | none => .bad
  | none => .bad
theorem r_evSetFld {i : Nat} {D : Str → Option Nat} {f : Sl → Out Op} {s : Sl} : evSetFld i D f s = (f s).bns (setFK i D) := by
  unfold evSetFld
  cases f s <;> rfl
theorem t_Row_init {k : Kd} {xs : List Int} (h1 : 1 ≤ xs.length) (h2 : xs.length ≤ 12) : F_Row_init [.ins "Row" [], seqT k xs] = .ret (.leaf .non) [.ins "Row" [seqT .t xs], seqT k xs] := by
  simp (disch := first | decide | with_unfolding_all rfl | omega | assumption | (rw [has_srcF (by decide)]; decide) | (simp <;> omega) | fail) [-List.getD_eq_getElem?_getD, -List.map_reverse, List.getD_cons_zero, List.getD_cons_succ, F_Row_init, Df.run, runF, entryF, outsF, finSel, Sel.ok, Sel.ixs, pickO, d_Row_init, call_s (t_look_at_numbers (k := k) h1 h2), r_evSetFld]
  simp [setFK, settle1, putT]
theorem t_Row {k : Kd} {xs : List Int} (h1 : 1 ≤ xs.length) (h2 : xs.length ≤ 12) : makeF "Row" true F_Row_init [seqT k xs] = .ret (rowT xs) [seqT k xs] := by
  unfold makeF
  rw [t_Row_init h1 h2]
  simp [seqT]
theorem call_Row {k : Kd} {xs : List Int} {s : Sl} {j : Nat} (h1 : 1 ≤ xs.length) (h2 : xs.length ≤ 12) (hs : s[j]? = some (.tr (seqT k xs))) : finCall (makeF "Row" true F_Row_init) [opS k xs j] s = .ok (.vl (rowT xs)) s := call_s (t_Row h1 h2) hs
theorem call_RowV {k : Kd} {xs : List Int} {s : Sl} (h1 : 1 ≤ xs.length) (h2 : xs.length ≤ 12) : finCall (makeF "Row" true F_Row_init) [.vl (seqT k xs)] s = .ok (.vl (rowT xs)) s := call_same (opTs_V rfl) (by simp [rtsOf]) (t_Row h1 h2)
theorem fld_row {s : Sl} {xs : List Int} : fldK (fldO fldL "numbers") (.vl (rowT xs)) s = .ok (.vl (seqT .t xs)) s := r_fldK (j := 0) rfl rfl
theorem t_is_row (xs : List Int) : F_is_row [rowT xs] = .ret (.leaf (.bl true)) [rowT xs] := by
  simp (decide := true) [F_is_row, Df.run, runF, entryF, outsF, finSel, Sel.ok, Sel.ixs, pickO, d_is_row, isiO, isiB, tyN, ownL]
theorem t_look_at_row (xs : List Int) : F_look_at_row [rowT xs] = .ret (.leaf .non) [rowT xs] := by
  simp (decide := true) [F_look_at_row, Df.run, runF, entryF, outsF, finSel, Sel.ok, Sel.ixs, pickO, d_look_at_row, finCall, takeO, putO, t_is_row]
theorem t_look_at_depths (i : Int) : F_look_at_depths [.leaf (.int i), .leaf (.int i)] = .ret (.leaf .non) [.leaf (.int i), .leaf (.int i)] := by
  simp (decide := true) [F_look_at_depths, Df.run, runF, entryF, outsF, finSel, Sel.ok, Sel.ixs, pickO, d_look_at_depths]
theorem t_Row_eq (xs ys : List Int) : F_Row_eq [rowT xs, rowT ys] = .ret (.leaf (.bl (decide (xs = ys)))) [rowT xs, rowT ys] := by
  have e : isiK (isiO ownL) (.inr "Row") (.vl (rowT ys)) [.tr (rowT xs), .tr (rowT ys)] = .ok (.vl (.leaf (.bl true))) [.tr (rowT xs), .tr (rowT ys)] := r_isiK (d := .obj "Row" [.tup (dI ys)]) (by simp [snapOp]) rfl
  simp (disch := first | decide | with_unfolding_all rfl | omega | assumption | (rw [has_srcF (by decide)]; decide) | (simp <;> omega) | fail) [-List.getD_eq_getElem?_getD, -List.map_reverse, List.getD_cons_zero, List.getD_cons_succ, F_Row_eq, Df.run, runF, entryF, outsF, finSel, Sel.ok, Sel.ixs, pickO, d_Row_eq, fld_row, e]
theorem eqRow {Γ : Ev} {s : Sl} {xs ys : List Int} (h : Γ.sps "__eq__" "Row" = some F_Row_eq) (hi : Γ.isi = isiO ownL) : finC Γ .eq [.vl (rowT xs), .vl (rowT ys)] s = .ok (.vl (.leaf (.bl (decide (xs = ys))))) s :=
  r_eqO h (.inr ⟨by rw [hi]; rfl, rfl⟩) (t_Row_eq xs ys)
theorem neRow {Γ : Ev} {s : Sl} {xs ys : List Int} (h : Γ.sps "__eq__" "Row" = some F_Row_eq) (hi : Γ.isi = isiO ownL) : finC Γ .ne [.vl (rowT xs), .vl (rowT ys)] s = .ok (.vl (.leaf (.bl (!decide (xs = ys))))) s :=
  r_neO h (.inr ⟨by rw [hi]; rfl, rfl⟩) (t_Row_eq xs ys)
theorem methRow {M : Str → Option (Sel × Fn)} {fs : List (Sl → Out Op)} {s : Sl} {xs : List Int} {sel : Sel} {F : Fn} (h : M "Row" = some (sel, F)) : methK M fs (.vl (rowT xs)) s = kF fs (finSel sel (finCall F)) [] (.vl (rowT xs)) s := r_methK h
theorem t_unit {n : Nat} (h2 : n ≤ 12) : F_unit [.leaf (.int n)] = .ret (seqT .n (unitZ n)) [.leaf (.int n)] := by
  simp (disch := first | decide | with_unfolding_all rfl | omega | assumption | (rw [has_srcF (by decide)]; decide) | (simp <;> omega) | fail) [-List.getD_eq_getElem?_getD, -List.map_reverse, List.getD_cons_zero, List.getD_cons_succ, F_unit, Df.run, runF, entryF, outsF, finSel, Sel.ok, Sel.ixs, pickO, d_unit]
  rfl
/-! ### plain -/
theorem lean_L (m : Nat) (z : Int) : Lean ([0, 1] ++ someL m z) := ⟨by simp, rfl, rfl⟩
theorem lean_bs (m : Nat) (z : Int) : Bs ([0, 1] ++ someL m z) 35 := fun x hx => by
  rcases List.mem_append.mp hx with h1 | h1
  · rcases List.mem_cons.mp h1 with rfl | h1
    · decide
    · rw [List.mem_singleton.mp h1]; decide
  · exact someL_bs _ _ x h1
theorem x_quotient {k1 k2 : Kd} {xs ys fs : List Int} {n m k : Nat} {z : Int} (h1 : Bs fs n) (h2 : Bs ys m) (hnm : n + m < 133999998) (hf : fs.length = k) (hy : k < ys.length) (hk : k < 1000) :
    evX E_quotient X_quotient_1 [.tr (seqT k1 xs), .tr (seqT k2 ys), .tr (seqT .n fs), .tr (.leaf (.int k)), .tr (.leaf (.int z)), .un] = .ok (.vl (seqT .n ((List.range k).map fun i => fs.getD i 0 * ys.getD (k - i) 0))) [.tr (seqT k1 xs), .tr (seqT k2 ys), .tr (seqT .n fs), .tr (.leaf (.int k)), .tr (.leaf (.int z)), .un] := by
  unfold X_quotient_1
  rw [lc_rng (n := k) (s1 := [.tr (seqT k1 xs), .tr (seqT k2 ys), .tr (seqT .n fs), .tr (.leaf (.int k)), .tr (.leaf (.int z)), .un]) ?_ (fun _ => [.tr (seqT k1 xs), .tr (seqT k2 ys), .tr (seqT .n fs), .tr (.leaf (.int k)), .tr (.leaf (.int z)), .un]) rfl (fun i => .leaf (.int (fs.getD i 0 * ys.getD (k - i) 0))) (sz (by omega)) ?_, seqT_rng]
  · rfl
  · simp (disch := first | decide | with_unfolding_all rfl | omega | assumption | (rw [has_srcF (by decide)]; decide) | (simp <;> omega) | fail) [-List.getD_eq_getElem?_getD, -List.map_reverse, List.getD_cons_zero, List.getD_cons_succ, rng_ok (n := k)]
  · intro i hi
    refine ⟨_, [.tr (seqT k1 xs), .tr (seqT k2 ys), .tr (seqT .n fs), .tr (.leaf (.int k)), .tr (.leaf (.int z)), .tr (.leaf (.int i))], rfl, ?_, rfl⟩
    have e1 : ((k : Int) - (i : Int)).toNat = k - i := by omega
    have e5 := h1.mul h2 hnm i (k - i)
    simp (disch := first | decide | with_unfolding_all rfl | omega | assumption | (rw [has_srcF (by decide)]; decide) | (simp <;> omega) | fail) [-List.getD_eq_getElem?_getD, -List.map_reverse, List.getD_cons_zero, List.getD_cons_succ, e1]
theorem t_quotient {k1 k2 : Kd} {xs ys : List Int} {n m : Nat} (h1 : Bs xs n) (h2 : Bs ys m) (hnm : n + 12 * (m + 5) + m < 133999998) (hl : xs.length ≤ ys.length) (hx : xs.length ≤ 12) :
    F_quotient [seqT k1 xs, seqT k2 ys] = .ret (seqT .n (quoZ xs ys)) [seqT k1 xs, seqT k2 ys] := by
  have hb : forK E_quotient (.tp [3, 4]) B_quotient_1 [0, 1] ⟨enumD (dI xs), srcS k1 xs 0⟩ [.tr (seqT k1 xs), .tr (seqT k2 ys), .tr (seqT .n []), .un, .un, .un] = .nx [.tr (seqT k1 xs), .tr (seqT k2 ys), .tr (seqT .n (quoZ xs ys)), .un, .un, .un] := by
    refine for_enumS (fun k => [.tr (seqT k1 xs), .tr (seqT k2 ys), .tr (seqT .n (quoN xs ys k)), .un, .un, .un]) (fun m _ => rfl) (by cases k1 <;> rfl) fun k hk => ⟨_, rfl, ?_⟩
    have hq := quoN_bs h1 h2 k (by omega)
    have hx1 := x_quotient (k1 := k1) (k2 := k2) (xs := xs) (z := xs.getD k 0) (hq.mono (m := n + 12 * (m + 5)) (by have := Nat.mul_le_mul_right (m + 5) (show k ≤ 12 by omega); omega)) h2 hnm (quoN_len xs ys k) (by omega) (by omega)
    have ha := appS (s := [.tr (seqT k1 xs), .tr (seqT k2 ys), .tr (seqT .n (quoN xs ys k)), .tr (.leaf (.int k)), .tr (.leaf (.int (xs.getD k 0))), .un]) (i := 2) (f := evX E_quotient (.bin .sub (.nm 4) (.bi .sum [X_quotient_1]))) (v := xs.getD k 0 - sumR k fun i => (quoN xs ys k).getD i 0 * ys.getD (k - i) 0) (xs := quoN xs ys k) (s1 := [.tr (seqT k1 xs), .tr (seqT k2 ys), .tr (seqT .n (quoN xs ys k)), .tr (.leaf (.int k)), .tr (.leaf (.int (xs.getD k 0))), .un]) rfl (by
      simp (disch := first | decide | with_unfolding_all rfl | omega | assumption | (rw [has_srcF (by decide)]; decide) | (simp <;> omega) | fail) [-List.getD_eq_getElem?_getD, -List.map_reverse, List.getD_cons_zero, List.getD_cons_succ, hx1]
      rfl) rfl (szl (by rw [quoN_len]; omega))
    simp (disch := first | decide | with_unfolding_all rfl | omega | assumption | (rw [has_srcF (by decide)]; decide) | (simp <;> omega) | fail) [-List.getD_eq_getElem?_getD, -List.map_reverse, List.getD_cons_zero, List.getD_cons_succ, B_quotient_1, ha]
    rfl
  simp (disch := first | decide | with_unfolding_all rfl | omega | assumption | (rw [has_srcF (by decide)]; decide) | (simp <;> omega) | fail) [-List.getD_eq_getElem?_getD, -List.map_reverse, List.getD_cons_zero, List.getD_cons_succ, F_quotient, Df.run, runF, entryF, outsF, finSel, Sel.ok, Sel.ixs, pickO, d_quotient, finList, VS.settle, seqT_nil, hb]
/-! ### put in -/
theorem t_put_in {k1 k2 : Kd} {xs ys : List Int} {n m : Nat} (h1 : Bs xs n) (h2 : Bs ys m) (hnm : n + 12 * (m + 5) + m < 133999998) (hl : xs.length ≤ ys.length) (h0 : 1 ≤ xs.length) (hx : xs.length ≤ 12) :
    F_put_in [seqT k1 xs, seqT k2 ys] = .ret (seqT .n (putZ xs ys)) [seqT k1 xs, seqT k2 ys] := by
  have hb : forK E_put_in (.nm 3) B_put_in_1 [0, 1] ⟨dI xs.reverse, []⟩ [.tr (seqT k1 xs), .tr (seqT k2 ys), .tr (seqT .n (hrn xs ys 0)), .un] = .nx [.tr (seqT k1 xs), .tr (seqT k2 ys), .tr (seqT .n (hrn xs ys xs.reverse.length)), .un] := by
    refine for_seqV (fun k => [.tr (seqT k1 xs), .tr (seqT k2 ys), .tr (seqT .n (hrn xs ys k)), .un]) rfl fun k hk => ⟨_, rfl, ?_⟩
    rw [List.length_reverse] at hk
    have hk2 : n + k * (m + 5) ≤ n + 12 * (m + 5) := by
      have := Nat.mul_le_mul_right (m + 5) (show k ≤ 12 by omega)
      omega
    have tp := t_product (k1 := .n) (k2 := k2) ((hrn_bs h1 h2 hx k (by omega)).mono hk2) h2 hnm (by rw [hrn_len]; omega) (by rw [hrn_len]; omega)
    have hs := setS (i := 2) (s := [.tr (seqT k1 xs), .tr (seqT k2 ys), .tr (seqT .n (prodZ (hrn xs ys k) ys)), .tr (.leaf (.int (xs.reverse.getD k 0)))]) (s1 := [.tr (seqT k1 xs), .tr (seqT k2 ys), .tr (seqT .n (prodZ (hrn xs ys k) ys)), .tr (.leaf (.int (xs.reverse.getD k 0)))]) (s2 := [.tr (seqT k1 xs), .tr (seqT k2 ys), .tr (seqT .n (prodZ (hrn xs ys k) ys)), .tr (.leaf (.int (xs.reverse.getD k 0)))])
      (fi := evX E_put_in (.k (.int 0))) (fe := evX E_put_in (.bin .add (.ix (.nm 2) (.k (.int 0))) (.nm 3))) (xs := prodZ (hrn xs ys k) ys) (a := 0) (v := (prodZ (hrn xs ys k) ys).getD 0 0 + xs.reverse.getD k 0) (by
        have l0 : 0 < (prodZ (hrn xs ys k) ys).length := by rw [prodZ_len, hrn_len]; omega
        simp (disch := first | decide | with_unfolding_all rfl | omega | assumption | (rw [has_srcF (by decide)]; decide) | (simp <;> omega) | fail) [-List.getD_eq_getElem?_getD, -List.map_reverse, List.getD_cons_zero, List.getD_cons_succ, ]) rfl (by simp (disch := first | decide | with_unfolding_all rfl | omega | assumption | (rw [has_srcF (by decide)]; decide) | (simp <;> omega) | fail) [-List.getD_eq_getElem?_getD, -List.map_reverse, List.getD_cons_zero, List.getD_cons_succ, ]) rfl (by omega) (by rw [prodZ_len, hrn_len]; omega)
    rw [show (0 : Int).toNat = 0 from rfl, hrn_step hk] at hs
    simp (disch := first | decide | with_unfolding_all rfl | omega | assumption | (rw [has_srcF (by decide)]; decide) | (simp <;> omega) | fail) [-List.getD_eq_getElem?_getD, -List.map_reverse, List.getD_cons_zero, List.getD_cons_succ, B_put_in_1, Df.run, runF, entryF, outsF, finSel, Sel.ok, Sel.ixs, pickO, call_ss tp, hs]
  rw [List.length_reverse, hrn_zero, hrn_last] at hb
  simp (disch := first | decide | with_unfolding_all rfl | omega | assumption | (rw [has_srcF (by decide)]; decide) | (simp <;> omega) | fail) [-List.getD_eq_getElem?_getD, -List.map_reverse, List.getD_cons_zero, List.getD_cons_succ, F_put_in, Df.run, runF, entryF, outsF, finSel, Sel.ok, Sel.ixs, pickO, d_put_in, hb]
/-! ### the law's own -/
/-! ### into, slope, back -/
theorem t_turned_back {k : Kd} {xs : List Int} {a b : Nat} (h : Lean xs) (h2 : xs.length ≤ 12) (ha : Bs xs a) (hb : Bs (rvZ xs) b) (hab : a + 12 * (b + 5) + b < 133999998) : F_turned_back [seqT k xs] = .ret (seqT .n (rvZ xs)) [seqT k xs] := by
  have hl := h.1
  have hb : forL [] (.nm 2) (evSs E_turned_back B_turned_back_1 [0]) (rangeD 2 (xs.length - 2)) [.tr (seqT k xs), .tr (seqT .n (rvN (fn xs) (2 + 0))), .un, .un] = .nx [.tr (seqT k xs), .tr (seqT .n (rvN (fn xs) (2 + (xs.length - 2)))), .un, .un] := by
    refine for_rng (n := xs.length - 2) (fun m => [.tr (seqT k xs), .tr (seqT .n (rvN (fn xs) (2 + m))), .un, .un]) fun m hm => ⟨_, rfl, ?_⟩
    have e1 : ((2 : Int) + (m : Int) + 1).toNat = 2 + m + 1 := by omega
    have e2 : ((2 : Int) + (m : Int)).toNat = 2 + m := by omega
    have lt : (xs.take (2 + m + 1)).length = 2 + m + 1 := by rw [List.length_take]; omega
    have lr : (rvN (fn xs) (2 + m) ++ [0]).length = 2 + m + 1 := by simp
    have tp := t_put_in (k1 := cutK k) (k2 := .n) (take_bs (m := 2 + m + 1) ha) (rvN_pre (m := 2 + m) (by omega) hb 1) hab (by rw [lt]; show _ ≤ (rvN (fn xs) (2 + m) ++ [0]).length; rw [lr]; omega) (by omega) (by omega)
    have tp : F_put_in [seqT (cutK k) (xs.take (2 + m + 1)), seqT .n (rvN (fn xs) (2 + m) ++ [0])] = _ := tp
    have tv : 0 - (putZ (xs.take (2 + m + 1)) (rvN (fn xs) (2 + m) ++ [0])).getD (2 + m) 0 = 0 - (putZ (xs.take (2 + m + 1)) (rvN (fn xs) (2 + m) ++ [0])).getD (2 + m) 0 := rfl
    have lp := putZ_len (xs.take (2 + m + 1)) (rvN (fn xs) (2 + m) ++ [0])
    have tb := rv_told h (m := 2 + m) (by omega) (by omega)
    generalize hz : putZ (xs.take (2 + m + 1)) (rvN (fn xs) (2 + m) ++ [0]) = z at *
    have tp : F_put_in [seqT (cutK k) (xs.take (2 + m + 1)), seqT .n (rvN (fn xs) (2 + m) ++ [0])] = .ret (seqT .n z) [seqT (cutK k) (xs.take (2 + m + 1)), seqT .n (rvN (fn xs) (2 + m) ++ [0])] := by rw [← hz]; exact tp
    have ap := appS (s := [.tr (seqT k xs), .tr (seqT .n (rvN (fn xs) (2 + m))), .tr (.leaf (.int (2 + (m : Int)))), .tr (seqT .n z)]) (i := 1) (f := evX E_turned_back (.bin .sub (.k (.int 0)) (.ix (.nm 3) (.nm 2)))) (v := 0 - z.getD (2 + m) 0) (xs := rvN (fn xs) (2 + m)) (s1 := [.tr (seqT k xs), .tr (seqT .n (rvN (fn xs) (2 + m))), .tr (.leaf (.int (2 + (m : Int)))), .tr (seqT .n z)]) rfl (by
      simp (disch := first | decide | with_unfolding_all rfl | omega | assumption | (rw [has_srcF (by decide)]; decide) | (simp <;> omega) | fail) [-List.getD_eq_getElem?_getD, -List.map_reverse, List.getD_cons_zero, List.getD_cons_succ, e2]) rfl (szl (by rw [rvN_len]; omega))
    rw [tb] at ap
    simp (disch := first | decide | with_unfolding_all rfl | omega | assumption | (rw [has_srcF (by decide)]; decide) | (simp <;> omega) | fail) [-List.getD_eq_getElem?_getD, -List.map_reverse, List.getD_cons_zero, List.getD_cons_succ, B_turned_back_1, Df.run, runF, entryF, outsF, finSel, Sel.ok, Sel.ixs, pickO, e1, call_vv tp, ap]
    rfl
  have hr : ∀ s : Sl, rng2B (.vl (.leaf (.int 2))) (.vl (.leaf (.int (xs.length : Int)))) s = .ok ⟨rangeD 2 (xs.length - 2), []⟩ s := fun s => rng2_ok (by omega) (by omega) (by omega) (by omega) (by omega)
  have e3 : 2 + (xs.length - 2) = xs.length := by omega
  rw [Nat.add_zero, rvN_two h, e3] at hb
  have hb : forL [] (.nm 2) (evSs E_turned_back B_turned_back_1 [0]) (rangeD 2 (xs.length - 2)) [.tr (seqT k xs), .tr (seqT .n [0, 1]), .un, .un] = .nx [.tr (seqT k xs), .tr (seqT .n (rvZ xs)), .un, .un] := hb
  simp (disch := first | decide | with_unfolding_all rfl | omega | assumption | (rw [has_srcF (by decide)]; decide) | (simp <;> omega) | fail) [-List.getD_eq_getElem?_getD, -List.map_reverse, List.getD_cons_zero, List.getD_cons_succ, F_turned_back, Df.run, runF, entryF, outsF, finSel, Sel.ok, Sel.ixs, pickO, d_turned_back, hr, r_for0, hb]
/-! ### the law's own way back -/
/-! ### tables -/
theorem fld_first {s : Sl} {f l : List Int} : fldK (fldO fldL "first") (.vl (tabT f l)) s = .ok (.vl (rowT f)) s := r_fldK (j := 0) rfl rfl
theorem fld_lean {s : Sl} {f l : List Int} : fldK (fldO fldL "lean") (.vl (tabT f l)) s = .ok (.vl (rowT l)) s := r_fldK (j := 1) rfl rfl
theorem lean_take {l : List Int} (h : Lean l) : l.take 2 = [0, 1] := by
  obtain ⟨h1, h2, h3⟩ := h
  match l, h1, h2, h3 with
  | a :: b :: r, _, h2, h3 =>
    have h2 : a = 0 := h2
    have h3 : b = 1 := h3
    subst h2 h3
    rfl
theorem t_Table_init {f l : List Int} (h : f.length = l.length) (hl : Lean l) (hf : f.getD 0 0 = 1) (h2 : f.length ≤ 12) : F_Table_init [.ins "Table" [], rowT f, rowT l] = .ret (.leaf .non) [.ins "Table" [rowT f, rowT l], rowT f, rowT l] := by
  have e1 : decide (f.getD 0 0 = 1) = true := decide_eq_true hf
  have e2 := lean_take hl
  have l1 := hl.1
  have e3 : decide ((2 : Int).toNat = 2) = true := rfl
  have ht : ∀ s : Sl, finTup [.vl (.leaf (.int 0)), .vl (.leaf (.int 1))] s = .ok (.vl (seqT .t [0, 1])) s := fun _ => rfl
  have et : l.take (Int.toNat 2) = [0, 1] := e2
  simp (disch := first | decide | with_unfolding_all rfl | omega | assumption | (rw [has_srcF (by decide)]; decide) | (simp <;> omega) | fail) [-List.getD_eq_getElem?_getD, -List.map_reverse, List.getD_cons_zero, List.getD_cons_succ, F_Table_init, Df.run, runF, entryF, outsF, finSel, Sel.ok, Sel.ixs, pickO, d_Table_init, fld_row, call_v (t_look_at_row f), call_v (t_look_at_row l), h, call_vv (t_look_at_depths _), e1, ht, et, e2, r_evSetFld]
  simp [setFK, settle1, putT]
  simp (disch := first | decide | with_unfolding_all rfl | omega | assumption | (rw [has_srcF (by decide)]; decide) | (simp <;> omega) | fail) [-List.getD_eq_getElem?_getD, -List.map_reverse, List.getD_cons_zero, List.getD_cons_succ, Df.run, runF, entryF, outsF, finSel, Sel.ok, Sel.ixs, pickO, r_evSetFld]
  simp [setFK, settle1, putT]
theorem t_Table {f l : List Int} (h : f.length = l.length) (hl : Lean l) (hf : f.getD 0 0 = 1) (h2 : f.length ≤ 12) : makeF "Table" true F_Table_init [rowT f, rowT l] = .ret (tabT f l) [rowT f, rowT l] := by
  unfold makeF
  rw [t_Table_init h hl hf h2]
  simp
theorem t_Table_eq (f l f' l' : List Int) : F_Table_eq [tabT f l, tabT f' l'] = .ret (.leaf (.bl (decide (f = f') && decide (l = l')))) [tabT f l, tabT f' l'] := by
  have e : isiK (isiO ownL) (.inr "Table") (.vl (tabT f' l')) [.tr (tabT f l), .tr (tabT f' l')] = .ok (.vl (.leaf (.bl true))) [.tr (tabT f l), .tr (tabT f' l')] := r_isiK (d := tabD f' l') (by simp [snapOp]) rfl
  by_cases hf : f = f'
  · have e1 : decide (f = f') = true := decide_eq_true hf
    simp (disch := first | decide | with_unfolding_all rfl | omega | assumption | (rw [has_srcF (by decide)]; decide) | (simp <;> omega) | fail) [-List.getD_eq_getElem?_getD, -List.map_reverse, List.getD_cons_zero, List.getD_cons_succ, F_Table_eq, Df.run, runF, entryF, outsF, finSel, Sel.ok, Sel.ixs, pickO, d_Table_eq, fld_first, fld_lean, e, eqRow Es_Table_eq_eq_Row rfl, e1]
  · have e1 : decide (f = f') = false := decide_eq_false hf
    simp (disch := first | decide | with_unfolding_all rfl | omega | assumption | (rw [has_srcF (by decide)]; decide) | (simp <;> omega) | fail) [-List.getD_eq_getElem?_getD, -List.map_reverse, List.getD_cons_zero, List.getD_cons_succ, F_Table_eq, Df.run, runF, entryF, outsF, finSel, Sel.ok, Sel.ixs, pickO, d_Table_eq, fld_first, fld_lean, e, eqRow Es_Table_eq_eq_Row rfl, e1]
theorem eqTab {Γ : Ev} {s : Sl} {f l f' l' : List Int} (h : Γ.sps "__eq__" "Table" = some F_Table_eq) (hi : Γ.isi = isiO ownL) : finC Γ .eq [.vl (tabT f l), .vl (tabT f' l')] s = .ok (.vl (.leaf (.bl (decide (f = f') && decide (l = l'))))) s :=
  r_eqO h (.inr ⟨by rw [hi]; rfl, rfl⟩) (t_Table_eq f l f' l')
theorem neTab {Γ : Ev} {s : Sl} {f l f' l' : List Int} (h : Γ.sps "__eq__" "Table" = some F_Table_eq) (hi : Γ.isi = isiO ownL) : finC Γ .ne [.vl (tabT f l), .vl (tabT f' l')] s = .ok (.vl (.leaf (.bl (!(decide (f = f') && decide (l = l')))))) s :=
  r_neO h (.inr ⟨by rw [hi]; rfl, rfl⟩) (t_Table_eq f l f' l')
theorem methTab {M : Str → Option (Sel × Fn)} {fs : List (Sl → Out Op)} {s : Sl} {f l : List Int} {sel : Sel} {F : Fn} (h : M "Table" = some (sel, F)) : methK M fs (.vl (tabT f l)) s = kF fs (finSel sel (finCall F)) [] (.vl (tabT f l)) s := r_methK h
theorem t_Table_deep (f l : List Int) : F_Table_deep [tabT f l] = .ret (.leaf (.int f.length)) [tabT f l] := by
  simp (disch := first | decide | with_unfolding_all rfl | omega | assumption | (rw [has_srcF (by decide)]; decide) | (simp <;> omega) | fail) [-List.getD_eq_getElem?_getD, -List.map_reverse, List.getD_cons_zero, List.getD_cons_succ, F_Table_deep, Df.run, runF, entryF, outsF, finSel, Sel.ok, Sel.ixs, pickO, d_Table_deep, fld_first, fld_row]
/-! what the law makes -/
/-! ### tables multiplied, parted -/
/-! ### the law's sums of entries -/
/-- the entries of the parts, summed up -/
theorem smZ_parted {f l : List Int} (h : f.length = l.length) (h1 : 2 ≤ f.length) : smZ (colsZ f (plZ f.length) f.length) (colsZ (unitZ f.length) l f.length) f.length f.length = colsZ f l f.length := by
  have hu := unitZ_len (n := f.length) (by omega)
  unfold smZ
  show _ = (List.range f.length).map (colZ f l)
  refine List.map_congr_left fun k hk => ?_
  have hk := List.mem_range.mp hk
  refine ext_getD (by simp) fun i hi => ?_
  have hi : i < f.length := by simpa using hi
  rw [getD_range hi, colZ_at _ _ hi, cnv_comm]
  have e : ∀ j, j < f.length → smF (colsZ f (plZ f.length) f.length) (colsZ (unitZ f.length) l f.length) k i j = (if j ≤ i then f.getD (i - j) 0 else 0) * pw (fn l) k j := fun j hj => by
    unfold smF
    rw [colsZ_at hj, colsZ_at hk, col_plain rfl hi, colZ_at _ _ (by rw [hu]; exact hj)]
    congr 1
    rw [cnv_congr (f := fn (unitZ f.length)) (f' := one') (g' := pw (fn l) k) (fun m _ => unitZ_at _ m) fun _ _ => rfl, cnv_one]
  rw [sumR_congr e, sumR_cut (m := i + 1) f.length (by omega) fun j h1 _ => by rw [if_neg (by omega), Int.zero_mul]]
  unfold cnv
  refine sumR_congr fun j hj => ?_
  rw [if_pos (by omega), Int.mul_comm]
  rfl
/-! ### a table's rule -/
theorem mem_dl {x : Int} {xs : List Int} (h : x ∈ xs.dropLast) : x ∈ xs := by
  rw [List.dropLast_eq_take] at h
  exact List.mem_of_mem_take h
theorem abZ_bs {l : List Int} (h : Lean l) (h2 : l.length ≤ 12) (b : Bs l 35) : Bs (abZ l) 8000 := by
  have h1 := h.1
  have bd : Bs ((rvZ l).drop 1) 480 := fun x hx => rvZ_bs h h2 b x (List.mem_of_mem_drop hx)
  exact (quoZ_bs (unitZ_bs _) bd (by rw [unitZ_len (by omega)]; omega)).mono (by omega)
theorem ngZ_bs {f : List Int} (h1 : 2 ≤ f.length) (h2 : f.length ≤ 12) (b : Bs f 35) : Bs (ngZ f) 481 := bs_of fun k hk => by
  rw [ngZ_len] at hk
  have q := quoZ_bs (unitZ_bs f.length) b (by rw [unitZ_len (by omega)]; omega)
  unfold ngZ
  rw [getD_range hk, drop_at, Int.zero_sub, Int.natAbs_neg]
  exact (q.mono (by omega)).at_ _
theorem edZ_bs {f l : List Int} (hn : f.length = l.length) (h : Lean l) (h2 : f.length ≤ 12) (bf : Bs f 35) (b : Bs l 35) : Bs (edZ f l) 8000 := by
  have h1 := h.1
  have bd : Bs (rvZ l).dropLast 480 := fun x hx => rvZ_bs h (by omega) b x (mem_dl hx)
  have q := hrn_bs (ngZ_bs (by omega) h2 bf) bd (by rw [ngZ_len]; omega) (ngZ f).length (Nat.le_refl _)
  rw [hrn_last] at q
  refine q.mono ?_
  rw [ngZ_len]
  have := Nat.mul_le_mul_right (480 + 5) (show f.length - 1 ≤ 12 by omega)
  omega
theorem x_rule {f l : List Int} (h1 : 2 ≤ f.length) (h2 : f.length ≤ 12) (t1 t2 : T) : evX E_Table_rule X_Table_rule_1 [.tr (tabT f l), .tr t1, .tr t2, .tr (seqT .n (quoZ (unitZ f.length) f)), .un, .un] = .ok (.vl (seqT .n (ngZ f))) [.tr (tabT f l), .tr t1, .tr t2, .tr (seqT .n (quoZ (unitZ f.length) f)), .un, .un] := by
  have ld : ((quoZ (unitZ f.length) f).drop 1).length = f.length - 1 := by rw [List.length_drop, quoZ_len, unitZ_len (by omega)]
  have e : ngZ f = (List.range ((quoZ (unitZ f.length) f).drop 1).length).map fun k => 0 - ((quoZ (unitZ f.length) f).drop 1).getD k 0 := by rw [ld]; rfl
  have hc : ∀ s : Sl, s[3]? = some (.tr (seqT .n (quoZ (unitZ f.length) f))) → finS (qCut true false) [opS .n (quoZ (unitZ f.length) f) 3, .vl (.leaf (.int 1))] s = .ok (.vl (seqT .n ((quoZ (unitZ f.length) f).drop 1))) s := fun s hs => r_cutL' (a := 1) hs (by decide)
  rw [e]
  unfold X_Table_rule_1
  generalize (quoZ (unitZ f.length) f).drop 1 = d at *
  rw [lc_seq (xs := d) (s1 := [.tr (tabT f l), .tr t1, .tr t2, .tr (seqT .n (quoZ (unitZ f.length) f)), .un, .un]) (src := []) ?_ rfl (fun _ => [.tr (tabT f l), .tr t1, .tr t2, .tr (seqT .n (quoZ (unitZ f.length) f)), .un, .un]) rfl (fun k => .leaf (.int (0 - d.getD k 0))) (by omega) (fun _ _ => rfl) ?_, seqT_rng]
  · rfl
  · simp (disch := first | decide | with_unfolding_all rfl | omega | assumption | (rw [has_srcF (by decide)]; decide) | (simp <;> omega) | fail) [-List.getD_eq_getElem?_getD, -List.map_reverse, List.getD_cons_zero, List.getD_cons_succ, hc]
  · intro m hm
    refine ⟨_, [.tr (tabT f l), .tr t1, .tr t2, .tr (seqT .n (quoZ (unitZ f.length) f)), .un, .tr (.leaf (.int (d.getD m 0)))], rfl, ?_, rfl⟩
    simp (disch := first | decide | with_unfolding_all rfl | omega | assumption | (rw [has_srcF (by decide)]; decide) | (simp <;> omega) | fail) [-List.getD_eq_getElem?_getD, -List.map_reverse, List.getD_cons_zero, List.getD_cons_succ, -Int.zero_sub]
def rT (a e : List Int) : T := .leaf (.tup [rowD a, rowD e])
theorem t_Table_rule {f l : List Int} (h : f.length = l.length) (hl : Lean l) (h2 : f.length ≤ 12) (bf : Bs f 35) (bl : Bs l 35) : F_Table_rule [tabT f l] = .ret (rT (abZ l) (edZ f l)) [tabT f l] := by
  have l1 := hl.1
  have hn : 2 ≤ f.length := by omega
  have bv := rvZ_bs hl (by omega) bl
  have lv := rvZ_len l
  have tb := t_turned_back (k := .t) hl (by omega) bl bv (by omega)
  have e1 : (f.length : Int) - 1 = ((f.length - 1 : Nat) : Int) := by omega
  have u1 := t_unit (n := f.length - 1) (by omega)
  have u2 := t_unit (n := f.length) h2
  have lu1 := unitZ_len (n := f.length - 1) (by omega)
  have lu2 := unitZ_len (n := f.length) (by omega)
  have bd : Bs ((rvZ l).drop 1) 480 := fun x hx => bv x (List.mem_of_mem_drop hx)
  have ld : ((rvZ l).drop 1).length = f.length - 1 := by rw [List.length_drop]; omega
  have q1 := t_quotient (k1 := .n) (k2 := .n) (unitZ_bs (f.length - 1)) bd (by omega) (by omega) (by omega)
  have q2 := t_quotient (k1 := .n) (k2 := .t) (unitZ_bs f.length) bf (by omega) (by omega) (by omega)
  have ea : quoZ (unitZ (f.length - 1)) ((rvZ l).drop 1) = abZ l := by rw [h]; rfl
  rw [ea] at q1
  have bdl : Bs (rvZ l).dropLast 480 := fun x hx => bv x (mem_dl hx)
  have p1 := t_put_in (k1 := .n) (k2 := .n) (ngZ_bs hn h2 bf) bdl (by omega) (by rw [ngZ_len, List.length_dropLast]; omega) (by rw [ngZ_len]; omega) (by rw [ngZ_len]; omega)
  have p1 : F_put_in [seqT .n (ngZ f), seqT .n (rvZ l).dropLast] = .ret (seqT .n (edZ f l)) [seqT .n (ngZ f), seqT .n (rvZ l).dropLast] := p1
  have hc : ∀ s : Sl, s[1]? = some (.tr (seqT .n (rvZ l))) → finS (qCut true false) [opS .n (rvZ l) 1, .vl (.leaf (.int 1))] s = .ok (.vl (seqT .n ((rvZ l).drop 1))) s := fun s hs => r_cutL' (a := 1) hs (by decide)
  have la := abZ_len hl
  have le := edZ_len f l
  have ra : ∀ s : Sl, s[2]? = some (.tr (seqT .n (abZ l))) → finCall (makeF "Row" true F_Row_init) [opS .n (abZ l) 2] s = .ok (.vl (rowT (abZ l))) s := fun s hs => call_Row (by omega) (by omega) hs
  have re : ∀ s : Sl, finCall (makeF "Row" true F_Row_init) [.vl (seqT .n (edZ f l))] s = .ok (.vl (rowT (edZ f l))) s := fun s => call_RowV (by omega) (by omega)
  have hx := fun t1 t2 => x_rule (l := l) hn h2 t1 t2
  generalize (rvZ l).drop 1 = d1 at *
  simp (disch := first | decide | with_unfolding_all rfl | omega | assumption | (rw [has_srcF (by decide)]; decide) | (simp <;> omega) | fail) [-List.getD_eq_getElem?_getD, -List.map_reverse, List.getD_cons_zero, List.getD_cons_succ, F_Table_rule, Df.run, runF, entryF, outsF, finSel, Sel.ok, Sel.ixs, pickO, d_Table_rule, fld_first, fld_lean, fld_row, call_v tb, methTab Em_Table_rule_0_Table, call_v (t_Table_deep f l), e1, call_v u1, call_v u2, hc, call_vv q1, call_vv q2, hx, ra, call_sv p1, re]
  rfl
/-! ### columns and rows of a table -/
theorem t_Table_len (f l : List Int) : F_Table_len [tabT f l] = .ret (.leaf (.int f.length)) [tabT f l] := by
  simp (disch := first | decide | with_unfolding_all rfl | omega | assumption | (rw [has_srcF (by decide)]; decide) | (simp <;> omega) | fail) [-List.getD_eq_getElem?_getD, -List.map_reverse, List.getD_cons_zero, List.getD_cons_succ, F_Table_len, Df.run, runF, entryF, outsF, finSel, Sel.ok, Sel.ixs, pickO, d_Table_len, fld_first, fld_row]
def hT (f l : List Int) (m : Nat) : T := mxT (colsZ f l m) (colZ f l m)
theorem hT_LL (f l : List Int) (m : Nat) : LL (hT f l m) (colsZ f l (m + 1)) := by rw [colsZ_succ]; exact LL.mx
theorem t_Table_columns {f l : List Int} {b1 b2 : Nat} (h : f.length = l.length) (h0 : 1 ≤ f.length) (h2 : f.length ≤ 12) (hb1 : Bs f b1) (hb2 : Bs l b2) (hb : b1 + 12 * (b2 + 4) + b2 < 133999998) : F_Table_columns [tabT f l] = .ret (hT f l (f.length - 1)) [tabT f l] := by
  have hw := while_up (c := evT E_Table_columns (.cmp .lt (.bi .len [(.nm 1)]) (.mth 0 (.nm 0) []))) (body := evSs E_Table_columns B_Table_columns_1 [0]) (fun m => [.tr (tabT f l), .tr (hT f l m)]) 0 (f.length - 1) (fun m h1 h3 => by
    have hL := hT_LL f l m
    have hn := hL.len (Γ := E_Table_columns) (j := 1) (s := [.tr (tabT f l), .tr (hT f l m)]) rfl
    rw [colsZ_len] at hn
    have e : decide (((m + 1 : Nat) : Int) < (f.length : Int)) = decide (m < f.length - 1) := by
      by_cases hm : m < f.length - 1
      · rw [decide_eq_true hm, decide_eq_true (by omega)]
      · rw [decide_eq_false hm, decide_eq_false (by omega)]
    generalize hq : ((m + 1 : Nat) : Int) = q at *
    simp (disch := first | decide | with_unfolding_all rfl | omega | assumption | (rw [has_srcF (by decide)]; decide) | (simp <;> omega) | fail) [-List.getD_eq_getElem?_getD, -List.map_reverse, List.getD_cons_zero, List.getD_cons_succ, Df.run, runF, entryF, outsF, finSel, Sel.ok, Sel.ixs, pickO, hL.of, hn, methTab Em_Table_columns_0_Table, call_v (t_Table_deep f l), e]) (fun m h1 h3 => by
    have hL := hT_LL f l m
    have i1 : finS qIx [.rt 1, .vl (.leaf (.int (-1)))] [.tr (tabT f l), .tr (hT f l m)] = .ok (.vl (seqT .l (colZ f l m))) [.tr (tabT f l), .tr (LT .s (colsZ f l (m + 1)))] := by
      have := hL.ix1 (j := 1) (s := [.tr (tabT f l), .tr (hT f l m)]) rfl (by rw [colsZ_len]; omega)
      rw [colsZ_len, colsZ_at (by omega)] at this
      exact this
    have hk2 : b1 + m * (b2 + 4) ≤ b1 + 12 * (b2 + 4) := by
      have := Nat.mul_le_mul_right (b2 + 4) (show m ≤ 12 by omega)
      omega
    have tp := t_product (k1 := .l) (k2 := .t) ((colZ_bs hb1 hb2 h2 m).mono hk2) hb2 hb (by rw [colZ_len]; omega) (by rw [colZ_len]; omega)
    have ap := appL (i := 1) (s := [.tr (tabT f l), .tr (hT f l m)]) (s1 := [.tr (tabT f l), .tr (LT .s (colsZ f l (m + 1)))]) (f := evX E_Table_columns (.call 0 [(.ix (.nm 1) (.neg (.k (.int 1)))), (.fld "numbers" (.fld "lean" (.nm 0)))])) (p := colZ f l (m + 1)) ⟨_, rfl⟩ (by
      simp (disch := first | decide | with_unfolding_all rfl | omega | assumption | (rw [has_srcF (by decide)]; decide) | (simp <;> omega) | fail) [-List.getD_eq_getElem?_getD, -List.map_reverse, List.getD_cons_zero, List.getD_cons_succ, Df.run, runF, entryF, outsF, finSel, Sel.ok, Sel.ixs, pickO, hL.of, i1, fld_lean, fld_row, call_vv tp]
      rfl) rfl (szl (by rw [colsZ_len]; omega))
    simp (disch := first | decide | with_unfolding_all rfl | omega | assumption | (rw [has_srcF (by decide)]; decide) | (simp <;> omega) | fail) [-List.getD_eq_getElem?_getD, -List.map_reverse, List.getD_cons_zero, List.getD_cons_succ, B_Table_columns_1, ap]
    rfl) 1000000 0 (Nat.le_refl _) (Nat.zero_le _) (by omega)
  rw [Nat.max_eq_right (Nat.zero_le _)] at hw
  have e0 : T.node [seqT .n f] = hT f l 0 := rfl
  have hr := (hT_LL f l (f.length - 1)).node (fx := [0]) (j := 1) (s := [.tr (tabT f l), .tr (hT f l (f.length - 1))]) rfl rfl
  simp (disch := first | decide | with_unfolding_all rfl | omega | assumption | (rw [has_srcF (by decide)]; decide) | (simp <;> omega) | fail) [-List.getD_eq_getElem?_getD, -List.map_reverse, List.getD_cons_zero, List.getD_cons_succ, F_Table_columns, Df.run, runF, entryF, outsF, finSel, Sel.ok, Sel.ixs, pickO, d_Table_columns, fld_first, fld_row, lst_t, e0, hw, (hT_LL f l (f.length - 1)).of, hr]
theorem x_rows1 {f l : List Int} {t : T} {i : Nat} (hL : LL t (colsZ f l f.length)) (hi : i < f.length) (h2 : f.length ≤ 12) : evX E_Table_rows X_Table_rows_1 [.tr (tabT f l), .tr t, .tr (.leaf (.int i)), .un] = .ok (.vl (seqT .n ((List.range (i + 1)).map fun k => (colZ f l k).getD i 0))) [.tr (tabT f l), .tr (LT .s (colsZ f l f.length)), .tr (.leaf (.int i)), .un] := by
  unfold X_Table_rows_1
  have lt : ((colsZ f l f.length).take (i + 1)).length = i + 1 := by rw [List.length_take, colsZ_len]; omega
  have e1 : ((i : Int) + 1).toNat = i + 1 := by omega
  have hc := cutLL hL (j := 1) (s := [.tr (tabT f l), .tr t, .tr (.leaf (.int i)), .un]) (a := (i : Int) + 1) rfl (by omega)
  rw [e1] at hc
  have hx := lc_LV (Γ := E_Table_rows) (a := 3) (e := .ix (.nm 3) (.nm 2)) (w := .seq (.cutU (.nm 1) (.bin .add (.nm 2) (.k (.int 1))))) (vs := [3]) (xss := (colsZ f l f.length).take (i + 1)) (s := [.tr (tabT f l), .tr t, .tr (.leaf (.int i)), .un]) (s1 := [.tr (tabT f l), .tr (LT .s (colsZ f l f.length)), .tr (.leaf (.int i)), .un]) (by
      have hs := seqLV (s := [.tr (tabT f l), .tr (LT .s (colsZ f l f.length)), .tr (.leaf (.int i)), .un]) (LL.own (xss := (colsZ f l f.length).take (i + 1)))
      simp (disch := first | decide | with_unfolding_all rfl | omega | assumption | (rw [has_srcF (by decide)]; decide) | (simp <;> omega) | fail) [-List.getD_eq_getElem?_getD, -List.map_reverse, List.getD_cons_zero, List.getD_cons_succ, hL.of, hc, hs]) (fun _ => [.tr (tabT f l), .tr (LT .s (colsZ f l f.length)), .tr (.leaf (.int i)), .un]) rfl (fun k => .leaf (.int ((colZ f l k).getD i 0))) (by omega) (fun k hk => by
      rw [lt] at hk
      refine ⟨_, [.tr (tabT f l), .tr (LT .s (colsZ f l f.length)), .tr (.leaf (.int i)), .tr (seqT .l (colZ f l k))], rfl, ?_, rfl⟩
      rw [take_atL hk, colsZ_at (by omega)]
      have lc := colZ_len f l k
      simp (disch := first | decide | with_unfolding_all rfl | omega | assumption | (rw [has_srcF (by decide)]; decide) | (simp <;> omega) | fail) [-List.getD_eq_getElem?_getD, -List.map_reverse, List.getD_cons_zero, List.getD_cons_succ, ])
  rw [lt] at hx
  rw [hx, seqT_rng]
  rfl
theorem t_Table_rows {f l : List Int} {b1 b2 : Nat} (h : f.length = l.length) (h0 : 1 ≤ f.length) (h2 : f.length ≤ 12) (hb1 : Bs f b1) (hb2 : Bs l b2) (hb : b1 + 12 * (b2 + 4) + b2 < 133999998) : F_Table_rows [tabT f l] = .ret (nnT (roZ f l)) [tabT f l] := by
  have tc := t_Table_columns h h0 h2 hb1 hb2 hb
  have n1 : f.length - 1 + 1 = f.length := by omega
  have hL := hT_LL f l (f.length - 1)
  rw [n1] at hL
  generalize hT f l (f.length - 1) = t at *
  have hx : evX E_Table_rows X_Table_rows_2 [.tr (tabT f l), .tr t, .un, .un] = .ok (.vl (nnT (roZ f l))) [.tr (tabT f l), .tr (gs f.length t (colsZ f l f.length)), .un, .un] := by
    unfold X_Table_rows_2 roZ
    rw [lc_rng (n := f.length) (s1 := [.tr (tabT f l), .tr t, .un, .un]) ?_ (fun i => [.tr (tabT f l), .tr (gs i t (colsZ f l f.length)), .un, .un]) rfl (fun i => seqT .n ((List.range (i + 1)).map fun k => (colZ f l k).getD i 0)) (sz (by omega)) ?_, nn_rng]
    · rfl
    · simp (disch := first | decide | with_unfolding_all rfl | omega | assumption | (rw [has_srcF (by decide)]; decide) | (simp <;> omega) | fail) [-List.getD_eq_getElem?_getD, -List.map_reverse, List.getD_cons_zero, List.getD_cons_succ, Df.run, runF, entryF, outsF, finSel, Sel.ok, Sel.ixs, pickO, methTab Em_Table_rows_1_Table, call_v (t_Table_deep f l), rng_ok (n := f.length)]
    · intro i hi
      exact ⟨_, _, rfl, x_rows1 (gs_LL (j := i) hL) hi h2, rfl⟩
  simp (disch := first | decide | with_unfolding_all rfl | omega | assumption | (rw [has_srcF (by decide)]; decide) | (simp <;> omega) | fail) [-List.getD_eq_getElem?_getD, -List.map_reverse, List.getD_cons_zero, List.getD_cons_succ, F_Table_rows, Df.run, runF, entryF, outsF, finSel, Sel.ok, Sel.ixs, pickO, d_Table_rows, methTab Em_Table_rows_0_Table, call_v tc, hx]
/-! ### tables told, back, power, on -/
theorem bfZ_bs {f l : List Int} (h : f.length = l.length) (hl : Lean l) (h2 : f.length ≤ 12) (bf : Bs f 35) (bl : Bs l 35) : Bs (putZ f (rvZ l)) 5855 ∧ Bs (bfZ f l) 80000 := by
  have l1 := hl.1
  have bv := rvZ_bs hl (by omega) bl
  have q := hrn_bs bf bv h2 f.length (Nat.le_refl _)
  rw [hrn_last] at q
  have q2 : Bs (putZ f (rvZ l)) 5855 := q.mono (by have := Nat.mul_le_mul_right (480 + 5) h2; omega)
  exact ⟨q2, (quoZ_bs (unitZ_bs f.length) q2 (by rw [unitZ_len (by omega)]; exact h2)).mono (by omega)⟩
/-! powers -/
def pL (l : List Int) (n : Nat) : Nat → List Int
  | 0 => plZ n
  | k + 1 => putZ l (pL l n k)
def pF (f l : List Int) (n : Nat) : Nat → List Int
  | 0 => unitZ n
  | k + 1 => prodZ (pF f l n k) (putZ f (pL l n k))
theorem pw_ok {f l : List Int} {n : Nat} (hn : f.length = n) (hl : Lean l) (hn2 : l.length = n) (hf : f.getD 0 0 = 1) : ∀ k, (pF f l n k).length = n ∧ (pL l n k).length = n ∧ Lean (pL l n k) ∧ (pF f l n k).getD 0 0 = 1
  | 0 => by
    have l1 := hl.1
    exact ⟨unitZ_len (by omega), plZ_len n, plZ_lean (by omega), rfl⟩
  | k + 1 => by
    obtain ⟨a, b, c, d⟩ := pw_ok hn hl hn2 hf k
    have l1 := hl.1
    exact ⟨(prodZ_len _ _).trans a, (putZ_len _ _).trans hn2, putZ_lean c hl (by omega), mul_first (by omega) (by omega) c.2.1 d hf⟩
theorem pw_bs {f l : List Int} {n b β k : Nat} (hn : f.length = n) (hn2 : l.length = n) (h2 : n ≤ 12) (hp : (pF f l n k).length = n) (bf : Bs f b) (bl : Bs l b) (h1 : Bs (pF f l n k) β) (h3 : Bs (pL l n k) β) : Bs (pF f l n (k + 1)) (13 * β + b + 64) ∧ Bs (pL l n (k + 1)) (13 * β + b + 64) := by
  have q1 := hrn_bs bf h3 (by omega) f.length (Nat.le_refl _)
  have q2 := hrn_bs bl h3 (by omega) l.length (Nat.le_refl _)
  rw [hrn_last] at q1 q2
  have e1 : f.length * (β + 5) ≤ 12 * (β + 5) := Nat.mul_le_mul_right _ (by omega)
  have e2 : l.length * (β + 5) ≤ 12 * (β + 5) := Nat.mul_le_mul_right _ (by omega)
  exact ⟨(prodZ_bs h1 q1 (by omega)).mono (by omega), q2.mono (by omega)⟩
def pfM (f l : List Int) (m : Int) : List Int := if m < 0 then pF (bfZ f l) (rvZ l) f.length m.natAbs else pF f l f.length m.natAbs
def plM (f l : List Int) (m : Int) : List Int := if m < 0 then pL (rvZ l) f.length m.natAbs else pL l f.length m.natAbs
/-! ### rules of tables with numbers of any size; by_rule -/
theorem ngZ_bsG {f : List Int} {b : Nat} (h1 : 1 ≤ f.length) (h2 : f.length ≤ 12) (bf : Bs f b) : Bs (ngZ f) (1 + 12 * (b + 5)) := bs_of fun k hk => by
  rw [ngZ_len] at hk
  have q := quoZ_bs (unitZ_bs f.length) bf (by rw [unitZ_len (by omega)]; omega)
  unfold ngZ
  rw [getD_range hk, drop_at, Int.zero_sub, Int.natAbs_neg]
  exact q.at_ _
theorem t_Table_rule_g {f l : List Int} {b c d : Nat} (h : f.length = l.length) (hl : Lean l) (h2 : f.length ≤ 12) (bf : Bs f b) (bl : Bs l c) (bv : Bs (rvZ l) d) (hb : b ≤ 1000000) (hc : c ≤ 100000) (hd : d ≤ 100000) : F_Table_rule [tabT f l] = .ret (rT (abZ l) (edZ f l)) [tabT f l] := by
  have l1 := hl.1
  have hn : 2 ≤ f.length := by omega
  have lv := rvZ_len l
  have tb := t_turned_back (k := .t) hl (by omega) bl bv (by omega)
  have e1 : (f.length : Int) - 1 = ((f.length - 1 : Nat) : Int) := by omega
  have u1 := t_unit (n := f.length - 1) (by omega)
  have u2 := t_unit (n := f.length) h2
  have lu1 := unitZ_len (n := f.length - 1) (by omega)
  have lu2 := unitZ_len (n := f.length) (by omega)
  have bd : Bs ((rvZ l).drop 1) d := fun x hx => bv x (List.mem_of_mem_drop hx)
  have ld : ((rvZ l).drop 1).length = f.length - 1 := by rw [List.length_drop]; omega
  have q1 := t_quotient (k1 := .n) (k2 := .n) (unitZ_bs (f.length - 1)) bd (by omega) (by omega) (by omega)
  have q2 := t_quotient (k1 := .n) (k2 := .t) (unitZ_bs f.length) bf (by omega) (by omega) (by omega)
  have ea : quoZ (unitZ (f.length - 1)) ((rvZ l).drop 1) = abZ l := by rw [h]; rfl
  rw [ea] at q1
  have bdl : Bs (rvZ l).dropLast d := fun x hx => bv x (mem_dl hx)
  have p1 := t_put_in (k1 := .n) (k2 := .n) (ngZ_bsG (by omega) h2 bf) bdl (by omega) (by rw [ngZ_len, List.length_dropLast]; omega) (by rw [ngZ_len]; omega) (by rw [ngZ_len]; omega)
  have p1 : F_put_in [seqT .n (ngZ f), seqT .n (rvZ l).dropLast] = .ret (seqT .n (edZ f l)) [seqT .n (ngZ f), seqT .n (rvZ l).dropLast] := p1
  have hc : ∀ s : Sl, s[1]? = some (.tr (seqT .n (rvZ l))) → finS (qCut true false) [opS .n (rvZ l) 1, .vl (.leaf (.int 1))] s = .ok (.vl (seqT .n ((rvZ l).drop 1))) s := fun s hs => r_cutL' (a := 1) hs (by decide)
  have la := abZ_len hl
  have le := edZ_len f l
  have ra : ∀ s : Sl, s[2]? = some (.tr (seqT .n (abZ l))) → finCall (makeF "Row" true F_Row_init) [opS .n (abZ l) 2] s = .ok (.vl (rowT (abZ l))) s := fun s hs => call_Row (by omega) (by omega) hs
  have re : ∀ s : Sl, finCall (makeF "Row" true F_Row_init) [.vl (seqT .n (edZ f l))] s = .ok (.vl (rowT (edZ f l))) s := fun s => call_RowV (by omega) (by omega)
  have hx := fun t1 t2 => x_rule (l := l) hn h2 t1 t2
  generalize (rvZ l).drop 1 = d1 at *
  simp (disch := first | decide | with_unfolding_all rfl | omega | assumption | (rw [has_srcF (by decide)]; decide) | (simp <;> omega) | fail) [-List.getD_eq_getElem?_getD, -List.map_reverse, List.getD_cons_zero, List.getD_cons_succ, F_Table_rule, Df.run, runF, entryF, outsF, finSel, Sel.ok, Sel.ixs, pickO, d_Table_rule, fld_first, fld_lean, fld_row, call_v tb, methTab Em_Table_rule_0_Table, call_v (t_Table_deep f l), e1, call_v u1, call_v u2, hc, call_vv q1, call_vv q2, hx, ra, call_sv p1, re]
  rfl
theorem x_by_rule {a e : List Int} {b d : Nat} (h1 : 1 ≤ a.length) (h2 : a.length ≤ 11) (he : e.length = a.length) (be : Bs e b) (bl : Bs (brL a) d) (hb : b ≤ 1000000) (hd : d ≤ 100000) (t : T) :
    evX E_by_rule X_by_rule_1 [.tr (rowT a), .tr (rowT e), .tr t, .tr (seqT .n (brL a)), .un, .un] = .ok (.vl (seqT .n ((List.range e.length).map fun k => 0 - (putZ e (brL a).dropLast).getD k 0))) [.tr (rowT a), .tr (rowT e), .tr t, .tr (seqT .n (brL a)), .un, .un] := by
  have ll := brL_len h1
  have bdl : Bs (brL a).dropLast d := fun x hx => bl x (mem_dl hx)
  have p1 := t_put_in (k1 := .t) (k2 := .n) be bdl (by omega) (by rw [List.length_dropLast]; omega) (by omega) (by omega)
  have lp : (putZ e (brL a).dropLast).length = e.length := putZ_len _ _
  unfold X_by_rule_1
  generalize putZ e (brL a).dropLast = p at *
  rw [← lp]
  rw [lc_seq (xs := p) (s1 := [.tr (rowT a), .tr (rowT e), .tr t, .tr (seqT .n (brL a)), .un, .un]) (src := []) ?_ rfl (fun _ => [.tr (rowT a), .tr (rowT e), .tr t, .tr (seqT .n (brL a)), .un, .un]) rfl (fun k => .leaf (.int (0 - p.getD k 0))) (by omega) (fun _ _ => rfl) ?_, seqT_rng]
  · rfl
  · simp (disch := first | decide | with_unfolding_all rfl | omega | assumption | (rw [has_srcF (by decide)]; decide) | (simp <;> omega) | fail) [-List.getD_eq_getElem?_getD, -List.map_reverse, List.getD_cons_zero, List.getD_cons_succ, Df.run, runF, entryF, outsF, finSel, Sel.ok, Sel.ixs, pickO, fld_row, call_vv p1]
  · intro m hm
    refine ⟨_, [.tr (rowT a), .tr (rowT e), .tr t, .tr (seqT .n (brL a)), .un, .tr (.leaf (.int (p.getD m 0)))], rfl, ?_, rfl⟩
    simp (disch := first | decide | with_unfolding_all rfl | omega | assumption | (rw [has_srcF (by decide)]; decide) | (simp <;> omega) | fail) [-List.getD_eq_getElem?_getD, -List.map_reverse, List.getD_cons_zero, List.getD_cons_succ, -Int.zero_sub]
theorem t_by_rule {a e : List Int} {b c d g : Nat} (h1 : 1 ≤ a.length) (h2 : a.length ≤ 11) (he : e.length = a.length) (ha : a.getD 0 0 = 1) (ba : Bs a g) (be : Bs e b) (bb : Bs (blZ a) c) (bl : Bs (brL a) d) (hg : g ≤ 1000000) (hb : b ≤ 1000000) (hc : c ≤ 100000) (hd : d ≤ 100000) :
    F_by_rule [rowT a, rowT e] = .ret (tabT (brF a e) (brL a)) [rowT a, rowT e] := by
  have ll := brL_len h1
  have lf := brF_len (a := a) (e := e)
  have lp := brP_len (a := a) (e := e)
  have u1 := t_unit (n := a.length) (by omega)
  have u2 := t_unit (n := a.length + 1) (by omega)
  have lu1 := unitZ_len (n := a.length) (by omega)
  have lu2 := unitZ_len (n := a.length + 1) (by omega)
  have q1 := t_quotient (k1 := .n) (k2 := .t) (unitZ_bs a.length) ba (by omega) (by omega) (by omega)
  have tb := t_turned_back (k := .n) (blZ_lean h1) (by rw [blZ_len h1]; omega) bb bl (by omega)
  have tb : F_turned_back [seqT .n (blZ a)] = .ret (seqT .n (brL a)) [seqT .n (blZ a)] := tb
  have q2 := t_quotient (k1 := .n) (k2 := .n) (unitZ_bs (a.length + 1)) (brP_bs (by omega) bl be) (by omega) (by omega) (by omega)
  have q2 : F_quotient [seqT .n (unitZ (a.length + 1)), seqT .n (brP a e)] = .ret (seqT .n (brF a e)) [seqT .n (unitZ (a.length + 1)), seqT .n (brP a e)] := q2
  have lqa : (quoZ (unitZ a.length) a).length = a.length := by rw [quoZ_len, lu1]
  have c1 : ∀ s : Sl, finB .add [.vl (seqT .n [0]), .vl (seqT .n (quoZ (unitZ a.length) a))] s = .ok (.vl (seqT .n (blZ a))) s := fun s => r_catVV (by decide) (by decide) (by simp; omega)
  have hx := fun t => x_by_rule h1 h2 he be bl hb hd t
  have c2 : ∀ s : Sl, finB .add [.vl (seqT .n [1]), .vl (seqT .n ((List.range e.length).map fun k => 0 - (putZ e (brL a).dropLast).getD k 0))] s = .ok (.vl (seqT .n (brP a e))) s := fun s => r_catVV (by decide) (by decide) (by simp; omega)
  have rf : ∀ s : Sl, finCall (makeF "Row" true F_Row_init) [.vl (seqT .n (brF a e))] s = .ok (.vl (rowT (brF a e))) s := fun s => call_RowV (by omega) (by omega)
  have rl : ∀ s : Sl, s[3]? = some (.tr (seqT .n (brL a))) → finCall (makeF "Row" true F_Row_init) [opS .n (brL a) 3] s = .ok (.vl (rowT (brL a))) s := fun s hs => call_Row (by omega) (by omega) hs
  have tt := t_Table (f := brF a e) (l := brL a) (by omega) (brL_lean h1) brF_first (by omega)
  have i1 : ∀ s : Sl, finS qIx [.vl (seqT .t a), .vl (.leaf (.int 0))] s = .ok (.vl (.leaf (.int 1))) s := fun s => by
    rw [r_ixsv (a := 0) (by decide) (by omega)]
    show Out.ok (Op.vl (.leaf (.int (a.getD 0 0)))) s = _
    rw [ha]
  have dd : decide ((12 : Int) ≤ (a.length : Int)) = false := decide_eq_false (by omega)
  have e1 : ((a.length + 1 : Nat) : Int) = (a.length : Int) + 1 := by omega
  rw [e1] at u2
  generalize blZ a = bl0 at *
  generalize (List.range e.length).map (fun k => 0 - (putZ e (brL a).dropLast).getD k 0) = ng at *
  generalize brL a = L at *
  generalize brP a e = P at *
  generalize brF a e = Ft at *
  simp (disch := first | decide | with_unfolding_all rfl | omega | assumption | (rw [has_srcF (by decide)]; decide) | (simp <;> omega) | fail) [-List.getD_eq_getElem?_getD, -List.map_reverse, List.getD_cons_zero, List.getD_cons_succ, F_by_rule, Df.run, runF, entryF, outsF, finSel, Sel.ok, Sel.ixs, pickO, d_by_rule, fld_row, call_v (t_look_at_row _), he, call_vv (t_look_at_depths _), i1, dd, call_v u1, call_vv q1, c1, call_s tb, hx, c2, ll, e1, call_v u2, call_vs q2, rf, rl, call_vv tt]
/-! ### the rows that the law makes -/
section
variable {f l a e : List Int} {b c : Nat} (h : f.length = l.length) (hl : Lean l) (hf : f.getD 0 0 = 1) (h2 : f.length ≤ 12) (hab : abZ l = a) (hed : edZ f l = e) (ba : Bs a b) (be : Bs e b) (bc : ∀ i, i < f.length → Bs (rowN f l i) c) (hb : b + c ≤ 100000000)
include h hl h2 hab hed
abbrev SR (a e : List Int) (t r fr : SV) (k j : SV) : Sl := [.tr (seqT .n a), .tr (seqT .n e), t, r, fr, k, j]
include be bc hb in
theorem x_lr1 {i : Nat} (hi : i + 1 < f.length) (t : T) : evX E_law_rows X_law_rows_1 (SR a e (.tr t) (.tr (seqT .l (rowN f l i))) .un .un .un) = .ok (.vl (seqT .n ((List.range (i + 1)).map fun j => e.getD j 0 * (rowN f l i).getD j 0))) (SR a e (.tr t) (.tr (seqT .l (rowN f l i))) .un .un .un) := by
  have le : e.length = f.length - 1 := by rw [← hed]; exact edZ_len f l
  have lr := rowN_len f l i
  have bi := bc i (by omega)
  generalize rowN f l i = R at *
  unfold X_law_rows_1
  rw [lc_rng (n := i + 1) (s1 := SR a e (.tr t) (.tr (seqT .l R)) .un .un .un) ?_ (fun _ => SR a e (.tr t) (.tr (seqT .l R)) .un .un .un) rfl (fun j => .leaf (.int (e.getD j 0 * R.getD j 0))) (sz (by omega)) ?_, seqT_rng]
  · rfl
  · have q : ((i + 1 : Nat) : Int) = (i : Int) + 1 := by omega
    have rk := fun s : Sl => rng_ok (s := s) (n := i + 1) (by omega)
    rw [q] at rk
    simp (disch := first | decide | with_unfolding_all rfl | omega | assumption | (rw [has_srcF (by decide)]; decide) | (simp <;> omega) | fail) [-List.getD_eq_getElem?_getD, -List.map_reverse, List.getD_cons_zero, List.getD_cons_succ, lr, q, rk]
  · intro j hj
    refine ⟨_, SR a e (.tr t) (.tr (seqT .l R)) .un .un (.tr (.leaf (.int j))), rfl, ?_, rfl⟩
    have e5 : mulOk (e.getD j 0) (R.getD j 0) = true := mulOk_lt (be.at_ j) (bi.at_ j) (by omega)
    simp (disch := first | decide | with_unfolding_all rfl | omega | assumption | (rw [has_srcF (by decide)]; decide) | (simp <;> omega) | fail) [-List.getD_eq_getElem?_getD, -List.map_reverse, List.getD_cons_zero, List.getD_cons_succ, ]
include ba bc hb in
theorem x_lr2 {i k : Nat} (hi : i + 1 < f.length) (hk : k < i + 1) (t fr : T) : evX E_law_rows X_law_rows_2 (SR a e (.tr t) (.tr (seqT .l (rowN f l i))) (.tr fr) (.tr (.leaf (.int k))) .un) = .ok (.vl (seqT .n ((List.range (i + 1 - k)).map fun j => a.getD j 0 * (rowN f l i).getD (k + j) 0))) (SR a e (.tr t) (.tr (seqT .l (rowN f l i))) (.tr fr) (.tr (.leaf (.int k))) .un) := by
  have la : a.length = l.length - 1 := by rw [← hab]; exact abZ_len hl
  have lr := rowN_len f l i
  have bi := bc i (by omega)
  generalize rowN f l i = R at *
  unfold X_law_rows_2
  obtain ⟨n, hn⟩ : ∃ n, n = i + 1 - k := ⟨_, rfl⟩
  rw [← hn]
  rw [lc_rng (n := n) (s1 := SR a e (.tr t) (.tr (seqT .l R)) (.tr fr) (.tr (.leaf (.int k))) .un) ?_ (fun _ => SR a e (.tr t) (.tr (seqT .l R)) (.tr fr) (.tr (.leaf (.int k))) .un) rfl (fun j => .leaf (.int (a.getD j 0 * R.getD (k + j) 0))) (sz (by omega)) ?_, seqT_rng]
  · rfl
  · have q : ((i + 1 : Nat) : Int) = (i : Int) + 1 := by omega
    have q2 : (i : Int) + 1 - (k : Int) = (n : Int) := by omega
    have rk : ∀ s : Sl, rngK (.vl (.leaf (.int n))) s = .ok ⟨rangeD 0 n, []⟩ s := fun s : Sl => rng_ok (s := s) (n := n) (by omega)
    have e0 : ∀ s : Sl, finB .sub [.vl (.leaf (.int (R.length : Int))), .vl (.leaf (.int k))] s = .ok (.vl (.leaf (.int n))) s := fun s => by
      rw [lr, q, r_subI, q2]
    clear q q2 lr hn
    simp (disch := first | decide | with_unfolding_all rfl | omega | assumption | (rw [has_srcF (by decide)]; decide) | (simp <;> omega) | fail) [-List.getD_eq_getElem?_getD, -List.map_reverse, List.getD_cons_zero, List.getD_cons_succ, e0, rk]
  · intro j hj
    refine ⟨_, SR a e (.tr t) (.tr (seqT .l R)) (.tr fr) (.tr (.leaf (.int k))) (.tr (.leaf (.int j))), rfl, ?_, rfl⟩
    obtain ⟨m, hm⟩ : ∃ m, m = k + j := ⟨_, rfl⟩
    have hm2 : m < i + 1 := by omega
    rw [← hm]
    have e5 : mulOk (a.getD j 0) (R.getD m 0) = true := mulOk_lt (ba.at_ j) (bi.at_ m) (by omega)
    have q3 : (k : Int) + (j : Int) = (m : Int) := by omega
    simp (disch := first | decide | with_unfolding_all rfl | omega | assumption | (rw [has_srcF (by decide)]; decide) | (simp <;> omega) | fail) [-List.getD_eq_getElem?_getD, -List.map_reverse, List.getD_cons_zero, List.getD_cons_succ, q3]
def yT (f l : List Int) (m : Nat) : T := if m = 0 then nnT [rowN f l 0] else LT .s ((List.range (m + 1)).map (rowN f l))
omit h hl h2 hab hed in
theorem yT_LL (m : Nat) : LL (yT f l m) ((List.range (m + 1)).map (rowN f l)) := by
  unfold yT
  split
  · next h0 => subst h0; exact LL.nn
  · exact LL.own
def frZ (f l : List Int) (i m : Nat) : List Int := (rowN f l (i + 1)).take (m + 1)
omit h hl h2 hab hed in
theorem frZ_succ {i m : Nat} (hm : m ≤ i) : frZ f l i m ++ [(rowN f l (i + 1)).getD (m + 1) 0] = frZ f l i (m + 1) := by
  have lr := rowN_len f l (i + 1)
  unfold frZ
  generalize rowN f l (i + 1) = R at *
  rw [List.take_add_one (l := R) (i := m + 1), List.getElem?_eq_getElem (by omega), List.getD_eq_getElem?_getD, List.getElem?_eq_getElem (by omega)]
  rfl
include hf ba be bc hb
theorem lr_in {i k : Nat} (hi : i + 1 < f.length) (hk : k < i + 1) (t : T) : evSs E_law_rows B_law_rows_1 [0, 1] (SR a e (.tr t) (.tr (seqT .l (rowN f l i))) (.tr (seqT .n (frZ f l i k))) (.tr (.leaf (.int k))) .un) = .nx (SR a e (.tr t) (.tr (seqT .l (rowN f l i))) (.tr (seqT .n (frZ f l i (k + 1)))) .un .un) := by
  have x2 := x_lr2 h hl h2 hab hed ba bc hb hi hk t (seqT .n (frZ f l i k))
  have en := rowN_next (f := f) (l := l) (i := i) h hl hf hi
  have lr := rowN_len f l (i + 1)
  have hv : (rowN f l (i + 1)).getD (k + 1) 0 = sumR (i + 1 - k) fun j => a.getD j 0 * (rowN f l i).getD (k + j) 0 := by
    rw [en, List.getD_cons_succ, getD_range hk, hab]
  have hs := frZ_succ (f := f) (l := l) (i := i) (m := k) (by omega)
  rw [hv] at hs
  have lf : (frZ f l i k).length = k + 1 := by unfold frZ; rw [List.length_take]; omega
  have ap := appS (i := 4) (s := SR a e (.tr t) (.tr (seqT .l (rowN f l i))) (.tr (seqT .n (frZ f l i k))) (.tr (.leaf (.int k))) .un) (s1 := SR a e (.tr t) (.tr (seqT .l (rowN f l i))) (.tr (seqT .n (frZ f l i k))) (.tr (.leaf (.int k))) .un) (xs := frZ f l i k) (v := sumR (i + 1 - k) fun j => a.getD j 0 * (rowN f l i).getD (k + j) 0) (f := evX E_law_rows (.bi .sum [X_law_rows_2])) rfl (by
    simp (disch := first | decide | with_unfolding_all rfl | omega | assumption | (rw [has_srcF (by decide)]; decide) | (simp <;> omega) | fail) [-List.getD_eq_getElem?_getD, -List.map_reverse, List.getD_cons_zero, List.getD_cons_succ, x2]
    rfl) rfl (szl (by omega))
  rw [hs] at ap
  simp (disch := first | decide | with_unfolding_all rfl | omega | assumption | (rw [has_srcF (by decide)]; decide) | (simp <;> omega) | fail) [-List.getD_eq_getElem?_getD, -List.map_reverse, List.getD_cons_zero, List.getD_cons_succ, B_law_rows_1, ap]
theorem lr_out {i : Nat} (hi : i + 1 < f.length) : evSs E_law_rows B_law_rows_2 [0, 1] (SR a e (.tr (yT f l i)) .un .un .un .un) = .nx (SR a e (.tr (yT f l (i + 1))) .un .un .un .un) := by
  have hL := yT_LL (f := f) (l := l) i
  have i1 : finS qIx [.rt 2, .vl (.leaf (.int (-1)))] (SR a e (.tr (yT f l i)) .un .un .un .un) = .ok (.vl (seqT .l (rowN f l i))) (SR a e (.tr (LT .s ((List.range (i + 1)).map (rowN f l)))) .un .un .un .un) := by
    have := hL.ix1 (j := 2) (s := SR a e (.tr (yT f l i)) .un .un .un .un) rfl (by simp)
    have e0 : ((List.range (i + 1)).map (rowN f l)).getD (((List.range (i + 1)).map (rowN f l)).length - 1) [] = rowN f l i := by
      rw [List.length_map, List.length_range, Nat.add_sub_cancel, List.getD_eq_getElem?_getD, List.getElem?_map, List.getElem?_range (by omega)]
      rfl
    rw [e0] at this
    exact this
  have x1 := x_lr1 h hl h2 hab hed be bc hb hi (LT .s ((List.range (i + 1)).map (rowN f l)))
  have en := rowN_next (f := f) (l := l) (i := i) h hl hf hi
  have f0 : [sumR (i + 1) fun j => e.getD j 0 * (rowN f l i).getD j 0] = frZ f l i 0 := by
    unfold frZ
    rw [en, hed]
    rfl
  have lp : forL [] (.nm 5) (evSs E_law_rows B_law_rows_1 [0, 1]) (rangeD 0 (i + 1)) (SR a e (.tr (LT .s ((List.range (i + 1)).map (rowN f l)))) (.tr (seqT .l (rowN f l i))) (.tr (seqT .n (frZ f l i 0))) .un .un) = .nx (SR a e (.tr (LT .s ((List.range (i + 1)).map (rowN f l)))) (.tr (seqT .l (rowN f l i))) (.tr (seqT .n (frZ f l i (i + 1)))) .un .un) :=
    for_rng0 (n := i + 1) (fun k => SR a e (.tr (LT .s ((List.range (i + 1)).map (rowN f l)))) (.tr (seqT .l (rowN f l i))) (.tr (seqT .n (frZ f l i k))) .un .un) fun k hk => ⟨_, rfl, lr_in h hl hf h2 hab hed ba be bc hb hi hk _⟩
  have fe : frZ f l i (i + 1) = rowN f l (i + 1) := by
    unfold frZ
    exact List.take_of_length_le (by rw [rowN_len]; omega)
  rw [fe] at lp
  have ap := appLs (i := 2) (j := 4) (s := SR a e (.tr (LT .s ((List.range (i + 1)).map (rowN f l)))) (.tr (seqT .l (rowN f l i))) (.tr (seqT .n (rowN f l (i + 1)))) .un .un) (s1 := SR a e (.tr (LT .s ((List.range (i + 1)).map (rowN f l)))) (.tr (seqT .l (rowN f l i))) (.tr (seqT .n (rowN f l (i + 1)))) .un .un) (f := evX E_law_rows (.nm 4)) (p := rowN f l (i + 1)) (xss := (List.range (i + 1)).map (rowN f l)) ⟨_, rfl⟩ (by
    simp (disch := first | decide | with_unfolding_all rfl | omega | assumption | (rw [has_srcF (by decide)]; decide) | (simp <;> omega) | fail) [-List.getD_eq_getElem?_getD, -List.map_reverse, List.getD_cons_zero, List.getD_cons_succ, ]
    rfl) rfl rfl (by decide) (szl (by simp; omega))
  have e2 : (List.range (i + 1)).map (rowN f l) ++ [rowN f l (i + 1)] = (List.range (i + 1 + 1)).map (rowN f l) := by
    rw [List.range_succ (n := i + 1), List.map_append]
    rfl
  rw [e2] at ap
  have e3 : LT .s ((List.range (i + 1 + 1)).map (rowN f l)) = yT f l (i + 1) := by
    unfold yT
    rw [if_neg (by omega)]
  rw [e3] at ap
  have lr := rowN_len f l i
  have q : ((i + 1 : Nat) : Int) = (i : Int) + 1 := by omega
  have rk := fun s : Sl => rng_ok (s := s) (n := i + 1) (by omega)
  rw [q] at rk
  have sm : ∀ s : Sl, finBI E_law_rows .sum [.vl (seqT .n ((List.range (i + 1)).map fun j => e.getD j 0 * (rowN f l i).getD j 0))] s = .ok (.vl (.leaf (.int (sumR (i + 1) fun j => e.getD j 0 * (rowN f l i).getD j 0)))) s := fun s => by
    simp (disch := first | decide | with_unfolding_all rfl | omega | assumption | (rw [has_srcF (by decide)]; decide) | (simp <;> omega) | fail) [-List.getD_eq_getElem?_getD, -List.map_reverse, List.getD_cons_zero, List.getD_cons_succ, ]
    rfl
  have l1 : ∀ s : Sl, finList [.vl (.leaf (.int (sumR (i + 1) fun j => e.getD j 0 * (rowN f l i).getD j 0)))] s = .ok (.vl (seqT .n (frZ f l i 0))) s := fun s => by
    rw [← f0]
    rfl
  generalize rowN f l i = R at *
  generalize (List.range (i + 1)).map (rowN f l) = Rs at *
  generalize frZ f l i 0 = F0 at *
  generalize rowN f l (i + 1) = R2 at *
  simp (disch := first | decide | with_unfolding_all rfl | omega | assumption | (rw [has_srcF (by decide)]; decide) | (simp <;> omega) | fail) [-List.getD_eq_getElem?_getD, -List.map_reverse, List.getD_cons_zero, List.getD_cons_succ, B_law_rows_2, hL.of, i1, x1, sm, l1, lr, q, rk, r_for0, lp, ap]
theorem t_law_rows : F_law_rows [seqT .n a, seqT .n e] = .ret (yT f l (f.length - 1)) [seqT .n a, seqT .n e] := by
  have l1 := hl.1
  have la : a.length = f.length - 1 := by rw [← hab, h]; exact abZ_len hl
  have hw := while_up (c := evT E_law_rows (.cmp .le (.bi .len [(.nm 2)]) (.bi .len [(.nm 0)]))) (body := evSs E_law_rows B_law_rows_2 [0, 1]) (fun m => SR a e (.tr (yT f l m)) .un .un .un .un) 0 (f.length - 1) (fun m h1 h3 => by
    have hL := yT_LL (f := f) (l := l) m
    have hn := hL.len (Γ := E_law_rows) (j := 2) (s := SR a e (.tr (yT f l m)) .un .un .un .un) rfl
    rw [List.length_map, List.length_range] at hn
    have e0 : decide (((m + 1 : Nat) : Int) ≤ (a.length : Int)) = decide (m < f.length - 1) := by
      by_cases hm : m < f.length - 1
      · rw [decide_eq_true hm, decide_eq_true (by omega)]
      · rw [decide_eq_false hm, decide_eq_false (by omega)]
    generalize hq : ((m + 1 : Nat) : Int) = q at *
    simp (disch := first | decide | with_unfolding_all rfl | omega | assumption | (rw [has_srcF (by decide)]; decide) | (simp <;> omega) | fail) [-List.getD_eq_getElem?_getD, -List.map_reverse, List.getD_cons_zero, List.getD_cons_succ, Df.run, runF, entryF, outsF, finSel, Sel.ok, Sel.ixs, pickO, hL.of, hn, e0]) (fun m h1 h3 => lr_out h hl hf h2 hab hed ba be bc hb (by omega)) 1000000 0 (Nat.le_refl _) (Nat.zero_le _) (by omega)
  rw [Nat.max_eq_right (Nat.zero_le _)] at hw
  have e0 : T.node [seqT .n [1]] = yT f l 0 := by
    unfold yT
    rw [if_pos rfl, rowN_zero hf]
    rfl
  have e0' : T.node [T.node [T.leaf (.int 1)]] = yT f l 0 := e0
  have hr := (yT_LL (f := f) (l := l) (f.length - 1)).node (fx := [0, 1]) (j := 2) (s := SR a e (.tr (yT f l (f.length - 1))) .un .un .un .un) rfl rfl
  simp (disch := first | decide | with_unfolding_all rfl | omega | assumption | (rw [has_srcF (by decide)]; decide) | (simp <;> omega) | fail) [-List.getD_eq_getElem?_getD, -List.map_reverse, List.getD_cons_zero, List.getD_cons_succ, F_law_rows, Df.run, runF, entryF, outsF, finSel, Sel.ok, Sel.ixs, pickO, d_law_rows, lst_t, e0, e0', hw, (yT_LL (f := f) (l := l) (f.length - 1)).of, hr]
end
/-! ### law k21 -/
theorem okLen_nat {n : Nat} (h : n ≤ 1000000) : okLen (.int (n : Int)) = true := by
  show (decide (0 ≤ (n : Int)) && in62 (n : Int)) = true
  rw [in62_of (by omega), decide_eq_true (by omega)]
  rfl
theorem rowN_bs {f l : List Int} {a b : Nat} (h1 : Bs f a) (h2 : Bs l b) (hl : f.length ≤ 12) {i : Nat} (hi : i < f.length) : Bs (rowN f l i) (a + 12 * (b + 4)) := bs_of fun k hk => by
  rw [rowN_len] at hk
  rw [rowN_at (by omega)]
  refine ((colZ_bs h1 h2 hl k).mono ?_).at_ _
  have := Nat.mul_le_mul_right (b + 4) (show k ≤ 12 by omega)
  omega
theorem eqm_row {Γ : Ev} {xs : List Int} (h : Γ.sps "__eq__" "Row" = some F_Row_eq) (hi : Γ.isi = isiO ownL) : eqMem Γ.isi (Γ.sps (Str.ofString "__eq__")) (rowD xs) (rowD xs) = true :=
  eqMem_obj (F := F_Row_eq) h (by rw [hi]; rfl) ((t_Row_eq xs xs).trans (by rw [decide_eq_true rfl]))
section
variable {a e : List Int} {m : Nat} (la : a.length = m + 1) (le : e.length = m + 1) (hm : m ≤ 10) (ha : a.getD 0 0 = 1) (ba : Bs a 35) (be : Bs e 35)
include la le hm ha ba be
theorem br_all : F_by_rule [rowT a, rowT e] = .ret (tabT (brF a e) (brL a)) [rowT a, rowT e] ∧ F_Table_rule [tabT (brF a e) (brL a)] = .ret (rT a e) [tabT (brF a e) (brL a)] ∧ F_Table_rows [tabT (brF a e) (brL a)] = .ret (nnT (roZ (brF a e) (brL a))) [tabT (brF a e) (brL a)] ∧
    F_law_rows [seqT .n a, seqT .n e] = .ret (yT (brF a e) (brL a) (m + 1)) [seqT .n a, seqT .n e] := by
  have b1 := blZ_bs (a := a) (by omega) (by omega) ba
  have b2 := brL_bs (a := a) (by omega) (by omega) ba
  have b3 := brP_bs (e := e) (by omega) b2 be
  have b4 := brF_bs (a := a) (e := e) (by omega) b3
  have lf := brF_len (a := a) (e := e)
  have ll := brL_len (a := a) (by omega)
  have hl := brL_lean (a := a) (by omega)
  have hf := brF_first (a := a) (e := e)
  have e1 := ab_br (a := a) (by omega) ha
  have e2 := ed_br (a := a) (e := e) (by omega) (by omega)
  have r := t_Table_rule_g (f := brF a e) (l := brL a) (by omega) hl (by omega) b4 b2 (by rw [rv_brL (by omega)]; exact b1) (by omega) (by omega) (by omega)
  rw [e1, e2] at r
  have q := t_law_rows (f := brF a e) (l := brL a) (by omega) hl hf (by omega) e1 e2 ba be (fun i hi => rowN_bs b4 b2 (by omega) hi) (by omega)
  rw [show (brF a e).length - 1 = m + 1 by omega] at q
  exact ⟨t_by_rule (by omega) (by omega) (by omega) ha ba be b1 b2 (by omega) (by omega) (by omega) (by omega), r, t_Table_rows (by omega) (by omega) (by omega) b4 b2 (by omega), q⟩
end
theorem law_body (ns : List Int) (k : Nat) (hk : k < 3) : evSs E_law B_law_1 [0] [.tr (.leaf (.ro (ns.map .int))), .tr (.leaf (.int k)), .un, .un, .un, .un, .un, .un] = .nx [.tr (.leaf (.ro (ns.map .int))), .un, .un, .un, .un, .un, .un, .un] := by
  have tc := t_law_cell ns (k := k) rfl (by omega)
  generalize cellX ns k = z at *
  have f0 := Int.fmod_nonneg_of_pos z (show (0 : Int) < 11 by decide)
  have f1 := Int.fmod_lt_of_pos z (show (0 : Int) < 11 by decide)
  obtain ⟨m, hm⟩ : ∃ m : Nat, z.fmod 11 = (m : Int) := ⟨(z.fmod 11).toNat, by omega⟩
  have hm2 : m ≤ 10 := by omega
  have d11 : divOk 11 = true := by decide
  have lA : ([1] ++ someL m (z.fdiv 11)).length = m + 1 := by simp
  have uA : ([1] ++ someL m (z.fdiv 11)).getD 0 0 = 1 := rfl
  have bA : Bs ([1] ++ someL m (z.fdiv 11)) 35 := fun x hx => by
    rcases List.mem_append.mp hx with h1 | h1
    · rw [List.mem_singleton.mp h1]; decide
    · exact someL_bs _ _ x h1
  have lE : (someL (m + 1) (someR m (z.fdiv 11))).length = m + 1 := by simp
  have bE := someL_bs (m + 1) (someR m (z.fdiv 11))
  have e1 : (1 : Int) + (m : Int) - 1 = (m : Int) := by omega
  have e2 : (1 : Int) + (m : Int) = ((m + 1 : Nat) : Int) := by omega
  have s1 : ∀ s : Sl, s[2]? = some (.tr (seqT .n [z.fdiv 11])) → finCall F_law_some [opS .n [z.fdiv 11] 2, .vl (.leaf (.int (m : Int)))] s = .ok (.vl (seqT .n (someL m (z.fdiv 11)))) (s.set 2 (.tr (seqT .n [someR m (z.fdiv 11)]))) := fun s hs => call_some rfl (by omega) hs
  have s2 : ∀ s : Sl, s[2]? = some (.tr (seqT .n [someR m (z.fdiv 11)])) → finCall F_law_some [opS .n [someR m (z.fdiv 11)] 2, .vl (.leaf (.int ((1 : Int) + (m : Int))))] s = .ok (.vl (seqT .n (someL (m + 1) (someR m (z.fdiv 11))))) (s.set 2 (.tr (seqT .n [someR (m + 1) (someR m (z.fdiv 11))]))) := fun s hs => by
    rw [e2]
    exact call_some rfl (by omega) hs
  have c1 : ∀ s : Sl, finB .add [.vl (seqT .n [1]), .vl (seqT .n (someL m (z.fdiv 11)))] s = .ok (.vl (seqT .n ([1] ++ someL m (z.fdiv 11)))) s := fun s => r_catVV (by decide) (by decide) (by simp; omega)
  generalize [1] ++ someL m (z.fdiv 11) = a at *
  generalize someL (m + 1) (someR m (z.fdiv 11)) = e at *
  generalize someR (m + 1) (someR m (z.fdiv 11)) = z3 at *
  generalize someR m (z.fdiv 11) = z2 at *
  generalize someL m (z.fdiv 11) = sl at *
  obtain ⟨tb, tr, tw, tl⟩ := br_all lA lE hm2 uA bA bE
  have lf := brF_len (a := a) (e := e)
  have ra : ∀ s : Sl, s[4]? = some (.tr (seqT .n a)) → finCall (makeF "Row" true F_Row_init) [opS .n a 4] s = .ok (.vl (rowT a)) s := fun s hs => call_Row (by omega) (by omega) hs
  have re : ∀ s : Sl, s[5]? = some (.tr (seqT .n e)) → finCall (makeF "Row" true F_Row_init) [opS .n e 5] s = .ok (.vl (rowT e)) s := fun s hs => call_Row (by omega) (by omega) hs
  have i0 : ∀ s : Sl, s[6]? = some (.tr (.node [rowT a, rowT e])) → finS qIx [.rt 6, .vl (.leaf (.int 0))] s = .ok (.vl (rowT a)) s := fun s hs => ix_node (ds := [rowD a, rowD e]) hs rfl
  have i1 : ∀ s : Sl, s[6]? = some (.tr (.node [rowT a, rowT e])) → finS qIx [.rt 6, .vl (.leaf (.int 1))] s = .ok (.vl (rowT e)) s := fun s hs => ix_node (ds := [rowD a, rowD e]) hs rfl
  have eM : eqMems E_law.isi (E_law.sps (Str.ofString "__eq__")) [rowD a, rowD e] [rowD a, rowD e] = true := eqMems_cons (eqm_row Es_law_eq_Row rfl) (eqMems_cons (eqm_row Es_law_eq_Row rfl) rfl)
  have n1 : ∀ s : Sl, finC E_law .ne [.vl (rT a e), .vl (.leaf (.tup [rowD a, rowD e]))] s = .ok (.vl (.leaf (.bl false))) s := fun s => neM_T (ds := [rowD a, rowD e]) (es := [rowD a, rowD e]) (by simp [snapOps, snapOp, rT]) rfl eM
  have n2 : ∀ s : Sl, s[6]? = some (.tr (.node [rowT a, rowT e])) → finC E_law .ne [.rt 6, .vl (.node [rowT a, rowT e])] s = .ok (.vl (.leaf (.bl false))) s := fun s hs => neM_L (ds := [rowD a, rowD e]) (es := [rowD a, rowD e]) (by
    unfold snapOps snapOps snapOps
    rw [snap_node (ds := [rowD a, rowD e]) hs, show snapOp s (.vl (.node [rowT a, rowT e])) = some (.lst [rowD a, rowD e]) from snap_nodeV [rowD a, rowD e]]) rfl eM
  have hL := yT_LL (f := brF a e) (l := brL a) (m + 1)
  rw [show (List.range (m + 1 + 1)).map (rowN (brF a e) (brL a)) = roZ (brF a e) (brL a) by rw [roZ_rowN, lf, lA]] at hL
  have n3 : ∀ s : Sl, finC E_law .ne [.vl (nnT (roZ (brF a e) (brL a))), .vl (yT (brF a e) (brL a) (m + 1))] s = .ok (.vl (.leaf (.bl false))) s := fun s => by
    rw [neL (xss := roZ (brF a e) (brL a)) (yss := roZ (brF a e) (brL a)) LL.nn.vl hL.vl]
    simp
  have isT : ∀ s : Sl, isiK (isiO ownL) (.inr "Table") (.vl (tabT (brF a e) (brL a))) s = .ok (.vl (.leaf (.bl true))) s := fun s => r_isiK (d := tabD (brF a e) (brL a)) (by simp [snapOp]) rfl
  have ln : ∀ s : Sl, finBI E_law .len [.vl (tabT (brF a e) (brL a))] s = .ok (.vl (.leaf (.int ((m : Int) + 1 + 1)))) s := fun s => by
    have := lenO (Γ := E_law) (s := s) Es_law_len_Table (t_Table_len (brF a e) (brL a)) (okLen_nat (by omega))
    rw [this, lf, lA]
    rfl
  have cl : ∀ s : Sl, s[4]? = some (.tr (seqT .n a)) → s[5]? = some (.tr (seqT .n e)) → finCall F_law_rows [opS .n a 4, opS .n e 5] s = .ok (.vl (yT (brF a e) (brL a) (m + 1))) s := fun s h4 h5 => call_ss tl h4 h5 (by decide)
  have l2 : ∀ s : Sl, finList [.vl (rowT a), .vl (rowT e)] s = .ok (.vl (.node [rowT a, rowT e])) s := fun s => lst_tt
  have o6 : ∀ s : Sl, ofTree 6 s (some (.node [rowT a, rowT e])) = .ok (.rt 6) s := fun s => rfl
  have e3 : (1 : Int) + (m : Int) + 1 = (m : Int) + 1 + 1 := by omega
  generalize brF a e = F at *
  generalize brL a = L at *
  simp (disch := first | decide | with_unfolding_all rfl | omega | assumption | (rw [has_srcF (by decide)]; decide) | (simp <;> omega) | fail) [-List.getD_eq_getElem?_getD, -List.map_reverse, List.getD_cons_zero, List.getD_cons_succ, B_law_1, Df.run, runF, entryF, outsF, finSel, Sel.ok, Sel.ixs, pickO, call_vv tc, call_take, d11, hm, e1, s1, c1, s2, ra, re, l2, o6, i0, i1, call_vv tb, isT, methTab Em_law_0_Table, call_v tw, cl, n3, ln, e3, neTab Es_law_eq_Table rfl, methTab Em_law_1_Table, call_v tr, n1, n2]
theorem law_true (ns : List Int) (_ : ns.length ≤ 63) : ∃ ps, F_law [.leaf (.ro (ns.map .int))] = .ret (.leaf (.bl true)) ps := by
  have hb : forL [] (.nm 1) (evSs E_law B_law_1 [0]) (rangeD 0 3) [.tr (.leaf (.ro (ns.map .int))), .un, .un, .un, .un, .un, .un, .un] = .nx [.tr (.leaf (.ro (ns.map .int))), .un, .un, .un, .un, .un, .un, .un] :=
    for_rng0 (n := 3) (fun _ => [.tr (.leaf (.ro (ns.map .int))), .un, .un, .un, .un, .un, .un, .un]) fun k hk => ⟨_, rfl, law_body ns k hk⟩
  have r3 : ∀ s : Sl, rngK (.vl (.leaf (.int 3))) s = .ok ⟨rangeD 0 3, []⟩ s := fun s => rng_ok (n := 3) (by decide)
  have b1 : Bs [1] 35 := fun x hx => by rw [List.mem_singleton.mp hx]; decide
  have b7 : Bs [7] 35 := fun x hx => by rw [List.mem_singleton.mp hx]; decide
  obtain ⟨tb, tr, tw, tl⟩ := br_all (a := [1]) (e := [7]) (m := 0) rfl rfl (by omega) rfl b1 b7
  have ev : roZ (brF [1] [7]) (brL [1]) = [[1], [7, 1]] := by decide +kernel
  rw [ev] at tw
  have rw1 : ∀ (s : Sl) (x : Int), finCall (makeF "Row" true F_Row_init) [.vl (seqT .n [x])] s = .ok (.vl (rowT [x])) s := fun s x => call_RowV (by simp) (by simp)
  have l2 : ∀ s : Sl, finList [.vl (seqT .n [1]), .vl (seqT .n [7, 1])] s = .ok (.vl (.node [seqT .n [1], seqT .n [7, 1]])) s := fun s => lst_tt
  have n3 : ∀ s : Sl, finC E_law .eq [.vl (nnT [[1], [7, 1]]), .vl (.node [seqT .n [1], seqT .n [7, 1]])] s = .ok (.vl (.leaf (.bl true))) s := fun s => by
    rw [eqL (xss := [[1], [7, 1]]) (yss := [[1], [7, 1]]) LL.nn.vl LL.two.vl]
    simp
  refine ⟨[.leaf (.ro (ns.map .int))], ?_⟩
  generalize brF [1] [7] = F at *
  generalize brL [1] = L at *
  simp (disch := first | decide | with_unfolding_all rfl | omega | assumption | (rw [has_srcF (by decide)]; decide) | (simp <;> omega) | fail) [-List.getD_eq_getElem?_getD, -List.map_reverse, List.getD_cons_zero, List.getD_cons_succ, F_law, Df.run, runF, entryF, outsF, finSel, Sel.ok, Sel.ixs, pickO, d_law, r3, r_for0, hb, rw1, call_vv tb, methTab Em_law_0_Table, call_v tw, l2, n3]
/-! ### the text -/
def topS (i : Nat) : Stmt := PySem.Challenge.pw_rowabove_k21_tables_by_rules.main.body.getD i (.Pass ⟨0, 0, 0, 0⟩)
abbrev s_law_mixed : Stmt := topS 28
def k_law_mixed : Ck := ⟨["_law_cell_here", "_law_k", "_law_number_here"], [], [], [], [], [], []⟩
theorem h_law_mixed : chkSs 40 k_law_mixed (defScope s_law_mixed) (defBody s_law_mixed) d_law_mixed.body = true := by decide +kernel
theorem c_law_mixed : FnScope k_law_mixed.N ["_law_cell_here", "_law_k"] (defScope s_law_mixed) := ⟨rfl, rfl, rfl, by decide +kernel, by decide +kernel, by decide +kernel, by decide +kernel⟩
abbrev s_Row_len : Stmt := inClass (topS 11) 2
def k_Row_len : Ck := ⟨["self"], [], [], [], [], ["len"], []⟩
theorem h_Row_len : chkSs 40 k_Row_len (defScope s_Row_len) (defBody s_Row_len) d_Row_len.body = true := by decide +kernel
theorem c_Row_len : FnScope k_Row_len.N ["self"] (defScope s_Row_len) := ⟨rfl, rfl, rfl, by decide +kernel, by decide +kernel, by decide +kernel, by decide +kernel⟩
abbrev s_Table_len : Stmt := inClass (topS 22) 2
def k_Table_len : Ck := ⟨["self"], [], [], [], [], ["len"], []⟩
theorem h_Table_len : chkSs 40 k_Table_len (defScope s_Table_len) (defBody s_Table_len) d_Table_len.body = true := by decide +kernel
theorem c_Table_len : FnScope k_Table_len.N ["self"] (defScope s_Table_len) := ⟨rfl, rfl, rfl, by decide +kernel, by decide +kernel, by decide +kernel, by decide +kernel⟩
abbrev s_law_cell : Stmt := topS 29
def k_law_cell : Ck := ⟨["_law_script", "_law_k", "_law_cell_here", "_law_found", "_law_j"], [], [("_law_mixed", 2, [])], [], [], ["len", "range"], []⟩
theorem h_law_cell : chkSs 40 k_law_cell (defScope s_law_cell) (defBody s_law_cell) d_law_cell.body = true := by decide +kernel
theorem c_law_cell : FnScope k_law_cell.N ["_law_script", "_law_k"] (defScope s_law_cell) := ⟨rfl, rfl, rfl, by decide +kernel, by decide +kernel, by decide +kernel, by decide +kernel⟩
abbrev s_law_take : Stmt := topS 30
def k_law_take : Ck := ⟨["_law_pile", "_law_size", "_law_digit"], [], [], [], [], [], []⟩
theorem h_law_take : chkSs 40 k_law_take (defScope s_law_take) (defBody s_law_take) d_law_take.body = true := by decide +kernel
theorem c_law_take : FnScope k_law_take.N ["_law_pile", "_law_size"] (defScope s_law_take) := ⟨rfl, rfl, rfl, by decide +kernel, by decide +kernel, by decide +kernel, by decide +kernel⟩
abbrev s_Row_eq : Stmt := inClass (topS 11) 1
def k_Row_eq : Ck := ⟨["self", "other"], [], [], [], [("Row", "Row")], ["isinstance"], []⟩
theorem h_Row_eq : chkSs 40 k_Row_eq (defScope s_Row_eq) (defBody s_Row_eq) d_Row_eq.body = true := by decide +kernel
theorem c_Row_eq : FnScope k_Row_eq.N ["self", "other"] (defScope s_Row_eq) := ⟨rfl, rfl, rfl, by decide +kernel, by decide +kernel, by decide +kernel, by decide +kernel⟩
abbrev s_Table_eq : Stmt := inClass (topS 22) 1
def k_Table_eq : Ck := ⟨["self", "other"], [], [], [], [("Table", "Table")], ["isinstance"], []⟩
theorem h_Table_eq : chkSs 40 k_Table_eq (defScope s_Table_eq) (defBody s_Table_eq) d_Table_eq.body = true := by decide +kernel
theorem c_Table_eq : FnScope k_Table_eq.N ["self", "other"] (defScope s_Table_eq) := ⟨rfl, rfl, rfl, by decide +kernel, by decide +kernel, by decide +kernel, by decide +kernel⟩
abbrev s_law_number : Stmt := topS 31
def k_law_number : Ck := ⟨["_law_pile", "_law_way"], [], [("_law_take", 2, [])], [], [], [], []⟩
theorem h_law_number : chkSs 40 k_law_number (defScope s_law_number) (defBody s_law_number) d_law_number.body = true := by decide +kernel
theorem c_law_number : FnScope k_law_number.N ["_law_pile"] (defScope s_law_number) := ⟨rfl, rfl, rfl, by decide +kernel, by decide +kernel, by decide +kernel, by decide +kernel⟩
abbrev s_law_some : Stmt := topS 32
def k_law_some : Ck := ⟨["_law_pile", "_law_deep", "_law_k"], [], [("_law_number", 1, [])], [], [], ["range"], []⟩
theorem h_law_some : chkSs 40 k_law_some (defScope s_law_some) (defBody s_law_some) d_law_some.body = true := by decide +kernel
theorem c_law_some : FnScope k_law_some.N ["_law_pile", "_law_deep"] (defScope s_law_some) := ⟨rfl, rfl, rfl, by decide +kernel, by decide +kernel, by decide +kernel, by decide +kernel⟩
abbrev s_is_number : Stmt := topS 9
def k_is_number : Ck := ⟨["thing"], [], [], [], [], ["isinstance", "int", "bool"], []⟩
theorem h_is_number : chkSs 40 k_is_number (defScope s_is_number) (defBody s_is_number) d_is_number.body = true := by decide +kernel
theorem c_is_number : FnScope k_is_number.N ["thing"] (defScope s_is_number) := ⟨rfl, rfl, rfl, by decide +kernel, by decide +kernel, by decide +kernel, by decide +kernel⟩
abbrev s_look_at_numbers : Stmt := topS 10
def k_look_at_numbers : Ck := ⟨["thing", "place", "number"], [("MOST_DEEP", (.int 12))], [("is_number", 1, [])], [], [], ["isinstance", "list", "tuple", "len", "enumerate"], []⟩
theorem h_look_at_numbers : chkSs 40 k_look_at_numbers (defScope s_look_at_numbers) (defBody s_look_at_numbers) d_look_at_numbers.body = true := by decide +kernel
theorem c_look_at_numbers : FnScope k_look_at_numbers.N ["thing"] (defScope s_look_at_numbers) := ⟨rfl, rfl, rfl, by decide +kernel, by decide +kernel, by decide +kernel, by decide +kernel⟩
abbrev s_Row_init : Stmt := inClass (topS 11) 0
def k_Row_init : Ck := ⟨["self", "numbers"], [], [("look_at_numbers", 1, [])], [], [], ["tuple"], []⟩
theorem h_Row_init : chkSs 40 k_Row_init (defScope s_Row_init) (defBody s_Row_init) d_Row_init.body = true := by decide +kernel
theorem c_Row_init : FnScope k_Row_init.N ["self", "numbers"] (defScope s_Row_init) := ⟨rfl, rfl, rfl, by decide +kernel, by decide +kernel, by decide +kernel, by decide +kernel⟩
abbrev s_is_row : Stmt := topS 12
def k_is_row : Ck := ⟨["thing"], [], [], [], [("Row", "Row")], ["isinstance"], []⟩
theorem h_is_row : chkSs 40 k_is_row (defScope s_is_row) (defBody s_is_row) d_is_row.body = true := by decide +kernel
theorem c_is_row : FnScope k_is_row.N ["thing"] (defScope s_is_row) := ⟨rfl, rfl, rfl, by decide +kernel, by decide +kernel, by decide +kernel, by decide +kernel⟩
abbrev s_look_at_row : Stmt := topS 13
def k_look_at_row : Ck := ⟨["thing"], [], [("is_row", 1, [])], [], [], [], []⟩
theorem h_look_at_row : chkSs 40 k_look_at_row (defScope s_look_at_row) (defBody s_look_at_row) d_look_at_row.body = true := by decide +kernel
theorem c_look_at_row : FnScope k_look_at_row.N ["thing"] (defScope s_look_at_row) := ⟨rfl, rfl, rfl, by decide +kernel, by decide +kernel, by decide +kernel, by decide +kernel⟩
abbrev s_look_at_depths : Stmt := topS 14
def k_look_at_depths : Ck := ⟨["one", "other"], [], [], [], [], [], []⟩
theorem h_look_at_depths : chkSs 40 k_look_at_depths (defScope s_look_at_depths) (defBody s_look_at_depths) d_look_at_depths.body = true := by decide +kernel
theorem c_look_at_depths : FnScope k_look_at_depths.N ["one", "other"] (defScope s_look_at_depths) := ⟨rfl, rfl, rfl, by decide +kernel, by decide +kernel, by decide +kernel, by decide +kernel⟩
abbrev s_quotient : Stmt := topS 18
def k_quotient : Ck := ⟨["one", "other", "found", "k", "number", "i"], [], [], [], [], ["enumerate", "sum", "range"], []⟩
theorem h_quotient : chkSs 40 k_quotient (defScope s_quotient) (defBody s_quotient) d_quotient.body = true := by decide +kernel
theorem c_quotient : FnScope k_quotient.N ["one", "other"] (defScope s_quotient) := ⟨rfl, rfl, rfl, by decide +kernel, by decide +kernel, by decide +kernel, by decide +kernel⟩
abbrev s_unit : Stmt := topS 16
def k_unit : Ck := ⟨["deep"], [], [], [], [], [], []⟩
theorem h_unit : chkSs 40 k_unit (defScope s_unit) (defBody s_unit) d_unit.body = true := by decide +kernel
theorem c_unit : FnScope k_unit.N ["deep"] (defScope s_unit) := ⟨rfl, rfl, rfl, by decide +kernel, by decide +kernel, by decide +kernel, by decide +kernel⟩
abbrev s_product : Stmt := topS 17
def k_product : Ck := ⟨["one", "other", "k", "i"], [], [], [], [], ["range", "len", "sum"], []⟩
theorem h_product : chkSs 40 k_product (defScope s_product) (defBody s_product) d_product.body = true := by decide +kernel
theorem c_product : FnScope k_product.N ["one", "other"] (defScope s_product) := ⟨rfl, rfl, rfl, by decide +kernel, by decide +kernel, by decide +kernel, by decide +kernel⟩
abbrev s_put_in : Stmt := topS 19
def k_put_in : Ck := ⟨["one", "other", "found", "number"], [], [("product", 2, [])], [], [], ["len"], []⟩
theorem h_put_in : chkSs 40 k_put_in (defScope s_put_in) (defBody s_put_in) d_put_in.body = true := by decide +kernel
theorem c_put_in : FnScope k_put_in.N ["one", "other"] (defScope s_put_in) := ⟨rfl, rfl, rfl, by decide +kernel, by decide +kernel, by decide +kernel, by decide +kernel⟩
abbrev s_turned_back : Stmt := topS 20
def k_turned_back : Ck := ⟨["numbers", "found", "k", "told"], [], [("put_in", 2, [])], [], [], ["range", "len"], []⟩
theorem h_turned_back : chkSs 40 k_turned_back (defScope s_turned_back) (defBody s_turned_back) d_turned_back.body = true := by decide +kernel
theorem c_turned_back : FnScope k_turned_back.N ["numbers"] (defScope s_turned_back) := ⟨rfl, rfl, rfl, by decide +kernel, by decide +kernel, by decide +kernel, by decide +kernel⟩
abbrev s_Table_init : Stmt := inClass (topS 22) 0
def k_Table_init : Ck := ⟨["self", "first", "lean"], [], [("look_at_row", 1, []), ("look_at_depths", 2, [])], [], [], ["len"], []⟩
theorem h_Table_init : chkSs 40 k_Table_init (defScope s_Table_init) (defBody s_Table_init) d_Table_init.body = true := by decide +kernel
theorem c_Table_init : FnScope k_Table_init.N ["self", "first", "lean"] (defScope s_Table_init) := ⟨rfl, rfl, rfl, by decide +kernel, by decide +kernel, by decide +kernel, by decide +kernel⟩
abbrev s_by_rule : Stmt := topS 26
def k_by_rule : Ck := ⟨["above", "edge", "back", "lean", "part", "number"], [("MOST_DEEP", (.int 12))], [("look_at_row", 1, []), ("look_at_depths", 2, []), ("quotient", 2, []), ("unit", 1, []), ("turned_back", 1, []), ("put_in", 2, []), ("Table", 2, []), ("Row", 1, [])], [], [], ["len"], []⟩
theorem h_by_rule : chkSs 40 k_by_rule (defScope s_by_rule) (defBody s_by_rule) d_by_rule.body = true := by decide +kernel
theorem c_by_rule : FnScope k_by_rule.N ["above", "edge"] (defScope s_by_rule) := ⟨rfl, rfl, rfl, by decide +kernel, by decide +kernel, by decide +kernel, by decide +kernel⟩
abbrev s_law_rows : Stmt := topS 33
def k_law_rows : Ck := ⟨["_law_left", "_law_right", "_law_found", "_law_row", "_law_fresh", "_law_k", "_law_j"], [], [], [], [], ["len", "sum", "range"], []⟩
theorem h_law_rows : chkSs 40 k_law_rows (defScope s_law_rows) (defBody s_law_rows) d_law_rows.body = true := by decide +kernel
theorem c_law_rows : FnScope k_law_rows.N ["_law_left", "_law_right"] (defScope s_law_rows) := ⟨rfl, rfl, rfl, by decide +kernel, by decide +kernel, by decide +kernel, by decide +kernel⟩
abbrev s_Table_deep : Stmt := inClass (topS 22) 5
def k_Table_deep : Ck := ⟨["self"], [], [], [], [], ["len"], []⟩
theorem h_Table_deep : chkSs 40 k_Table_deep (defScope s_Table_deep) (defBody s_Table_deep) d_Table_deep.body = true := by decide +kernel
theorem c_Table_deep : FnScope k_Table_deep.N ["self"] (defScope s_Table_deep) := ⟨rfl, rfl, rfl, by decide +kernel, by decide +kernel, by decide +kernel, by decide +kernel⟩
abbrev s_Table_columns : Stmt := inClass (topS 22) 6
def k_Table_columns : Ck := ⟨["self", "found"], [], [("product", 2, [])], [("deep", 0, [])], [], ["list", "len"], []⟩
theorem h_Table_columns : chkSs 40 k_Table_columns (defScope s_Table_columns) (defBody s_Table_columns) d_Table_columns.body = true := by decide +kernel
theorem c_Table_columns : FnScope k_Table_columns.N ["self"] (defScope s_Table_columns) := ⟨rfl, rfl, rfl, by decide +kernel, by decide +kernel, by decide +kernel, by decide +kernel⟩
abbrev s_Table_rows : Stmt := inClass (topS 22) 8
def k_Table_rows : Ck := ⟨["self", "columns", "n", "column"], [], [], [("columns", 0, []), ("deep", 0, [])], [], ["range"], []⟩
theorem h_Table_rows : chkSs 40 k_Table_rows (defScope s_Table_rows) (defBody s_Table_rows) d_Table_rows.body = true := by decide +kernel
theorem c_Table_rows : FnScope k_Table_rows.N ["self"] (defScope s_Table_rows) := ⟨rfl, rfl, rfl, by decide +kernel, by decide +kernel, by decide +kernel, by decide +kernel⟩
abbrev s_Table_rule : Stmt := inClass (topS 22) 16
def k_Table_rule : Ck := ⟨["self", "back", "above", "part", "edge", "number"], [], [("turned_back", 1, []), ("quotient", 2, []), ("unit", 1, []), ("Row", 1, []), ("put_in", 2, [])], [("deep", 0, [])], [], [], []⟩
theorem h_Table_rule : chkSs 40 k_Table_rule (defScope s_Table_rule) (defBody s_Table_rule) d_Table_rule.body = true := by decide +kernel
theorem c_Table_rule : FnScope k_Table_rule.N ["self"] (defScope s_Table_rule) := ⟨rfl, rfl, rfl, by decide +kernel, by decide +kernel, by decide +kernel, by decide +kernel⟩
abbrev s_law : Stmt := topS 34
def k_law : Ck := ⟨["_law_script", "_law_k", "_law_pile", "_law_deep", "_law_left", "_law_right", "_law_rows_here", "_law_found"], [], [("_law_cell", 2, []), ("_law_take", 2, []), ("_law_some", 2, []), ("Row", 1, []), ("by_rule", 2, []), ("_law_rows", 2, []), ("by_rule", 0, ["edge", "above"])], [("rows", 0, []), ("rule", 0, [])], [("Table", "Table")], ["range", "isinstance", "len"], []⟩
theorem h_law : chkSs 40 k_law (defScope s_law) (defBody s_law) d_law.body = true := by decide +kernel
theorem c_law : FnScope k_law.N ["_law_script"] (defScope s_law) := ⟨rfl, rfl, rfl, by decide +kernel, by decide +kernel, by decide +kernel, by decide +kernel⟩
section
variable {P : Program} {w : World} {K : PySem.W.Frag} {mg : Str → Option Value} {base : Heap} {G : GEnv}
theorem ok_law_mixed {f : Addr} {fd : FuncData} (HF : ∀ f, FldOk K G f (fldO fldL f)) (HI : IsiTab K G (isiO ownL)) (F : FunA K "_law_mixed" "_law_mixed" (defArgs s_law_mixed) (defBody s_law_mixed) (defScope s_law_mixed) f fd) : FnG P w K mg base 1 f fd ["_law_cell_here", "_law_k"] (spF K G F_law_mixed) :=
  fn_df F c_law_mixed (modk (.nil) (.nil) (.nil) (.nil) HF HI (.nil) (.nil) (.nil)) h_law_mixed (by decide +kernel)
theorem ok_Row_len {f : Addr} {fd : FuncData} (HF : ∀ f, FldOk K G f (fldO fldL f)) (HI : IsiTab K G (isiO ownL)) (F : FunA K "__len__" "Row.__len__" (defArgs s_Row_len) (defBody s_Row_len) (defScope s_Row_len) f fd) (z_len : mg "len" = none) : FnG P w K mg base 1 f fd ["self"] (spF K G F_Row_len) :=
  fn_df F c_Row_len (modk (.nil) (.cons z_len (.nil)) (.nil) (.nil) HF HI (.nil) (.nil) (.nil)) h_Row_len (by decide +kernel)
theorem ok_Table_len {f : Addr} {fd : FuncData} (HF : ∀ f, FldOk K G f (fldO fldL f)) (HI : IsiTab K G (isiO ownL)) (F : FunA K "__len__" "Table.__len__" (defArgs s_Table_len) (defBody s_Table_len) (defScope s_Table_len) f fd) (z_len : mg "len" = none) (d_len_Row : SpK P w K mg base G 4 "__len__" "Row" F_Row_len) : FnG P w K mg base 5 f fd ["self"] (spF K G F_Table_len) :=
  fn_df F c_Table_len (modk (.nil) (.cons z_len (.nil)) (.nil) (.nil) HF HI (.nil) (.cons d_len_Row (.nil)) (.nil)) h_Table_len (by decide +kernel)
theorem ok_law_cell {f : Addr} {fd : FuncData} (HF : ∀ f, FldOk K G f (fldO fldL f)) (HI : IsiTab K G (isiO ownL)) (F : FunA K "_law_cell" "_law_cell" (defArgs s_law_cell) (defBody s_law_cell) (defScope s_law_cell) f fd) (z_len : mg "len" = none) (z_range : mg "range" = none) (t0 : CallK P w K mg base G 8 "_law_mixed" 2 [] (E_law_cell.calls 0)) (d_len_Row : SpK P w K mg base G 8 "__len__" "Row" F_Row_len) (d_len_Table : SpK P w K mg base G 8 "__len__" "Table" F_Table_len) : FnG P w K mg base 9 f fd ["_law_script", "_law_k"] (spF K G F_law_cell) :=
  fn_df F c_law_cell (modk (.nil) (.cons z_len (.cons z_range (.nil))) (.cons t0 (.nil)) (.nil) HF HI (.nil) (.cons d_len_Row (.cons d_len_Table (.nil))) (.nil)) h_law_cell (by decide +kernel)
theorem ok_law_take {f : Addr} {fd : FuncData} (HF : ∀ f, FldOk K G f (fldO fldL f)) (HI : IsiTab K G (isiO ownL)) (F : FunA K "_law_take" "_law_take" (defArgs s_law_take) (defBody s_law_take) (defScope s_law_take) f fd) : FnG P w K mg base 1 f fd ["_law_pile", "_law_size"] (spF K G F_law_take) :=
  fn_df F c_law_take (modk (.nil) (.nil) (.nil) (.nil) HF HI (.nil) (.nil) (.nil)) h_law_take (by decide +kernel)
theorem ok_Row_eq {f : Addr} {fd : FuncData} (HF : ∀ f, FldOk K G f (fldO fldL f)) (HI : IsiTab K G (isiO ownL)) (F : FunA K "__eq__" "Row.__eq__" (defArgs s_Row_eq) (defBody s_Row_eq) (defScope s_Row_eq) f fd) (z_isinstance : mg "isinstance" = none) (q_Row : ∃ ci, G "Row" = some ci ∧ mg "Row" = some (.ref ci.addr)) : FnG P w K mg base 1 f fd ["self", "other"] (spF K G F_Row_eq) :=
  fn_df F c_Row_eq (modk (.nil) (.cons z_isinstance (.nil)) (.nil) (.nil) HF HI (.cons q_Row (.nil)) (.nil) (.nil)) h_Row_eq (by decide +kernel)
theorem ok_Table_eq {f : Addr} {fd : FuncData} (HF : ∀ f, FldOk K G f (fldO fldL f)) (HI : IsiTab K G (isiO ownL)) (F : FunA K "__eq__" "Table.__eq__" (defArgs s_Table_eq) (defBody s_Table_eq) (defScope s_Table_eq) f fd) (z_isinstance : mg "isinstance" = none) (q_Table : ∃ ci, G "Table" = some ci ∧ mg "Table" = some (.ref ci.addr)) (d_eq_Row : SpK P w K mg base G 4 "__eq__" "Row" F_Row_eq) : FnG P w K mg base 5 f fd ["self", "other"] (spF K G F_Table_eq) :=
  fn_df F c_Table_eq (modk (.nil) (.cons z_isinstance (.nil)) (.nil) (.nil) HF HI (.cons q_Table (.nil)) (.cons d_eq_Row (.nil)) (.nil)) h_Table_eq (by decide +kernel)
theorem ok_law_number {f : Addr} {fd : FuncData} (HF : ∀ f, FldOk K G f (fldO fldL f)) (HI : IsiTab K G (isiO ownL)) (F : FunA K "_law_number" "_law_number" (defArgs s_law_number) (defBody s_law_number) (defScope s_law_number) f fd) (t0 : CallK P w K mg base G 8 "_law_take" 2 [] (E_law_number.calls 0)) (d_eq_Row : SpK P w K mg base G 8 "__eq__" "Row" F_Row_eq) (d_eq_Table : SpK P w K mg base G 8 "__eq__" "Table" F_Table_eq) : FnG P w K mg base 9 f fd ["_law_pile"] (spF K G F_law_number) :=
  fn_df F c_law_number (modk (.nil) (.nil) (.cons t0 (.nil)) (.nil) HF HI (.nil) (.cons d_eq_Row (.cons d_eq_Table (.nil))) (.nil)) h_law_number (by decide +kernel)
theorem ok_law_some {f : Addr} {fd : FuncData} (HF : ∀ f, FldOk K G f (fldO fldL f)) (HI : IsiTab K G (isiO ownL)) (F : FunA K "_law_some" "_law_some" (defArgs s_law_some) (defBody s_law_some) (defScope s_law_some) f fd) (z_range : mg "range" = none) (t0 : CallK P w K mg base G 9 "_law_number" 1 [] (E_law_some.calls 0)) : FnG P w K mg base 10 f fd ["_law_pile", "_law_deep"] (spF K G F_law_some) :=
  fn_df F c_law_some (modk (.nil) (.cons z_range (.nil)) (.cons t0 (.nil)) (.nil) HF HI (.nil) (.nil) (.nil)) h_law_some (by decide +kernel)
theorem ok_is_number {f : Addr} {fd : FuncData} (HF : ∀ f, FldOk K G f (fldO fldL f)) (HI : IsiTab K G (isiO ownL)) (F : FunA K "is_number" "is_number" (defArgs s_is_number) (defBody s_is_number) (defScope s_is_number) f fd) (z_isinstance : mg "isinstance" = none) (z_int : mg "int" = none) (z_bool : mg "bool" = none) : FnG P w K mg base 1 f fd ["thing"] (spF K G F_is_number) :=
  fn_df F c_is_number (modk (.nil) (.cons z_isinstance (.cons z_int (.cons z_bool (.nil)))) (.nil) (.nil) HF HI (.nil) (.nil) (.nil)) h_is_number (by decide +kernel)
theorem ok_look_at_numbers {f : Addr} {fd : FuncData} (HF : ∀ f, FldOk K G f (fldO fldL f)) (HI : IsiTab K G (isiO ownL)) (F : FunA K "look_at_numbers" "look_at_numbers" (defArgs s_look_at_numbers) (defBody s_look_at_numbers) (defScope s_look_at_numbers) f fd) (g_MOST_DEEP : ∃ u, mg "MOST_DEEP" = some u ∧ RelV (S0.toV (.int 12)) u) (z_isinstance : mg "isinstance" = none) (z_list : mg "list" = none) (z_tuple : mg "tuple" = none) (z_len : mg "len" = none) (z_enumerate : mg "enumerate" = none) (t0 : CallK P w K mg base G 1 "is_number" 1 [] (E_look_at_numbers.calls 0)) : FnG P w K mg base 2 f fd ["thing"] (spF K G F_look_at_numbers) :=
  fn_df F c_look_at_numbers (modk (.cons g_MOST_DEEP (.nil)) (.cons z_isinstance (.cons z_list (.cons z_tuple (.cons z_len (.cons z_enumerate (.nil)))))) (.cons t0 (.nil)) (.nil) HF HI (.nil) (.nil) (.nil)) h_look_at_numbers (by decide +kernel)
theorem ok_Row_init {f : Addr} {fd : FuncData} (HF : ∀ f, FldOk K G f (fldO fldL f)) (HI : IsiTab K G (isiO ownL)) (F : FunA K "__init__" "Row.__init__" (defArgs s_Row_init) (defBody s_Row_init) (defScope s_Row_init) f fd) (z_tuple : mg "tuple" = none) (t0 : CallK P w K mg base G 2 "look_at_numbers" 1 [] (E_Row_init.calls 0)) : FnG P w K mg base 3 f fd ["self", "numbers"] (spF K G F_Row_init) :=
  fn_df F c_Row_init (modk (.nil) (.cons z_tuple (.nil)) (.cons t0 (.nil)) (.nil) HF HI (.nil) (.nil) (.nil)) h_Row_init (by decide +kernel)
theorem ok_is_row {f : Addr} {fd : FuncData} (HF : ∀ f, FldOk K G f (fldO fldL f)) (HI : IsiTab K G (isiO ownL)) (F : FunA K "is_row" "is_row" (defArgs s_is_row) (defBody s_is_row) (defScope s_is_row) f fd) (z_isinstance : mg "isinstance" = none) (q_Row : ∃ ci, G "Row" = some ci ∧ mg "Row" = some (.ref ci.addr)) : FnG P w K mg base 1 f fd ["thing"] (spF K G F_is_row) :=
  fn_df F c_is_row (modk (.nil) (.cons z_isinstance (.nil)) (.nil) (.nil) HF HI (.cons q_Row (.nil)) (.nil) (.nil)) h_is_row (by decide +kernel)
theorem ok_look_at_row {f : Addr} {fd : FuncData} (HF : ∀ f, FldOk K G f (fldO fldL f)) (HI : IsiTab K G (isiO ownL)) (F : FunA K "look_at_row" "look_at_row" (defArgs s_look_at_row) (defBody s_look_at_row) (defScope s_look_at_row) f fd) (t0 : CallK P w K mg base G 1 "is_row" 1 [] (E_look_at_row.calls 0)) : FnG P w K mg base 2 f fd ["thing"] (spF K G F_look_at_row) :=
  fn_df F c_look_at_row (modk (.nil) (.nil) (.cons t0 (.nil)) (.nil) HF HI (.nil) (.nil) (.nil)) h_look_at_row (by decide +kernel)
theorem ok_look_at_depths {f : Addr} {fd : FuncData} (HF : ∀ f, FldOk K G f (fldO fldL f)) (HI : IsiTab K G (isiO ownL)) (F : FunA K "look_at_depths" "look_at_depths" (defArgs s_look_at_depths) (defBody s_look_at_depths) (defScope s_look_at_depths) f fd) (d_eq_Row : SpK P w K mg base G 4 "__eq__" "Row" F_Row_eq) : FnG P w K mg base 5 f fd ["one", "other"] (spF K G F_look_at_depths) :=
  fn_df F c_look_at_depths (modk (.nil) (.nil) (.nil) (.nil) HF HI (.nil) (.cons d_eq_Row (.nil)) (.nil)) h_look_at_depths (by decide +kernel)
theorem ok_quotient {f : Addr} {fd : FuncData} (HF : ∀ f, FldOk K G f (fldO fldL f)) (HI : IsiTab K G (isiO ownL)) (F : FunA K "quotient" "quotient" (defArgs s_quotient) (defBody s_quotient) (defScope s_quotient) f fd) (z_enumerate : mg "enumerate" = none) (z_sum : mg "sum" = none) (z_range : mg "range" = none) : FnG P w K mg base 1 f fd ["one", "other"] (spF K G F_quotient) :=
  fn_df F c_quotient (modk (.nil) (.cons z_enumerate (.cons z_sum (.cons z_range (.nil)))) (.nil) (.nil) HF HI (.nil) (.nil) (.nil)) h_quotient (by decide +kernel)
theorem ok_unit {f : Addr} {fd : FuncData} (HF : ∀ f, FldOk K G f (fldO fldL f)) (HI : IsiTab K G (isiO ownL)) (F : FunA K "unit" "unit" (defArgs s_unit) (defBody s_unit) (defScope s_unit) f fd) : FnG P w K mg base 1 f fd ["deep"] (spF K G F_unit) :=
  fn_df F c_unit (modk (.nil) (.nil) (.nil) (.nil) HF HI (.nil) (.nil) (.nil)) h_unit (by decide +kernel)
theorem ok_product {f : Addr} {fd : FuncData} (HF : ∀ f, FldOk K G f (fldO fldL f)) (HI : IsiTab K G (isiO ownL)) (F : FunA K "product" "product" (defArgs s_product) (defBody s_product) (defScope s_product) f fd) (z_range : mg "range" = none) (z_len : mg "len" = none) (z_sum : mg "sum" = none) (d_len_Row : SpK P w K mg base G 4 "__len__" "Row" F_Row_len) : FnG P w K mg base 5 f fd ["one", "other"] (spF K G F_product) :=
  fn_df F c_product (modk (.nil) (.cons z_range (.cons z_len (.cons z_sum (.nil)))) (.nil) (.nil) HF HI (.nil) (.cons d_len_Row (.nil)) (.nil)) h_product (by decide +kernel)
theorem ok_put_in {f : Addr} {fd : FuncData} (HF : ∀ f, FldOk K G f (fldO fldL f)) (HI : IsiTab K G (isiO ownL)) (F : FunA K "put_in" "put_in" (defArgs s_put_in) (defBody s_put_in) (defScope s_put_in) f fd) (z_len : mg "len" = none) (t0 : CallK P w K mg base G 5 "product" 2 [] (E_put_in.calls 0)) (d_len_Row : SpK P w K mg base G 5 "__len__" "Row" F_Row_len) : FnG P w K mg base 6 f fd ["one", "other"] (spF K G F_put_in) :=
  fn_df F c_put_in (modk (.nil) (.cons z_len (.nil)) (.cons t0 (.nil)) (.nil) HF HI (.nil) (.cons d_len_Row (.nil)) (.nil)) h_put_in (by decide +kernel)
theorem ok_turned_back {f : Addr} {fd : FuncData} (HF : ∀ f, FldOk K G f (fldO fldL f)) (HI : IsiTab K G (isiO ownL)) (F : FunA K "turned_back" "turned_back" (defArgs s_turned_back) (defBody s_turned_back) (defScope s_turned_back) f fd) (z_range : mg "range" = none) (z_len : mg "len" = none) (t0 : CallK P w K mg base G 6 "put_in" 2 [] (E_turned_back.calls 0)) (d_len_Row : SpK P w K mg base G 6 "__len__" "Row" F_Row_len) : FnG P w K mg base 7 f fd ["numbers"] (spF K G F_turned_back) :=
  fn_df F c_turned_back (modk (.nil) (.cons z_range (.cons z_len (.nil))) (.cons t0 (.nil)) (.nil) HF HI (.nil) (.cons d_len_Row (.nil)) (.nil)) h_turned_back (by decide +kernel)
theorem ok_Table_init {f : Addr} {fd : FuncData} (HF : ∀ f, FldOk K G f (fldO fldL f)) (HI : IsiTab K G (isiO ownL)) (F : FunA K "__init__" "Table.__init__" (defArgs s_Table_init) (defBody s_Table_init) (defScope s_Table_init) f fd) (z_len : mg "len" = none) (t0 : CallK P w K mg base G 5 "look_at_row" 1 [] (E_Table_init.calls 0)) (t1 : CallK P w K mg base G 5 "look_at_depths" 2 [] (E_Table_init.calls 1)) (d_eq_Row : SpK P w K mg base G 5 "__eq__" "Row" F_Row_eq) (d_len_Row : SpK P w K mg base G 5 "__len__" "Row" F_Row_len) : FnG P w K mg base 6 f fd ["self", "first", "lean"] (spF K G F_Table_init) :=
  fn_df F c_Table_init (modk (.nil) (.cons z_len (.nil)) (.cons t0 (.cons t1 (.nil))) (.nil) HF HI (.nil) (.cons d_eq_Row (.cons d_len_Row (.nil))) (.nil)) h_Table_init (by decide +kernel)
theorem ok_by_rule {f : Addr} {fd : FuncData} (HF : ∀ f, FldOk K G f (fldO fldL f)) (HI : IsiTab K G (isiO ownL)) (F : FunA K "by_rule" "by_rule" (defArgs s_by_rule) (defBody s_by_rule) (defScope s_by_rule) f fd) (g_MOST_DEEP : ∃ u, mg "MOST_DEEP" = some u ∧ RelV (S0.toV (.int 12)) u) (z_len : mg "len" = none) (t0 : CallK P w K mg base G 8 "look_at_row" 1 [] (E_by_rule.calls 0)) (t1 : CallK P w K mg base G 8 "look_at_depths" 2 [] (E_by_rule.calls 1)) (t2 : CallK P w K mg base G 8 "quotient" 2 [] (E_by_rule.calls 2)) (t3 : CallK P w K mg base G 8 "unit" 1 [] (E_by_rule.calls 3)) (t4 : CallK P w K mg base G 8 "turned_back" 1 [] (E_by_rule.calls 4)) (t5 : CallK P w K mg base G 8 "put_in" 2 [] (E_by_rule.calls 5)) (t6 : CallK P w K mg base G 8 "Table" 2 [] (E_by_rule.calls 6)) (t7 : CallK P w K mg base G 8 "Row" 1 [] (E_by_rule.calls 7)) (d_eq_Row : SpK P w K mg base G 8 "__eq__" "Row" F_Row_eq) (d_len_Row : SpK P w K mg base G 8 "__len__" "Row" F_Row_len) (d_eq_Table : SpK P w K mg base G 8 "__eq__" "Table" F_Table_eq) (d_len_Table : SpK P w K mg base G 8 "__len__" "Table" F_Table_len) : FnG P w K mg base 9 f fd ["above", "edge"] (spF K G F_by_rule) :=
  fn_df F c_by_rule (modk (.cons g_MOST_DEEP (.nil)) (.cons z_len (.nil)) (.cons t0 (.cons t1 (.cons t2 (.cons t3 (.cons t4 (.cons t5 (.cons t6 (.cons t7 (.nil))))))))) (.nil) HF HI (.nil) (.cons d_eq_Row (.cons d_len_Row (.cons d_eq_Table (.cons d_len_Table (.nil))))) (.nil)) h_by_rule (by decide +kernel)
theorem ok_law_rows {f : Addr} {fd : FuncData} (HF : ∀ f, FldOk K G f (fldO fldL f)) (HI : IsiTab K G (isiO ownL)) (F : FunA K "_law_rows" "_law_rows" (defArgs s_law_rows) (defBody s_law_rows) (defScope s_law_rows) f fd) (z_len : mg "len" = none) (z_sum : mg "sum" = none) (z_range : mg "range" = none) (d_len_Row : SpK P w K mg base G 8 "__len__" "Row" F_Row_len) (d_len_Table : SpK P w K mg base G 8 "__len__" "Table" F_Table_len) : FnG P w K mg base 9 f fd ["_law_left", "_law_right"] (spF K G F_law_rows) :=
  fn_df F c_law_rows (modk (.nil) (.cons z_len (.cons z_sum (.cons z_range (.nil)))) (.nil) (.nil) HF HI (.nil) (.cons d_len_Row (.cons d_len_Table (.nil))) (.nil)) h_law_rows (by decide +kernel)
theorem ok_Table_deep {f : Addr} {fd : FuncData} (HF : ∀ f, FldOk K G f (fldO fldL f)) (HI : IsiTab K G (isiO ownL)) (F : FunA K "deep" "Table.deep" (defArgs s_Table_deep) (defBody s_Table_deep) (defScope s_Table_deep) f fd) (z_len : mg "len" = none) (d_len_Row : SpK P w K mg base G 4 "__len__" "Row" F_Row_len) : FnG P w K mg base 5 f fd ["self"] (spF K G F_Table_deep) :=
  fn_df F c_Table_deep (modk (.nil) (.cons z_len (.nil)) (.nil) (.nil) HF HI (.nil) (.cons d_len_Row (.nil)) (.nil)) h_Table_deep (by decide +kernel)
theorem ok_Table_columns {f : Addr} {fd : FuncData} (HF : ∀ f, FldOk K G f (fldO fldL f)) (HI : IsiTab K G (isiO ownL)) (F : FunA K "columns" "Table.columns" (defArgs s_Table_columns) (defBody s_Table_columns) (defScope s_Table_columns) f fd) (z_list : mg "list" = none) (z_len : mg "len" = none) (t0 : CallK P w K mg base G 5 "product" 2 [] (E_Table_columns.calls 0)) (u0 : MethK P w K mg base G 5 "deep" 0 [] (E_Table_columns.mths 0)) (d_len_Row : SpK P w K mg base G 5 "__len__" "Row" F_Row_len) : FnG P w K mg base 6 f fd ["self"] (spF K G F_Table_columns) :=
  fn_df F c_Table_columns (modk (.nil) (.cons z_list (.cons z_len (.nil))) (.cons t0 (.nil)) (.cons u0 (.nil)) HF HI (.nil) (.cons d_len_Row (.nil)) (.nil)) h_Table_columns (by decide +kernel)
theorem ok_Table_rows {f : Addr} {fd : FuncData} (HF : ∀ f, FldOk K G f (fldO fldL f)) (HI : IsiTab K G (isiO ownL)) (F : FunA K "rows" "Table.rows" (defArgs s_Table_rows) (defBody s_Table_rows) (defScope s_Table_rows) f fd) (z_range : mg "range" = none) (u0 : MethK P w K mg base G 6 "columns" 0 [] (E_Table_rows.mths 0)) (u1 : MethK P w K mg base G 6 "deep" 0 [] (E_Table_rows.mths 1)) : FnG P w K mg base 7 f fd ["self"] (spF K G F_Table_rows) :=
  fn_df F c_Table_rows (modk (.nil) (.cons z_range (.nil)) (.nil) (.cons u0 (.cons u1 (.nil))) HF HI (.nil) (.nil) (.nil)) h_Table_rows (by decide +kernel)
theorem ok_Table_rule {f : Addr} {fd : FuncData} (HF : ∀ f, FldOk K G f (fldO fldL f)) (HI : IsiTab K G (isiO ownL)) (F : FunA K "rule" "Table.rule" (defArgs s_Table_rule) (defBody s_Table_rule) (defScope s_Table_rule) f fd) (t0 : CallK P w K mg base G 7 "turned_back" 1 [] (E_Table_rule.calls 0)) (t1 : CallK P w K mg base G 7 "quotient" 2 [] (E_Table_rule.calls 1)) (t2 : CallK P w K mg base G 7 "unit" 1 [] (E_Table_rule.calls 2)) (t3 : CallK P w K mg base G 7 "Row" 1 [] (E_Table_rule.calls 3)) (t4 : CallK P w K mg base G 7 "put_in" 2 [] (E_Table_rule.calls 4)) (u0 : MethK P w K mg base G 7 "deep" 0 [] (E_Table_rule.mths 0)) : FnG P w K mg base 8 f fd ["self"] (spF K G F_Table_rule) :=
  fn_df F c_Table_rule (modk (.nil) (.nil) (.cons t0 (.cons t1 (.cons t2 (.cons t3 (.cons t4 (.nil)))))) (.cons u0 (.nil)) HF HI (.nil) (.nil) (.nil)) h_Table_rule (by decide +kernel)
theorem ok_law {f : Addr} {fd : FuncData} (HF : ∀ f, FldOk K G f (fldO fldL f)) (HI : IsiTab K G (isiO ownL)) (F : FunA K "law" "law" (defArgs s_law) (defBody s_law) (defScope s_law) f fd) (z_range : mg "range" = none) (z_isinstance : mg "isinstance" = none) (z_len : mg "len" = none) (t0 : CallK P w K mg base G 10 "_law_cell" 2 [] (E_law.calls 0)) (t1 : CallK P w K mg base G 10 "_law_take" 2 [] (E_law.calls 1)) (t2 : CallK P w K mg base G 10 "_law_some" 2 [] (E_law.calls 2)) (t3 : CallK P w K mg base G 10 "Row" 1 [] (E_law.calls 3)) (t4 : CallK P w K mg base G 10 "by_rule" 2 [] (E_law.calls 4)) (t5 : CallK P w K mg base G 10 "_law_rows" 2 [] (E_law.calls 5)) (t6 : CallK P w K mg base G 10 "by_rule" 0 ["edge", "above"] (E_law.calls 6)) (u0 : MethK P w K mg base G 10 "rows" 0 [] (E_law.mths 0)) (u1 : MethK P w K mg base G 10 "rule" 0 [] (E_law.mths 1)) (q_Table : ∃ ci, G "Table" = some ci ∧ mg "Table" = some (.ref ci.addr)) (d_eq_Row : SpK P w K mg base G 10 "__eq__" "Row" F_Row_eq) (d_len_Row : SpK P w K mg base G 10 "__len__" "Row" F_Row_len) (d_eq_Table : SpK P w K mg base G 10 "__eq__" "Table" F_Table_eq) (d_len_Table : SpK P w K mg base G 10 "__len__" "Table" F_Table_len) : FnG P w K mg base 11 f fd ["_law_script"] (spF K G F_law) :=
  fn_df F c_law (modk (.nil) (.cons z_range (.cons z_isinstance (.cons z_len (.nil)))) (.cons t0 (.cons t1 (.cons t2 (.cons t3 (.cons t4 (.cons t5 (.cons t6 (.nil)))))))) (.cons u0 (.cons u1 (.nil))) HF HI (.cons q_Table (.nil)) (.cons d_eq_Row (.cons d_len_Row (.cons d_eq_Table (.cons d_len_Table (.nil))))) (.nil)) h_law (by decide +kernel)
end
theorem all_mk {l : PySem.W.OpenLaw} {w : World} {K : PySem.W.Frag} {h : Heap} {mg : Str → Option Value} {fa a_law_mixed a_Row_len a_Table_len a_law_cell a_law_take a_Row_eq a_Table_eq a_law_number a_law_some a_is_number a_look_at_numbers a_Row_init a_is_row a_look_at_row a_look_at_depths a_quotient a_unit a_product a_put_in a_turned_back a_Table_init a_by_rule a_law_rows a_Table_deep a_Table_columns a_Table_rows a_Table_rule a_law A_Row A_Table : Addr} (X : K.In h) (G : h.Ns mainGlobals mg) (hfa : mg "law" = some (.ref fa))
    {od0 an0 : Option Addr} {sl0 : Array (Option Value)} {oc0 kV0 dc0 pm0 cd0 ct0 : Value} {od1 an1 : Option Addr} {sl1 : Array (Option Value)} {oc1 kV1 dc1 pm1 cd1 ct1 : Value} {od2 an2 : Option Addr} {sl2 : Array (Option Value)} {oc2 kV2 dc2 pm2 cd2 ct2 : Value} {od3 an3 : Option Addr} {sl3 : Array (Option Value)} {oc3 kV3 dc3 pm3 cd3 ct3 : Value} {od4 an4 : Option Addr} {sl4 : Array (Option Value)} {oc4 kV4 dc4 pm4 cd4 ct4 : Value} {od5 an5 : Option Addr} {sl5 : Array (Option Value)} {oc5 kV5 dc5 pm5 cd5 ct5 : Value} {od6 an6 : Option Addr} {sl6 : Array (Option Value)} {oc6 kV6 dc6 pm6 cd6 ct6 : Value} {od7 an7 : Option Addr} {sl7 : Array (Option Value)} {oc7 kV7 dc7 pm7 cd7 ct7 : Value} {od8 an8 : Option Addr} {sl8 : Array (Option Value)} {oc8 kV8 dc8 pm8 cd8 ct8 : Value} {od9 an9 : Option Addr} {sl9 : Array (Option Value)} {oc9 kV9 dc9 pm9 cd9 ct9 : Value} {od10 an10 : Option Addr} {sl10 : Array (Option Value)} {oc10 kV10 dc10 pm10 cd10 ct10 : Value} {od11 an11 : Option Addr} {sl11 : Array (Option Value)} {oc11 kV11 dc11 pm11 cd11 ct11 : Value} {od12 an12 : Option Addr} {sl12 : Array (Option Value)} {oc12 kV12 dc12 pm12 cd12 ct12 : Value} {od13 an13 : Option Addr} {sl13 : Array (Option Value)} {oc13 kV13 dc13 pm13 cd13 ct13 : Value} {od14 an14 : Option Addr} {sl14 : Array (Option Value)} {oc14 kV14 dc14 pm14 cd14 ct14 : Value} {od15 an15 : Option Addr} {sl15 : Array (Option Value)} {oc15 kV15 dc15 pm15 cd15 ct15 : Value} {od16 an16 : Option Addr} {sl16 : Array (Option Value)} {oc16 kV16 dc16 pm16 cd16 ct16 : Value} {od17 an17 : Option Addr} {sl17 : Array (Option Value)} {oc17 kV17 dc17 pm17 cd17 ct17 : Value} {od18 an18 : Option Addr} {sl18 : Array (Option Value)} {oc18 kV18 dc18 pm18 cd18 ct18 : Value} {od19 an19 : Option Addr} {sl19 : Array (Option Value)} {oc19 kV19 dc19 pm19 cd19 ct19 : Value} {od20 an20 : Option Addr} {sl20 : Array (Option Value)} {oc20 kV20 dc20 pm20 cd20 ct20 : Value} {od21 an21 : Option Addr} {sl21 : Array (Option Value)} {oc21 kV21 dc21 pm21 cd21 ct21 : Value} {od22 an22 : Option Addr} {sl22 : Array (Option Value)} {oc22 kV22 dc22 pm22 cd22 ct22 : Value} {od23 an23 : Option Addr} {sl23 : Array (Option Value)} {oc23 kV23 dc23 pm23 cd23 ct23 : Value} {od24 an24 : Option Addr} {sl24 : Array (Option Value)} {oc24 kV24 dc24 pm24 cd24 ct24 : Value} {od25 an25 : Option Addr} {sl25 : Array (Option Value)} {oc25 kV25 dc25 pm25 cd25 ct25 : Value} {od26 an26 : Option Addr} {sl26 : Array (Option Value)} {oc26 kV26 dc26 pm26 cd26 ct26 : Value} {od27 an27 : Option Addr} {sl27 : Array (Option Value)} {oc27 kV27 dc27 pm27 cd27 ct27 : Value}
    (C_Row : PySem.W.nsIn K mainGlobals "Row" = some (some (.ref A_Row)))
    (C_Table : PySem.W.nsIn K mainGlobals "Table" = some (some (.ref A_Table)))
    (x0 : PySem.W.nsIn K mainGlobals "_law_mixed" = some (some (.ref a_law_mixed)))
    (l0 : K.lookup a_law_mixed = some ⟨oc0, od0, .func (PySem.W.fnOf "_law_mixed" "_law_mixed" (defArgs s_law_mixed) (defBody s_law_mixed) (defScope s_law_mixed) .none kV0 dc0 pm0 an0 cd0 ct0), sl0⟩)
    (c0 : PySem.W.codeIn K cd0 "_law_mixed" = true)
    (k0 : PySem.W.keepIn K (.ref a_law_mixed) = true)
    (x1 : PySem.W.findIn K (.ref A_Row) "__len__" = some (some (.ref a_Row_len)))
    (l1 : K.lookup a_Row_len = some ⟨oc1, od1, .func (PySem.W.fnOf "__len__" "Row.__len__" (defArgs s_Row_len) (defBody s_Row_len) (defScope s_Row_len) .none kV1 dc1 pm1 an1 cd1 ct1), sl1⟩)
    (c1 : PySem.W.codeIn K cd1 "Row.__len__" = true)
    (k1 : PySem.W.keepIn K (.ref a_Row_len) = true)
    (i1 : PySem.W.isFn K (.ref a_Row_len) = true)
    (x2 : PySem.W.findIn K (.ref A_Table) "__len__" = some (some (.ref a_Table_len)))
    (l2 : K.lookup a_Table_len = some ⟨oc2, od2, .func (PySem.W.fnOf "__len__" "Table.__len__" (defArgs s_Table_len) (defBody s_Table_len) (defScope s_Table_len) .none kV2 dc2 pm2 an2 cd2 ct2), sl2⟩)
    (c2 : PySem.W.codeIn K cd2 "Table.__len__" = true)
    (k2 : PySem.W.keepIn K (.ref a_Table_len) = true)
    (i2 : PySem.W.isFn K (.ref a_Table_len) = true)
    (x3 : PySem.W.nsIn K mainGlobals "_law_cell" = some (some (.ref a_law_cell)))
    (l3 : K.lookup a_law_cell = some ⟨oc3, od3, .func (PySem.W.fnOf "_law_cell" "_law_cell" (defArgs s_law_cell) (defBody s_law_cell) (defScope s_law_cell) .none kV3 dc3 pm3 an3 cd3 ct3), sl3⟩)
    (c3 : PySem.W.codeIn K cd3 "_law_cell" = true)
    (k3 : PySem.W.keepIn K (.ref a_law_cell) = true)
    (x4 : PySem.W.nsIn K mainGlobals "_law_take" = some (some (.ref a_law_take)))
    (l4 : K.lookup a_law_take = some ⟨oc4, od4, .func (PySem.W.fnOf "_law_take" "_law_take" (defArgs s_law_take) (defBody s_law_take) (defScope s_law_take) .none kV4 dc4 pm4 an4 cd4 ct4), sl4⟩)
    (c4 : PySem.W.codeIn K cd4 "_law_take" = true)
    (k4 : PySem.W.keepIn K (.ref a_law_take) = true)
    (x5 : PySem.W.findIn K (.ref A_Row) "__eq__" = some (some (.ref a_Row_eq)))
    (l5 : K.lookup a_Row_eq = some ⟨oc5, od5, .func (PySem.W.fnOf "__eq__" "Row.__eq__" (defArgs s_Row_eq) (defBody s_Row_eq) (defScope s_Row_eq) .none kV5 dc5 pm5 an5 cd5 ct5), sl5⟩)
    (c5 : PySem.W.codeIn K cd5 "Row.__eq__" = true)
    (k5 : PySem.W.keepIn K (.ref a_Row_eq) = true)
    (i5 : PySem.W.isFn K (.ref a_Row_eq) = true)
    (x6 : PySem.W.findIn K (.ref A_Table) "__eq__" = some (some (.ref a_Table_eq)))
    (l6 : K.lookup a_Table_eq = some ⟨oc6, od6, .func (PySem.W.fnOf "__eq__" "Table.__eq__" (defArgs s_Table_eq) (defBody s_Table_eq) (defScope s_Table_eq) .none kV6 dc6 pm6 an6 cd6 ct6), sl6⟩)
    (c6 : PySem.W.codeIn K cd6 "Table.__eq__" = true)
    (k6 : PySem.W.keepIn K (.ref a_Table_eq) = true)
    (i6 : PySem.W.isFn K (.ref a_Table_eq) = true)
    (x7 : PySem.W.nsIn K mainGlobals "_law_number" = some (some (.ref a_law_number)))
    (l7 : K.lookup a_law_number = some ⟨oc7, od7, .func (PySem.W.fnOf "_law_number" "_law_number" (defArgs s_law_number) (defBody s_law_number) (defScope s_law_number) .none kV7 dc7 pm7 an7 cd7 ct7), sl7⟩)
    (c7 : PySem.W.codeIn K cd7 "_law_number" = true)
    (k7 : PySem.W.keepIn K (.ref a_law_number) = true)
    (x8 : PySem.W.nsIn K mainGlobals "_law_some" = some (some (.ref a_law_some)))
    (l8 : K.lookup a_law_some = some ⟨oc8, od8, .func (PySem.W.fnOf "_law_some" "_law_some" (defArgs s_law_some) (defBody s_law_some) (defScope s_law_some) .none kV8 dc8 pm8 an8 cd8 ct8), sl8⟩)
    (c8 : PySem.W.codeIn K cd8 "_law_some" = true)
    (k8 : PySem.W.keepIn K (.ref a_law_some) = true)
    (x9 : PySem.W.nsIn K mainGlobals "is_number" = some (some (.ref a_is_number)))
    (l9 : K.lookup a_is_number = some ⟨oc9, od9, .func (PySem.W.fnOf "is_number" "is_number" (defArgs s_is_number) (defBody s_is_number) (defScope s_is_number) .none kV9 dc9 pm9 an9 cd9 ct9), sl9⟩)
    (c9 : PySem.W.codeIn K cd9 "is_number" = true)
    (k9 : PySem.W.keepIn K (.ref a_is_number) = true)
    (x10 : PySem.W.nsIn K mainGlobals "look_at_numbers" = some (some (.ref a_look_at_numbers)))
    (l10 : K.lookup a_look_at_numbers = some ⟨oc10, od10, .func (PySem.W.fnOf "look_at_numbers" "look_at_numbers" (defArgs s_look_at_numbers) (defBody s_look_at_numbers) (defScope s_look_at_numbers) .none kV10 dc10 pm10 an10 cd10 ct10), sl10⟩)
    (c10 : PySem.W.codeIn K cd10 "look_at_numbers" = true)
    (k10 : PySem.W.keepIn K (.ref a_look_at_numbers) = true)
    (x11 : PySem.W.findIn K (.ref A_Row) "__init__" = some (some (.ref a_Row_init)))
    (l11 : K.lookup a_Row_init = some ⟨oc11, od11, .func (PySem.W.fnOf "__init__" "Row.__init__" (defArgs s_Row_init) (defBody s_Row_init) (defScope s_Row_init) .none kV11 dc11 pm11 an11 cd11 ct11), sl11⟩)
    (c11 : PySem.W.codeIn K cd11 "Row.__init__" = true)
    (k11 : PySem.W.keepIn K (.ref a_Row_init) = true)
    (i11 : PySem.W.isFn K (.ref a_Row_init) = true)
    (x12 : PySem.W.nsIn K mainGlobals "is_row" = some (some (.ref a_is_row)))
    (l12 : K.lookup a_is_row = some ⟨oc12, od12, .func (PySem.W.fnOf "is_row" "is_row" (defArgs s_is_row) (defBody s_is_row) (defScope s_is_row) .none kV12 dc12 pm12 an12 cd12 ct12), sl12⟩)
    (c12 : PySem.W.codeIn K cd12 "is_row" = true)
    (k12 : PySem.W.keepIn K (.ref a_is_row) = true)
    (x13 : PySem.W.nsIn K mainGlobals "look_at_row" = some (some (.ref a_look_at_row)))
    (l13 : K.lookup a_look_at_row = some ⟨oc13, od13, .func (PySem.W.fnOf "look_at_row" "look_at_row" (defArgs s_look_at_row) (defBody s_look_at_row) (defScope s_look_at_row) .none kV13 dc13 pm13 an13 cd13 ct13), sl13⟩)
    (c13 : PySem.W.codeIn K cd13 "look_at_row" = true)
    (k13 : PySem.W.keepIn K (.ref a_look_at_row) = true)
    (x14 : PySem.W.nsIn K mainGlobals "look_at_depths" = some (some (.ref a_look_at_depths)))
    (l14 : K.lookup a_look_at_depths = some ⟨oc14, od14, .func (PySem.W.fnOf "look_at_depths" "look_at_depths" (defArgs s_look_at_depths) (defBody s_look_at_depths) (defScope s_look_at_depths) .none kV14 dc14 pm14 an14 cd14 ct14), sl14⟩)
    (c14 : PySem.W.codeIn K cd14 "look_at_depths" = true)
    (k14 : PySem.W.keepIn K (.ref a_look_at_depths) = true)
    (x15 : PySem.W.nsIn K mainGlobals "quotient" = some (some (.ref a_quotient)))
    (l15 : K.lookup a_quotient = some ⟨oc15, od15, .func (PySem.W.fnOf "quotient" "quotient" (defArgs s_quotient) (defBody s_quotient) (defScope s_quotient) .none kV15 dc15 pm15 an15 cd15 ct15), sl15⟩)
    (c15 : PySem.W.codeIn K cd15 "quotient" = true)
    (k15 : PySem.W.keepIn K (.ref a_quotient) = true)
    (x16 : PySem.W.nsIn K mainGlobals "unit" = some (some (.ref a_unit)))
    (l16 : K.lookup a_unit = some ⟨oc16, od16, .func (PySem.W.fnOf "unit" "unit" (defArgs s_unit) (defBody s_unit) (defScope s_unit) .none kV16 dc16 pm16 an16 cd16 ct16), sl16⟩)
    (c16 : PySem.W.codeIn K cd16 "unit" = true)
    (k16 : PySem.W.keepIn K (.ref a_unit) = true)
    (x17 : PySem.W.nsIn K mainGlobals "product" = some (some (.ref a_product)))
    (l17 : K.lookup a_product = some ⟨oc17, od17, .func (PySem.W.fnOf "product" "product" (defArgs s_product) (defBody s_product) (defScope s_product) .none kV17 dc17 pm17 an17 cd17 ct17), sl17⟩)
    (c17 : PySem.W.codeIn K cd17 "product" = true)
    (k17 : PySem.W.keepIn K (.ref a_product) = true)
    (x18 : PySem.W.nsIn K mainGlobals "put_in" = some (some (.ref a_put_in)))
    (l18 : K.lookup a_put_in = some ⟨oc18, od18, .func (PySem.W.fnOf "put_in" "put_in" (defArgs s_put_in) (defBody s_put_in) (defScope s_put_in) .none kV18 dc18 pm18 an18 cd18 ct18), sl18⟩)
    (c18 : PySem.W.codeIn K cd18 "put_in" = true)
    (k18 : PySem.W.keepIn K (.ref a_put_in) = true)
    (x19 : PySem.W.nsIn K mainGlobals "turned_back" = some (some (.ref a_turned_back)))
    (l19 : K.lookup a_turned_back = some ⟨oc19, od19, .func (PySem.W.fnOf "turned_back" "turned_back" (defArgs s_turned_back) (defBody s_turned_back) (defScope s_turned_back) .none kV19 dc19 pm19 an19 cd19 ct19), sl19⟩)
    (c19 : PySem.W.codeIn K cd19 "turned_back" = true)
    (k19 : PySem.W.keepIn K (.ref a_turned_back) = true)
    (x20 : PySem.W.findIn K (.ref A_Table) "__init__" = some (some (.ref a_Table_init)))
    (l20 : K.lookup a_Table_init = some ⟨oc20, od20, .func (PySem.W.fnOf "__init__" "Table.__init__" (defArgs s_Table_init) (defBody s_Table_init) (defScope s_Table_init) .none kV20 dc20 pm20 an20 cd20 ct20), sl20⟩)
    (c20 : PySem.W.codeIn K cd20 "Table.__init__" = true)
    (k20 : PySem.W.keepIn K (.ref a_Table_init) = true)
    (i20 : PySem.W.isFn K (.ref a_Table_init) = true)
    (x21 : PySem.W.nsIn K mainGlobals "by_rule" = some (some (.ref a_by_rule)))
    (l21 : K.lookup a_by_rule = some ⟨oc21, od21, .func (PySem.W.fnOf "by_rule" "by_rule" (defArgs s_by_rule) (defBody s_by_rule) (defScope s_by_rule) .none kV21 dc21 pm21 an21 cd21 ct21), sl21⟩)
    (c21 : PySem.W.codeIn K cd21 "by_rule" = true)
    (k21 : PySem.W.keepIn K (.ref a_by_rule) = true)
    (x22 : PySem.W.nsIn K mainGlobals "_law_rows" = some (some (.ref a_law_rows)))
    (l22 : K.lookup a_law_rows = some ⟨oc22, od22, .func (PySem.W.fnOf "_law_rows" "_law_rows" (defArgs s_law_rows) (defBody s_law_rows) (defScope s_law_rows) .none kV22 dc22 pm22 an22 cd22 ct22), sl22⟩)
    (c22 : PySem.W.codeIn K cd22 "_law_rows" = true)
    (k22 : PySem.W.keepIn K (.ref a_law_rows) = true)
    (x23 : PySem.W.findIn K (.ref A_Table) "deep" = some (some (.ref a_Table_deep)))
    (l23 : K.lookup a_Table_deep = some ⟨oc23, od23, .func (PySem.W.fnOf "deep" "Table.deep" (defArgs s_Table_deep) (defBody s_Table_deep) (defScope s_Table_deep) .none kV23 dc23 pm23 an23 cd23 ct23), sl23⟩)
    (c23 : PySem.W.codeIn K cd23 "Table.deep" = true)
    (k23 : PySem.W.keepIn K (.ref a_Table_deep) = true)
    (i23 : PySem.W.isFn K (.ref a_Table_deep) = true)
    (x24 : PySem.W.findIn K (.ref A_Table) "columns" = some (some (.ref a_Table_columns)))
    (l24 : K.lookup a_Table_columns = some ⟨oc24, od24, .func (PySem.W.fnOf "columns" "Table.columns" (defArgs s_Table_columns) (defBody s_Table_columns) (defScope s_Table_columns) .none kV24 dc24 pm24 an24 cd24 ct24), sl24⟩)
    (c24 : PySem.W.codeIn K cd24 "Table.columns" = true)
    (k24 : PySem.W.keepIn K (.ref a_Table_columns) = true)
    (i24 : PySem.W.isFn K (.ref a_Table_columns) = true)
    (x25 : PySem.W.findIn K (.ref A_Table) "rows" = some (some (.ref a_Table_rows)))
    (l25 : K.lookup a_Table_rows = some ⟨oc25, od25, .func (PySem.W.fnOf "rows" "Table.rows" (defArgs s_Table_rows) (defBody s_Table_rows) (defScope s_Table_rows) .none kV25 dc25 pm25 an25 cd25 ct25), sl25⟩)
    (c25 : PySem.W.codeIn K cd25 "Table.rows" = true)
    (k25 : PySem.W.keepIn K (.ref a_Table_rows) = true)
    (i25 : PySem.W.isFn K (.ref a_Table_rows) = true)
    (x26 : PySem.W.findIn K (.ref A_Table) "rule" = some (some (.ref a_Table_rule)))
    (l26 : K.lookup a_Table_rule = some ⟨oc26, od26, .func (PySem.W.fnOf "rule" "Table.rule" (defArgs s_Table_rule) (defBody s_Table_rule) (defScope s_Table_rule) .none kV26 dc26 pm26 an26 cd26 ct26), sl26⟩)
    (c26 : PySem.W.codeIn K cd26 "Table.rule" = true)
    (k26 : PySem.W.keepIn K (.ref a_Table_rule) = true)
    (i26 : PySem.W.isFn K (.ref a_Table_rule) = true)
    (x27 : PySem.W.nsIn K mainGlobals "law" = some (some (.ref a_law)))
    (l27 : K.lookup a_law = some ⟨oc27, od27, .func (PySem.W.fnOf "law" "law" (defArgs s_law) (defBody s_law) (defScope s_law) .none kV27 dc27 pm27 an27 cd27 ct27), sl27⟩)
    (c27 : PySem.W.codeIn K cd27 "law" = true)
    (k27 : PySem.W.keepIn K (.ref a_law) = true)
    {tk_MOST_DEEP : Tok}
    (g_MOST_DEEP : PySem.W.nsIn K mainGlobals "MOST_DEEP" = some (some (.int 12 tk_MOST_DEEP)))
    (z_len : PySem.W.nsIn K mainGlobals "len" = some none)
    (z_range : PySem.W.nsIn K mainGlobals "range" = some none)
    (z_isinstance : PySem.W.nsIn K mainGlobals "isinstance" = some none)
    (z_int : PySem.W.nsIn K mainGlobals "int" = some none)
    (z_bool : PySem.W.nsIn K mainGlobals "bool" = some none)
    (z_list : PySem.W.nsIn K mainGlobals "list" = some none)
    (z_tuple : PySem.W.nsIn K mainGlobals "tuple" = some none)
    (z_enumerate : PySem.W.nsIn K mainGlobals "enumerate" = some none)
    (z_sum : PySem.W.nsIn K mainGlobals "sum" = some none)
    (oh : PySem.W.specialIn K (.builtin "object.__class__") "__get__" = some (some (.builtin "getset_descriptor.__get__")))
    (ot : PySem.W.takesIn K (.builtin "object.__class__") = some true)
    (pg_Row : PySem.W.plainGet K A_Row Str.empty = true)
    (hd_Row : PySem.W.hasDictIn K A_Row = true)
    (po_Row : PySem.W.plainOver K A_Row = true)
    (sa_Row : PySem.W.findIn K (.ref A_Row) "__setattr__" = some (some (.builtin "object.__setattr__")))
    (ha_Row : PySem.W.findIn K (.ref A_Row) "__class__" = some (some (.builtin "object.__class__")))
    (ob_Row : PySem.W.mroIn K A_Row (.type "object") = some true)
    (ic_Row : PySem.W.isClsIn K A_Row = true)
    (it_Row : PySem.W.typeIn K (.ref A_Row) = some (.type "type"))
    (mNoneType_Row : PySem.W.mroIn K A_Row (.type "NoneType") = some false)
    (mbool_Row : PySem.W.mroIn K A_Row (.type "bool") = some false)
    (mint_Row : PySem.W.mroIn K A_Row (.type "int") = some false)
    (mstr_Row : PySem.W.mroIn K A_Row (.type "str") = some false)
    (mtuple_Row : PySem.W.mroIn K A_Row (.type "tuple") = some false)
    (mlist_Row : PySem.W.mroIn K A_Row (.type "list") = some false)
    (m_Row_Table : PySem.W.mroIn K A_Row (.ref A_Table) = some false)
    (e_Row_Table : (Value.ref A_Row == Value.ref A_Table) = false)
    (nnumbers_Row : PySem.W.findIn K (.ref A_Row) "numbers" = some none)
    (ne_Row : PySem.W.findIn K (.ref A_Row) "__ne__" = some (some (.builtin "object.__ne__")))
    (mk_Row : PySem.W.makesIn K A_Row = true)
    (kc_Row : PySem.W.keepIn K (.ref A_Row) = true)
    (pg_Table : PySem.W.plainGet K A_Table Str.empty = true)
    (hd_Table : PySem.W.hasDictIn K A_Table = true)
    (po_Table : PySem.W.plainOver K A_Table = true)
    (sa_Table : PySem.W.findIn K (.ref A_Table) "__setattr__" = some (some (.builtin "object.__setattr__")))
    (ha_Table : PySem.W.findIn K (.ref A_Table) "__class__" = some (some (.builtin "object.__class__")))
    (ob_Table : PySem.W.mroIn K A_Table (.type "object") = some true)
    (ic_Table : PySem.W.isClsIn K A_Table = true)
    (it_Table : PySem.W.typeIn K (.ref A_Table) = some (.type "type"))
    (mNoneType_Table : PySem.W.mroIn K A_Table (.type "NoneType") = some false)
    (mbool_Table : PySem.W.mroIn K A_Table (.type "bool") = some false)
    (mint_Table : PySem.W.mroIn K A_Table (.type "int") = some false)
    (mstr_Table : PySem.W.mroIn K A_Table (.type "str") = some false)
    (mtuple_Table : PySem.W.mroIn K A_Table (.type "tuple") = some false)
    (mlist_Table : PySem.W.mroIn K A_Table (.type "list") = some false)
    (m_Table_Row : PySem.W.mroIn K A_Table (.ref A_Row) = some false)
    (e_Table_Row : (Value.ref A_Table == Value.ref A_Row) = false)
    (nfirst_Table : PySem.W.findIn K (.ref A_Table) "first" = some none)
    (nlean_Table : PySem.W.findIn K (.ref A_Table) "lean" = some none)
    (ne_Table : PySem.W.findIn K (.ref A_Table) "__ne__" = some (some (.builtin "object.__ne__")))
    (mk_Table : PySem.W.makesIn K A_Table = true)
    (kc_Table : PySem.W.keepIn K (.ref A_Table) = true)
    : ∃ (GE : GEnv) (fd : FuncData), (∀ (s : Shared) (v : Value), BindsTo s fd ⟨[v], []⟩ [("_law_script", v)]) ∧ ∀ base : Heap, K.In base → base.Ns mainGlobals mg → FnG l.prog w K mg base 11 fa fd ["_law_script"] (spF K GE F_law) := by
  have e := hfa.symm.trans (PySem.W.mg_of X G x27)
  cases e
  refine ⟨gOf [("Row", ⟨A_Row, ["numbers"], false⟩), ("Table", ⟨A_Table, ["first", "lean"], false⟩)], PySem.W.fnOf "law" "law" (defArgs s_law) (defBody s_law) (defScope s_law) .none kV27 dc27 pm27 an27 cd27 ct27, fun s v => .of_eq rfl, fun base _ _ => ?_⟩
  generalize hGE : gOf [("Row", ⟨A_Row, ["numbers"], false⟩), ("Table", ⟨A_Table, ["first", "lean"], false⟩)] = GE
  have G_Row : GE "Row" = some ⟨A_Row, ["numbers"], false⟩ := by rw [← hGE]; rfl
  have G_Table : GE "Table" = some ⟨A_Table, ["first", "lean"], false⟩ := by rw [← hGE]; rfl
  have cl_Row : Cls K A_Row := ⟨pg_Row, hd_Row, po_Row, sa_Row⟩
  have cl_Table : Cls K A_Table := ⟨pg_Table, hd_Table, po_Table, sa_Table⟩
  have HF : ∀ f, FldOk K GE f (fldO fldL f) := fldO_ok (.cons (.cons ⟨_, G_Row, rfl, cl_Row, nnumbers_Row, rfl, (by show 1 < 1000; decide)⟩ (.nil)) (.cons (.cons ⟨_, G_Table, rfl, cl_Table, nfirst_Table, rfl, (by show 2 < 1000; decide)⟩ (.nil)) (.cons (.cons ⟨_, G_Table, rfl, cl_Table, nlean_Table, rfl, (by show 2 < 1000; decide)⟩ (.nil)) (.nil))))
  have HI : IsiTab K GE (isiO ownL) := isiO_ok (.cons ⟨_, G_Row, rfl, ⟨cl_Row, ha_Row, oh, ot, ob_Row⟩, ic_Row, it_Row, ⟨mNoneType_Row, mbool_Row, mint_Row, mstr_Row, mtuple_Row, mlist_Row⟩, .cons ⟨_, G_Row, .inl rfl⟩ (.cons ⟨_, G_Table, .inr ⟨e_Row_Table, m_Row_Table, by decide⟩⟩ (.nil))⟩ (.cons ⟨_, G_Table, rfl, ⟨cl_Table, ha_Table, oh, ot, ob_Table⟩, ic_Table, it_Table, ⟨mNoneType_Table, mbool_Table, mint_Table, mstr_Table, mtuple_Table, mlist_Table⟩, .cons ⟨_, G_Row, .inr ⟨e_Table_Row, m_Table_Row, by decide⟩⟩ (.cons ⟨_, G_Table, .inl rfl⟩ (.nil))⟩ (.nil)))
  have m_MOST_DEEP : ∃ u, mg "MOST_DEEP" = some u ∧ RelV (S0.toV (.int 12)) u := ⟨_, PySem.W.mg_of X G g_MOST_DEEP, ⟨_, rfl⟩⟩
  have w_len : mg "len" = none := PySem.W.mg_none_of X G z_len
  have w_range : mg "range" = none := PySem.W.mg_none_of X G z_range
  have w_isinstance : mg "isinstance" = none := PySem.W.mg_none_of X G z_isinstance
  have w_int : mg "int" = none := PySem.W.mg_none_of X G z_int
  have w_bool : mg "bool" = none := PySem.W.mg_none_of X G z_bool
  have w_list : mg "list" = none := PySem.W.mg_none_of X G z_list
  have w_tuple : mg "tuple" = none := PySem.W.mg_none_of X G z_tuple
  have w_enumerate : mg "enumerate" = none := PySem.W.mg_none_of X G z_enumerate
  have w_sum : mg "sum" = none := PySem.W.mg_none_of X G z_sum
  have o0 : FnG l.prog w K mg base 1 _ _ ["_law_cell_here", "_law_k"] (spF K GE F_law_mixed) := ok_law_mixed HF HI (funA_mk l0 c0)
  have o1 : FnG l.prog w K mg base 1 _ _ ["self"] (spF K GE F_Row_len) := ok_Row_len HF HI (funA_mk l1 c1) w_len
  have o2 : FnG l.prog w K mg base 5 _ _ ["self"] (spF K GE F_Table_len) := ok_Table_len HF HI (funA_mk l2 c2) w_len ⟨_, _, _, _, _, G_Row, rfl, x1, i1, ob_Row, (fun z => absurd z (by decide)), o1, by decide, .all fun us hl => match us, hl with | [_], _ => rfl⟩
  have o3 : FnG l.prog w K mg base 9 _ _ ["_law_script", "_law_k"] (spF K GE F_law_cell) := ok_law_cell HF HI (funA_mk l3 c3) w_len w_range (.fn o0 (by decide) (PySem.W.mg_of X G x0) k0 (kb_of fun s us ws e1 e2 => match us, ws, e1, e2 with | [_, _], [], _, _ => .of_eq rfl)) ⟨_, _, _, _, _, G_Row, rfl, x1, i1, ob_Row, (fun z => absurd z (by decide)), o1, by decide, .all fun us hl => match us, hl with | [_], _ => rfl⟩ ⟨_, _, _, _, _, G_Table, rfl, x2, i2, ob_Table, (fun z => absurd z (by decide)), o2, by decide, .all fun us hl => match us, hl with | [_], _ => rfl⟩
  have o4 : FnG l.prog w K mg base 1 _ _ ["_law_pile", "_law_size"] (spF K GE F_law_take) := ok_law_take HF HI (funA_mk l4 c4)
  have o5 : FnG l.prog w K mg base 1 _ _ ["self", "other"] (spF K GE F_Row_eq) := ok_Row_eq HF HI (funA_mk l5 c5) w_isinstance ⟨_, G_Row, PySem.W.mg_of X G C_Row⟩
  have o6 : FnG l.prog w K mg base 5 _ _ ["self", "other"] (spF K GE F_Table_eq) := ok_Table_eq HF HI (funA_mk l6 c6) w_isinstance ⟨_, G_Table, PySem.W.mg_of X G C_Table⟩ ⟨_, _, _, _, _, G_Row, rfl, x5, i5, ob_Row, (fun _ => ne_Row), o5, by decide, .all fun us hl => match us, hl with | [_, _], _ => rfl⟩
  have o7 : FnG l.prog w K mg base 9 _ _ ["_law_pile"] (spF K GE F_law_number) := ok_law_number HF HI (funA_mk l7 c7) (.fn o4 (by decide) (PySem.W.mg_of X G x4) k4 (kb_of fun s us ws e1 e2 => match us, ws, e1, e2 with | [_, _], [], _, _ => .of_eq rfl)) ⟨_, _, _, _, _, G_Row, rfl, x5, i5, ob_Row, (fun _ => ne_Row), o5, by decide, .all fun us hl => match us, hl with | [_, _], _ => rfl⟩ ⟨_, _, _, _, _, G_Table, rfl, x6, i6, ob_Table, (fun _ => ne_Table), o6, by decide, .all fun us hl => match us, hl with | [_, _], _ => rfl⟩
  have o8 : FnG l.prog w K mg base 10 _ _ ["_law_pile", "_law_deep"] (spF K GE F_law_some) := ok_law_some HF HI (funA_mk l8 c8) w_range (.fn o7 (by decide) (PySem.W.mg_of X G x7) k7 (kb_of fun s us ws e1 e2 => match us, ws, e1, e2 with | [_], [], _, _ => .of_eq rfl))
  have o9 : FnG l.prog w K mg base 1 _ _ ["thing"] (spF K GE F_is_number) := ok_is_number HF HI (funA_mk l9 c9) w_isinstance w_int w_bool
  have o10 : FnG l.prog w K mg base 2 _ _ ["thing"] (spF K GE F_look_at_numbers) := ok_look_at_numbers HF HI (funA_mk l10 c10) m_MOST_DEEP w_isinstance w_list w_tuple w_len w_enumerate (.fn o9 (by decide) (PySem.W.mg_of X G x9) k9 (kb_of fun s us ws e1 e2 => match us, ws, e1, e2 with | [_], [], _, _ => .of_eq rfl))
  have o11 : FnG l.prog w K mg base 3 _ _ ["self", "numbers"] (spF K GE F_Row_init) := ok_Row_init HF HI (funA_mk l11 c11) w_tuple (.fn o10 (by decide) (PySem.W.mg_of X G x10) k10 (kb_of fun s us ws e1 e2 => match us, ws, e1, e2 with | [_], [], _, _ => .of_eq rfl))
  have o12 : FnG l.prog w K mg base 1 _ _ ["thing"] (spF K GE F_is_row) := ok_is_row HF HI (funA_mk l12 c12) w_isinstance ⟨_, G_Row, PySem.W.mg_of X G C_Row⟩
  have o13 : FnG l.prog w K mg base 2 _ _ ["thing"] (spF K GE F_look_at_row) := ok_look_at_row HF HI (funA_mk l13 c13) (.fn o12 (by decide) (PySem.W.mg_of X G x12) k12 (kb_of fun s us ws e1 e2 => match us, ws, e1, e2 with | [_], [], _, _ => .of_eq rfl))
  have o14 : FnG l.prog w K mg base 5 _ _ ["one", "other"] (spF K GE F_look_at_depths) := ok_look_at_depths HF HI (funA_mk l14 c14) ⟨_, _, _, _, _, G_Row, rfl, x5, i5, ob_Row, (fun _ => ne_Row), o5, by decide, .all fun us hl => match us, hl with | [_, _], _ => rfl⟩
  have o15 : FnG l.prog w K mg base 1 _ _ ["one", "other"] (spF K GE F_quotient) := ok_quotient HF HI (funA_mk l15 c15) w_enumerate w_sum w_range
  have o16 : FnG l.prog w K mg base 1 _ _ ["deep"] (spF K GE F_unit) := ok_unit HF HI (funA_mk l16 c16)
  have o17 : FnG l.prog w K mg base 5 _ _ ["one", "other"] (spF K GE F_product) := ok_product HF HI (funA_mk l17 c17) w_range w_len w_sum ⟨_, _, _, _, _, G_Row, rfl, x1, i1, ob_Row, (fun z => absurd z (by decide)), o1, by decide, .all fun us hl => match us, hl with | [_], _ => rfl⟩
  have o18 : FnG l.prog w K mg base 6 _ _ ["one", "other"] (spF K GE F_put_in) := ok_put_in HF HI (funA_mk l18 c18) w_len (.fn o17 (by decide) (PySem.W.mg_of X G x17) k17 (kb_of fun s us ws e1 e2 => match us, ws, e1, e2 with | [_, _], [], _, _ => .of_eq rfl)) ⟨_, _, _, _, _, G_Row, rfl, x1, i1, ob_Row, (fun z => absurd z (by decide)), o1, by decide, .all fun us hl => match us, hl with | [_], _ => rfl⟩
  have o19 : FnG l.prog w K mg base 7 _ _ ["numbers"] (spF K GE F_turned_back) := ok_turned_back HF HI (funA_mk l19 c19) w_range w_len (.fn o18 (by decide) (PySem.W.mg_of X G x18) k18 (kb_of fun s us ws e1 e2 => match us, ws, e1, e2 with | [_, _], [], _, _ => .of_eq rfl)) ⟨_, _, _, _, _, G_Row, rfl, x1, i1, ob_Row, (fun z => absurd z (by decide)), o1, by decide, .all fun us hl => match us, hl with | [_], _ => rfl⟩
  have o20 : FnG l.prog w K mg base 6 _ _ ["self", "first", "lean"] (spF K GE F_Table_init) := ok_Table_init HF HI (funA_mk l20 c20) w_len (.fn o13 (by decide) (PySem.W.mg_of X G x13) k13 (kb_of fun s us ws e1 e2 => match us, ws, e1, e2 with | [_], [], _, _ => .of_eq rfl)) (.fn o14 (by decide) (PySem.W.mg_of X G x14) k14 (kb_of fun s us ws e1 e2 => match us, ws, e1, e2 with | [_, _], [], _, _ => .of_eq rfl)) ⟨_, _, _, _, _, G_Row, rfl, x5, i5, ob_Row, (fun _ => ne_Row), o5, by decide, .all fun us hl => match us, hl with | [_, _], _ => rfl⟩ ⟨_, _, _, _, _, G_Row, rfl, x1, i1, ob_Row, (fun z => absurd z (by decide)), o1, by decide, .all fun us hl => match us, hl with | [_], _ => rfl⟩
  have o21 : FnG l.prog w K mg base 9 _ _ ["above", "edge"] (spF K GE F_by_rule) := ok_by_rule HF HI (funA_mk l21 c21) m_MOST_DEEP w_len (.fn o13 (by decide) (PySem.W.mg_of X G x13) k13 (kb_of fun s us ws e1 e2 => match us, ws, e1, e2 with | [_], [], _, _ => .of_eq rfl)) (.fn o14 (by decide) (PySem.W.mg_of X G x14) k14 (kb_of fun s us ws e1 e2 => match us, ws, e1, e2 with | [_, _], [], _, _ => .of_eq rfl)) (.fn o15 (by decide) (PySem.W.mg_of X G x15) k15 (kb_of fun s us ws e1 e2 => match us, ws, e1, e2 with | [_, _], [], _, _ => .of_eq rfl)) (.fn o16 (by decide) (PySem.W.mg_of X G x16) k16 (kb_of fun s us ws e1 e2 => match us, ws, e1, e2 with | [_], [], _, _ => .of_eq rfl)) (.fn o19 (by decide) (PySem.W.mg_of X G x19) k19 (kb_of fun s us ws e1 e2 => match us, ws, e1, e2 with | [_], [], _, _ => .of_eq rfl)) (.fn o18 (by decide) (PySem.W.mg_of X G x18) k18 (kb_of fun s us ws e1 e2 => match us, ws, e1, e2 with | [_, _], [], _, _ => .of_eq rfl)) (.mk (fr := true) G_Table rfl ⟨mk_Table, x20, i20, kc_Table⟩ o20 (by decide) (PySem.W.mg_of X G C_Table) (kb_of fun s us ws e1 e2 => match us, ws, e1, e2 with | [_, _, _], [], _, _ => .of_eq rfl) rfl) (.mk (fr := true) G_Row rfl ⟨mk_Row, x11, i11, kc_Row⟩ o11 (by decide) (PySem.W.mg_of X G C_Row) (kb_of fun s us ws e1 e2 => match us, ws, e1, e2 with | [_, _], [], _, _ => .of_eq rfl) rfl) ⟨_, _, _, _, _, G_Row, rfl, x5, i5, ob_Row, (fun _ => ne_Row), o5, by decide, .all fun us hl => match us, hl with | [_, _], _ => rfl⟩ ⟨_, _, _, _, _, G_Row, rfl, x1, i1, ob_Row, (fun z => absurd z (by decide)), o1, by decide, .all fun us hl => match us, hl with | [_], _ => rfl⟩ ⟨_, _, _, _, _, G_Table, rfl, x6, i6, ob_Table, (fun _ => ne_Table), o6, by decide, .all fun us hl => match us, hl with | [_, _], _ => rfl⟩ ⟨_, _, _, _, _, G_Table, rfl, x2, i2, ob_Table, (fun z => absurd z (by decide)), o2, by decide, .all fun us hl => match us, hl with | [_], _ => rfl⟩
  have o22 : FnG l.prog w K mg base 9 _ _ ["_law_left", "_law_right"] (spF K GE F_law_rows) := ok_law_rows HF HI (funA_mk l22 c22) w_len w_sum w_range ⟨_, _, _, _, _, G_Row, rfl, x1, i1, ob_Row, (fun z => absurd z (by decide)), o1, by decide, .all fun us hl => match us, hl with | [_], _ => rfl⟩ ⟨_, _, _, _, _, G_Table, rfl, x2, i2, ob_Table, (fun z => absurd z (by decide)), o2, by decide, .all fun us hl => match us, hl with | [_], _ => rfl⟩
  have o23 : FnG l.prog w K mg base 5 _ _ ["self"] (spF K GE F_Table_deep) := ok_Table_deep HF HI (funA_mk l23 c23) w_len ⟨_, _, _, _, _, G_Row, rfl, x1, i1, ob_Row, (fun z => absurd z (by decide)), o1, by decide, .all fun us hl => match us, hl with | [_], _ => rfl⟩
  have o24 : FnG l.prog w K mg base 6 _ _ ["self"] (spF K GE F_Table_columns) := ok_Table_columns HF HI (funA_mk l24 c24) w_list w_len (.fn o17 (by decide) (PySem.W.mg_of X G x17) k17 (kb_of fun s us ws e1 e2 => match us, ws, e1, e2 with | [_, _], [], _, _ => .of_eq rfl)) (meth_ok (.cons ⟨_, _, _, _, _, G_Table, rfl, cl_Table, ⟨x23, i23, k23⟩, (by show ¬ (("deep" : Str) ∈ (["first", "lean"] : List Str)); decide), o23, by decide, (kb_of fun s us ws e1 e2 => match us, ws, e1, e2 with | [_], [], _, _ => .of_eq rfl)⟩ (.nil))) ⟨_, _, _, _, _, G_Row, rfl, x1, i1, ob_Row, (fun z => absurd z (by decide)), o1, by decide, .all fun us hl => match us, hl with | [_], _ => rfl⟩
  have o25 : FnG l.prog w K mg base 7 _ _ ["self"] (spF K GE F_Table_rows) := ok_Table_rows HF HI (funA_mk l25 c25) w_range (meth_ok (.cons ⟨_, _, _, _, _, G_Table, rfl, cl_Table, ⟨x24, i24, k24⟩, (by show ¬ (("columns" : Str) ∈ (["first", "lean"] : List Str)); decide), o24, by decide, (kb_of fun s us ws e1 e2 => match us, ws, e1, e2 with | [_], [], _, _ => .of_eq rfl)⟩ (.nil))) (meth_ok (.cons ⟨_, _, _, _, _, G_Table, rfl, cl_Table, ⟨x23, i23, k23⟩, (by show ¬ (("deep" : Str) ∈ (["first", "lean"] : List Str)); decide), o23, by decide, (kb_of fun s us ws e1 e2 => match us, ws, e1, e2 with | [_], [], _, _ => .of_eq rfl)⟩ (.nil)))
  have o26 : FnG l.prog w K mg base 8 _ _ ["self"] (spF K GE F_Table_rule) := ok_Table_rule HF HI (funA_mk l26 c26) (.fn o19 (by decide) (PySem.W.mg_of X G x19) k19 (kb_of fun s us ws e1 e2 => match us, ws, e1, e2 with | [_], [], _, _ => .of_eq rfl)) (.fn o15 (by decide) (PySem.W.mg_of X G x15) k15 (kb_of fun s us ws e1 e2 => match us, ws, e1, e2 with | [_, _], [], _, _ => .of_eq rfl)) (.fn o16 (by decide) (PySem.W.mg_of X G x16) k16 (kb_of fun s us ws e1 e2 => match us, ws, e1, e2 with | [_], [], _, _ => .of_eq rfl)) (.mk (fr := true) G_Row rfl ⟨mk_Row, x11, i11, kc_Row⟩ o11 (by decide) (PySem.W.mg_of X G C_Row) (kb_of fun s us ws e1 e2 => match us, ws, e1, e2 with | [_, _], [], _, _ => .of_eq rfl) rfl) (.fn o18 (by decide) (PySem.W.mg_of X G x18) k18 (kb_of fun s us ws e1 e2 => match us, ws, e1, e2 with | [_, _], [], _, _ => .of_eq rfl)) (meth_ok (.cons ⟨_, _, _, _, _, G_Table, rfl, cl_Table, ⟨x23, i23, k23⟩, (by show ¬ (("deep" : Str) ∈ (["first", "lean"] : List Str)); decide), o23, by decide, (kb_of fun s us ws e1 e2 => match us, ws, e1, e2 with | [_], [], _, _ => .of_eq rfl)⟩ (.nil)))
  have o27 : FnG l.prog w K mg base 11 _ _ ["_law_script"] (spF K GE F_law) := ok_law HF HI (funA_mk l27 c27) w_range w_isinstance w_len (.fn o3 (by decide) (PySem.W.mg_of X G x3) k3 (kb_of fun s us ws e1 e2 => match us, ws, e1, e2 with | [_, _], [], _, _ => .of_eq rfl)) (.fn o4 (by decide) (PySem.W.mg_of X G x4) k4 (kb_of fun s us ws e1 e2 => match us, ws, e1, e2 with | [_, _], [], _, _ => .of_eq rfl)) (.fn o8 (by decide) (PySem.W.mg_of X G x8) k8 (kb_of fun s us ws e1 e2 => match us, ws, e1, e2 with | [_, _], [], _, _ => .of_eq rfl)) (.mk (fr := true) G_Row rfl ⟨mk_Row, x11, i11, kc_Row⟩ o11 (by decide) (PySem.W.mg_of X G C_Row) (kb_of fun s us ws e1 e2 => match us, ws, e1, e2 with | [_, _], [], _, _ => .of_eq rfl) rfl) (.fn o21 (by decide) (PySem.W.mg_of X G x21) k21 (kb_of fun s us ws e1 e2 => match us, ws, e1, e2 with | [_, _], [], _, _ => .of_eq rfl)) (.fn o22 (by decide) (PySem.W.mg_of X G x22) k22 (kb_of fun s us ws e1 e2 => match us, ws, e1, e2 with | [_, _], [], _, _ => .of_eq rfl)) (.fn o21 (by decide) (PySem.W.mg_of X G x21) k21 (kb_of fun s us ws e1 e2 => match us, ws, e1, e2 with | [], [_, _], _, _ => .of_eq rfl)) (meth_ok (.cons ⟨_, _, _, _, _, G_Table, rfl, cl_Table, ⟨x25, i25, k25⟩, (by show ¬ (("rows" : Str) ∈ (["first", "lean"] : List Str)); decide), o25, by decide, (kb_of fun s us ws e1 e2 => match us, ws, e1, e2 with | [_], [], _, _ => .of_eq rfl)⟩ (.nil))) (meth_ok (.cons ⟨_, _, _, _, _, G_Table, rfl, cl_Table, ⟨x26, i26, k26⟩, (by show ¬ (("rule" : Str) ∈ (["first", "lean"] : List Str)); decide), o26, by decide, (kb_of fun s us ws e1 e2 => match us, ws, e1, e2 with | [_], [], _, _ => .of_eq rfl)⟩ (.nil))) ⟨_, G_Table, PySem.W.mg_of X G C_Table⟩ ⟨_, _, _, _, _, G_Row, rfl, x5, i5, ob_Row, (fun _ => ne_Row), o5, by decide, .all fun us hl => match us, hl with | [_, _], _ => rfl⟩ ⟨_, _, _, _, _, G_Row, rfl, x1, i1, ob_Row, (fun z => absurd z (by decide)), o1, by decide, .all fun us hl => match us, hl with | [_], _ => rfl⟩ ⟨_, _, _, _, _, G_Table, rfl, x6, i6, ob_Table, (fun _ => ne_Table), o6, by decide, .all fun us hl => match us, hl with | [_, _], _ => rfl⟩ ⟨_, _, _, _, _, G_Table, rfl, x2, i2, ob_Table, (fun z => absurd z (by decide)), o2, by decide, .all fun us hl => match us, hl with | [_], _ => rfl⟩
  exact o27
end Lk21
open PySem PySem.W PyProof.Rows
set_option maxHeartbeats 0 in
theorem PySem.Challenge.cw_rowabove_k21_tables_by_rules_holds : PySem.Challenge.rw_rowabove_k21_tables_by_rules.Holds := by
  w_on; o_law; k_head; (case hw => w_witness2)
  k_fill
  refine VS.walk_G (l := PySem.Challenge.rw_rowabove_k21_tables_by_rules) (n := 63) (k := 11) (x := "_law_script") (f := Lk21.F_law) rfl (by decide) rfl ⟨rfl, by decide, by decide⟩ (fun w h Y => PySem.W.kIn_of Y) ?F (fun ns h => Lk21.law_true ns h)
  case F =>
    intro w mg fa h KX G hmg
    refine' Lk21.all_mk KX G hmg ?C_Row ?C_Table ?x0 ?l0 ?c0 ?k0 ?x1 ?l1 ?c1 ?k1 ?i1 ?x2 ?l2 ?c2 ?k2 ?i2 ?x3 ?l3 ?c3 ?k3 ?x4 ?l4 ?c4 ?k4 ?x5 ?l5 ?c5 ?k5 ?i5 ?x6 ?l6 ?c6 ?k6 ?i6 ?x7 ?l7 ?c7 ?k7 ?x8 ?l8 ?c8 ?k8 ?x9 ?l9 ?c9 ?k9 ?x10 ?l10 ?c10 ?k10 ?x11 ?l11 ?c11 ?k11 ?i11 ?x12 ?l12 ?c12 ?k12 ?x13 ?l13 ?c13 ?k13 ?x14 ?l14 ?c14 ?k14 ?x15 ?l15 ?c15 ?k15 ?x16 ?l16 ?c16 ?k16 ?x17 ?l17 ?c17 ?k17 ?x18 ?l18 ?c18 ?k18 ?x19 ?l19 ?c19 ?k19 ?x20 ?l20 ?c20 ?k20 ?i20 ?x21 ?l21 ?c21 ?k21 ?x22 ?l22 ?c22 ?k22 ?x23 ?l23 ?c23 ?k23 ?i23 ?x24 ?l24 ?c24 ?k24 ?i24 ?x25 ?l25 ?c25 ?k25 ?i25 ?x26 ?l26 ?c26 ?k26 ?i26 ?x27 ?l27 ?c27 ?k27 ?g_MOST_DEEP ?z_len ?z_range ?z_isinstance ?z_int ?z_bool ?z_list ?z_tuple ?z_enumerate ?z_sum ?oh ?ot ?pg_Row ?hd_Row ?po_Row ?sa_Row ?ha_Row ?ob_Row ?ic_Row ?it_Row ?mNoneType_Row ?mbool_Row ?mint_Row ?mstr_Row ?mtuple_Row ?mlist_Row ?m_Row_Table ?e_Row_Table ?nnumbers_Row ?ne_Row ?mk_Row ?kc_Row ?pg_Table ?hd_Table ?po_Table ?sa_Table ?ha_Table ?ob_Table ?ic_Table ?it_Table ?mNoneType_Table ?mbool_Table ?mint_Table ?mstr_Table ?mtuple_Table ?mlist_Table ?m_Table_Row ?e_Table_Row ?nfirst_Table ?nlean_Table ?ne_Table ?mk_Table ?kc_Table
    (case C_Row => k_is); (case C_Table => k_is); (case x0 => k_is); (case l0 => k_is); (case c0 => k_is); (case k0 => k_is); (case x1 => k_is); (case l1 => k_is); (case c1 => k_is); (case k1 => k_is); (case i1 => k_is); (case x2 => k_is); (case l2 => k_is); (case c2 => k_is); (case k2 => k_is); (case i2 => k_is); (case x3 => k_is); (case l3 => k_is); (case c3 => k_is); (case k3 => k_is); (case x4 => k_is); (case l4 => k_is); (case c4 => k_is); (case k4 => k_is); (case x5 => k_is); (case l5 => k_is); (case c5 => k_is); (case k5 => k_is); (case i5 => k_is); (case x6 => k_is); (case l6 => k_is); (case c6 => k_is); (case k6 => k_is); (case i6 => k_is); (case x7 => k_is); (case l7 => k_is); (case c7 => k_is); (case k7 => k_is); (case x8 => k_is); (case l8 => k_is); (case c8 => k_is); (case k8 => k_is); (case x9 => k_is); (case l9 => k_is); (case c9 => k_is); (case k9 => k_is); (case x10 => k_is); (case l10 => k_is); (case c10 => k_is); (case k10 => k_is); (case x11 => k_is); (case l11 => k_is); (case c11 => k_is); (case k11 => k_is); (case i11 => k_is); (case x12 => k_is); (case l12 => k_is); (case c12 => k_is); (case k12 => k_is); (case x13 => k_is); (case l13 => k_is); (case c13 => k_is); (case k13 => k_is); (case x14 => k_is); (case l14 => k_is); (case c14 => k_is); (case k14 => k_is); (case x15 => k_is); (case l15 => k_is); (case c15 => k_is); (case k15 => k_is); (case x16 => k_is); (case l16 => k_is); (case c16 => k_is); (case k16 => k_is); (case x17 => k_is); (case l17 => k_is); (case c17 => k_is); (case k17 => k_is); (case x18 => k_is); (case l18 => k_is); (case c18 => k_is); (case k18 => k_is); (case x19 => k_is); (case l19 => k_is); (case c19 => k_is); (case k19 => k_is); (case x20 => k_is); (case l20 => k_is); (case c20 => k_is); (case k20 => k_is); (case i20 => k_is); (case x21 => k_is); (case l21 => k_is); (case c21 => k_is); (case k21 => k_is); (case x22 => k_is); (case l22 => k_is); (case c22 => k_is); (case k22 => k_is); (case x23 => k_is); (case l23 => k_is); (case c23 => k_is); (case k23 => k_is); (case i23 => k_is); (case x24 => k_is); (case l24 => k_is); (case c24 => k_is); (case k24 => k_is); (case i24 => k_is); (case x25 => k_is); (case l25 => k_is); (case c25 => k_is); (case k25 => k_is); (case i25 => k_is); (case x26 => k_is); (case l26 => k_is); (case c26 => k_is); (case k26 => k_is); (case i26 => k_is); (case x27 => k_is); (case l27 => k_is); (case c27 => k_is); (case k27 => k_is); (case g_MOST_DEEP => k_is); (case z_len => k_is); (case z_range => k_is); (case z_isinstance => k_is); (case z_int => k_is); (case z_bool => k_is); (case z_list => k_is); (case z_tuple => k_is); (case z_enumerate => k_is); (case z_sum => k_is); (case oh => k_is); (case ot => k_is); (case pg_Row => k_is); (case hd_Row => k_is); (case po_Row => k_is); (case sa_Row => k_is); (case ha_Row => k_is); (case ob_Row => k_is); (case ic_Row => k_is); (case it_Row => k_is); (case mNoneType_Row => k_is); (case mbool_Row => k_is); (case mint_Row => k_is); (case mstr_Row => k_is); (case mtuple_Row => k_is); (case mlist_Row => k_is); (case m_Row_Table => k_is); (case e_Row_Table => decide); (case nnumbers_Row => k_is); (case ne_Row => k_is); (case mk_Row => k_is); (case kc_Row => k_is); (case pg_Table => k_is); (case hd_Table => k_is); (case po_Table => k_is); (case sa_Table => k_is); (case ha_Table => k_is); (case ob_Table => k_is); (case ic_Table => k_is); (case it_Table => k_is); (case mNoneType_Table => k_is); (case mbool_Table => k_is); (case mint_Table => k_is); (case mstr_Table => k_is); (case mtuple_Table => k_is); (case mlist_Table => k_is); (case m_Table_Row => k_is); (case e_Table_Row => decide); (case nfirst_Table => k_is); (case nlean_Table => k_is); (case ne_Table => k_is); (case mk_Table => k_is); (case kc_Table => k_is)
