import PyProof.Rows.All
import Wide.All
import OpenK.AllK
import Wide.FinOn
import HandS.ForMost
import HandS.Exc
import HandS.IsInst
import HandS.Gcd
import HandS.Conv
import HandS.Zip
import HandS.Walk
import HandS.Wide
import HandS.Defaults
import KE.DataMinMax
import KE.GoesEnum
import HandS.NoneIn
import HandS.Head0
import HandS.Head1
import HandS.Head2
import HandS.HeadEnd
import HandS.HeadHook1
import HandS.HeadHook2
import HandS.Head3
import PySem.Challenge.RW_somanyties_k36_whole_rows_settled
set_option Elab.async false
set_option linter.all false
set_option maxRecDepth 100000
set_option maxHeartbeats 4000000
set_option autoImplicit false
/-! Pv, part A: abstract slots, how they lie over the hand layer's heap, steps, lifted readings. -/
namespace Pv
open PySem PySem.Spec PyProof.Rows L2

abbrev D := PyData
/-- a slot: a datum that is never changed any more; a list that this slot alone holds; a list that is only read (the script) -/
inductive Sl where
  | va (d : D) | ow (xs : List D) | sc (xs : List D)
abbrev Sr := List (Option Sl)
/-- a result: a datum, or a list just made that nobody else holds -/
inductive Rs where
  | va (d : D) | nw (xs : List D)
@[simp] def Rs.d : Rs → D
  | .va d => d
  | .nw xs => .list xs

/-! ### data, its lists tracked -/
mutual
inductive Dq (K : PySem.W.Frag) (H : Hp) : V → PyData → Prop
  | non : Dq K H .non .none
  | bl (b : Bool) : Dq K H (.bl b) (.bool b)
  | int (i : Int) : Dq K H (.int i) (.int i)
  | str (x : Str) : Dq K H (.str x) (.str x)
  | lst {a : Addr} {xs : List V} {ds : List PyData} : H a = some (.lst xs) → DqAll K H xs ds → Dq K H (.ref a) (.list ds)
  | tup {a : Addr} {xs : List V} {ds : List PyData} : SqT K H a xs → DqAll K H xs ds → Dq K H (.ref a) (.tuple ds)
inductive DqAll (K : PySem.W.Frag) (H : Hp) : List V → List PyData → Prop
  | nil : DqAll K H [] []
  | cons {v : V} {vs : List V} {d : PyData} {ds : List PyData} : Dq K H v d → DqAll K H vs ds → DqAll K H (v :: vs) (d :: ds)
end
section
variable {K : PySem.W.Frag} {H : Hp}
mutual
theorem dq_dp : ∀ (d : PyData) (v : V), Dq K H v d → Dp K H v d
  | .none, _, q => by cases q; exact .non
  | .bool b, _, q => by cases q; exact .bl b
  | .int i, _, q => by cases q; exact .int i
  | .str x, _, q => by cases q; exact .str x
  | .list ds, _, q => by
    cases q with
    | lst a b => exact .lst (.inl (.inl a)) (dqAll_dp ds _ b)
  | .tuple ds, _, q => by
    cases q with
    | tup a b => exact .tup a (dqAll_dp ds _ b)
  | .dict _, _, q => by cases q
theorem dqAll_dp : ∀ (ds : List PyData) (vs : List V), DqAll K H vs ds → DpAll K H vs ds
  | [], _, q => by cases q; exact .nil
  | d :: ds, _, q => by
    cases q with
    | cons a b => exact .cons (dq_dp d _ a) (dqAll_dp ds _ b)
end
theorem Dq.dp {v : V} {d : D} (q : Dq K H v d) : Dp K H v d := dq_dp d v q
theorem DqAll.dp {vs : List V} {ds : List D} (q : DqAll K H vs ds) : DpAll K H vs ds := dqAll_dp ds vs q
end

/-! ### data in a part of the heap -/
section
variable {K : PySem.W.Frag} {F F' H H' : Hp}
def Sub (F H : Hp) : Prop := ∀ a o, F a = some o → H a = some o
theorem Sub.refl (F : Hp) : Sub F F := fun _ _ h => h
theorem Sub.trans {F G H : Hp} (h : Sub F G) (k : Sub G H) : Sub F H := fun a o e => k a o (h a o e)
theorem Sub.nn {a : Addr} (h : Sub F H) (e : H a = none) : F a = none := by
  cases q : F a with
  | none => rfl
  | some o => rw [h a o q] at e; cases e
theorem Sub.rd {a : Addr} {u : HO} (h : Sub F H) (r : Rd F a u) : Rd H a u := by
  rcases r with r | ⟨o, r⟩
  · exact .inl (h _ _ r)
  · exact .inr ⟨o, h _ _ r⟩
theorem Sub.l {a : Addr} {xs : List V} (h : Sub F H) (r : SqL K F a xs) : SqL K H a xs := by
  rcases r with r | r
  · exact .inl (h.rd r)
  · exact .inr r
theorem Sub.t {a : Addr} {xs : List V} (h : Sub F H) (r : SqT K F a xs) : SqT K H a xs := by
  rcases r with r | r
  · exact .inl (h.rd r)
  · exact .inr r
mutual
theorem dp_sub (h : Sub F H) : ∀ (d : PyData) (v : V), Dq K F v d → Dq K H v d
  | .none, _, q => by cases q; exact .non
  | .bool b, _, q => by cases q; exact .bl b
  | .int i, _, q => by cases q; exact .int i
  | .str x, _, q => by cases q; exact .str x
  | .list ds, _, q => by
    cases q with
    | lst a b => exact .lst (h _ _ a) (dpAll_sub h ds _ b)
  | .tuple ds, _, q => by
    cases q with
    | tup a b => exact .tup (h.t a) (dpAll_sub h ds _ b)
  | .dict _, _, q => by cases q
theorem dpAll_sub (h : Sub F H) : ∀ (ds : List PyData) (vs : List V), DqAll K F vs ds → DqAll K H vs ds
  | [], _, q => by cases q; exact .nil
  | d :: ds, _, q => by
    cases q with
    | cons a b => exact .cons (dp_sub h d _ a) (dpAll_sub h ds _ b)
end
theorem Sub.dp {v : V} {d : D} (h : Sub F H) (q : Dq K F v d) : Dq K H v d := dp_sub h d v q
theorem Sub.dps {vs : List V} {ds : List D} (h : Sub F H) (q : DqAll K F vs ds) : DqAll K H vs ds := dpAll_sub h ds vs q
end
section
variable {K : PySem.W.Frag} {F : Hp}
theorem DqAll.len : ∀ {vs : List V} {ds : List D}, DqAll K F vs ds → vs.length = ds.length
  | _, _, .nil => rfl
  | _, _, .cons _ t => congrArg Nat.succ (DqAll.len t)
theorem DqAll.get : ∀ {vs : List V} {ds : List D} {i : Nat} {d : D}, DqAll K F vs ds → ds[i]? = some d → ∃ v, vs[i]? = some v ∧ Dq K F v d
  | _, _, _, _, .nil, e => by simp at e
  | _, _, 0, _, .cons r _, e => by simp at e; subst e; exact ⟨_, rfl, r⟩
  | _, _, i + 1, d, .cons _ t, e => by
    obtain ⟨v, h1, h2⟩ := DqAll.get (i := i) (d := d) t (by simpa using e)
    exact ⟨v, by simpa using h1, h2⟩
theorem DqAll.get' : ∀ {vs : List V} {ds : List D} {i : Nat} {v : V}, DqAll K F vs ds → vs[i]? = some v → ∃ d, ds[i]? = some d ∧ Dq K F v d
  | _, _, _, _, .nil, e => by simp at e
  | _, _, 0, _, .cons r _, e => by simp at e; subst e; exact ⟨_, rfl, r⟩
  | _, _, i + 1, d, .cons _ t, e => by
    obtain ⟨v, h1, h2⟩ := DqAll.get' (i := i) (v := d) t (by simpa using e)
    exact ⟨v, by simpa using h1, h2⟩
theorem DqAll.append : ∀ {vs ws : List V} {ds es : List D}, DqAll K F vs ds → DqAll K F ws es → DqAll K F (vs ++ ws) (ds ++ es)
  | _, _, _, _, .nil, s => s
  | _, _, _, _, .cons r t, s => .cons r (DqAll.append t s)
theorem DqAll.take : ∀ {vs : List V} {ds : List D} (n : Nat), DqAll K F vs ds → DqAll K F (vs.take n) (ds.take n)
  | _, _, 0, _ => .nil
  | _, _, _ + 1, .nil => .nil
  | _, _, n + 1, .cons r t => .cons r (DqAll.take n t)
theorem DqAll.drop : ∀ {vs : List V} {ds : List D} (n : Nat), DqAll K F vs ds → DqAll K F (vs.drop n) (ds.drop n)
  | _, _, 0, r => r
  | _, _, _ + 1, .nil => .nil
  | _, _, n + 1, .cons _ t => DqAll.drop n t
theorem DqAll.set {v : V} {d : D} (r : Dq K F v d) : ∀ {vs : List V} {ds : List D} (i : Nat), DqAll K F vs ds → DqAll K F (vs.set i v) (ds.set i d)
  | _, _, _, .nil => .nil
  | _, _, 0, .cons _ t => .cons r t
  | _, _, i + 1, .cons q t => .cons q (DqAll.set r i t)
theorem DqAll.dropLast {vs : List V} {ds : List D} (h : DqAll K F vs ds) : DqAll K F vs.dropLast ds.dropLast := by
  rw [List.dropLast_eq_take, List.dropLast_eq_take, h.len]
  exact h.take _
theorem DqAll.rep {vs : List V} {ds : List D} (h : DqAll K F vs ds) : ∀ k : Nat, DqAll K F (List.replicate k vs).flatten (List.replicate k ds).flatten
  | 0 => .nil
  | k + 1 => by
    rw [List.replicate_succ, List.replicate_succ, List.flatten_cons, List.flatten_cons]
    exact h.append (DqAll.rep h k)
theorem DqAll.one {v : V} {d : D} (r : Dq K F v d) : DqAll K F [v] [d] := .cons r .nil
theorem DqAll.ints : ∀ {vs : List V} {ns : List Int}, DqAll K F vs (ns.map PyData.int) → vs = ns.map V.int
  | _, [], h => by cases h; rfl
  | _, n :: ns, h => by
    cases h with
    | cons a b => cases a; rw [DqAll.ints b]; rfl
theorem DqAll.of_ints : ∀ ns : List Int, DqAll K F (ns.map V.int) (ns.map PyData.int)
  | [] => .nil
  | n :: ns => .cons (.int n) (DqAll.of_ints ns)
theorem DqAll.bools : ∀ {vs : List V} {ns : List Bool}, DqAll K F vs (ns.map PyData.bool) → vs = ns.map V.bl
  | _, [], h => by cases h; rfl
  | _, n :: ns, h => by
    cases h with
    | cons a b => cases a; rw [DqAll.bools b]; rfl
end

/-! ### slots over the heap -/
def Own (ρ : Sr) (σ : L2.St) (a : Addr) : Prop := ∃ (i : Nat) (xs : List D), ρ[i]? = some (some (.ow xs)) ∧ σ[i]? = some (some (.ref a))
structure Rel (K : PySem.W.Frag) (F : Hp) (ρ : Sr) (σ : L2.St) (H : Hp) : Prop where
  sub : Sub F H
  va : ∀ (i : Nat) (d : D), ρ[i]? = some (some (.va d)) → ∃ v, σ[i]? = some (some v) ∧ Dq K F v d
  ow : ∀ (i : Nat) (xs : List D), ρ[i]? = some (some (.ow xs)) → ∃ a vs, σ[i]? = some (some (.ref a)) ∧ H a = some (.lst vs) ∧ F a = none ∧ DqAll K F vs xs
  sc : ∀ (i : Nat) (xs : List D), ρ[i]? = some (some (.sc xs)) → ∃ a vs, σ[i]? = some (some (.ref a)) ∧ SqL K F a vs ∧ DqAll K F vs xs
  ne : ∀ (i j : Nat) (xs ys : List D) (a : Addr), ρ[i]? = some (some (.ow xs)) → ρ[j]? = some (some (.ow ys)) → σ[i]? = some (some (.ref a)) → σ[j]? = some (some (.ref a)) → i = j
  ln : ρ.length = σ.length
structure Stp (K : PySem.W.Frag) (F : Hp) (ρ : Sr) (σ : L2.St) (H : Hp) (F' : Hp) (ρ' : Sr) (σ' : L2.St) (H' : Hp) : Prop where
  rel : Rel K F' ρ' σ' H'
  ext : Sub F F'
  new : ∀ a, F' a ≠ none → F a ≠ none ∨ H a = none ∨ Own ρ σ a
  keep : ∀ a o, H a = some o → ¬ Own ρ σ a → H' a = some o
  owns : ∀ a, Own ρ' σ' a → Own ρ σ a ∨ H a = none
  dom : ∀ a, H a ≠ none → H' a ≠ none
/-- a step that concerns no slot -/
structure Ext (F H F' H' : Hp) : Prop where
  sub : Sub F' H'
  ext : Sub F F'
  new : ∀ a, F' a ≠ none → F a ≠ none ∨ H a = none
  keep : Sub H H'
def RsE (K : PySem.W.Frag) (F H0 H : Hp) : Rs → V → Prop
  | .va d, v => Dq K F v d
  | .nw xs, v => ∃ a vs, v = .ref a ∧ H a = some (.lst vs) ∧ F a = none ∧ H0 a = none ∧ DqAll K F vs xs
def RsR (K : PySem.W.Frag) (F : Hp) (ρ : Sr) (σ : L2.St) (H0 H : Hp) : Rs → V → Prop
  | .va d, v => Dq K F v d
  | .nw xs, v => ∃ a vs, v = .ref a ∧ H a = some (.lst vs) ∧ F a = none ∧ H0 a = none ∧ ¬ Own ρ σ a ∧ DqAll K F vs xs

section
variable {K : PySem.W.Frag} {F F1 F2 F' H H1 H2 H' : Hp} {ρ ρ1 ρ2 ρ' : Sr} {σ σ1 σ2 σ' : L2.St}
theorem Rel.own (R : Rel K F ρ σ H) {a : Addr} (o : Own ρ σ a) : F a = none ∧ ∃ vs, H a = some (.lst vs) := by
  obtain ⟨i, xs, h1, h2⟩ := o
  obtain ⟨a', vs, e1, e2, e3, _⟩ := R.ow i xs h1
  rw [h2] at e1
  cases e1
  exact ⟨e3, vs, e2⟩
theorem Rel.own_ne (R : Rel K F ρ σ H) {a : Addr} (e : H a = none) : ¬ Own ρ σ a := fun o => by
  obtain ⟨_, vs, h⟩ := R.own o
  rw [e] at h; cases h
theorem Rel.own_nf (R : Rel K F ρ σ H) {a : Addr} (e : F a ≠ none) : ¬ Own ρ σ a := fun o => e (R.own o).1
theorem Stp.refl (R : Rel K F ρ σ H) : Stp K F ρ σ H F ρ σ H := ⟨R, Sub.refl F, fun _ h => .inl h, fun _ _ h _ => h, fun _ h => .inl h, fun _ h => h⟩
theorem Stp.back (s : Stp K F ρ σ H F1 ρ1 σ1 H1) {a : Addr} (e : H1 a = none) : H a = none := by
  cases q : H a with
  | none => rfl
  | some o => exact absurd e (s.dom a (by rw [q]; simp))
theorem Stp.trans (a : Stp K F ρ σ H F1 ρ1 σ1 H1) (b : Stp K F1 ρ1 σ1 H1 F2 ρ2 σ2 H2) : Stp K F ρ σ H F2 ρ2 σ2 H2 where
  rel := b.rel
  ext := a.ext.trans b.ext
  new := fun x h => by
    rcases b.new x h with h | h | h
    · exact a.new x h
    · exact .inr (.inl (a.back h))
    · rcases a.owns x h with h | h
      · exact .inr (.inr h)
      · exact .inr (.inl h)
  keep := fun x o h no => b.keep x o (a.keep x o h no) fun o1 => by
    rcases a.owns x o1 with q | q
    · exact no q
    · rw [q] at h; cases h
  owns := fun x h => by
    rcases b.owns x h with h | h
    · exact a.owns x h
    · exact .inr (a.back h)
  dom := fun x h => b.dom x (a.dom x h)
theorem Ext.refl (h : Sub F H) : Ext F H F H := ⟨h, Sub.refl F, fun _ h => .inl h, Sub.refl H⟩
theorem Ext.trans (a : Ext F H F1 H1) (b : Ext F1 H1 F2 H2) : Ext F H F2 H2 :=
  ⟨b.sub, a.ext.trans b.ext, fun x h => (b.new x h).elim (a.new x) fun q => .inr (a.keep.nn q), a.keep.trans b.keep⟩
theorem Sub.put {p : Addr} {o : HO} (h : H p = none) : Sub H (upd H p o) := fun a u e => by
  rw [upd_ne (ne_of_none e h)]; exact e
theorem Sub.put2 {p : Addr} {o : HO} (s : Sub F H) : Sub (L2.upd F p o) (L2.upd H p o) := fun a u e => by
  by_cases q : a = p
  · subst q; rw [upd_same] at e ⊢; exact e
  · rw [upd_ne q] at e ⊢; exact s _ _ e
theorem Ext.lst {p : Addr} {o : HO} (s : Sub F H) (h : H p = none) : Ext F H F (upd H p o) := ⟨s.trans (Sub.put h), Sub.refl F, fun _ h => .inl h, Sub.put h⟩
theorem Ext.tup {p : Addr} {o : HO} (s : Sub F H) (h : H p = none) : Ext F H (upd F p o) (upd H p o) :=
  ⟨s.put2, Sub.put (s.nn h), fun a q => by
    by_cases e : a = p
    · subst e; exact .inr h
    · rw [upd_ne e] at q; exact .inl q, Sub.put h⟩
/-- a step, then one that concerns no slot -/
theorem Rel.ext (R : Rel K F ρ σ H) (e : Ext F H F' H') : Rel K F' ρ σ H' where
  sub := e.sub
  va := fun i d h => by
    obtain ⟨v, h1, h2⟩ := R.va i d h
    exact ⟨v, h1, e.ext.dp h2⟩
  ow := fun i xs h => by
    obtain ⟨a, vs, h1, h2, h3, h4⟩ := R.ow i xs h
    refine ⟨a, vs, h1, e.keep _ _ h2, ?_, e.ext.dps h4⟩
    cases q : F' a with
    | none => rfl
    | some o =>
      rcases e.new a (by rw [q]; simp) with z | z
      · exact absurd h3 z
      · rw [z] at h2; cases h2
  sc := fun i xs h => by
    obtain ⟨a, vs, h1, h2, h3⟩ := R.sc i xs h
    exact ⟨a, vs, h1, e.ext.l h2, e.ext.dps h3⟩
  ne := R.ne
  ln := R.ln
theorem Stp.ext' (s : Stp K F ρ σ H F1 ρ1 σ1 H1) (e : Ext F1 H1 F' H') : Stp K F ρ σ H F' ρ1 σ1 H' :=
  s.trans ⟨s.rel.ext e, e.ext, fun a h => (e.new a h).elim .inl fun q => .inr (.inl q), fun a o h _ => e.keep a o h, fun a h => .inl h, fun a h => by
    cases q : H1 a with
    | none => exact absurd q h
    | some o => rw [e.keep a o q]; simp⟩
theorem Stp.res (s : Stp K F ρ σ H F1 ρ1 σ1 H1) (e : Ext F1 H1 F' H') {r : Rs} {v : V} (h : RsE K F' H1 H' r v) : RsR K F' ρ1 σ1 H H' r v := by
  cases r with
  | va d => exact h
  | nw xs =>
    obtain ⟨a, vs, rfl, h1, h2, h3, h4⟩ := h
    exact ⟨a, vs, rfl, h1, h2, s.back h3, s.rel.own_ne h3, h4⟩
/-- a result held over a later step -/
theorem RsR.hold (s1 : Stp K F ρ σ H F1 ρ1 σ H1) {r : Rs} {v : V} (h : RsR K F1 ρ1 σ H H1 r v) (s2 : Stp K F1 ρ1 σ H1 F2 ρ2 σ H2) : RsR K F2 ρ2 σ H H2 r v := by
  cases r with
  | va d => exact s2.ext.dp h
  | nw xs =>
    obtain ⟨a, vs, rfl, h1, h2, h3, h4, h5⟩ := h
    refine ⟨a, vs, rfl, s2.keep _ _ h1 h4, ?_, h3, fun o => ?_, s2.ext.dps h5⟩
    · cases q : F2 a with
      | none => rfl
      | some o =>
        rcases s2.new a (by rw [q]; simp) with z | z | z
        · exact absurd h2 z
        · rw [z] at h1; cases h1
        · exact absurd z h4
    · rcases s2.owns a o with z | z
      · exact h4 z
      · rw [z] at h1; cases h1
/-- a list just made becomes a datum -/
theorem RsR.data (s : Stp K F ρ σ H F1 ρ1 σ1 H1) {r : Rs} {v : V} (h : RsR K F1 ρ1 σ1 H H1 r v) : ∃ F2, Stp K F ρ σ H F2 ρ1 σ1 H1 ∧ Dq K F2 v r.d := by
  cases r with
  | va d => exact ⟨F1, s, h⟩
  | nw xs =>
    obtain ⟨a, vs, rfl, h1, h2, h3, h4, h5⟩ := h
    refine ⟨upd F1 a (.lst vs), ⟨⟨fun b o e => ?_, fun i d e => ?_, fun i ys e => ?_, fun i ys e => ?_, s.rel.ne, s.rel.ln⟩, s.ext.trans (Sub.put h2), fun b e => ?_, s.keep, s.owns, s.dom⟩, .lst upd_same ((Sub.put h2).dps h5)⟩
    · by_cases q : b = a
      · subst q; rw [upd_same] at e; cases e; exact h1
      · rw [upd_ne q] at e; exact s.rel.sub _ _ e
    · obtain ⟨v, e1, e2⟩ := s.rel.va i d e
      exact ⟨v, e1, (Sub.put h2).dp e2⟩
    · obtain ⟨b, ws, e1, e2, e3, e4⟩ := s.rel.ow i ys e
      have ne : b ≠ a := fun q => h4 ⟨i, ys, e, by rw [← q]; exact e1⟩
      exact ⟨b, ws, e1, e2, by rw [upd_ne ne]; exact e3, (Sub.put h2).dps e4⟩
    · obtain ⟨b, ws, e1, e2, e3⟩ := s.rel.sc i ys e
      exact ⟨b, ws, e1, (Sub.put h2).l e2, (Sub.put h2).dps e3⟩
    · by_cases q : b = a
      · subst q; exact .inr (.inl h3)
      · rw [upd_ne q] at e; exact s.new b e
/-- an owned slot's list becomes a datum -/
theorem Rel.freeze (R : Rel K F ρ σ H) {i : Nat} {xs : List D} (e : ρ[i]? = some (some (.ow xs))) : ∃ F2 v, σ[i]? = some (some v) ∧ Stp K F ρ σ H F2 (ρ.set i (some (.va (.list xs)))) σ H ∧ Dq K F2 v (.list xs) := by
  obtain ⟨a, vs, h1, h2, h3, h4⟩ := R.ow i xs e
  have dx : Dq K (upd F a (.lst vs)) (.ref a) (.list xs) := .lst upd_same ((Sub.put h3).dps h4)
  have hi : i < ρ.length := (List.getElem?_eq_some_iff.mp e).1
  have ne_set : ∀ {j : Nat} {ys : List D}, (ρ.set i (some (.va (.list xs))))[j]? = some (some (.ow ys)) → j ≠ i ∧ ρ[j]? = some (some (.ow ys)) := fun {j ys} q => by
    by_cases z : j = i
    · subst z
      rw [List.getElem?_set_self hi] at q
      cases q
    · rw [List.getElem?_set_ne (Ne.symm z)] at q
      exact ⟨z, q⟩
  refine ⟨upd F a (.lst vs), .ref a, h1, ⟨⟨fun b o q => ?_, fun j d q => ?_, fun j ys q => ?_, fun j ys q => ?_, fun j k ys zs b q1 q2 q3 q4 => ?_, by rw [List.length_set]; exact R.ln⟩, Sub.put h3, fun b q => ?_, fun b o q _ => q, fun b q => ?_, fun b q => q⟩, dx⟩
  · by_cases z : b = a
    · subst z; rw [upd_same] at q; cases q; exact h2
    · rw [upd_ne z] at q; exact R.sub _ _ q
  · by_cases z : j = i
    · subst z
      rw [List.getElem?_set_self hi] at q
      cases q
      exact ⟨_, h1, dx⟩
    · rw [List.getElem?_set_ne (Ne.symm z)] at q
      obtain ⟨v, e1, e2⟩ := R.va j d q
      exact ⟨v, e1, (Sub.put h3).dp e2⟩
  · obtain ⟨z, q⟩ := ne_set q
    obtain ⟨b, ws, e1, e2, e3, e4⟩ := R.ow j ys q
    have nb : b ≠ a := fun w => z (R.ne j i ys xs a q e (by rw [← w]; exact e1) h1)
    exact ⟨b, ws, e1, e2, by rw [upd_ne nb]; exact e3, (Sub.put h3).dps e4⟩
  · have q' : ρ[j]? = some (some (.sc ys)) := by
      by_cases z : j = i
      · subst z
        rw [List.getElem?_set_self hi] at q
        cases q
      · rw [List.getElem?_set_ne (Ne.symm z)] at q
        exact q
    obtain ⟨b, ws, e1, e2, e3⟩ := R.sc j ys q'
    exact ⟨b, ws, e1, (Sub.put h3).l e2, (Sub.put h3).dps e3⟩
  · exact R.ne j k ys zs b (ne_set q1).2 (ne_set q2).2 q3 q4
  · by_cases z : b = a
    · subst z; exact .inr (.inr ⟨i, xs, e, h1⟩)
    · rw [upd_ne z] at q; exact .inl q
  · obtain ⟨j, ys, q1, q2⟩ := q
    exact .inl ⟨j, ys, (ne_set q1).2, q2⟩
end

/-! ### lifted readings -/
abbrev SemE := Sr → Option (Rs × Sr)
abbrev SemT := Sr → Option (Bool × Sr)
abbrev SemL := Sr → Option (List D × Sr)
inductive Fl where
  | nx | rt (r : Rs) | bk | ct
abbrev SemS := Sr → Option (Fl × Sr)
abbrev SemG := D → Sr → Option Sr

def LE (K : PySem.W.Frag) (s : SemE) : TE := fun σ H Q => ∃ F ρ r ρ', Rel K F ρ σ H ∧ s ρ = some (r, ρ') ∧ ∀ v F' H', Stp K F ρ σ H F' ρ' σ H' → RsR K F' ρ' σ H H' r v → Q v H'
def LT (K : PySem.W.Frag) (s : SemT) : TT := fun σ H Q => ∃ F ρ b ρ', Rel K F ρ σ H ∧ s ρ = some (b, ρ') ∧ ∀ F' H', Stp K F ρ σ H F' ρ' σ H' → Q b H'
def LA (K : PySem.W.Frag) (s : SemL) : TA := fun σ H Q => ∃ F ρ ds ρ', Rel K F ρ σ H ∧ s ρ = some (ds, ρ') ∧ ∀ vs F' H', Stp K F ρ σ H F' ρ' σ H' → DqAll K F' vs ds → Q vs H'
/-- the slots at refs stand as they stood -/
def Pin (refs : List Nat) (σ σ' : L2.St) : Prop := ∀ i ∈ refs, σ'[i]? = σ[i]?
theorem Pin.refl {refs : List Nat} {σ : L2.St} : Pin refs σ σ := fun _ _ => rfl
theorem Pin.trans {refs : List Nat} {σ σ1 σ2 : L2.St} (a : Pin refs σ σ1) (b : Pin refs σ1 σ2) : Pin refs σ σ2 := fun i h => (b i h).trans (a i h)
def FlQ (K : PySem.W.Frag) (F : Hp) (ρ : Sr) (σ : L2.St) (H0 H : Hp) (D : Ends) : Fl → Prop
  | .nx => D.nx σ H
  | .bk => D.bk σ H
  | .ct => D.ct σ H
  | .rt r => ∀ v, RsR K F ρ σ H0 H r v → D.rt v H
def LS (K : PySem.W.Frag) (refs : List Nat) (s : SemS) : TS := fun D σ H => ∃ F ρ fl ρ', Rel K F ρ σ H ∧ s ρ = some (fl, ρ') ∧ ∀ F' σ' H', Stp K F ρ σ H F' ρ' σ' H' → Pin refs σ σ' → FlQ K F' ρ' σ' H H' D fl
def LG (K : PySem.W.Frag) (refs : List Nat) (g : SemG) : TG := fun v σ H Q => ∃ F ρ d ρ', Rel K F ρ σ H ∧ Dq K F v d ∧ g d ρ = some ρ' ∧ ∀ F' σ' H', Stp K F ρ σ H F' ρ' σ' H' → Pin refs σ σ' → Q σ' H'

end Pv
namespace L2
open PySem PySem.Spec PyProof.Rows Pv
section
variable {X : Cx}
theorem PE.imp {e : Expr} {t t' : TE} (h : PE X e t) (i : ∀ σ H Q, t' σ H Q → t σ H Q) : PE X e t' := ⟨fun pins s σ H Q I q => h.run pins s σ H Q I (i _ _ _ q)⟩
theorem PT.imp {e : Expr} {t t' : TT} (h : PT X e t) (i : ∀ σ H Q, t' σ H Q → t σ H Q) : PT X e t' := ⟨fun pins s σ H Q I q => h.run pins s σ H Q I (i _ _ _ q)⟩
theorem PW.imp {e : Expr} {t t' : TT} (h : PW X e t) (i : ∀ σ H Q, t' σ H Q → t σ H Q) : PW X e t' := ⟨fun w pins s σ H Q I q => h.run w pins s σ H Q I (i _ _ _ q)⟩
theorem PA.imp {e : List Expr} {t t' : TA} (h : PA X e t) (i : ∀ σ H Q, t' σ H Q → t σ H Q) : PA X e t' := ⟨fun pos pins s σ H Q I q => h.run pos pins s σ H Q I (i _ _ _ q)⟩
theorem PS.imp {e : Stmt} {t t' : TS} (h : PS X e t) (i : ∀ D σ H, t' D σ H → t D σ H) : PS X e t' := ⟨fun pins s σ H D I q => h.run pins s σ H D I (i _ _ _ q)⟩
theorem PSs.imp {e : List Stmt} {t t' : TS} (h : PSs X e t) (i : ∀ D σ H, t' D σ H → t D σ H) : PSs X e t' := ⟨fun pins s σ H D I q => h.run pins s σ H D I (i _ _ _ q)⟩
theorem PG.imp {e : Expr} {t t' : TG} (h : PG X e t) (i : ∀ v σ H Q, t' v σ H Q → t v σ H Q) : PG X e t' := ⟨fun pins s σ H v u Q I r q => h.run pins s σ H v u Q I r (i _ _ _ _ q)⟩
end

end L2
namespace Pv
open PySem PySem.Spec PyProof.Rows L2
/-- what an expression gives, taken as a datum -/
theorem LE.data {K : PySem.W.Frag} {s : SemE} {σ : L2.St} {H : Hp} {Q : VK} {F : Hp} {ρ ρ' : Sr} {r : Rs} (R : Rel K F ρ σ H) (e : s ρ = some (r, ρ')) (k : ∀ v F' H', Stp K F ρ σ H F' ρ' σ H' → Dq K F' v r.d → Q v H') : LE K s σ H Q :=
  ⟨F, ρ, r, ρ', R, e, fun v F' H' s h => by
    obtain ⟨F2, s2, d2⟩ := RsR.data s h
    exact k v F2 H' s2 d2⟩
end Pv

set_option Elab.async false
set_option linter.all false
set_option maxRecDepth 100000
set_option maxHeartbeats 4000000
set_option autoImplicit false
/-! Pv, part B: what an expression gives (on abstract slots), and its rules. -/
namespace Pv
open PySem PySem.Spec PyProof.Rows L2

/-! ### the semantic functions -/
def sVar (i : Nat) : SemE := fun ρ => match ρ[i]? with
  | some (some (.va d)) => some (.va d, ρ)
  | some (some (.ow xs)) => some (.va (.list xs), ρ.set i (some (.va (.list xs))))
  | _ => none
def sC (d : D) : SemE := fun ρ => some (.va d, ρ)
def sBin (f : D → D → Option Rs) (a b : SemE) : SemE := fun ρ => match a ρ with
  | some (x, ρ1) => (match b ρ1 with
    | some (y, ρ2) => (match f x.d y.d with
      | some r => some (r, ρ2)
      | none => none)
    | none => none)
  | none => none
def sUn (f : D → Option Rs) (a : SemE) : SemE := fun ρ => match a ρ with
  | some (x, ρ1) => (match f x.d with
    | some r => some (r, ρ1)
    | none => none)
  | none => none
def sNil : SemL := fun ρ => some ([], ρ)
def sCons (a : SemE) (as : SemL) : SemL := fun ρ => match a ρ with
  | some (x, ρ1) => (match as ρ1 with
    | some (xs, ρ2) => some (x.d :: xs, ρ2)
    | none => none)
  | none => none
def sArgs (f : List D → Option Rs) (as : SemL) : SemE := fun ρ => match as ρ with
  | some (ds, ρ1) => (match f ds with
    | some r => some (r, ρ1)
    | none => none)
  | none => none
def fLst (ds : List D) : Option Rs := if ds.length ≤ 100000 then some (.nw ds) else none
def fTup (ds : List D) : Option Rs := if ds.length ≤ 100000 then some (.va (.tuple ds)) else none
/-- a test -/
def truD : D → Option Bool
  | .none => some false
  | .bool b => some b
  | .int i => some (i != 0)
  | .list xs => some (!xs.isEmpty)
  | .tuple xs => some (!xs.isEmpty)
  | _ => none
def sTru (a : SemE) : SemT := fun ρ => match a ρ with
  | some (x, ρ1) => (match truD x.d with
    | some b => some (b, ρ1)
    | none => none)
  | none => none
def sAsT (a : SemE) : SemT := fun ρ => match a ρ with
  | some (.va (.bool b), ρ1) => some (b, ρ1)
  | _ => none
def sAnd (a b : SemT) : SemT := fun ρ => match a ρ with
  | some (true, ρ1) => b ρ1
  | some (false, ρ1) => some (false, ρ1)
  | none => none
def sOr (a b : SemT) : SemT := fun ρ => match a ρ with
  | some (true, ρ1) => some (true, ρ1)
  | some (false, ρ1) => b ρ1
  | none => none
def sNot (a : SemT) : SemT := fun ρ => match a ρ with
  | some (b, ρ1) => some (!b, ρ1)
  | none => none
def sAndV (a b : SemE) : SemE := fun ρ => match a ρ with
  | some (.va (.bool true), ρ1) => b ρ1
  | some (.va (.bool false), ρ1) => some (.va (.bool false), ρ1)
  | _ => none
def sOrV (a b : SemE) : SemE := fun ρ => match a ρ with
  | some (.va (.bool true), ρ1) => some (.va (.bool true), ρ1)
  | some (.va (.bool false), ρ1) => b ρ1
  | _ => none
def sNotV (a : SemE) : SemE := fun ρ => match a ρ with
  | some (.va (.bool b), ρ1) => some (.va (.bool (!b)), ρ1)
  | _ => none
def sIf (t : SemT) (a b : SemE) : SemE := fun ρ => match t ρ with
  | some (true, ρ1) => a ρ1
  | some (false, ρ1) => b ρ1
  | none => none

/-! ### what an operation by values has to do -/
def OpSp (K : PySem.W.Frag) (f : D → D → Option Rs) (r : R2) : Prop := ∀ (x y : D) (z : Rs) (F H : Hp) (vx vy : V) (Q : VK), f x y = some z → Sub F H → Dq K F vx x → Dq K F vy y →
  (∀ v F' H', Ext F H F' H' → RsE K F' H H' z v → Q v H') → r vx vy H Q
def UnSp (K : PySem.W.Frag) (f : D → Option Rs) (r : V → Hp → VK → Prop) : Prop := ∀ (x : D) (z : Rs) (F H : Hp) (vx : V) (Q : VK), f x = some z → Sub F H → Dq K F vx x →
  (∀ v F' H', Ext F H F' H' → RsE K F' H H' z v → Q v H') → r vx H Q
def CallSp (K : PySem.W.Frag) (f : List D → Option Rs) (r : List V → Hp → VK → Prop) : Prop := ∀ (ds : List D) (z : Rs) (F H : Hp) (vs : List V) (Q : VK), f ds = some z → Sub F H → DqAll K F vs ds →
  (∀ v F' H', Ext F H F' H' → RsE K F' H H' z v → Q v H') → r vs H Q

section
variable {X : Cx} {K : PySem.W.Frag} {e a b c : Expr} {es : List Expr} {sa sb : SemE} {as : SemL} {st su : SemT} {pos : Pos} {r : R2} {f : D → D → Option Rs}

theorem var_imp (i : Nat) : ∀ σ H Q, LE K (sVar i) σ H Q → tVar i σ H Q := by
  rintro σ H Q ⟨F, ρ, r, ρ', R, e, k⟩
  unfold sVar at e
  cases h : ρ[i]? with
  | none => rw [h] at e; cases e
  | some o =>
    cases o with
    | none => rw [h] at e; cases e
    | some sl =>
      cases sl with
      | va d =>
        rw [h] at e
        cases e
        obtain ⟨v, h1, h2⟩ := R.va i d h
        exact ⟨v, h1, k v F H (Stp.refl R) h2⟩
      | ow xs =>
        rw [h] at e
        cases e
        obtain ⟨F2, v, h1, h2, h3⟩ := R.freeze h
        exact ⟨v, h1, k v F2 H h2 h3⟩
      | sc xs => rw [h] at e; cases e
theorem le_var {i : Nat} {x : Str} (hN : X.N[i]? = some x) (hv : Vis X.env.scope x) (hd : (x == ("__debug__" : Str)) = false) (hcd : (x == ("__classdict__" : Str)) = false) : PE X (.Name x pos) (LE X.K (sVar i)) :=
  (pe_var hN hv hd hcd).imp (var_imp i)
theorem c_imp {d : D} {v : V} (h : ∀ K F, Dq K F v d) : ∀ σ H Q, LE K (sC d) σ H Q → tC v σ H Q := by
  rintro σ H Q ⟨F, ρ, r, ρ', R, e, k⟩
  cases e
  exact k v F H (Stp.refl R) (h K F)
theorem le_int {i : Int} {j : Nat} : PE X (.Constant (.int i) j pos) (LE X.K (sC (.int i))) := pe_int.imp (c_imp fun _ _ => .int i)
theorem le_bl {i : Bool} {j : Nat} : PE X (.Constant (.bool i) j pos) (LE X.K (sC (.bool i))) := pe_bl.imp (c_imp fun _ _ => .bl i)
theorem le_non {j : Nat} : PE X (.Constant .none j pos) (LE X.K (sC .none)) := pe_non.imp (c_imp fun _ _ => .non)
theorem le_str {x : Str} {j : Nat} : PE X (.Constant (.str x) j pos) (LE X.K (sC (.str x))) := pe_str.imp (c_imp fun _ _ => .str x)

theorem bin_imp (hf : OpSp K f r) : ∀ σ H Q, LE K (sBin f sa sb) σ H Q → tOp r (LE K sa) (LE K sb) σ H Q := by
  rintro σ H Q ⟨F, ρ, z, ρ', R, e, k⟩
  unfold sBin at e
  cases ea : sa ρ with
  | none => rw [ea] at e; cases e
  | some p =>
    obtain ⟨x, ρ1⟩ := p
    rw [ea] at e
    cases eb : sb ρ1 with
    | none => simp only [eb] at e; cases e
    | some p =>
      obtain ⟨y, ρ2⟩ := p
      simp only [eb] at e
      cases ef : f x.d y.d with
      | none => simp only [ef] at e; cases e
      | some w =>
        simp only [ef] at e
        cases e
        refine LE.data R ea fun vx F1 H1 s1 d1 => ?_
        refine LE.data s1.rel eb fun vy F2 H2 s2 d2 => ?_
        have s := s1.trans s2
        refine hf _ _ _ F2 H2 vx vy Q ef s2.rel.sub (s2.ext.dp d1) d2 fun v F' H' ex h => ?_
        exact k v F' H' (s.ext' ex) (s.res ex h)
theorem le_op {op : Operator} (ho : OpR X (binaryOp op) r) (hf : OpSp X.K f r) (ha : PE X a (LE X.K sa)) (hb : PE X b (LE X.K sb)) : PE X (.BinOp a op b pos) (LE X.K (sBin f sa sb)) :=
  (pe_op ho ha hb).imp (bin_imp hf)
theorem le_cmp {op : CmpOp} (ho : OpR X (compareOp op) r) (hf : OpSp X.K f r) (ha : PE X a (LE X.K sa)) (hb : PE X b (LE X.K sb)) (hm : behindInMarks op b = false) : PE X (.Compare a [op] [b] pos) (LE X.K (sBin f sa sb)) :=
  (pe_cmpR ho ha hb hm).imp (bin_imp hf)
theorem asT_imp {s : SemE} {te : TE} (h : ∀ σ H Q, LE K s σ H Q → te σ H Q) : ∀ σ H Q, LT K (sAsT s) σ H Q → tTest te σ H Q := by
  rintro σ H Q ⟨F, ρ, b, ρ', R, e, k⟩
  unfold sAsT at e
  refine h σ H _ ?_
  split at e
  · rename_i b' ρ1 e1
    cases e
    exact ⟨F, ρ, _, _, R, e1, fun v F' H' s h => ⟨_, by cases h; rfl, k F' H' s⟩⟩
  · cases e
theorem lt_cmp {op : CmpOp} (ho : OpR X (compareOp op) r) (hf : OpSp X.K f r) (ha : PE X a (LE X.K sa)) (hb : PE X b (LE X.K sb)) (hm : behindInMarks op b = false) : PT X (.Compare a [op] [b] pos) (LT X.K (sAsT (sBin f sa sb))) :=
  (pt_cmpR ho ha hb hm).imp (asT_imp (bin_imp hf))
theorem un_imp {f : D → Option Rs} {r : V → Hp → VK → Prop} (hf : UnSp K f r) : ∀ σ H Q, LE K (sUn f sa) σ H Q → tUn r (LE K sa) σ H Q := by
  rintro σ H Q ⟨F, ρ, z, ρ', R, e, k⟩
  unfold sUn at e
  cases ea : sa ρ with
  | none => rw [ea] at e; cases e
  | some p =>
    obtain ⟨x, ρ1⟩ := p
    rw [ea] at e
    cases ef : f x.d with
    | none => simp only [ef] at e; cases e
    | some w =>
      simp only [ef] at e
      cases e
      refine LE.data R ea fun vx F1 H1 s1 d1 => ?_
      exact hf _ _ F1 H1 vx Q ef s1.rel.sub d1 fun v F' H' ex h => k v F' H' (s1.ext' ex) (s1.res ex h)
theorem le_un {op : UnaryOp} {f : D → Option Rs} {r : V → Hp → VK → Prop} (ho : UnR X (unaryOp op) r) (hf : UnSp X.K f r) (ha : PE X a (LE X.K sa)) : PE X (.UnaryOp op a pos) (LE X.K (sUn f sa)) :=
  (pe_un ho ha).imp (un_imp hf)

/-! ### argument lists, displays, calls of built-ins -/
theorem la_nil : PA X [] (LA X.K sNil) := pa_nil.imp fun σ H Q ⟨F, ρ, ds, ρ', R, e, k⟩ => by
  cases e
  exact k [] F H (Stp.refl R) .nil
theorem la_cons (ha : PE X e (LE X.K sa)) (hr : PA X es (LA X.K as)) (hs : starEach (e :: es) X.env = (false, eval e X.env) :: starEach es X.env) : PA X (e :: es) (LA X.K (sCons sa as)) :=
  (pa_cons ha hr hs).imp fun σ H Q ⟨F, ρ, ds, ρ', R, e, k⟩ => by
    unfold sCons at e
    cases ea : sa ρ with
    | none => rw [ea] at e; cases e
    | some p =>
      obtain ⟨x, ρ1⟩ := p
      rw [ea] at e
      cases eb : as ρ1 with
      | none => simp only [eb] at e; cases e
      | some p =>
        obtain ⟨xs, ρ2⟩ := p
        simp only [eb] at e
        cases e
        refine LE.data R ea fun vx F1 H1 s1 d1 => ?_
        refine ⟨F1, ρ1, xs, _, s1.rel, eb, fun vs F2 H2 s2 d2 => ?_⟩
        exact k (vx :: vs) F2 H2 (s1.trans s2) (.cons (s2.ext.dp d1) d2)
theorem args_imp {f : List D → Option Rs} {r : List V → Hp → VK → Prop} (hf : CallSp K f r) : ∀ σ H Q, LE K (sArgs f as) σ H Q → LA K as σ H fun vs H1 => r vs H1 Q := by
  rintro σ H Q ⟨F, ρ, z, ρ', R, e, k⟩
  unfold sArgs at e
  cases ea : as ρ with
  | none => rw [ea] at e; cases e
  | some p =>
    obtain ⟨ds, ρ1⟩ := p
    rw [ea] at e
    cases ef : f ds with
    | none => simp only [ef] at e; cases e
    | some w =>
      simp only [ef] at e
      cases e
      refine ⟨F, ρ, ds, _, R, ea, fun vs F1 H1 s1 d1 => ?_⟩
      exact hf _ _ F1 H1 vs Q ef s1.rel.sub d1 fun v F' H' ex h => k v F' H' (s1.ext' ex) (s1.res ex h)
theorem sp_lst : CallSp K fLst fun xs H1 Q => xs.length ≤ sizeLine ∧ ∀ p, H1 p = none → Q (.ref p) (upd H1 p (.lst xs)) := by
  intro ds z F H vs Q e s d k
  unfold fLst at e
  split at e
  · rename_i hl
    cases e
    refine ⟨by rw [d.len]; exact Nat.le_trans hl (by decide), fun p hp => ?_⟩
    exact k _ _ _ (Ext.lst s hp) ⟨p, vs, rfl, upd_same, s.nn hp, hp, d⟩
  · cases e
theorem sp_tup : CallSp K fTup fun xs H1 Q => xs.length ≤ sizeLine ∧ ∀ p, H1 p = none → Q (.ref p) (upd H1 p (.tup xs)) := by
  intro ds z F H vs Q e s d k
  unfold fTup at e
  split at e
  · rename_i hl
    cases e
    refine ⟨by rw [d.len]; exact Nat.le_trans hl (by decide), fun p hp => ?_⟩
    exact k _ _ _ (Ext.tup s hp) (.tup (.inl (.inl upd_same)) ((Sub.put (s.nn hp)).dps d))
  · cases e
theorem le_lst (h : PA X es (LA X.K as)) : PE X (.List es pos) (LE X.K (sArgs fLst as)) := (pe_lst h).imp (args_imp sp_lst)
theorem le_tup {n : Nat} (h : PA X es (LA X.K as)) : PE X (.Tuple es n pos) (LE X.K (sArgs fTup as)) := (pe_tup h).imp (args_imp sp_tup)
theorem le_callB {f : List D → Option Rs} {r : List V → Hp → VK → Prop} {id : String} {x : Str} {p : Pos} (hc : CallR X (.builtin id) r) (hf : CallSp X.K f r) (hg : Gl X x) (hm : X.mg x = none) (hv : bootBuiltins x = some (.builtin id)) (ha : PA X (e :: es) (LA X.K as)) (hn : x ≠ "__name__") (hdb : (x == ("__debug__" : Str)) = false)
    (he : starEach (e :: es) X.env = (false, eval e X.env) :: starEach es X.env) (hpl : (backTo pos (starEach es X.env)).any (·.1) = false) : PE X (.Call (.Name x p) (e :: es) [] pos) (LE X.K (sArgs f as)) :=
  (pe_callB hc hg hm hv ha hn hdb he hpl).imp (args_imp hf)
theorem le_callTy {f : List D → Option Rs} {r : List V → Hp → VK → Prop} {T : String} {x : Str} {p : Pos} (hc : CallR X (.type T) r) (hf : CallSp X.K f r) (hg : Gl X x) (hm : X.mg x = none) (hv : bootBuiltins x = some (.type T)) (ha : PA X (e :: es) (LA X.K as)) (hn : x ≠ "__name__") (hdb : (x == ("__debug__" : Str)) = false)
    (he : starEach (e :: es) X.env = (false, eval e X.env) :: starEach es X.env) (hpl : (backTo pos (starEach es X.env)).any (·.1) = false) : PE X (.Call (.Name x p) (e :: es) [] pos) (LE X.K (sArgs f as)) :=
  (pe_callTy hc hg hm hv ha hn hdb he hpl).imp (args_imp hf)

/-! ### tests -/
theorem tru_of {H F : Hp} {d : D} {v : V} {k : Bool} (s : Sub F H) (h : truD d = some k) (q : Dq K F v d) : TruV K v H k := by
  cases q with
  | non => cases h; rfl
  | bl b => cases h; rfl
  | int i => cases h; rfl
  | str x => cases h
  | lst a b =>
    cases h
    refine .inl ⟨_, .inl (.inl (s _ _ a)), ?_⟩
    cases b <;> rfl
  | tup a b =>
    cases h
    refine .inr (.inl ⟨_, s.t a, ?_⟩)
    cases b <;> rfl
theorem lt_tru (ha : PE X a (LE X.K sa)) (he : ∀ whole, isTrue a X.env whole = (do let v ← whole; standAt a.pos; holding [v] (truthy v))) : PT X a (LT X.K (sTru sa)) :=
  (pt_truth ha he).imp fun σ H Q ⟨F, ρ, b, ρ', R, e, k⟩ => by
    unfold sTru at e
    cases ea : sa ρ with
    | none => rw [ea] at e; cases e
    | some p =>
      obtain ⟨x, ρ1⟩ := p
      rw [ea] at e
      cases ef : truD x.d with
      | none => simp only [ef] at e; cases e
      | some w =>
        simp only [ef] at e
        cases e
        exact LE.data R ea fun v F1 H1 s1 d1 => ⟨_, tru_of s1.rel.sub ef d1, k F1 H1 s1⟩
theorem and_imp : ∀ σ H Q, LT K (sAnd st su) σ H Q → tAnd (LT K st) (LT K su) σ H Q := by
  rintro σ H Q ⟨F, ρ, b, ρ', R, e, k⟩
  unfold sAnd at e
  split at e
  · rename_i ρ1 e1
    exact ⟨F, ρ, true, ρ1, R, e1, fun F1 H1 s1 => iteT (by first | exact ⟨F1, ρ1, b, ρ', s1.rel, e, fun F2 H2 s2 => k F2 H2 (s1.trans s2)⟩ | exact (⟨F1, ρ1, b, ρ', s1.rel, e, fun F2 H2 s2 => k F2 H2 (s1.trans s2)⟩))⟩
  · rename_i ρ1 e1
    cases e
    exact ⟨F, ρ, false, _, R, e1, fun F1 H1 s1 => iteF (by first | exact k F1 H1 s1 | exact (k F1 H1 s1))⟩
  · cases e
theorem or_imp : ∀ σ H Q, LT K (sOr st su) σ H Q → tOr (LT K st) (LT K su) σ H Q := by
  rintro σ H Q ⟨F, ρ, b, ρ', R, e, k⟩
  unfold sOr at e
  split at e
  · rename_i ρ1 e1
    cases e
    exact ⟨F, ρ, true, _, R, e1, fun F1 H1 s1 => iteT (by first | exact k F1 H1 s1 | exact (k F1 H1 s1))⟩
  · rename_i ρ1 e1
    exact ⟨F, ρ, false, ρ1, R, e1, fun F1 H1 s1 => iteF (by first | exact ⟨F1, ρ1, b, ρ', s1.rel, e, fun F2 H2 s2 => k F2 H2 (s1.trans s2)⟩ | exact (⟨F1, ρ1, b, ρ', s1.rel, e, fun F2 H2 s2 => k F2 H2 (s1.trans s2)⟩))⟩
  · cases e
theorem lw_and1 (ha : PT X a (LT X.K st)) : PW X (.BoolOp .And [a] pos) (LT X.K st) := pw_and1 ha
theorem lw_or1 (ha : PT X a (LT X.K st)) : PW X (.BoolOp .Or [a] pos) (LT X.K st) := pw_or1 ha
theorem lw_and (ha : PT X a (LT X.K st)) (hb : PW X (.BoolOp .And (b :: es) pos) (LT X.K su)) : PW X (.BoolOp .And (a :: b :: es) pos) (LT X.K (sAnd st su)) := (pw_and ha hb).imp and_imp
theorem lw_or (ha : PT X a (LT X.K st)) (hb : PW X (.BoolOp .Or (b :: es) pos) (LT X.K su)) : PW X (.BoolOp .Or (a :: b :: es) pos) (LT X.K (sOr st su)) := (pw_or ha hb).imp or_imp
theorem lt_not (ha : PT X a (LT X.K st)) : PT X (.UnaryOp .Not a pos) (LT X.K (sNot st)) := (pt_not ha).imp fun σ H Q ⟨F, ρ, b, ρ', R, e, k⟩ => by
  unfold sNot at e
  split at e
  · rename_i b' ρ1 e1
    cases e
    exact ⟨F, ρ, b', _, R, e1, k⟩
  · cases e
theorem le_one {op : BoolOp} (h : PE X a (LE X.K sa)) : PE X (.BoolOp op [a] pos) (LE X.K sa) := pe_one h
theorem le_and (ha : PE X a (LE X.K sa)) (hb : PE X (.BoolOp .And (b :: es) pos) (LE X.K sb)) : PE X (.BoolOp .And (a :: b :: es) pos) (LE X.K (sAndV sa sb)) :=
  (pe_and ha hb).imp fun σ H Q ⟨F, ρ, r, ρ', R, e, k⟩ => by
    unfold sAndV at e
    split at e
    · rename_i ρ1 e1
      refine ⟨F, ρ, _, ρ1, R, e1, fun v F1 H1 s1 h => ?_⟩
      cases h
      refine ⟨true, rfl, ?_⟩
      rw [if_pos rfl]
      refine ⟨F1, ρ1, r, ρ', s1.rel, e, fun v F2 H2 s2 h => k v F2 H2 (s1.trans s2) ?_⟩
      cases r with
      | va d => exact h
      | nw xs =>
        obtain ⟨p, vs, rfl, h1, h2, h3, h4⟩ := h
        exact ⟨p, vs, rfl, h1, h2, s1.back h3, h4⟩
    · rename_i ρ1 e1
      cases e
      refine ⟨F, ρ, _, _, R, e1, fun v F1 H1 s1 h => ?_⟩
      cases h
      refine ⟨false, rfl, ?_⟩
      rw [if_neg Bool.false_ne_true]
      exact k _ F1 H1 s1 (.bl false)
    · cases e
theorem le_or (ha : PE X a (LE X.K sa)) (hb : PE X (.BoolOp .Or (b :: es) pos) (LE X.K sb)) : PE X (.BoolOp .Or (a :: b :: es) pos) (LE X.K (sOrV sa sb)) :=
  (pe_or ha hb).imp fun σ H Q ⟨F, ρ, r, ρ', R, e, k⟩ => by
    unfold sOrV at e
    split at e
    · rename_i ρ1 e1
      cases e
      refine ⟨F, ρ, _, _, R, e1, fun v F1 H1 s1 h => ?_⟩
      cases h
      refine ⟨true, rfl, ?_⟩
      rw [if_pos rfl]
      exact k _ F1 H1 s1 (.bl true)
    · rename_i ρ1 e1
      refine ⟨F, ρ, _, ρ1, R, e1, fun v F1 H1 s1 h => ?_⟩
      cases h
      refine ⟨false, rfl, ?_⟩
      rw [if_neg Bool.false_ne_true]
      refine ⟨F1, ρ1, r, ρ', s1.rel, e, fun v F2 H2 s2 h => k v F2 H2 (s1.trans s2) ?_⟩
      cases r with
      | va d => exact h
      | nw xs =>
        obtain ⟨p, vs, rfl, h1, h2, h3, h4⟩ := h
        exact ⟨p, vs, rfl, h1, h2, s1.back h3, h4⟩
    · cases e
theorem le_not (ha : PE X a (LE X.K sa)) : PE X (.UnaryOp .Not a pos) (LE X.K (sNotV sa)) :=
  (pe_not ha).imp fun σ H Q ⟨F, ρ, r, ρ', R, e, k⟩ => by
    unfold sNotV at e
    split at e
    · rename_i b ρ1 e1
      cases e
      refine ⟨F, ρ, _, _, R, e1, fun v F1 H1 s1 h => ?_⟩
      cases h
      exact ⟨b, rfl, k _ F1 H1 s1 (.bl (!b))⟩
    · cases e
/-- a result behind a further step ahead -/
theorem RsR.under {F F1 F2 H H1 H2 : Hp} {ρ ρ1 ρ2 : Sr} {σ σ1 σ2 : L2.St} {z : Rs} {v : V} (s1 : Stp K F ρ σ H F1 ρ1 σ1 H1) (h : RsR K F2 ρ2 σ2 H1 H2 z v) : RsR K F2 ρ2 σ2 H H2 z v := by
  cases z with
  | va d => exact h
  | nw xs =>
    obtain ⟨p, vs, rfl, h1, h2, h3, h4⟩ := h
    exact ⟨p, vs, rfl, h1, h2, s1.back h3, h4⟩
theorem if_imp : ∀ σ H Q, LE K (sIf st sa sb) σ H Q → tIf (LT K st) (LE K sa) (LE K sb) σ H Q := by
  rintro σ H Q ⟨F, ρ, r, ρ', R, e, k⟩
  unfold sIf at e
  split at e
  · rename_i ρ1 e1
    exact ⟨F, ρ, true, ρ1, R, e1, fun F1 H1 s1 => iteT (by first | exact ⟨F1, ρ1, r, ρ', s1.rel, e, fun v F2 H2 s2 h => k v F2 H2 (s1.trans s2) (RsR.under s1 h)⟩ | exact (⟨F1, ρ1, r, ρ', s1.rel, e, fun v F2 H2 s2 h => k v F2 H2 (s1.trans s2) (RsR.under s1 h)⟩))⟩
  · rename_i ρ1 e1
    exact ⟨F, ρ, false, ρ1, R, e1, fun F1 H1 s1 => iteF (by first | exact ⟨F1, ρ1, r, ρ', s1.rel, e, fun v F2 H2 s2 h => k v F2 H2 (s1.trans s2) (RsR.under s1 h)⟩ | exact (⟨F1, ρ1, r, ρ', s1.rel, e, fun v F2 H2 s2 h => k v F2 H2 (s1.trans s2) (RsR.under s1 h)⟩))⟩
  · cases e
theorem le_if (hc : PT X c (LT X.K st)) (ha : PE X a (LE X.K sa)) (hb : PE X b (LE X.K sb)) : PE X (.IfExp c a b pos) (LE X.K (sIf st sa sb)) := (pe_ifExp hc ha hb).imp if_imp
end
end Pv

set_option Elab.async false
set_option linter.all false
set_option maxRecDepth 100000
set_option maxHeartbeats 4000000
set_option autoImplicit false
/-! Pv, part C: operators and built-ins on data, and the rules of the layer that they stand for. -/
namespace Pv
open PySem PySem.Spec PyProof.Rows L2

/-! ### operators -/
def mulOk (i j : Int) : Bool := decide (i.natAbs.log2 + j.natAbs.log2 < 1000000)
def divOk (j : Int) : Bool := decide (j ≠ 0 ∧ j.natAbs.log2 < 9000)
def fAdd : D → D → Option Rs
  | .int i, .int j => some (.va (.int (i + j)))
  | .list xs, .list ys => if xs.length + ys.length ≤ 100000 then some (.nw (xs ++ ys)) else none
  | _, _ => none
def fSub : D → D → Option Rs
  | .int i, .int j => some (.va (.int (i - j)))
  | _, _ => none
def fMul : D → D → Option Rs
  | .int i, .int j => if mulOk i j = true then some (.va (.int (i * j))) else none
  | .list xs, .int k => if k.natAbs < 2 ^ 62 ∧ xs.length * k.toNat ≤ 100000 then some (.nw (List.replicate k.toNat xs).flatten) else none
  | _, _ => none
def fDiv : D → D → Option Rs
  | .int i, .int j => if divOk j = true then some (.va (.int (i.fdiv j))) else none
  | _, _ => none
def fMod : D → D → Option Rs
  | .int i, .int j => if j ≠ 0 then some (.va (.int (i.fmod j))) else none
  | _, _ => none
def fPow : D → D → Option Rs
  | .int i, .int j => if 0 ≤ j ∧ j ≤ 1000000 ∧ i.natAbs < 2 ^ 64 then some (.va (.int (i ^ j.toNat))) else none
  | _, _ => none
def fNeg : D → Option Rs
  | .int i => some (.va (.int (-i)))
  | _ => none
def fLt : D → D → Option Rs
  | .int i, .int j => some (.va (.bool (decide (i < j))))
  | _, _ => none
def fLe : D → D → Option Rs
  | .int i, .int j => some (.va (.bool (decide (i ≤ j))))
  | _, _ => none
def fGt : D → D → Option Rs
  | .int i, .int j => some (.va (.bool (decide (j < i))))
  | _, _ => none
def fGe : D → D → Option Rs
  | .int i, .int j => some (.va (.bool (decide (j ≤ i))))
  | _, _ => none
def eqD : D → D → Option Bool
  | .int i, .int j => some (decide (i = j))
  | .str i, .str j => some (decide (i = j))
  | .bool i, .bool j => some (decide (i = j))
  | .none, .none => some true
  | .list xs, .list ys => if (SeqAt.shaped (.list xs) && SeqAt.shaped (.list ys)) = true then some (PyData.eqv (.list xs) (.list ys)) else none
  | .tuple xs, .tuple ys => if (SeqAt.shaped (.tuple xs) && SeqAt.shaped (.tuple ys)) = true then some (PyData.eqv (.tuple xs) (.tuple ys)) else none
  | _, _ => none
def fEq (x y : D) : Option Rs := (eqD x y).map fun b => .va (.bool b)
def fNe (x y : D) : Option Rs := (eqD x y).map fun b => .va (.bool (!b))
/-- members that are ints -/
def intsOf : List D → Option (List Int)
  | [] => some []
  | .int i :: r => (intsOf r).map (i :: ·)
  | _ => none
def memD : D → D → Option Bool
  | .int i, .list xs => (intsOf xs).map fun ns => ns.any (· == i)
  | .int i, .tuple xs => (intsOf xs).map fun ns => ns.any (· == i)
  | _, _ => none
def fIn (x y : D) : Option Rs := (memD x y).map fun b => .va (.bool b)
def fNotIn (x y : D) : Option Rs := (memD x y).map fun b => .va (.bool (!b))
def isNon : D → Bool
  | .none => true
  | _ => false
def fIsN : D → D → Option Rs
  | x, .none => some (.va (.bool (isNon x)))
  | _, _ => none
def fNotN : D → D → Option Rs
  | x, .none => some (.va (.bool (!isNon x)))
  | _, _ => none
def fIx : D → D → Option Rs
  | .list xs, .int i => (atI xs i).map .va
  | .tuple xs, .int i => (atI xs i).map .va
  | _, _ => none

theorem intsOf_eq : ∀ {xs : List D} {ns : List Int}, intsOf xs = some ns → xs = ns.map PyData.int
  | [], ns, h => by cases h; rfl
  | d :: r, ns, h => by
    unfold intsOf at h
    split at h
    · cases h; contradiction
    · rename_i i r' e
      cases e
      cases q : intsOf r with
      | none => rw [q] at h; cases h
      | some ms => rw [q] at h; cases h; rw [intsOf_eq q]; rfl
    · cases h
@[simp] theorem intsOf_map : ∀ ns : List Int, intsOf (ns.map PyData.int) = some ns
  | [] => rfl
  | n :: ns => by
    show intsOf (.int n :: ns.map PyData.int) = _
    rw [intsOf, intsOf_map ns]
    rfl

section
variable {X : Cx} {K : PySem.W.Frag}
/-- how a branch ends that hands back a datum and leaves the heap -/
theorem same_end {z : Rs} {F H : Hp} {v : V} {d : D} {Q : VK} (s : Sub F H) (k : ∀ v F' H', Ext F H F' H' → RsE K F' H H' z v → Q v H') (e : z = .va d) (h : Dq K F v d) : Q v H := by
  subst e
  exact k v F H (Ext.refl s) h
def rAddD : R2 := fun x y H Q => rI0 (fun i j => .int (i + j)) x y H Q ∨ rCat x y H Q
theorem op_addD : OpR X (binaryOp .Add) rAddD := op_add.or op_cat
theorem sp_add : OpSp K fAdd rAddD := by
  intro x y z F H vx vy Q e s dx dy k
  unfold fAdd at e
  split at e
  · cases e; cases dx; cases dy
    exact .inl ⟨_, _, rfl, rfl, same_end s k rfl (.int _)⟩
  · split at e
    · rename_i hl
      cases e
      cases dx with
      | lst a1 b1 =>
        cases dy with
        | lst a2 b2 =>
          refine .inr ⟨_, _, _, _, rfl, rfl, s _ _ a1, s _ _ a2, ?_, fun p hp => ?_⟩
          · rw [b1.len, b2.len]; exact Nat.le_trans hl (by decide)
          · exact k _ _ _ (Ext.lst s hp) ⟨p, _, rfl, upd_same, s.nn hp, hp, b1.append b2⟩
    · cases e
  · cases e
def rSubD : R2 := rI0 fun i j => .int (i - j)
theorem op_subD : OpR X (binaryOp .Sub) rSubD := op_sub
theorem sp_sub : OpSp K fSub rSubD := by
  intro x y z F H vx vy Q e s dx dy k
  unfold fSub at e
  split at e
  · cases e; cases dx; cases dy
    exact ⟨_, _, rfl, rfl, same_end s k rfl (.int _)⟩
  · cases e
def rMulD : R2 := fun x y H Q => rI CMulW (fun i j => .int (i * j)) x y H Q ∨ rRep x y H Q
theorem op_mulD : OpR X (binaryOp .Mult) rMulD := op_mulW.or op_rep
theorem sp_mul : OpSp K fMul rMulD := by
  intro x y z F H vx vy Q e s dx dy k
  unfold fMul at e
  split at e
  · split at e
    · rename_i h
      cases e; cases dx; cases dy
      exact .inl ⟨_, _, rfl, rfl, of_decide_eq_true (p := _ < 1000000) h, same_end s k rfl (.int _)⟩
    · cases e
  · split at e
    · rename_i h
      cases e
      cases dx with
      | lst a1 b1 =>
        cases dy
        have h1 := h.1
        refine .inr ⟨_, _, _, rfl, rfl, s _ _ a1, by omega, by omega, ?_, fun p hp => ?_⟩
        · rw [b1.len]; exact Nat.le_trans h.2 (by decide)
        · exact k _ _ _ (Ext.lst s hp) ⟨p, _, rfl, upd_same, s.nn hp, hp, b1.rep _⟩
    · cases e
  · cases e
def CDivB (_ j : Int) : Prop := j ≠ 0 ∧ j.natAbs.log2 < 9000
def rDivD : R2 := rI CDivB fun i j => .int (i.fdiv j)
theorem op_divD : OpR X (binaryOp .FloorDiv) rDivD := opI fun i j _ _ _ _ _ hc q => floordiv_int hc.1 q (.inl (PyProof.noPylong_of_log2 hc.2))
theorem sp_div : OpSp K fDiv rDivD := by
  intro x y z F H vx vy Q e s dx dy k
  unfold fDiv at e
  split at e
  · split at e
    · rename_i h
      cases e; cases dx; cases dy
      exact ⟨_, _, rfl, rfl, of_decide_eq_true (p := _ ∧ _) h, same_end s k rfl (.int _)⟩
    · cases e
  · cases e
def rModD : R2 := rI (fun _ j => j ≠ 0) fun i j => .int (i.fmod j)
theorem op_modD : OpR X (binaryOp .Mod) rModD := op_modN
theorem sp_mod : OpSp K fMod rModD := by
  intro x y z F H vx vy Q e s dx dy k
  unfold fMod at e
  split at e
  · split at e
    · rename_i h
      cases e; cases dx; cases dy
      exact ⟨_, _, rfl, rfl, h, same_end s k rfl (.int _)⟩
    · cases e
  · cases e
def rPowD : R2 := rI CPow fun i j => .int (i ^ j.toNat)
theorem op_powD : OpR X (binaryOp .Pow) rPowD := op_pow
theorem sp_pow : OpSp K fPow rPowD := by
  intro x y z F H vx vy Q e s dx dy k
  unfold fPow at e
  split at e
  · split at e
    · rename_i h
      cases e; cases dx; cases dy
      exact ⟨_, _, rfl, rfl, h, same_end s k rfl (.int _)⟩
    · cases e
  · cases e
theorem sp_neg : UnSp K fNeg (rU fun i => .int (-i)) := by
  intro x z F H vx Q e s dx k
  unfold fNeg at e
  split at e
  · cases e; cases dx
    exact ⟨_, rfl, same_end s k rfl (.int _)⟩
  · cases e
theorem sp_lt : OpSp K fLt (rI0 fun i j => .bl (decide (i < j))) := by
  intro x y z F H vx vy Q e s dx dy k
  unfold fLt at e
  split at e
  · cases e; cases dx; cases dy
    exact ⟨_, _, rfl, rfl, same_end s k rfl (.bl _)⟩
  · cases e
theorem sp_le : OpSp K fLe (rI0 fun i j => .bl (decide (i ≤ j))) := by
  intro x y z F H vx vy Q e s dx dy k
  unfold fLe at e
  split at e
  · cases e; cases dx; cases dy
    exact ⟨_, _, rfl, rfl, same_end s k rfl (.bl _)⟩
  · cases e
theorem sp_gt : OpSp K fGt (rI0 fun i j => .bl (decide (j < i))) := by
  intro x y z F H vx vy Q e s dx dy k
  unfold fGt at e
  split at e
  · cases e; cases dx; cases dy
    exact ⟨_, _, rfl, rfl, same_end s k rfl (.bl _)⟩
  · cases e
theorem sp_ge : OpSp K fGe (rI0 fun i j => .bl (decide (j ≤ i))) := by
  intro x y z F H vx vy Q e s dx dy k
  unfold fGe at e
  split at e
  · cases e; cases dx; cases dy
    exact ⟨_, _, rfl, rfl, same_end s k rfl (.bl _)⟩
  · cases e
def rEqA (K : PySem.W.Frag) : R2 := fun x y H Q => rEq x y H Q ∨ rEqD K x y H Q
def rNeA (K : PySem.W.Frag) : R2 := fun x y H Q => rNe x y H Q ∨ rNeD K x y H Q
theorem op_eqA (hu : X.A.units + 64 < cLine) : OpR X (compareOp .Eq) (rEqA X.K) := op_eq.or (op_eqD hu)
theorem op_neA (hu : X.A.units + 64 < cLine) : OpR X (compareOp .NotEq) (rNeA X.K) := op_ne.or (op_neD hu)
theorem eqD_cases {x y : D} {b : Bool} {F H : Hp} {vx vy : V} (e : eqD x y = some b) (s : Sub F H) (dx : Dq K F vx x) (dy : Dq K F vy y) :
    (scal vx vy = true ∧ decide (vx = vy) = b) ∨ (∃ d e', Dp K H vx d ∧ Dp K H vy e' ∧ SeqAt.shaped d = true ∧ SeqAt.shaped e' = true ∧ PyData.eqv d e' = b) := by
  unfold eqD at e
  split at e
  · cases e; cases dx; cases dy
    exact .inl ⟨rfl, by simp⟩
  · cases e; cases dx; cases dy
    exact .inl ⟨rfl, by simp⟩
  · cases e; cases dx; cases dy
    exact .inl ⟨rfl, by simp⟩
  · cases e; cases dx; cases dy
    exact .inl ⟨rfl, by simp⟩
  · split at e
    · rename_i h
      obtain ⟨h1, h2⟩ := Bool.and_eq_true_iff.mp h
      cases e
      exact .inr ⟨_, _, (s.dp dx).dp, (s.dp dy).dp, h1, h2, rfl⟩
    · cases e
  · split at e
    · rename_i h
      obtain ⟨h1, h2⟩ := Bool.and_eq_true_iff.mp h
      cases e
      exact .inr ⟨_, _, (s.dp dx).dp, (s.dp dy).dp, h1, h2, rfl⟩
    · cases e
  · cases e
theorem sp_eq : OpSp K fEq (rEqA K) := by
  intro x y z F H vx vy Q e s dx dy k
  unfold fEq at e
  cases q : eqD x y with
  | none => rw [q] at e; cases e
  | some b =>
    rw [q] at e
    cases e
    have fin : Q (.bl b) H := same_end s k rfl (.bl b)
    rcases eqD_cases q s dx dy with ⟨h1, h2⟩ | ⟨d, e', h1, h2, h3, h4, h5⟩
    · exact .inl ⟨h1, by rw [h2]; exact fin⟩
    · exact .inr ⟨d, e', h1, h2, h3, h4, by rw [h5]; exact fin⟩
theorem sp_ne : OpSp K fNe (rNeA K) := by
  intro x y z F H vx vy Q e s dx dy k
  unfold fNe at e
  cases q : eqD x y with
  | none => rw [q] at e; cases e
  | some b =>
    rw [q] at e
    cases e
    have fin : Q (.bl (!b)) H := same_end s k rfl (.bl (!b))
    rcases eqD_cases q s dx dy with ⟨h1, h2⟩ | ⟨d, e', h1, h2, h3, h4, h5⟩
    · exact .inl ⟨h1, by rw [h2]; exact fin⟩
    · exact .inr ⟨d, e', h1, h2, h3, h4, by rw [h5]; exact fin⟩
theorem inV_ints (i : Int) : ∀ ns : List Int, inV (.int i) (ns.map V.int) = ns.any (· == i)
  | [] => rfl
  | n :: ns => by
    show (eqV (.int n) (.int i) || inV (.int i) (ns.map V.int)) = _
    rw [inV_ints i ns]
    rfl
theorem flat_ints : ∀ ns : List Int, (ns.map V.int).all flatV = true
  | [] => rfl
  | n :: ns => by
    show (flatV (.int n) && (ns.map V.int).all flatV) = true
    rw [flat_ints ns]
    rfl
theorem mem_cases {x y : D} {b neg : Bool} {F H : Hp} {vx vy : V} {Q : VK} (e : memD x y = some b) (s : Sub F H) (dx : Dq K F vx x) (dy : Dq K F vy y) (q : Q (.bl (if neg then !b else b)) H) : rIn K neg vx vy H Q := by
  unfold memD at e
  split at e
  · cases h : intsOf _ with
    | none => rw [h] at e; cases e
    | some ns =>
      rw [h] at e
      cases e
      have h' := intsOf_eq h
      subst h'
      cases dx
      cases dy with
      | lst a c =>
        have c' := c.ints
        subst c'
        refine ⟨_, _, rfl, .inl (.inl (.inl (s _ _ a))), rfl, flat_ints ns, ?_⟩
        rw [inV_ints]
        exact q
  · cases h : intsOf _ with
    | none => rw [h] at e; cases e
    | some ns =>
      rw [h] at e
      cases e
      have h' := intsOf_eq h
      subst h'
      cases dx
      cases dy with
      | tup a c =>
        have c' := c.ints
        subst c'
        refine ⟨_, _, rfl, .inr (s.t a), rfl, flat_ints ns, ?_⟩
        rw [inV_ints]
        exact q
  · cases e
theorem sp_in : OpSp K fIn (rIn K false) := by
  intro x y z F H vx vy Q e s dx dy k
  unfold fIn at e
  cases q : memD x y with
  | none => rw [q] at e; cases e
  | some b =>
    rw [q] at e
    cases e
    exact mem_cases (neg := false) q s dx dy (same_end s k rfl (.bl b))
theorem sp_notIn : OpSp K fNotIn (rIn K true) := by
  intro x y z F H vx vy Q e s dx dy k
  unfold fNotIn at e
  cases q : memD x y with
  | none => rw [q] at e; cases e
  | some b =>
    rw [q] at e
    cases e
    exact mem_cases (neg := true) q s dx dy (same_end s k rfl (.bl (!b)))
theorem isNon_of {F : Hp} {v : V} {d : D} (q : Dq K F v d) : decide (v = .non) = isNon d := by
  cases q <;> simp [isNon]
theorem sp_isN : OpSp K fIsN (fun x y H Q => y = .non ∧ Q (.bl (decide (x = .non))) H) := by
  intro x y z F H vx vy Q e s dx dy k
  unfold fIsN at e
  split at e
  · cases e; cases dy
    refine ⟨rfl, ?_⟩
    rw [isNon_of dx]
    exact same_end s k rfl (.bl _)
  · cases e
theorem sp_notN : OpSp K fNotN (fun x y H Q => y = .non ∧ Q (.bl (!decide (x = .non))) H) := by
  intro x y z F H vx vy Q e s dx dy k
  unfold fNotN at e
  split at e
  · cases e; cases dy
    refine ⟨rfl, ?_⟩
    rw [isNon_of dx]
    exact same_end s k rfl (.bl _)
  · cases e
theorem DqAll.at {F : Hp} {vs : List V} {ds : List D} {i : Int} {d : D} (h : DqAll K F vs ds) (e : atI ds i = some d) : ∃ v, atI vs i = some v ∧ Dq K F v d := by
  unfold atI at e ⊢
  rw [h.len]
  cases q : ixN ds.length i with
  | none => rw [q] at e; cases e
  | some j =>
    rw [q] at e
    obtain ⟨v, h1, h2⟩ := h.get e
    exact ⟨v, h1, h2⟩
def rIxD (K : PySem.W.Frag) : R2 := fun x y H Q => rIxL K x y H Q ∨ rIxT K x y H Q
theorem ix_D : IxR X (rIxD X.K) := ix_list.or ix_tup
theorem sp_ix : OpSp K fIx (rIxD K) := by
  intro x y z F H vx vy Q e s dx dy k
  unfold fIx at e
  split at e
  · cases h : atI _ _ with
    | none => rw [h] at e; cases e
    | some d =>
      rw [h] at e
      cases e
      cases dy
      cases dx with
      | lst a c =>
        obtain ⟨v, h1, h2⟩ := c.at h
        exact .inl ⟨_, _, _, v, rfl, rfl, .inl (.inl (s _ _ a)), h1, same_end s k rfl h2⟩
  · cases h : atI _ _ with
    | none => rw [h] at e; cases e
    | some d =>
      rw [h] at e
      cases e
      cases dy
      cases dx with
      | tup a c =>
        obtain ⟨v, h1, h2⟩ := c.at h
        exact .inr ⟨_, _, _, v, rfl, rfl, s.t a, h1, same_end s k rfl h2⟩
  · cases e
theorem le_ix {a b : Expr} {sa sb : SemE} {pos : Pos} (ha : PE X a (LE X.K sa)) (hb : PE X b (LE X.K sb)) (hs : PlainIx b) : PE X (.Subscript a b pos) (LE X.K (sBin fIx sa sb)) := (pe_ix ix_D ha hb hs).imp (bin_imp sp_ix)

/-! ### a name's slot that is only looked at -/
/-- what a slot's list | datum is, looked at -/
def Sl.d : Sl → D
  | .va d => d
  | .ow xs => .list xs
  | .sc xs => .list xs
/-- x[b], x a name -/
def sIxV (i : Nat) (sb : SemE) : SemE := fun ρ => match ρ[i]? with
  | some (some _) => (match sb ρ with
    | some (y, ρ1) => (match ρ1[i]? with
      | some (some sl) => (match fIx sl.d y.d with
        | some r => some (r, ρ1)
        | none => none)
      | _ => none)
    | none => none)
  | _ => none
theorem Rel.val {F H : Hp} {ρ : Sr} {σ : L2.St} (R : Rel K F ρ σ H) {i : Nat} {sl : Sl} (h : ρ[i]? = some (some sl)) : ∃ v, σ[i]? = some (some v) := by
  cases sl with
  | va d => obtain ⟨v, e, _⟩ := R.va i d h; exact ⟨v, e⟩
  | ow xs => obtain ⟨a, vs, e, _⟩ := R.ow i xs h; exact ⟨_, e⟩
  | sc xs => obtain ⟨a, vs, e, _⟩ := R.sc i xs h; exact ⟨_, e⟩
/-- the value at a slot as something to be read -/
theorem Rel.look {F H : Hp} {ρ : Sr} {σ : L2.St} (R : Rel K F ρ σ H) {i : Nat} {sl : Sl} {v : V} (h : ρ[i]? = some (some sl)) (e : σ[i]? = some (some v)) :
    Dq K F v sl.d ∨ ∃ a vs xs, v = .ref a ∧ sl.d = .list xs ∧ SqL K H a vs ∧ DqAll K F vs xs := by
  cases sl with
  | va d =>
    obtain ⟨v', e', q⟩ := R.va i d h
    rw [e] at e'
    cases e'
    exact .inl q
  | ow xs =>
    obtain ⟨a, vs, e', h1, h2, h3⟩ := R.ow i xs h
    rw [e] at e'
    cases e'
    exact .inr ⟨a, vs, xs, rfl, rfl, .inl (.inl h1), h3⟩
  | sc xs =>
    obtain ⟨a, vs, e', h1, h3⟩ := R.sc i xs h
    rw [e] at e'
    cases e'
    exact .inr ⟨a, vs, xs, rfl, rfl, R.sub.l h1, h3⟩
theorem ixV_imp {i : Nat} {sb : SemE} : ∀ σ H Q, LE K (sIxV i sb) σ H Q → tOp (rIxD K) (tVar i) (LE K sb) σ H Q := by
  rintro σ H Q ⟨F, ρ, z, ρ', R, e, k⟩
  unfold sIxV at e
  split at e
  · rename_i sl0 h0
    obtain ⟨v, hv⟩ := R.val h0
    refine ⟨v, hv, ?_⟩
    split at e
    · rename_i y ρ1 h1
      refine LE.data R h1 fun vy F1 H1 s1 d1 => ?_
      split at e
      · rename_i sl h2
        split at e
        · rename_i r h3
          cases e
          rcases s1.rel.look h2 hv with q | ⟨a, vs, xs, rfl, ex, hs, hd⟩
          · exact sp_ix _ _ _ F1 H1 v vy Q h3 s1.rel.sub q d1 fun v' F' H' ex h => k v' F' H' (s1.ext' ex) (s1.res ex h)
          · rw [ex] at h3
            unfold fIx at h3
            split at h3
            · rename_i i' e1 e2
              cases e1
              rw [e2] at d1
              cases d1
              cases h4 : atI xs i' with
              | none => rw [h4] at h3; cases h3
              | some d =>
                rw [h4] at h3
                cases h3
                obtain ⟨w, h5, h6⟩ := hd.at h4
                exact .inl ⟨_, _, _, w, rfl, rfl, hs, h5, k w F1 H1 s1 h6⟩
            · cases ‹PyData.list xs = PyData.tuple _›
            · cases h3
        · cases e
      · cases e
    · cases e
  · cases e
theorem le_ixV {i : Nat} {x : Str} {b : Expr} {sb : SemE} {p pos : Pos} (hN : X.N[i]? = some x) (hv : Vis X.env.scope x) (hd : (x == ("__debug__" : Str)) = false) (hcd : (x == ("__classdict__" : Str)) = false) (hb : PE X b (LE X.K sb)) (hs : PlainIx b) : PE X (.Subscript (.Name x p) b pos) (LE X.K (sIxV i sb)) :=
  (pe_ix ix_D (pe_var hN hv hd hcd) hb hs).imp ixV_imp
/-- a built-in of one name that is only looked at -/
def lenD : D → Option Rs
  | .list xs => some (.va (.int xs.length))
  | .tuple xs => some (.va (.int xs.length))
  | _ => none
def fLen : List D → Option Rs
  | [d] => lenD d
  | _ => none
def sLenV (i : Nat) : SemE := fun ρ => match ρ[i]? with
  | some (some sl) => (match lenD sl.d with
    | some r => some (r, ρ)
    | none => none)
  | _ => none
theorem sp_len : CallSp K fLen (fun xs H Q => ∃ p ys, xs = [.ref p] ∧ (SqL K H p ys ∨ SqT K H p ys) ∧ Q (.int ys.length) H) := by
  intro ds z F H vs Q e s d k
  unfold fLen at e
  split at e
  · cases d with
    | cons d1 d2 =>
      cases d2
      unfold lenD at e
      split at e
      · cases e
        cases d1 with
        | lst a c =>
          refine ⟨_, _, rfl, .inl (.inl (.inl (s _ _ a))), ?_⟩
          rw [c.len]
          exact same_end s k rfl (.int _)
      · cases e
        cases d1 with
        | tup a c =>
          refine ⟨_, _, rfl, .inr (s.t a), ?_⟩
          rw [c.len]
          exact same_end s k rfl (.int _)
      · cases e
  · cases e
theorem lenV_imp {i : Nat} : ∀ σ H Q, LE K (sLenV i) σ H Q → tCB (fun xs H Q => ∃ p ys, xs = [.ref p] ∧ (SqL K H p ys ∨ SqT K H p ys) ∧ Q (.int ys.length) H) (tCons (tVar i) tNil) σ H Q := by
  rintro σ H Q ⟨F, ρ, z, ρ', R, e, k⟩
  unfold sLenV at e
  split at e
  · rename_i sl h
    split at e
    · rename_i r h2
      cases e
      obtain ⟨v, hv⟩ := R.val h
      refine ⟨v, hv, ?_⟩
      rcases R.look h hv with q | ⟨a, vs, xs, rfl, ex, hs, hd⟩
      · exact sp_len [sl.d] _ F H [v] Q h2 R.sub (.cons q .nil) fun v' F' H' ex h => k v' F' H' ((Stp.refl R).ext' ex) ((Stp.refl R).res ex h)
      · rw [ex] at h2
        cases h2
        refine ⟨a, vs, rfl, .inl hs, ?_⟩
        rw [hd.len]
        exact k _ F H (Stp.refl R) (.int _)
    · cases e
  · cases e
end
end Pv

set_option Elab.async false
set_option linter.all false
set_option maxRecDepth 100000
set_option maxHeartbeats 4000000
set_option autoImplicit false
/-! Pv, part D: what is walked, over data. -/
namespace Pv
open PySem PySem.Spec PyProof.Rows L2

abbrev SemI := Sr → Option (List D × Sr)
/-- what is walked yields these data, wherever the frozen part that they were told over is kept -/
structure WalkD (K : PySem.W.Frag) (F0 : Hp) (J : It) (ds : List D) : Prop where
  stop : ∀ F H, Sub F0 F → Sub F H → J.stop ds.length H
  go : ∀ i F H, i < ds.length → Sub F0 F → Sub F H → J.go i H
  yld : ∀ i d F H x H', ds[i]? = some d → Sub F0 F → Sub F H → J.yld i H x H' → ∃ F', Ext F H F' H' ∧ Dq K F' x d
def LI (K : PySem.W.Frag) (s : SemI) : TI := fun σ H R => ∃ F ρ ds ρ', Rel K F ρ σ H ∧ s ρ = some (ds, ρ') ∧ ∀ F' H' J, Stp K F ρ σ H F' ρ' σ H' → WalkD K F' J ds → R J H'
end Pv
namespace L2
open PySem PySem.Spec PyProof.Rows
theorem PI.imp {X : Cx} {tg e : Expr} {t t' : TI} (h : PI X tg e t) (i : ∀ σ H R, t' σ H R → t σ H R) : PI X tg e t' := ⟨fun pins s σ H R I q => h.run pins s σ H R I (i _ _ _ q)⟩
end L2
namespace Pv
open PySem PySem.Spec PyProof.Rows L2

section
variable {X : Cx} {tg : Expr} {K : PySem.W.Frag}
/-! ### a list or a tuple -/
def iSeq (K : PySem.W.Frag) (tl : TE) : TI := fun σ H R => tl σ H fun x H1 => ∃ a, x = .ref a ∧ (((∃ xs, SqL K H1 a xs) ∧ R (Itl K a) H1) ∨ ((∃ xs, SqT K H1 a xs) ∧ R (Itt K a) H1))
theorem pi_seq {l : Expr} {tl : TE} (hl : PE X l tl) : PI X tg l (iSeq X.K tl) := by
  refine ⟨fun pins s σ H R I h => ?_⟩
  refine thn (hl.run pins s σ H _ I h) fun v s1 ⟨x, H1, I1, r1, q1⟩ => ?_
  obtain ⟨a, e, q⟩ := q1
  subst e
  cases r1
  rcases q with ⟨⟨xs, hq⟩, q⟩ | ⟨⟨xs, hq⟩, q⟩
  · obtain ⟨its, rv, p, hz⟩ := I1.list hq
    refine wpAny_pyIter_list p.isList ?_
    refine ⟨s1.heap.objs.size, [s1.heap.objs.size], _, _, H1, rfl, I1.kept (t' := s1.toks) fun b o e => Heap.get?_push_of_some _ e, turn_list a _, ⟨_, Heap.get?_push_size _ rfl, rfl, rfl⟩, fun b hb => ?_, q⟩
    have e : b = s1.heap.objs.size := by simpa using hb
    subst e
    exact I1.fpOk (Nat.le_refl _) (I1.hok.fresh (Nat.le_refl _))
  · obtain ⟨its, rv, p, hz⟩ := I1.tuple hq
    refine wpAny_pyIter_tuple (show s1.heap.IsTuple a its.toArray from p) ?_
    refine ⟨s1.heap.objs.size, [s1.heap.objs.size], _, _, H1, rfl, I1.kept (t' := s1.toks) fun b o e => Heap.get?_push_of_some _ e, turn_tuple a _, ⟨_, Heap.get?_push_size _ rfl, rfl, rfl⟩, fun b hb => ?_, q⟩
    have e : b = s1.heap.objs.size := by simpa using hb
    subst e
    exact I1.fpOk (Nat.le_refl _) (I1.hok.fresh (Nat.le_refl _))
theorem walk_lst {F : Hp} {a : Addr} {vs : List V} {ds : List D} (h : F a = some (.lst vs)) (q : DqAll K F vs ds) : WalkD K F (Itl K a) ds where
  stop := fun F1 H s1 s2 => ⟨vs, .inl (.inl (s2 _ _ (s1 _ _ h))), by rw [q.len]; exact Nat.le_refl _⟩
  go := fun i F1 H hi s1 s2 => ⟨vs, vs[i]'(by rw [q.len]; exact hi), .inl (.inl (s2 _ _ (s1 _ _ h))), by simp⟩
  yld := fun i d F1 H x H' e s1 s2 y => by
    obtain ⟨e1, y⟩ := y
    subst e1
    obtain ⟨v, h1, h2⟩ := q.get e
    have h3 := y vs (.inl (.inl (s2 _ _ (s1 _ _ h))))
    rw [h1] at h3
    cases h3
    exact ⟨F1, Ext.refl s2, s1.dp h2⟩
theorem walk_tpl {F : Hp} {a : Addr} {vs : List V} {ds : List D} (h : SqT K F a vs) (q : DqAll K F vs ds) : WalkD K F (Itt K a) ds where
  stop := fun F1 H s1 s2 => ⟨vs, s2.t (s1.t h), by rw [q.len]; exact Nat.le_refl _⟩
  go := fun i F1 H hi s1 s2 => ⟨vs, vs[i]'(by rw [q.len]; exact hi), s2.t (s1.t h), by simp⟩
  yld := fun i d F1 H x H' e s1 s2 y => by
    obtain ⟨e1, y⟩ := y
    subst e1
    obtain ⟨v, h1, h2⟩ := q.get e
    have h3 := y vs (s2.t (s1.t h))
    rw [h1] at h3
    cases h3
    exact ⟨F1, Ext.refl s2, s1.dp h2⟩
def seqOf : D → Option (List D)
  | .list xs => some xs
  | .tuple xs => some xs
  | _ => none
def iS (a : SemE) : SemI := fun ρ => match a ρ with
  | some (x, ρ1) => (match seqOf x.d with
    | some ds => some (ds, ρ1)
    | none => none)
  | none => none
theorem li_seq {l : Expr} {sa : SemE} (hl : PE X l (LE X.K sa)) : PI X tg l (LI X.K (iS sa)) := (pi_seq hl).imp fun σ H R ⟨F, ρ, ds, ρ', Rl, e, k⟩ => by
  unfold iS at e
  cases ea : sa ρ with
  | none => rw [ea] at e; cases e
  | some p =>
    obtain ⟨x, ρ1⟩ := p
    rw [ea] at e
    cases ef : seqOf x.d with
    | none => simp only [ef] at e; cases e
    | some w =>
      simp only [ef] at e
      cases e
      refine LE.data Rl ea fun v F1 H1 s1 d1 => ?_
      unfold seqOf at ef
      split at ef
      · rename_i xs e1
        cases ef
        rw [e1] at d1
        cases d1 with
        | lst a c => exact ⟨_, rfl, .inl ⟨⟨_, .inl (.inl (s1.rel.sub _ _ a))⟩, k F1 H1 _ s1 (walk_lst a c)⟩⟩
      · rename_i xs e1
        cases ef
        rw [e1] at d1
        cases d1 with
        | tup a c => exact ⟨_, rfl, .inr ⟨⟨_, s1.rel.sub.t a⟩, k F1 H1 _ s1 (walk_tpl a c)⟩⟩
      · cases ef

/-! ### range -/
def rgD (lo : Int) (n : Nat) : List D := (List.range n).map fun i => .int (lo + (i : Nat))
def iRg1 (as : SemL) : SemI := fun ρ => match as ρ with
  | some ([.int j], ρ1) => if j.natAbs < 2 ^ 62 then some (rgD 0 j.toNat, ρ1) else none
  | _ => none
def iRg2 (as : SemL) : SemI := fun ρ => match as ρ with
  | some ([.int i, .int j], ρ1) => if i.natAbs < 2 ^ 62 ∧ j.natAbs < 2 ^ 62 then some (rgD i (j - i).toNat, ρ1) else none
  | _ => none
theorem walk_rg {F : Hp} (lo : Int) (n : Nat) : WalkD K F (Itr lo n) (rgD lo n) where
  stop := fun _ _ _ _ => by
    show n ≤ (rgD lo n).length
    simp [rgD]
  go := fun i _ _ hi _ _ => by
    show i < n
    simpa [rgD] using hi
  yld := fun i d F1 H x H' e s1 s2 y => by
    obtain ⟨e1, e2⟩ := y
    subst e1 e2
    have hi : i < n := by
      have := (List.getElem?_eq_some_iff.mp e).1
      simpa [rgD] using this
    simp [rgD, hi] at e
    subst e
    exact ⟨F1, Ext.refl s2, .int _⟩
theorem li_rg1 {a : Expr} {as : SemL} {p pos : Pos} (hg : Gl X "range") (hm : X.mg "range" = none) (ha : PA X [a] (LA X.K as)) (hs : starEach [a] X.env = [(false, eval a X.env)]) : PI X tg (.Call (.Name "range" p) [a] [] pos) (LI X.K (iRg1 as)) :=
  (pi_range1 hg hm ha hs).imp fun σ H R ⟨F, ρ, ds, ρ', Rl, e, k⟩ => by
    unfold iRg1 at e
    split at e
    · rename_i j ρ1 e1
      split at e
      · rename_i h
        cases e
        refine ⟨F, ρ, _, _, Rl, e1, fun vs F1 H1 s1 d1 => ?_⟩
        cases d1 with
        | cons a b =>
          cases b
          cases a
          exact ⟨j, rfl, by omega, by omega, k F1 H1 _ s1 (walk_rg 0 _)⟩
      · cases e
    · cases e
theorem li_rg2 {a b : Expr} {as : SemL} {p pos : Pos} (hg : Gl X "range") (hm : X.mg "range" = none) (ha : PA X [a, b] (LA X.K as)) (hs : starEach [a, b] X.env = [(false, eval a X.env), (false, eval b X.env)]) (hs2 : starEach [b] X.env = [(false, eval b X.env)]) : PI X tg (.Call (.Name "range" p) [a, b] [] pos) (LI X.K (iRg2 as)) :=
  (pi_range2 hg hm ha hs hs2).imp fun σ H R ⟨F, ρ, ds, ρ', Rl, e, k⟩ => by
    unfold iRg2 at e
    split at e
    · rename_i i j ρ1 e1
      split at e
      · rename_i h
        cases e
        refine ⟨F, ρ, _, _, Rl, e1, fun vs F1 H1 s1 d1 => ?_⟩
        cases d1 with
        | cons a b =>
          cases b with
          | cons b c =>
            cases c
            cases a
            cases b
            exact ⟨i, j, rfl, ⟨by omega, by omega, by omega, by omega⟩, k F1 H1 _ s1 (walk_rg i _)⟩
      · cases e
    · cases e

/-! ### enumerate(list) -/
def enumD : Nat → List D → List D
  | _, [] => []
  | i, x :: xs => .tuple [.int (i : Nat), x] :: enumD (i + 1) xs
theorem enumD_len : ∀ (xs : List D) (i : Nat), (enumD i xs).length = xs.length
  | [], _ => rfl
  | x :: xs, i => congrArg Nat.succ (enumD_len xs (i + 1))
theorem enumD_get : ∀ (xs : List D) (k i : Nat) (d : D), (enumD k xs)[i]? = some d → ∃ x, xs[i]? = some x ∧ d = .tuple [.int ((k + i : Nat) : Int), x]
  | [], _, _, _, h => by simp [enumD] at h
  | x :: xs, k, 0, d, h => by
    simp [enumD] at h
    exact ⟨x, rfl, h.symm⟩
  | x :: xs, k, i + 1, d, h => by
    have h' : (enumD (k + 1) xs)[i]? = some d := by simpa [enumD] using h
    obtain ⟨y, h1, h2⟩ := enumD_get xs (k + 1) i d h'
    refine ⟨y, by simpa using h1, ?_⟩
    rw [h2, show k + 1 + i = k + (i + 1) by omega]
def iEn (as : SemL) : SemI := fun ρ => match as ρ with
  | some ([.list xs], ρ1) => some (enumD 0 xs, ρ1)
  | _ => none
theorem walk_en {F : Hp} {a : Addr} {vs : List V} {ds : List D} (h : F a = some (.lst vs)) (q : DqAll K F vs ds) : WalkD K F (Ite K a) (enumD 0 ds) where
  stop := fun F1 H s1 s2 => ⟨vs, .inl (.inl (s2 _ _ (s1 _ _ h))), by rw [enumD_len, q.len]; exact Nat.le_refl _⟩
  go := fun i F1 H hi s1 s2 => ⟨vs, vs[i]'(by rw [q.len]; rw [enumD_len] at hi; exact hi), .inl (.inl (s2 _ _ (s1 _ _ h))), by simp⟩
  yld := fun i d F1 H x H' e s1 s2 y => by
    obtain ⟨T, v, e1, hT, e2, y⟩ := y
    subst e1 e2
    obtain ⟨d0, h1, rfl⟩ := enumD_get ds 0 i d e
    obtain ⟨v0, h3, h4⟩ := q.get h1
    have h5 := y vs (.inl (.inl (s2 _ _ (s1 _ _ h))))
    rw [h3] at h5
    cases h5
    refine ⟨_, Ext.tup s2 hT, ?_⟩
    rw [Nat.zero_add]
    exact .tup (.inl (.inl upd_same)) (.cons (.int _) (.cons ((Sub.put (s2.nn hT)).dp (s1.dp h4)) .nil))
theorem li_en {e : Expr} {as : SemL} {p pos tpos : Pos} {elts : List Expr} {kk : Nat} (hg : Gl X "enumerate") (hm : X.mg "enumerate" = none) (ha : PA X [e] (LA X.K as)) (hs : starEach [e] X.env = [(false, eval e X.env)]) :
    PI X (.Tuple elts kk tpos) (.Call (.Name "enumerate" p) [e] [] pos) (LI X.K (iEn as)) := (pi_enum hg hm ha hs).imp fun σ H R ⟨F, ρ, ds, ρ', Rl, e, k⟩ => by
  unfold iEn at e
  split at e
  · rename_i xs ρ1 e1
    cases e
    refine ⟨F, ρ, _, _, Rl, e1, fun vs F1 H1 s1 d1 => ?_⟩
    cases d1 with
    | cons a b =>
      cases b
      cases a with
      | lst a c => exact ⟨_, _, rfl, .inl (.inl (s1.rel.sub _ _ a)), k F1 H1 _ s1 (walk_en a c)⟩
  · cases e

/-! ### zip, lists and tuples in any mix -/
def SqB (K : PySem.W.Frag) (k : Bool) (H : Hp) (a : Addr) (xs : List V) : Prop := if k = true then SqT K H a xs else SqL K H a xs
def IsB (k : Bool) (h : Heap) (a : Addr) (its : Array Value) : Prop := if k = true then h.IsTuple a its else h.IsList a its
def IterB (k : Bool) (h : Heap) (it a : Addr) (i : Nat) : Prop := if k = true then h.IsTupleIter it a i else h.IsListIter it a i
theorem IterB.at {k : Bool} {h h' : Heap} {it a : Addr} {i : Nat} (x : IterB k h it a i) (e : ∀ o, h.get? it = some o → h'.get? it = some o) : IterB k h' it a i := by
  cases k with
  | true => exact Heap.IsTupleIter.at x e
  | false => exact Heap.IsListIter.at x e
theorem IterB.obj {k : Bool} {h : Heap} {it a : Addr} {i : Nat} (x : IterB k h it a i) : ∃ o, h.get? it = some o ∧ ∀ v, o.data ≠ .cell v := by
  cases k with
  | true =>
    obtain ⟨o, e, _, d⟩ : h.IsTupleIter it a i := x
    exact ⟨o, e, fun v q => by rw [d] at q; cases q⟩
  | false =>
    obtain ⟨o, e, _, d⟩ : h.IsListIter it a i := x
    exact ⟨o, e, fun v q => by rw [d] at q; cases q⟩
theorem draws_B {prog : Program} {w : World} {A : Around} (hh : A.handled = none) (k : Bool) (it l : Addr) (hne : l ≠ it) (items : Array Value) :
    Draws prog w A it [it, l] items.size (fun i v => items[i]? = some v) (fun i h => IterB k h it l i ∧ IsB k h l items) := by
  cases k with
  | true => exact Draws.tuple hh it l hne items
  | false => exact Draws.list hh it l hne items
theorem begins_B (k : Bool) (l : Addr) (items : Array Value) : ∃ o, Begins (.ref l) o (fun h => IsB k h l items) ∧ ∀ (h : Heap) (it : Addr), h.get? it = some o → IterB k h it l 0 := by
  cases k with
  | true => exact ⟨_, begins_tuple l items, fun h it e => ⟨_, e, rfl, rfl⟩⟩
  | false => exact ⟨_, begins_list l items, fun h it e => ⟨_, e, rfl, rfl⟩⟩
theorem Inv_seqB {X : Cx} {pins : List (Addr × Obj)} {σ : L2.St} {H : Hp} {s : Shared} (I : Inv X pins σ H s) {k : Bool} {a : Addr} {xs : List V} (h : SqB X.K k H a xs) : ∃ its : List Value, Vals xs its ∧ IsB k s.heap a its.toArray := by
  cases k with
  | true =>
    obtain ⟨its, r, p, _⟩ := I.tuple (show SqT X.K H a xs from h)
    exact ⟨its, r, p⟩
  | false =>
    obtain ⟨its, r, p, _⟩ := I.list (show SqL X.K H a xs from h)
    exact ⟨its, r, p.isList⟩
theorem Inv_injB {X : Cx} {pins : List (Addr × Obj)} {σ : L2.St} {H : Hp} {s : Shared} (I : Inv X pins σ H s) {k : Bool} {a : Addr} {xs ys : List V} (h : SqB X.K k H a xs) (h' : SqB X.K k H a ys) : xs = ys := by
  cases k with
  | true => exact I.tuple_inj h h'
  | false => exact I.list_inj h h'
theorem IsB.lt {k : Bool} {h : Heap} {a : Addr} {its : Array Value} (x : IsB k h a its) : a < h.objs.size := by
  cases k with
  | true => obtain ⟨o, e, _⟩ : h.IsTuple a its := x; exact Heap.lt_size e
  | false => obtain ⟨o, e, _⟩ : h.IsList a its := x; exact Heap.lt_size e
def ItzM (K : PySem.W.Frag) (ka kb : Bool) (a b : Addr) : It :=
  ⟨fun i H => ∃ (xs ys : List V) (x y : V), SqB K ka H a xs ∧ SqB K kb H b ys ∧ xs[i]? = some x ∧ ys[i]? = some y,
    fun i H v H' => ∃ T x y, v = .ref T ∧ H T = none ∧ H' = upd H T (.tup [x, y]) ∧ (∀ xs, SqB K ka H a xs → xs[i]? = some x) ∧ ∀ ys, SqB K kb H b ys → ys[i]? = some y,
    fun i H => ∃ xs ys : List V, SqB K ka H a xs ∧ SqB K kb H b ys ∧ i ≤ xs.length ∧ i ≤ ys.length ∧ (i = xs.length ∨ i = ys.length)⟩
theorem turn_zipM {P : Program} {w : World} {K : PySem.W.Frag} {elts : List Expr} {kk : Nat} {tpos : Pos} {ka kb : Bool} {a b z TI TO i1 i2 : Addr} (S : ZipSep2 z TI TO i1 i2 [i1, a] [i2, b]) (n1 : a ≠ i1) (n2 : b ≠ i2) :
    Turn P w K (.Tuple elts kk tpos) (ItzM K ka kb a b) [z, TI, TO, i1, i2] z (fun i h => IsZip h z TI TO .none ∧ IsTupOf2 h TI (.ref i1) (.ref i2) ∧ (∃ x y, IsTupOf2 h TO x y) ∧ IterB ka h i1 a i ∧ IterB kb h i2 b i) where
  mem := by simp
  obj := fun i h st c hc => by
    obtain ⟨hz, hTI, ⟨x, y, hTO⟩, h1, h2⟩ := st
    have e' : c = z ∨ c = TI ∨ c = TO ∨ c = i1 ∨ c = i2 := by simpa using hc
    rcases e' with q | q | q | q | q
    · rw [q]; exact ⟨_, hz, fun v q => nomatch q⟩
    · rw [q]; exact ⟨_, hTI, fun v q => nomatch q⟩
    · rw [q]; exact ⟨_, hTO, fun v q => nomatch q⟩
    · rw [q]; exact h1.obj
    · rw [q]; exact h2.obj
  keep := fun i h h' st k => by
    obtain ⟨hz, hTI, ⟨x, y, hTO⟩, h1, h2⟩ := st
    exact ⟨k z (by simp) _ hz, k TI (by simp) _ hTI, ⟨x, y, k TO (by simp) _ hTO⟩, h1.at fun o q => k i1 (by simp) o q, h2.at fun o q => k i2 (by simp) o q⟩
  item := by
    intro X hP hw hK hc i pins s σ H E I hf st hg
    subst hP hw hK
    obtain ⟨hz, hTI, ⟨x0, y0, hTO⟩, h1, h2⟩ := st
    obtain ⟨xs, ys, x, y, hqx, hqy, hx, hy⟩ := hg
    obtain ⟨its, rv, p⟩ := Inv_seqB I hqx
    obtain ⟨its2, rv2, p2⟩ := Inv_seqB I hqy
    obtain ⟨u, hu, ru⟩ := rv.get hx
    obtain ⟨u2, hu2, ru2⟩ := rv2.get hy
    have hzl : z < s.heap.objs.size := Heap.lt_size hz
    have hh : X.A.in1.handled = none := I.ok.hd hc
    have l1 : i < its.toArray.size := by have := (List.getElem?_eq_some_iff.mp hu).1; simpa using this
    have l2 : i < its2.toArray.size := by have := (List.getElem?_eq_some_iff.mp hu2).1; simpa using this
    refine wpAny_pyNext_zipD2_item S (draws_B hh ka i1 a n1 its.toArray) (draws_B hh kb i2 b n2 its2.toArray) hz hTI hTO ⟨h1, p⟩ ⟨h2, p2⟩ l1 l2 fun x1 x2 h' tk e1 e2 z' TO' s1' s2' hT hsz hk => ?_
    have q1 : x1 = u := by
      rw [List.getElem?_toArray, hu] at e1
      exact (Option.some.inj e1).symm
    have q2 : x2 = u2 := by
      rw [List.getElem?_toArray, hu2] at e2
      exact (Option.some.inj e2).symm
    subst q1 q2
    refine ⟨_, rfl, wpAny_letOwnedTupleGo_zip (s := { s with heap := h', toks := tk }) z' fun h'' z'' sb => ?_⟩
    have hT2 : h''.get? s.heap.objs.size = some { cls := .type "tuple", data := .seq #[x1, x2] } := (sb.2 _ (Nat.ne_of_gt hzl)).trans hT
    have new : ObjOk X.prog X.w (upd H s.heap.objs.size (.tup [x, y])) h'' s.heap.objs.size (.tup [x, y]) :=
      ⟨by show 2 ≤ sizeLine; decide, [x1, x2], .cons ru (.cons ru2 .nil), ⟨_, hT2, rfl, _, rfl⟩⟩
    have I1 : Inv X pins σ (upd H s.heap.objs.size (.tup [x, y])) { s with heap := h'', toks := tk } :=
      I.turnedNew (t' := tk) (ch := [z, TI, TO, i1, i2]) (fun c o hb q => (sb.2 c (fun q' => hb (by simp [q']))).trans (hk c o (fun q' => hb (by simp [q'])) (fun q' => hb (by simp [q'])) (fun q' => hb (by simp [q'])) (fun q' => hb (by simp [q'])) q)) hf (Nat.le_refl _) new
    refine ⟨.ref s.heap.objs.size, _, I1, rfl, ⟨_, x, y, rfl, I.hok.fresh (Nat.le_refl _), rfl, fun l hl => by rw [Inv_injB I hl hqx]; exact hx, fun l hl => by rw [Inv_injB I hl hqy]; exact hy⟩, ⟨z'', ?_, ⟨x1, x2, ?_⟩, ?_, ?_⟩, fun c hcm => ?_⟩
    · exact (sb.2 _ S.TIz).trans (hk _ _ S.TIz S.TITO S.TIi1 S.TIi2 hTI)
    · exact (sb.2 _ S.TOz).trans TO'
    · exact s1'.1.at fun o q => (sb.2 _ (Ne.symm S.zi1)).trans q
    · exact s2'.1.at fun o q => (sb.2 _ (Ne.symm S.zi2)).trans q
    · have hlt : c < s.heap.objs.size := by
        have e' : c = z ∨ c = TI ∨ c = TO ∨ c = i1 ∨ c = i2 := by simpa using hcm
        rcases e' with q | q | q | q | q
        · rw [q]; exact hzl
        · rw [q]; exact Heap.lt_size hTI
        · rw [q]; exact Heap.lt_size hTO
        · rw [q]; obtain ⟨_, e1, _⟩ := h1.obj; exact Heap.lt_size e1
        · rw [q]; obtain ⟨_, e2, _⟩ := h2.obj; exact Heap.lt_size e2
      rw [upd_ne (Nat.ne_of_lt hlt)]
      exact (hf c hcm).1
  done := by
    intro X hP hw hK hc i pins s σ H E I hf st hg
    subst hP hw hK
    obtain ⟨hz, hTI, ⟨x0, y0, hTO⟩, h1, h2⟩ := st
    obtain ⟨xs, ys, hqx, hqy, g1, g2, hend⟩ := hg
    obtain ⟨its, rv, p⟩ := Inv_seqB I hqx
    obtain ⟨its2, rv2, p2⟩ := Inv_seqB I hqy
    have l1 := rv.length
    have l2 := rv2.length
    have hh : X.A.in1.handled = none := I.ok.hd hc
    exact wpAny_pyNext_zipD2_end S (draws_B hh ka i1 a n1 its.toArray) (draws_B hh kb i2 b n2 its2.toArray) hz hTI hTO ⟨h1, p⟩ ⟨h2, p2⟩ (by simp; omega) (by simp; omega) (by simp; omega) fun h' tk hk => ⟨rfl, I.turnedL (t' := tk) (ch := [z, TI, TO, i1, i2]) (fun c o hb q =>
      hk c o (fun q' => hb (by simp [q'])) (fun q' => hb (by simp [q'])) (fun q' => hb (by simp [q'])) (fun q' => hb (by simp [q'])) q) hf⟩
  self := fun A i s Q E st h => wpAny_pyIter_zip st.1 h
def iZipM (K : PySem.W.Frag) (ta : TA) : TI := fun σ H R => ta σ H fun vs H1 => ∃ ka kb a b xs ys, vs = [.ref a, .ref b] ∧ SqB K ka H1 a xs ∧ SqB K kb H1 b ys ∧ R (ItzM K ka kb a b) H1
theorem pi_zipM {X : Cx} {e e2 : Expr} {ta : TA} {p pos tpos : Pos} {elts : List Expr} {kk : Nat} (hg : Gl X "zip") (hm : X.mg "zip" = none) (ha : PA X [e, e2] ta)
    (hs : starEach [e, e2] X.env = (false, eval e X.env) :: starEach [e2] X.env) (hpl : (backTo pos (starEach [e2] X.env)).any (·.1) = false) :
    PI X (.Tuple elts kk tpos) (.Call (.Name "zip" p) [e, e2] [] pos) (iZipM X.K ta) := by
  refine ⟨fun pins s σ H R I h => ?_⟩
  refine Call_ (ld_blt I hg hm PyProof.Rows.boot_zip (PyProof.Rows.callWith_type1 (thn (ha.run pos pins s σ H _ I h) fun us s1 ⟨vs, H1, I1, r1, q1⟩ => ?_) hs hpl))
  obtain ⟨ka, kb, a, b, xs, ys, ex, hqx, hqy, q⟩ := q1
  subst ex
  cases r1 with
  | cons r rr =>
    cases rr with
    | cons r' rr =>
      cases rr
      cases r
      cases r'
      obtain ⟨its, rv, p1⟩ := Inv_seqB I1 hqx
      obtain ⟨its2, rv2, p2⟩ := Inv_seqB I1 hqy
      have la : a < s1.heap.objs.size := p1.lt
      have lb : b < s1.heap.objs.size := p2.lt
      obtain ⟨o1, B1, g1⟩ := begins_B ka a its.toArray
      obtain ⟨o2, B2, g2⟩ := begins_B kb b its2.toArray
      refine zip_begins2 B1 B2 p1 p2 fun h' hz hTI hTO h1 h2 hsz hk => wpAny_pyIter_zip hz ?_
      have I2 : Inv X pins σ H1 { s1 with heap := h' } := I1.kept (t' := s1.toks) hk
      have S : ZipSep2 (s1.heap.objs.size + 4) (s1.heap.objs.size + 2) (s1.heap.objs.size + 3) s1.heap.objs.size (s1.heap.objs.size + 1) [s1.heap.objs.size, a] [s1.heap.objs.size + 1, b] :=
        zip_sep2 (N := s1.heap.objs.size) (fp1 := [a]) (fp2 := [b]) (fun c hc => by rw [List.mem_singleton.mp hc]; exact la) (fun c hc => by rw [List.mem_singleton.mp hc]; exact lb)
      refine ⟨s1.heap.objs.size + 4, [s1.heap.objs.size + 4, s1.heap.objs.size + 2, s1.heap.objs.size + 3, s1.heap.objs.size, s1.heap.objs.size + 1], _, _, H1, rfl, I2, turn_zipM S (Nat.ne_of_lt la) (Nat.ne_of_lt (Nat.lt_succ_of_lt lb)), ⟨hz, hTI, ⟨_, _, hTO⟩, g1 _ _ h1, g2 _ _ h2⟩, fun c hcm => ?_, q⟩
      have e' : c = s1.heap.objs.size + 4 ∨ c = s1.heap.objs.size + 2 ∨ c = s1.heap.objs.size + 3 ∨ c = s1.heap.objs.size ∨ c = s1.heap.objs.size + 1 := by simpa using hcm
      have hle : s1.heap.objs.size ≤ c := by
        rcases e' with z | z | z | z | z
        · rw [z]; exact Nat.le_add_right _ _
        · rw [z]; exact Nat.le_add_right _ _
        · rw [z]; exact Nat.le_add_right _ _
        · rw [z]; exact Nat.le_refl _
        · rw [z]; exact Nat.le_add_right _ _
      exact I1.fpOk hle (I1.hok.fresh hle)
def zipD : List D → List D → List D
  | x :: xs, y :: ys => .tuple [x, y] :: zipD xs ys
  | _, _ => []
theorem zipD_len : ∀ xs ys : List D, (zipD xs ys).length = min xs.length ys.length
  | [], ys => by simp [zipD]
  | x :: xs, [] => by simp [zipD]
  | x :: xs, y :: ys => by simp [zipD, zipD_len xs ys]
theorem zipD_get : ∀ (xs ys : List D) (i : Nat) (d : D), (zipD xs ys)[i]? = some d → ∃ x y, xs[i]? = some x ∧ ys[i]? = some y ∧ d = .tuple [x, y]
  | [], _, _, _, h => by simp [zipD] at h
  | x :: xs, [], _, _, h => by simp [zipD] at h
  | x :: xs, y :: ys, 0, d, h => by
    simp [zipD] at h
    exact ⟨x, y, rfl, rfl, h.symm⟩
  | x :: xs, y :: ys, i + 1, d, h => by
    have h' : (zipD xs ys)[i]? = some d := by simpa [zipD] using h
    obtain ⟨a, b, h1, h2, h3⟩ := zipD_get xs ys i d h'
    exact ⟨a, b, by simpa using h1, by simpa using h2, h3⟩
def iZp (as : SemL) : SemI := fun ρ => match as ρ with
  | some ([x, y], ρ1) => (match seqOf x, seqOf y with
    | some xs, some ys => some (zipD xs ys, ρ1)
    | _, _ => none)
  | _ => none
/-- a datum's list | tuple, frozen -/
theorem seq_frozen {F : Hp} {v : V} {d : D} {ds : List D} (h : seqOf d = some ds) (q : Dq K F v d) : ∃ k a vs, v = .ref a ∧ DqAll K F vs ds ∧ ∀ F1 H, Sub F F1 → Sub F1 H → SqB K k H a vs := by
  unfold seqOf at h
  split at h
  · cases h
    cases q with
    | lst a c => exact ⟨false, _, _, rfl, c, fun F1 H s1 s2 => .inl (.inl (s2 _ _ (s1 _ _ a)))⟩
  · cases h
    cases q with
    | tup a c => exact ⟨true, _, _, rfl, c, fun F1 H s1 s2 => s2.t (s1.t a)⟩
  · cases h
theorem walk_zp {F : Hp} {ka kb : Bool} {a b : Addr} {vs ws : List V} {ds es : List D} (h1 : ∀ F1 H, Sub F F1 → Sub F1 H → SqB K ka H a vs) (h2 : ∀ F1 H, Sub F F1 → Sub F1 H → SqB K kb H b ws) (q1 : DqAll K F vs ds) (q2 : DqAll K F ws es) :
    WalkD K F (ItzM K ka kb a b) (zipD ds es) where
  stop := fun F1 H s1 s2 => ⟨vs, ws, h1 F1 H s1 s2, h2 F1 H s1 s2, by rw [zipD_len, q1.len]; exact Nat.min_le_left _ _, by rw [zipD_len, q2.len]; exact Nat.min_le_right _ _, by rw [zipD_len, q1.len, q2.len]; omega⟩
  go := fun i F1 H hi s1 s2 => by
    rw [zipD_len] at hi
    exact ⟨vs, ws, vs[i]'(by rw [q1.len]; omega), ws[i]'(by rw [q2.len]; omega), h1 F1 H s1 s2, h2 F1 H s1 s2, by simp, by simp⟩
  yld := fun i d F1 H x H' e s1 s2 y => by
    obtain ⟨T, v, u, e1, hT, e2, y1, y2⟩ := y
    subst e1 e2
    obtain ⟨d1, d2, g1, g2, rfl⟩ := zipD_get ds es i d e
    obtain ⟨v1, h3, h4⟩ := q1.get g1
    obtain ⟨v2, h5, h6⟩ := q2.get g2
    have h7 := y1 vs (h1 F1 H s1 s2)
    have h8 := y2 ws (h2 F1 H s1 s2)
    rw [h3] at h7
    rw [h5] at h8
    cases h7
    cases h8
    have sp : ∀ o, Sub F1 (upd F1 T o) := fun o => Sub.put (s2.nn hT)
    exact ⟨_, Ext.tup s2 hT, .tup (.inl (.inl upd_same)) (.cons ((sp _).dp (s1.dp h4)) (.cons ((sp _).dp (s1.dp h6)) .nil))⟩
theorem li_zp {e e2 : Expr} {as : SemL} {p pos tpos : Pos} {elts : List Expr} {kk : Nat} (hg : Gl X "zip") (hm : X.mg "zip" = none) (ha : PA X [e, e2] (LA X.K as))
    (hs : starEach [e, e2] X.env = (false, eval e X.env) :: starEach [e2] X.env) (hpl : (backTo pos (starEach [e2] X.env)).any (·.1) = false) :
    PI X (.Tuple elts kk tpos) (.Call (.Name "zip" p) [e, e2] [] pos) (LI X.K (iZp as)) := (pi_zipM hg hm ha hs hpl).imp fun σ H R ⟨F, ρ, ds, ρ', Rl, e, k⟩ => by
  unfold iZp at e
  split at e
  · rename_i x y ρ1 e1
    split at e
    · rename_i xs ys g1 g2
      cases e
      refine ⟨F, ρ, _, _, Rl, e1, fun vs F1 H1 s1 d1 => ?_⟩
      cases d1 with
      | cons a b =>
        cases b with
        | cons b c =>
          cases c
          obtain ⟨ka, a1, vs1, rfl, qa, fa⟩ := seq_frozen g1 a
          obtain ⟨kb, b1, vs2, rfl, qb, fb⟩ := seq_frozen g2 b
          exact ⟨ka, kb, a1, b1, vs1, vs2, rfl, fa F1 H1 (Sub.refl _) s1.rel.sub, fb F1 H1 (Sub.refl _) s1.rel.sub, k F1 H1 _ s1 (walk_zp fa fb qa qb)⟩
    · cases e
  · cases e
end
end Pv

set_option Elab.async false
set_option linter.all false
set_option maxRecDepth 100000
set_option maxHeartbeats 4000000
set_option autoImplicit false
/-! Pv, part E: targets, comprehensions. -/
namespace Pv
open PySem PySem.Spec PyProof.Rows L2

/-- only slots of ws are stored -/
structure Out (ws : List Nat) (σ σ' : L2.St) : Prop where
  ln : σ'.length = σ.length
  at_ : ∀ i, i ∉ ws → σ'[i]? = σ[i]?
theorem Out.refl {ws : List Nat} {σ : L2.St} : Out ws σ σ := ⟨rfl, fun _ _ => rfl⟩
theorem Out.trans {ws : List Nat} {σ σ1 σ2 : L2.St} (a : Out ws σ σ1) (b : Out ws σ1 σ2) : Out ws σ σ2 := ⟨b.ln.trans a.ln, fun i h => (b.at_ i h).trans (a.at_ i h)⟩
theorem Out.mono {ws us : List Nat} {σ σ' : L2.St} (a : Out ws σ σ') (h : ∀ i ∈ ws, i ∈ us) : Out us σ σ' := ⟨a.ln, fun i q => a.at_ i fun z => q (h i z)⟩
theorem Out.pin {ws refs : List Nat} {σ σ' : L2.St} (a : Out ws σ σ') (h : ∀ i ∈ refs, i ∉ ws) : Pin refs σ σ' := fun i q => a.at_ i (h i q)
abbrev SemGs := List D → Sr → Option Sr
def LGt (K : PySem.W.Frag) (ws : List Nat) (g : SemG) : TG := fun v σ H Q => ∃ F ρ d ρ', Rel K F ρ σ H ∧ Dq K F v d ∧ g d ρ = some ρ' ∧ ∀ F' σ' H', Stp K F ρ σ H F' ρ' σ' H' → Out ws σ σ' → Q σ' H'
def LGs (K : PySem.W.Frag) (ws : List Nat) (g : SemGs) : TGs := fun vs σ H Q => ∃ F ρ ds ρ', Rel K F ρ σ H ∧ DqAll K F vs ds ∧ g ds ρ = some ρ' ∧ ∀ F' σ' H', Stp K F ρ σ H F' ρ' σ' H' → Out ws σ σ' → Q σ' H'
end Pv
namespace L2
open PySem PySem.Spec PyProof.Rows
theorem PGs.imp {X : Cx} {es : List Expr} {t t' : TGs} (h : PGs X es t) (i : ∀ v σ H Q, t' v σ H Q → t v σ H Q) : PGs X es t' := ⟨fun pins s σ H v u Q I r q => h.run pins s σ H v u Q I r (i _ _ _ _ q)⟩
end L2
namespace Pv
open PySem PySem.Spec PyProof.Rows L2

/-! ### storing into a slot -/
section
variable {K : PySem.W.Frag} {F H : Hp} {ρ : Sr} {σ : L2.St}
theorem set_get {α : Type} {l : List α} {i j : Nat} {a b : α} (h : (l.set i a)[j]? = some b) : (j = i ∧ a = b ∧ i < l.length) ∨ (j ≠ i ∧ l[j]? = some b) := by
  by_cases e : j = i
  · subst e
    have hj : j < l.length := by
      have := (List.getElem?_eq_some_iff.mp h).1
      simpa using this
    rw [List.getElem?_set_self hj] at h
    exact .inl ⟨rfl, Option.some.inj h, hj⟩
  · rw [List.getElem?_set_ne (Ne.symm e)] at h
    exact .inr ⟨e, h⟩
/-- a datum is stored -/
theorem Rel.set_va (R : Rel K F ρ σ H) (i : Nat) {v : V} {d : D} (q : Dq K F v d) : Stp K F ρ σ H F (ρ.set i (some (.va d))) (σ.set i (some v)) H where
  rel := ⟨R.sub, fun j e h => by
      rcases set_get h with ⟨rfl, e1, hi⟩ | ⟨ne, h⟩
      · cases e1
        exact ⟨v, by rw [List.getElem?_set_self (by rw [← R.ln]; exact hi)], q⟩
      · rw [List.getElem?_set_ne (Ne.symm ne)]
        exact R.va j e h, fun j xs h => by
      rcases set_get h with ⟨rfl, e1, hi⟩ | ⟨ne, h⟩
      · cases e1
      · rw [List.getElem?_set_ne (Ne.symm ne)]
        exact R.ow j xs h, fun j xs h => by
      rcases set_get h with ⟨rfl, e1, hi⟩ | ⟨ne, h⟩
      · cases e1
      · rw [List.getElem?_set_ne (Ne.symm ne)]
        exact R.sc j xs h, fun j k xs ys a h1 h2 h3 h4 => by
      rcases set_get h1 with ⟨rfl, e1, hi⟩ | ⟨n1, h1⟩
      · cases e1
      · rcases set_get h2 with ⟨rfl, e1, hi⟩ | ⟨n2, h2⟩
        · cases e1
        · rw [List.getElem?_set_ne (Ne.symm n1)] at h3
          rw [List.getElem?_set_ne (Ne.symm n2)] at h4
          exact R.ne j k xs ys a h1 h2 h3 h4, by rw [List.length_set, List.length_set]; exact R.ln⟩
  ext := Sub.refl F
  new := fun _ h => .inl h
  keep := fun _ _ h _ => h
  owns := fun a ⟨j, xs, h1, h2⟩ => by
    rcases set_get h1 with ⟨rfl, e1, hi⟩ | ⟨n1, h1⟩
    · cases e1
    · rw [List.getElem?_set_ne (Ne.symm n1)] at h2
      exact .inl ⟨j, xs, h1, h2⟩
  dom := fun _ h => h
/-- a list that nobody else holds is stored -/
theorem Rel.set_ow (R : Rel K F ρ σ H) (i : Nat) {a : Addr} {vs : List V} {xs : List D} (h1 : H a = some (.lst vs)) (h2 : F a = none) (h3 : ¬ Own ρ σ a) (q : DqAll K F vs xs) : Rel K F (ρ.set i (some (.ow xs))) (σ.set i (some (.ref a))) H :=
  ⟨R.sub, fun j e h => by
      rcases set_get h with ⟨rfl, e1, hi⟩ | ⟨ne, h⟩
      · cases e1
      · rw [List.getElem?_set_ne (Ne.symm ne)]
        exact R.va j e h, fun j ys h => by
      rcases set_get h with ⟨rfl, e1, hi⟩ | ⟨ne, h⟩
      · cases e1
        exact ⟨a, vs, by rw [List.getElem?_set_self (by rw [← R.ln]; exact hi)], h1, h2, q⟩
      · rw [List.getElem?_set_ne (Ne.symm ne)]
        exact R.ow j ys h, fun j ys h => by
      rcases set_get h with ⟨rfl, e1, hi⟩ | ⟨ne, h⟩
      · cases e1
      · rw [List.getElem?_set_ne (Ne.symm ne)]
        exact R.sc j ys h, fun j k ys zs b g1 g2 g3 g4 => by
      rcases set_get g1 with ⟨rfl, e1, hi⟩ | ⟨n1, p1⟩
      · rcases set_get g2 with ⟨rfl, e2, hi2⟩ | ⟨n2, g2⟩
        · rfl
        · rw [List.getElem?_set_self (by rw [← R.ln]; exact hi)] at g3
          rw [List.getElem?_set_ne (Ne.symm n2)] at g4
          cases g3
          exact absurd ⟨k, zs, g2, g4⟩ h3
      · rcases set_get g2 with ⟨rfl, e2, hi2⟩ | ⟨n2, g2⟩
        · rw [List.getElem?_set_self (by rw [← R.ln]; exact hi2)] at g4
          rw [List.getElem?_set_ne (Ne.symm n1)] at g3
          cases g4
          exact absurd ⟨j, ys, p1, g3⟩ h3
        · rw [List.getElem?_set_ne (Ne.symm n1)] at g3
          rw [List.getElem?_set_ne (Ne.symm n2)] at g4
          exact R.ne j k ys zs b p1 g2 g3 g4, by rw [List.length_set, List.length_set]; exact R.ln⟩
/-- an owned slot's list is changed -/
theorem Rel.put (R : Rel K F ρ σ H) {i : Nat} {a : Addr} {xs ys : List D} {vs : List V} (e : ρ[i]? = some (some (.ow xs))) (ea : σ[i]? = some (some (.ref a))) (q : DqAll K F vs ys) :
    Stp K F ρ σ H F (ρ.set i (some (.ow ys))) σ (upd H a (.lst vs)) := by
  obtain ⟨fa, us, ha⟩ := R.own ⟨i, xs, e, ea⟩
  have hi : i < ρ.length := (List.getElem?_eq_some_iff.mp e).1
  refine ⟨⟨fun b o h => ?_, fun j d h => ?_, fun j zs h => ?_, fun j zs h => ?_, fun j k zs ws b g1 g2 g3 g4 => ?_, by rw [List.length_set]; exact R.ln⟩, Sub.refl F, fun _ h => .inl h, fun b o h no => ?_, fun b h => ?_, fun b h => ?_⟩
  · rw [upd_ne (fun z => by rw [z, fa] at h; cases h)]
    exact R.sub _ _ h
  · rcases set_get h with ⟨rfl, e1, _⟩ | ⟨ne, h⟩
    · cases e1
    · exact R.va j d h
  · rcases set_get h with ⟨rfl, e1, _⟩ | ⟨ne, h⟩
    · cases e1
      exact ⟨a, vs, ea, upd_same, fa, q⟩
    · obtain ⟨b, ws, g1, g2, g3, g4⟩ := R.ow j zs h
      have nb : b ≠ a := fun z => ne (R.ne j i zs xs a h e (by rw [← z]; exact g1) ea)
      exact ⟨b, ws, g1, by rw [upd_ne nb]; exact g2, g3, g4⟩
  · rcases set_get h with ⟨rfl, e1, _⟩ | ⟨ne, h⟩
    · cases e1
    · exact R.sc j zs h
  · have f1 : ∃ zs', ρ[j]? = some (some (.ow zs')) := by
      rcases set_get g1 with ⟨rfl, e1, _⟩ | ⟨ne, h⟩
      · exact ⟨xs, e⟩
      · exact ⟨zs, h⟩
    have f2 : ∃ zs', ρ[k]? = some (some (.ow zs')) := by
      rcases set_get g2 with ⟨rfl, e1, _⟩ | ⟨ne, h⟩
      · exact ⟨xs, e⟩
      · exact ⟨ws, h⟩
    obtain ⟨z1, f1⟩ := f1
    obtain ⟨z2, f2⟩ := f2
    exact R.ne j k z1 z2 b f1 f2 g3 g4
  · rw [upd_ne (fun z => no ⟨i, xs, e, by rw [z]; exact ea⟩)]
    exact h
  · obtain ⟨j, zs, g1, g2⟩ := h
    rcases set_get g1 with ⟨rfl, e1, _⟩ | ⟨ne, g1⟩
    · exact .inl ⟨j, xs, e, g2⟩
    · exact .inl ⟨j, zs, g1, g2⟩
  · by_cases z : b = a
    · subst z; rw [upd_same]; simp
    · rw [upd_ne z]; exact h
end

/-! ### targets -/
def gN (i : Nat) : SemG := fun d ρ => some (ρ.set i (some (.va d)))
def gT (gs : SemGs) : SemG := fun d ρ => match d with
  | .tuple ds => gs ds ρ
  | .list ds => gs ds ρ
  | _ => none
def gsNil : SemGs := fun ds ρ => match ds with
  | [] => some ρ
  | _ => none
def gsCons (g : SemG) (gs : SemGs) : SemGs := fun ds ρ => match ds with
  | d :: r => (match g d ρ with
    | some ρ1 => gs r ρ1
    | none => none)
  | [] => none
/-- x[b] = d, x a name -/
def gSbV (i : Nat) (sb : SemE) : SemG := fun d ρ => match ρ[i]? with
  | some (some _) => (match sb ρ with
    | some (y, ρ1) => (match ρ1[i]?, y.d with
      | some (some (.ow xs)), .int k => (match ixN xs.length k with
        | some j => some (ρ1.set i (some (.ow (xs.set j d))))
        | none => none)
      | _, _ => none)
    | none => none)
  | _ => none
section
variable {X : Cx} {K : PySem.W.Frag} {pos : Pos}
theorem lg_name {i : Nat} {x : Str} (hN : X.N.Nodup) (hi : X.N[i]? = some x) (hx : Loc X.env.scope x) (hf : X.fn x = true ∨ X.env.scope.names.lookup x = some .local) : PG X (.Name x pos) (LGt X.K [i] (gN i)) :=
  (pg_name hN hi hx hf).imp fun v σ H Q ⟨F, ρ, d, ρ', R, q, e, k⟩ => by
    cases e
    exact k F _ H (R.set_va i q) ⟨by rw [List.length_set], fun j hj => by rw [List.getElem?_set_ne (fun z => hj (by rw [z]; exact List.mem_cons_self))]⟩
theorem lgs_nil : PGs X [] (LGs X.K [] gsNil) := pgs_nil.imp fun vs σ H Q ⟨F, ρ, ds, ρ', R, q, e, k⟩ => by
  unfold gsNil at e
  split at e
  · cases e
    cases q
    exact ⟨rfl, k F σ H (Stp.refl R) Out.refl⟩
  · cases e
theorem lgs_cons {e : Expr} {es : List Expr} {ws us : List Nat} {g : SemG} {gs : SemGs} (h1 : PG X e (LGt X.K ws g)) (h2 : PGs X es (LGs X.K us gs))
    (hs : (assignEach (e :: es) X.env).map (·.2) = assign e X.env :: (assignEach es X.env).map (·.2)) : PGs X (e :: es) (LGs X.K (ws ++ us) (gsCons g gs)) :=
  (pgs_cons h1 h2 hs).imp fun vs σ H Q ⟨F, ρ, ds, ρ', R, q, e, k⟩ => by
    unfold gsCons at e
    split at e
    · rename_i d r
      split at e
      · rename_i ρ1 e1
        cases q with
        | cons q1 q2 =>
          refine ⟨_, _, rfl, F, ρ, d, ρ1, R, q1, e1, fun F1 σ1 H1 s1 o1 => ?_⟩
          refine ⟨F1, ρ1, r, ρ', s1.rel, s1.ext.dps q2, e, fun F2 σ2 H2 s2 o2 => ?_⟩
          exact k F2 σ2 H2 (s1.trans s2) ((o1.mono fun i h => List.mem_append_left _ h).trans (o2.mono fun i h => List.mem_append_right _ h))
      · cases e
    · cases e
theorem pg_either {e : Expr} {t u : TG} (h1 : PG X e t) (h2 : PG X e u) : PG X e (fun v σ H Q => t v σ H Q ∨ u v σ H Q) := ⟨fun pins s σ H v w Q I r h => h.elim (h1.run pins s σ H v w Q I r) (h2.run pins s σ H v w Q I r)⟩
theorem lg_tup {es : List Expr} {k : Nat} {ws : List Nat} {gs : SemGs} (hc : X.calm = true) (h : PGs X es (LGs X.K ws gs)) (hn : ∀ ds ρ ρ', gs ds ρ = some ρ' → ds.length = es.length) (hn2 : (assignEach es X.env).length = es.length) (hst : (assignEach es X.env).findIdx? (·.1) = none) :
    PG X (.Tuple es k pos) (LGt X.K ws (gT gs)) := (pg_either (pg_tup hc h hn2 hst) (pg_unl hc h hn2 hst)).imp fun v σ H Q ⟨F, ρ, d, ρ', R, q, e, k⟩ => by
  unfold gT at e
  split at e
  · rename_i ds
    cases q with
    | tup a c => exact .inl ⟨_, _, rfl, R.sub.t a, by rw [c.len]; exact hn _ _ _ e, F, ρ, ds, ρ', R, c, e, k⟩
  · rename_i ds
    cases q with
    | lst a c => exact .inr ⟨_, _, rfl, .inl (.inl (R.sub _ _ a)), by rw [c.len]; exact hn _ _ _ e, F, ρ, ds, ρ', R, c, e, k⟩
  · cases e
theorem lg_sub {i : Nat} {x : Str} {b : Expr} {sb : SemE} {p : Pos} (hN : X.N[i]? = some x) (hv : Vis X.env.scope x) (hd : (x == ("__debug__" : Str)) = false) (hcd : (x == ("__classdict__" : Str)) = false) (hb : PE X b (LE X.K sb))
    (ha : ∀ v, assign (.Subscript (.Name x p) b pos) X.env v = (do
      let ov ← holding [v] (eval (.Name x p) X.env)
      let iv ← holding [v, ov] (eval b X.env)
      standAt pos
      holding [v, ov, iv] (setItem ov iv v)
      release [v, ov, iv] [])) : PG X (.Subscript (.Name x p) b pos) (LGt X.K [] (gSbV i sb)) :=
  (pg_sub (pe_var hN hv hd hcd) hb set_list ha).imp fun v σ H Q ⟨F, ρ, d, ρ', R, q, e, k⟩ => by
    unfold gSbV at e
    split at e
    · rename_i sl0 h0
      obtain ⟨w, hw⟩ := R.val h0
      refine ⟨w, hw, ?_⟩
      split at e
      · rename_i y ρ1 h1
        refine LE.data R h1 fun vy F1 H1 s1 d1 => ?_
        split at e
        · rename_i xs kk h2 h3
          split at e
          · rename_i j h4
            cases e
            obtain ⟨a, vs, g1, g2, g3, g4⟩ := s1.rel.ow i xs h2
            rw [hw] at g1
            cases g1
            rw [h3] at d1
            cases d1
            refine ⟨a, vs, kk, j, rfl, rfl, g2, by rw [g4.len]; exact h4, ?_⟩
            exact k F1 σ _ (s1.trans (s1.rel.put h2 hw (g4.set (s1.ext.dp q) j))) Out.refl
          · cases e
        · cases e
      · cases e
    · cases e
end

/-! ### a block's own slots -/
def wipeR (ρ : Sr) : List Nat → Sr
  | [] => ρ
  | v :: vs => (wipeR ρ vs).set v none
def backR (ρ0 ρ : Sr) : List Nat → Sr
  | [] => ρ
  | v :: vs => (backR ρ0 ρ vs).set v (ρ0[v]?.getD none)
theorem wipeR_len (ρ : Sr) : ∀ vs : List Nat, (wipeR ρ vs).length = ρ.length
  | [] => rfl
  | v :: vs => by unfold wipeR; rw [List.length_set, wipeR_len ρ vs]
theorem wipeR_some {ρ : Sr} {i : Nat} {sl : Sl} : ∀ {vs : List Nat}, (wipeR ρ vs)[i]? = some (some sl) → i ∉ vs ∧ ρ[i]? = some (some sl)
  | [], h => ⟨by simp, h⟩
  | v :: vs, h => by
    unfold wipeR at h
    rcases set_get h with ⟨_, e, _⟩ | ⟨ne, h⟩
    · cases e
    · obtain ⟨h1, h2⟩ := wipeR_some h
      exact ⟨by simp only [List.mem_cons, not_or]; exact ⟨ne, h1⟩, h2⟩
theorem backR_len (ρ0 ρ : Sr) : ∀ vs : List Nat, (backR ρ0 ρ vs).length = ρ.length
  | [] => rfl
  | v :: vs => by unfold backR; rw [List.length_set, backR_len ρ0 ρ vs]
theorem backR_some {ρ0 ρ : Sr} (hl : ρ0.length = ρ.length) {i : Nat} {sl : Sl} : ∀ {vs : List Nat}, (backR ρ0 ρ vs)[i]? = some (some sl) → (i ∈ vs ∧ ρ0[i]? = some (some sl)) ∨ (i ∉ vs ∧ ρ[i]? = some (some sl))
  | [], h => .inr ⟨by simp, h⟩
  | v :: vs, h => by
    unfold backR at h
    rcases set_get h with ⟨e1, e, hv⟩ | ⟨ne, h⟩
    · subst e1
      rw [backR_len] at hv
      refine .inl ⟨List.mem_cons_self, ?_⟩
      rw [List.getElem?_eq_getElem (by omega)] at e ⊢
      exact congrArg some e
    · rcases backR_some hl h with ⟨h1, h2⟩ | ⟨h1, h2⟩
      · exact .inl ⟨List.mem_cons_of_mem _ h1, h2⟩
      · exact .inr ⟨by simp only [List.mem_cons, not_or]; exact ⟨ne, h1⟩, h2⟩
theorem wipe_ext {σ σ' : L2.St} {vs : List Nat} (o : Out vs σ σ') : wipe σ' vs = wipe σ vs := by
  refine List.ext_getElem? fun i => ?_
  by_cases h : i ∈ vs
  · have f : ∀ (τ : L2.St) (us : List Nat), i ∈ us → (wipe τ us)[i]? = if i < τ.length then some none else none := by
      intro τ us
      induction us with
      | nil => intro h; cases h
      | cons v us ih =>
        intro hm
        unfold wipe
        by_cases e : v = i
        · subst e
          by_cases hl : v < τ.length
          · rw [List.getElem?_set_self (by rw [wipe_length]; exact hl), if_pos hl]
          · rw [if_neg hl, List.getElem?_eq_none (by rw [List.length_set, wipe_length]; omega)]
        · rw [List.getElem?_set_ne e]
          rcases List.mem_cons.mp hm with z | z
          · exact absurd z.symm e
          · exact ih z
    rw [f σ' vs h, f σ vs h, o.ln]
  · rw [wipe_out h, wipe_out h]
    exact o.at_ i h
section
variable {K : PySem.W.Frag} {F F' H H' : Hp} {ρ ρ' : Sr} {σ : L2.St}
theorem Rel.wipe (R : Rel K F ρ σ H) (vs : List Nat) : Stp K F ρ σ H F (wipeR ρ vs) (wipe σ vs) H where
  rel := ⟨R.sub, fun i d h => by
      obtain ⟨h1, h2⟩ := wipeR_some h
      rw [wipe_out h1]
      exact R.va i d h2, fun i d h => by
      obtain ⟨h1, h2⟩ := wipeR_some h
      rw [wipe_out h1]
      exact R.ow i d h2, fun i d h => by
      obtain ⟨h1, h2⟩ := wipeR_some h
      rw [wipe_out h1]
      exact R.sc i d h2, fun i j xs ys a h1 h2 h3 h4 => by
      obtain ⟨n1, h1⟩ := wipeR_some h1
      obtain ⟨n2, h2⟩ := wipeR_some h2
      rw [wipe_out n1] at h3
      rw [wipe_out n2] at h4
      exact R.ne i j xs ys a h1 h2 h3 h4, by rw [wipeR_len, wipe_length]; exact R.ln⟩
  ext := Sub.refl F
  new := fun _ h => .inl h
  keep := fun _ _ h _ => h
  owns := fun a ⟨i, xs, h1, h2⟩ => by
    obtain ⟨n1, h1⟩ := wipeR_some h1
    rw [wipe_out n1] at h2
    exact .inl ⟨i, xs, h1, h2⟩
  dom := fun _ h => h
/-- out of a block: its own slots are as they were -/
theorem Stp.unwipe (R : Rel K F ρ σ H) {vs : List Nat} (s : Stp K F (wipeR ρ vs) (L2.wipe σ vs) H F' ρ' (L2.wipe σ vs) H') : Stp K F ρ σ H F' (backR ρ ρ' vs) σ H' := by
  have hl : ρ.length = ρ'.length := by
    have := s.rel.ln
    rw [wipe_length] at this
    rw [R.ln, this]
  have own_in : ∀ a, Own (wipeR ρ vs) (L2.wipe σ vs) a → ∃ i xs, i ∉ vs ∧ ρ[i]? = some (some (.ow xs)) ∧ σ[i]? = some (some (.ref a)) := fun a ⟨i, xs, h1, h2⟩ => by
    obtain ⟨n1, h1⟩ := wipeR_some h1
    rw [wipe_out n1] at h2
    exact ⟨i, xs, n1, h1, h2⟩
  have own_no : ∀ {i : Nat} {xs : List D} {a : Addr}, i ∈ vs → ρ[i]? = some (some (.ow xs)) → σ[i]? = some (some (.ref a)) → ¬ Own (wipeR ρ vs) (L2.wipe σ vs) a := fun {i xs a} hi h1 h2 o => by
    obtain ⟨j, ys, n, g1, g2⟩ := own_in a o
    have e := R.ne i j xs ys a h1 g1 h2 g2
    subst e
    exact n hi
  refine ⟨⟨s.rel.sub, fun i d h => ?_, fun i xs h => ?_, fun i xs h => ?_, fun i j xs ys a h1 h2 h3 h4 => ?_, by rw [backR_len, ← hl]; exact R.ln⟩, s.ext, fun a h => ?_, fun a o h no => ?_, fun a h => ?_, s.dom⟩
  · rcases backR_some hl h with ⟨h1, h2⟩ | ⟨h1, h2⟩
    · obtain ⟨v, e1, e2⟩ := R.va i d h2
      exact ⟨v, e1, s.ext.dp e2⟩
    · have := s.rel.va i d h2
      rw [wipe_out h1] at this
      exact this
  · rcases backR_some hl h with ⟨h1, h2⟩ | ⟨h1, h2⟩
    · obtain ⟨a, us, e1, e2, e3, e4⟩ := R.ow i xs h2
      have no := own_no h1 h2 e1
      refine ⟨a, us, e1, s.keep _ _ e2 no, ?_, s.ext.dps e4⟩
      cases q : F' a with
      | none => rfl
      | some o =>
        rcases s.new a (by rw [q]; simp) with z | z | z
        · exact absurd e3 z
        · rw [z] at e2; cases e2
        · exact absurd z no
    · have := s.rel.ow i xs h2
      rw [wipe_out h1] at this
      exact this
  · rcases backR_some hl h with ⟨h1, h2⟩ | ⟨h1, h2⟩
    · obtain ⟨a, us, e1, e2, e3⟩ := R.sc i xs h2
      exact ⟨a, us, e1, s.ext.l e2, s.ext.dps e3⟩
    · have := s.rel.sc i xs h2
      rw [wipe_out h1] at this
      exact this
  · have cross : ∀ {i j : Nat} {xs ys : List D}, i ∈ vs → ρ[i]? = some (some (.ow xs)) → j ∉ vs → ρ'[j]? = some (some (.ow ys)) → σ[i]? = some (some (.ref a)) → σ[j]? = some (some (.ref a)) → False := fun {i j xs ys} hi g1 hj g2 g3 g4 => by
      have o : Own ρ' (L2.wipe σ vs) a := ⟨j, ys, g2, by rw [wipe_out hj]; exact g4⟩
      rcases s.owns a o with z | z
      · exact own_no hi g1 g3 z
      · obtain ⟨b, us, e1, e2, _⟩ := R.ow i xs g1
        rw [g3] at e1
        cases e1
        rw [z] at e2
        cases e2
    rcases backR_some hl h1 with ⟨n1, h1⟩ | ⟨n1, h1⟩
    · rcases backR_some hl h2 with ⟨n2, h2⟩ | ⟨n2, h2⟩
      · exact R.ne i j xs ys a h1 h2 h3 h4
      · exact (cross n1 h1 n2 h2 h3 h4).elim
    · rcases backR_some hl h2 with ⟨n2, h2⟩ | ⟨n2, h2⟩
      · exact (cross n2 h2 n1 h1 h4 h3).elim
      · exact s.rel.ne i j xs ys a h1 h2 (by rw [wipe_out n1]; exact h3) (by rw [wipe_out n2]; exact h4)
  · rcases s.new a h with z | z | z
    · exact .inl z
    · exact .inr (.inl z)
    · obtain ⟨i, xs, _, h1, h2⟩ := own_in a z
      exact .inr (.inr ⟨i, xs, h1, h2⟩)
  · exact s.keep a o h fun z => by
      obtain ⟨i, xs, _, h1, h2⟩ := own_in a z
      exact no ⟨i, xs, h1, h2⟩
  · obtain ⟨i, xs, h1, h2⟩ := h
    rcases backR_some hl h1 with ⟨n1, h1⟩ | ⟨n1, h1⟩
    · exact .inl ⟨i, xs, h1, h2⟩
    · rcases s.owns a ⟨i, xs, h1, by rw [wipe_out n1]; exact h2⟩ with z | z
      · obtain ⟨j, ys, _, g1, g2⟩ := own_in a z
        exact .inl ⟨j, ys, g1, g2⟩
      · exact .inr z
/-- an object that is new since the start, no slot's and not frozen, may change -/
theorem Stp.mut {F1 H1 : Hp} {ρ1 : Sr} {σ1 : L2.St} {p : Addr} {o : HO} (s : Stp K F ρ σ H F1 ρ1 σ1 H1) (h : H p = none) (hf : F1 p = none) (no : ¬ Own ρ1 σ1 p) : Stp K F ρ σ H F1 ρ1 σ1 (upd H1 p o) :=
  ⟨⟨fun b u e => by rw [upd_ne (ne_of_none e hf)]; exact s.rel.sub _ _ e, s.rel.va, fun i xs e => by
      obtain ⟨a, us, e1, e2, e3, e4⟩ := s.rel.ow i xs e
      have na : a ≠ p := fun z => no ⟨i, xs, e, by rw [← z]; exact e1⟩
      exact ⟨a, us, e1, by rw [upd_ne na]; exact e2, e3, e4⟩, s.rel.sc, s.rel.ne, s.rel.ln⟩, s.ext, s.new, fun a u e n => by rw [upd_ne (ne_of_none e h)]; exact s.keep a u e n, s.owns, fun a e => by
      by_cases z : a = p
      · subst z; rw [upd_same]; simp
      · rw [upd_ne z]; exact s.dom a e⟩
/-- such an object lies still in a step from where it is known -/
theorem Stp.still {F1 H1 : Hp} {ρ1 : Sr} {σ1 : L2.St} {p : Addr} {u : HO} (s : Stp K F ρ σ H F1 ρ1 σ1 H1) (h : H p = some u) (hf : F p = none) (no : ¬ Own ρ σ p) : H1 p = some u ∧ F1 p = none ∧ ¬ Own ρ1 σ1 p := by
  refine ⟨s.keep _ _ h no, ?_, fun z => ?_⟩
  · cases q : F1 p with
    | none => rfl
    | some o =>
      rcases s.new p (by rw [q]; simp) with z | z | z
      · exact absurd hf z
      · rw [z] at h; cases h
      · exact absurd z no
  · rcases s.owns p z with z | z
    · exact no z
    · rw [z] at h; cases h
end

/-! ### comprehensions -/
def lcL (own : List Nat) (g : SemG) (tt : SemT) (te : SemE) : List D → Sr → List D → Option (List D × Sr)
  | [], ρ, acc => some (acc, ρ)
  | d :: ds, ρ, acc => match g d ρ with
    | some ρ1 => (match tt ρ1 with
      | some (true, ρ2) => (match te ρ2 with
        | some (r, ρ3) => if acc.length < 100000 then lcL own g tt te ds (wipeR ρ3 own) (acc ++ [r.d]) else none
        | none => none)
      | some (false, ρ2) => lcL own g tt te ds (wipeR ρ2 own) acc
      | none => none)
    | none => none
def sLc (own : List Nat) (si : SemI) (g : SemG) (tt : SemT) (te : SemE) : SemE := fun ρ => match si ρ with
  | some (ds, ρ1) => (match lcL own g tt te ds (wipeR ρ1 own) [] with
    | some (xs, ρ2) => some (.nw xs, backR ρ1 ρ2 own)
    | none => none)
  | none => none
section
variable {X : Cx} {K : PySem.W.Frag}
theorem lc_imp {own ws : List Nat} {si : SemI} {g : SemG} {tt : SemT} {te : SemE} (hws : ∀ i ∈ ws, i ∈ own) : ∀ σ H Q, LE K (sLc own si g tt te) σ H Q → tLc (LI K si) (LGt K ws g) (LT K tt) (LE K te) own σ H Q := by
  rintro σ H Q ⟨F, ρ, r, ρ', R, e, k⟩
  unfold sLc at e
  cases e1 : si ρ with
  | none => rw [e1] at e; cases e
  | some p =>
    obtain ⟨ds, ρ1⟩ := p
    rw [e1] at e
    cases e2 : lcL own g tt te ds (wipeR ρ1 own) [] with
    | none => simp only [e2] at e; cases e
    | some p =>
      obtain ⟨xs, ρ2⟩ := p
      simp only [e2] at e
      cases e
      refine ⟨F, ρ, ds, ρ1, R, e1, fun F1 H1 J s1 w => ?_⟩
      intro D hD
      have s0 : Stp K F1 (wipeR ρ1 own) (wipe σ own) H1 F1 (wipeR ρ1 own) (wipe σ own) (upd H1 D (.lst [])) :=
        (Stp.refl (s1.rel.wipe own).rel).mut hD (s1.rel.sub.nn hD) ((s1.rel.wipe own).rel.own_ne hD)
      refine ⟨fun i m H' => m = ds.length - i ∧ i ≤ ds.length ∧ ∃ F' ρ' acc vs, Stp K F1 (wipeR ρ1 own) (wipe σ own) H1 F' ρ' (wipe σ own) H' ∧ H' D = some (.lst vs) ∧ DqAll K F' vs acc ∧ F' D = none ∧ ¬ Own ρ' (wipe σ own) D ∧
        lcL own g tt te (ds.drop i) ρ' acc = some (xs, ρ2), ⟨ds.length, by simp, Nat.zero_le _, F1, _, [], [], s0, upd_same, .nil, s1.rel.sub.nn hD, (s1.rel.wipe own).rel.own_ne hD, by simpa using e2⟩, ?_⟩
      rintro i m H' ⟨rfl, hi, F', ρ', acc, vs, s, hv, hacc, hF, hO, hl⟩
      by_cases hlt : i < ds.length
      · refine .inr ⟨w.go i F' H' hlt s.ext s.rel.sub, fun H'' => ∃ F'' ρ'' acc' vs', Stp K F1 (wipeR ρ1 own) (wipe σ own) H1 F'' ρ'' (wipe σ own) H'' ∧ H'' D = some (.lst vs') ∧ DqAll K F'' vs' acc' ∧ F'' D = none ∧ ¬ Own ρ'' (wipe σ own) D ∧
          lcL own g tt te (ds.drop (i + 1)) ρ'' acc' = some (xs, ρ2), fun H'' ⟨F'', ρ'', acc', vs', h⟩ => ⟨ds.length - (i + 1), by omega, rfl, hlt, F'', ρ'', acc', vs', h⟩, fun x H2 hy => ?_⟩
        have hd : ds.drop i = ds[i] :: ds.drop (i + 1) := List.drop_eq_getElem_cons hlt
        rw [hd] at hl
        obtain ⟨F2, ex, dx⟩ := w.yld i ds[i] F' H' x H2 (by simp) s.ext s.rel.sub hy
        have s2 := s.ext' ex
        have hv2 : H2 D = some (.lst vs) := ex.keep _ _ hv
        have hF2 : F2 D = none := by
          cases q : F2 D with
          | none => rfl
          | some o =>
            rcases ex.new D (by rw [q]; simp) with z | z
            · exact absurd hF z
            · rw [z] at hv; cases hv
        unfold lcL at hl
        split at hl
        · rename_i ρa ea
          refine ⟨F2, ρ', ds[i], ρa, s2.rel, dx, ea, fun F3 σ3 H3 s3 o3 => ?_⟩
          have ow : wipe σ3 own = wipe σ own := by
            have := wipe_ext (o3.mono hws)
            rw [this]
            refine List.ext_getElem? fun j => ?_
            by_cases h : j ∈ own
            · have f : ∀ (τ : L2.St) (us : List Nat), j ∈ us → (wipe τ us)[j]? = if j < τ.length then some none else none := by
                intro τ us
                induction us with
                | nil => intro h; cases h
                | cons v us ih =>
                  intro hm
                  unfold wipe
                  by_cases e : v = j
                  · subst e
                    by_cases hl : v < τ.length
                    · rw [List.getElem?_set_self (by rw [wipe_length]; exact hl), if_pos hl]
                    · rw [if_neg hl, List.getElem?_eq_none (by rw [List.length_set, wipe_length]; omega)]
                  · rw [List.getElem?_set_ne e]
                    rcases List.mem_cons.mp hm with z | z
                    · exact absurd z.symm e
                    · exact ih z
              rw [f _ own h, f _ own h, wipe_length]
            · rw [wipe_out h]
          obtain ⟨hv3, hF3, hO3⟩ := s3.still hv2 hF2 hO
          refine ⟨ow, ?_⟩
          split at hl
          · rename_i ρb eb
            refine ⟨F3, ρa, true, ρb, s3.rel, eb, fun F4 H4 s4 => iteT ?_⟩
            obtain ⟨hv4, hF4, hO4⟩ := s4.still hv3 hF3 hO3
            split at hl
            · rename_i r ρc ec
              split at hl
              · rename_i hsz
                refine LE.data s4.rel ec fun v F5 H5 s5 d5 => ?_
                obtain ⟨hv5, hF5, hO5⟩ := s5.still hv4 hF4 hO4
                have sw := s5.rel.wipe own
                rw [ow] at sw
                have sAll := ((((s2.trans s3).trans s4).trans s5).trans sw)
                have hO6 : ¬ Own (wipeR ρc own) (wipe σ own) D := fun z => by
                  rcases sw.owns D z with z | z
                  · exact hO5 z
                  · rw [z] at hv5; cases hv5
                refine ⟨vs, hv5, by rw [hacc.len]; exact Nat.lt_of_lt_of_le hsz (by decide), F5, wipeR ρc own, acc ++ [r.d], vs ++ [v], sAll.mut hD hF5 hO6, upd_same, ?_, hF5, hO6, hl⟩
                exact DqAll.append ((((ex.ext.trans s3.ext).trans s4.ext).trans s5.ext).dps hacc) (.one d5)
              · cases hl
            · cases hl
          · rename_i ρb eb
            refine ⟨F3, ρa, false, ρb, s3.rel, eb, fun F4 H4 s4 => iteF ?_⟩
            obtain ⟨hv4, hF4, hO4⟩ := s4.still hv3 hF3 hO3
            have sw := s4.rel.wipe own
            rw [ow] at sw
            have hO6 : ¬ Own (wipeR ρb own) (wipe σ own) D := fun z => by
              rcases sw.owns D z with z | z
              · exact hO4 z
              · rw [z] at hv4; cases hv4
            exact ⟨F4, wipeR ρb own, acc, vs, (((s2.trans s3).trans s4).trans sw), hv4, (((ex.ext.trans s3.ext).trans s4.ext).dps hacc), hF4, hO6, hl⟩
          · cases hl
        · cases hl
      · have ei : i = ds.length := by omega
        subst ei
        rw [List.drop_length] at hl
        cases hl
        refine .inl ⟨w.stop F' H' s.ext s.rel.sub, ?_⟩
        have su := Stp.unwipe s1.rel s
        refine k (.ref D) F' H' (s1.trans su) ⟨D, vs, rfl, hv, hF, s1.back hD, fun z => ?_, hacc⟩
        rcases su.owns D z with z | z
        · exact s1.rel.own_ne hD z
        · obtain ⟨i', zs, g1, g2⟩ := ‹Own (backR ρ1 ρ2 own) σ D›
          have hlen : ρ1.length = ρ2.length := by
            have := s.rel.ln
            rw [wipe_length] at this
            rw [s1.rel.ln, this]
          rcases backR_some hlen g1 with ⟨n1, g1⟩ | ⟨n1, g1⟩
          · exact s1.rel.own_ne hD ⟨i', zs, g1, g2⟩
          · exact hO ⟨i', zs, g1, by rw [wipe_out n1]; exact g2⟩
end
end Pv

set_option Elab.async false
set_option linter.all false
set_option maxRecDepth 100000
set_option maxHeartbeats 4000000
set_option autoImplicit false
/-! Pv, part F: statements. -/
namespace Pv
open PySem PySem.Spec PyProof.Rows L2

def sNx : SemS := fun ρ => some (.nx, ρ)
def sBk : SemS := fun ρ => some (.bk, ρ)
def sCt : SemS := fun ρ => some (.ct, ρ)
def sNone : SemS := fun _ => none
def sSeq (a b : SemS) : SemS := fun ρ => match a ρ with
  | some (.nx, ρ1) => b ρ1
  | some (.rt r, ρ1) => some (.rt r, ρ1)
  | some (.bk, ρ1) => some (.bk, ρ1)
  | some (.ct, ρ1) => some (.ct, ρ1)
  | none => none
def Rs.sl : Rs → Sl
  | .va d => .va d
  | .nw xs => .ow xs
def sAsg (i : Nat) (a : SemE) : SemS := fun ρ => match a ρ with
  | some (r, ρ1) => some (.nx, ρ1.set i (some r.sl))
  | none => none
def sAsgG (g : SemG) (a : SemE) : SemS := fun ρ => match a ρ with
  | some (r, ρ1) => (match g r.d ρ1 with
    | some ρ2 => some (.nx, ρ2)
    | none => none)
  | none => none
def sExp (a : SemE) : SemS := fun ρ => match a ρ with
  | some (_, ρ1) => some (.nx, ρ1)
  | none => none
def sRet (a : SemE) : SemS := fun ρ => match a ρ with
  | some (r, ρ1) => some (.rt r, ρ1)
  | none => none
def sRetN : SemS := fun ρ => some (.rt (.va .none), ρ)
def sIfS (t : SemT) (a b : SemS) : SemS := fun ρ => match t ρ with
  | some (true, ρ1) => a ρ1
  | some (false, ρ1) => b ρ1
  | none => none
def forL (g : SemG) (body : SemS) : List D → SemS
  | [], ρ => some (.nx, ρ)
  | d :: ds, ρ => match g d ρ with
    | some ρ1 => (match body ρ1 with
      | some (.nx, ρ2) => forL g body ds ρ2
      | some (.ct, ρ2) => forL g body ds ρ2
      | some (.bk, ρ2) => some (.nx, ρ2)
      | some (.rt r, ρ2) => some (.rt r, ρ2)
      | none => none)
    | none => none
def sFor (si : SemI) (g : SemG) (body : SemS) : SemS := fun ρ => match si ρ with
  | some (ds, ρ1) => forL g body ds ρ1
  | none => none
def whileL (t : SemT) (body : SemS) : Nat → SemS
  | 0, _ => none
  | n + 1, ρ => match t ρ with
    | some (true, ρ1) => (match body ρ1 with
      | some (.nx, ρ2) => whileL t body n ρ2
      | some (.ct, ρ2) => whileL t body n ρ2
      | some (.bk, ρ2) => some (.nx, ρ2)
      | some (.rt r, ρ2) => some (.rt r, ρ2)
      | none => none)
    | some (false, ρ1) => some (.nx, ρ1)
    | none => none
def sWhile (n : Nat) (t : SemT) (body : SemS) : SemS := fun ρ => whileL t body n ρ

section
variable {X : Cx} {K : PySem.W.Frag} {refs : List Nat} {st : Stmt} {rest : List Stmt} {e : Expr} {sa : SemE} {s t : SemS} {tt : SemT} {pos : Pos}

theorem FlQ.under {F1 F2 H H1 H2 F : Hp} {ρ ρ1 ρ2 : Sr} {σ σ1 σ2 : L2.St} {D : Ends} {fl : Fl} (s1 : Stp K F ρ σ H F1 ρ1 σ1 H1) (h : FlQ K F2 ρ2 σ2 H H2 D fl) : FlQ K F2 ρ2 σ2 H1 H2 D fl := by
  cases fl with
  | rt r =>
    intro v q
    exact h v (RsR.under s1 q)
  | nx => exact h
  | bk => exact h
  | ct => exact h
theorem seq_imp {a b : SemS} : ∀ D σ H, LS K refs (sSeq a b) D σ H → tSeq (LS K refs a) (LS K refs b) D σ H := by
  rintro D σ H ⟨F, ρ, fl, ρ', R, e, k⟩
  unfold sSeq at e
  split at e
  · rename_i ρ1 e1
    refine ⟨F, ρ, .nx, ρ1, R, e1, fun F1 σ1 H1 s1 p1 => ?_⟩
    exact ⟨F1, ρ1, fl, ρ', s1.rel, e, fun F2 σ2 H2 s2 p2 => FlQ.under s1 (k F2 σ2 H2 (s1.trans s2) (p1.trans p2))⟩
  · rename_i r ρ1 e1
    cases e
    exact ⟨F, ρ, .rt r, _, R, e1, k⟩
  · rename_i ρ1 e1
    cases e
    exact ⟨F, ρ, .bk, _, R, e1, k⟩
  · rename_i ρ1 e1
    cases e
    exact ⟨F, ρ, .ct, _, R, e1, k⟩
  · cases e
theorem nx_imp : ∀ D σ H, LS K refs sNx D σ H → tNext D σ H := by
  rintro D σ H ⟨F, ρ, fl, ρ', R, e, k⟩
  cases e
  exact k F σ H (Stp.refl R) Pin.refl
theorem lss_nil : PSs X [] (LS X.K refs sNx) := pss_nil.imp nx_imp
theorem lss_cons (h1 : PS X st (LS X.K refs s)) (h2 : PSs X rest (LS X.K refs t)) : PSs X (st :: rest) (LS X.K refs (sSeq s t)) := (pss_cons h1 h2).imp seq_imp
theorem lss_one (h1 : PS X st (LS X.K refs s)) : PSs X [st] (LS X.K refs s) := pss_one h1
theorem ls_pass : PS X (.Pass pos) (LS X.K refs sNx) := ps_pass.imp nx_imp
theorem ls_break : PS X (.Break pos) (LS X.K refs sBk) := ps_break.imp fun D σ H ⟨F, ρ, fl, ρ', R, e, k⟩ => by
  cases e
  exact k F σ H (Stp.refl R) Pin.refl
theorem ls_continue : PS X (.Continue pos) (LS X.K refs sCt) := ps_continue.imp fun D σ H ⟨F, ρ, fl, ρ', R, e, k⟩ => by
  cases e
  exact k F σ H (Stp.refl R) Pin.refl
theorem ls_none : PS X st (LS X.K refs sNone) := ps_never.imp fun D σ H ⟨F, ρ, fl, ρ', R, e, k⟩ => by cases e
/-- a result goes into a slot -/
theorem res_stored {F F1 H H1 : Hp} {ρ ρ1 : Sr} {σ : L2.St} {r : Rs} {v : V} (i : Nat) (s : Stp K F ρ σ H F1 ρ1 σ H1) (h : RsR K F1 ρ1 σ H H1 r v) : Stp K F ρ σ H F1 (ρ1.set i (some r.sl)) (σ.set i (some v)) H1 := by
  cases r with
  | va d => exact s.trans (s.rel.set_va i h)
  | nw xs =>
    obtain ⟨a, vs, rfl, h1, h2, h3, h4, h5⟩ := h
    refine ⟨s.rel.set_ow i h1 h2 h4 h5, s.ext, s.new, s.keep, fun b o => ?_, s.dom⟩
    obtain ⟨j, ys, g1, g2⟩ := o
    rcases set_get g1 with ⟨e, e1, hi⟩ | ⟨ne, g1⟩
    · subst e
      rw [List.getElem?_set_self (by rw [← s.rel.ln]; exact hi)] at g2
      cases g2
      exact .inr h3
    · rw [List.getElem?_set_ne (Ne.symm ne)] at g2
      exact s.owns b ⟨j, ys, g1, g2⟩
theorem asg_imp {i : Nat} {te : TE} (hi : i ∉ refs) (h : ∀ σ H Q, LE K sa σ H Q → te σ H Q) : ∀ D σ H, LS K refs (sAsg i sa) D σ H → tAsg te (gName i) D σ H := by
  rintro D σ H ⟨F, ρ, fl, ρ', R, e, k⟩
  refine h σ H _ ?_
  unfold sAsg at e
  split at e
  · rename_i r ρ1 e1
    cases e
    refine ⟨F, ρ, r, ρ1, R, e1, fun v F1 H1 s1 h1 => ?_⟩
    exact k F1 _ H1 (res_stored i s1 h1) fun j hj => by rw [List.getElem?_set_ne (fun z => hi (by rw [z]; exact hj))]
  · cases e
theorem ls_set {i : Nat} {x : Str} {pos' : Pos} (hr : i ∉ refs) (hN : X.N.Nodup) (hi : X.N[i]? = some x) (hx : Loc X.env.scope x) (he : PE X e (LE X.K sa)) (hs : swapsWith e (some (.Name x pos')) pos.line X.env = pure false) (hf : X.fn x = true ∨ X.env.scope.names.lookup x = some .local) :
    PS X (.Assign [.Name x pos'] e pos) (LS X.K refs (sAsg i sa)) := (ps_set hN hi hx he hs hf).imp (asg_imp hr fun _ _ _ h => h)
theorem ls_setLc {i : Nat} {y : Str} {py : Pos} {elt tg iter : Expr} {ifs : List Expr} {scope : Scope} {own : List (Str × Nat)} {ws : List Nat} {pos spos : Pos} {si : SemI} {g : SemG} {tt : SemT} {te : SemE} (hr : i ∉ refs) (hws : ∀ i ∈ ws, i ∈ own.map (·.2)) (hc : X.calm = true) (hN : X.N.Nodup) (hy : X.N[i]? = some y) (hyl : X.env.scope.names.lookup y = some .local)
    (hsw : swapsWith (.ListComp elt [⟨tg, iter, ifs, 0⟩] scope pos) (some (.Name y py)) spos.line X.env = pure true) (hi : PI X tg iter (LI X.K si)) (ok : BlkOk X.N X.env.scope scope own)
    (hg : ∀ (s : Shared) (H : Hp) (C : Addr) (cl : List (Str × Addr)) (fp : List Addr), PG (X.blk s H scope (compEnvC scope cl C X.env) fp) tg (LGt X.K ws g)) (ht : ∀ (s : Shared) (H : Hp) (C : Addr) (cl : List (Str × Addr)) (fp : List Addr), PTs (X.blk s H scope (compEnvC scope cl C X.env) fp) ifs (LT X.K tt))
    (he : ∀ (s : Shared) (H : Hp) (C : Addr) (cl : List (Str × Addr)) (fp : List Addr), PE (X.blk s H scope (compEnvC scope cl C X.env) fp) elt (LE X.K te)) (hs : ∀ x, foldedSetIterable iter X.env x = pure x) :
    PS X (.Assign [.Name y py] (.ListComp elt [⟨tg, iter, ifs, 0⟩] scope pos) spos) (LS X.K refs (sAsg i (sLc (own.map (·.2)) si g tt te))) :=
  (ps_setLc hc hN hy hyl hsw hi ok hg ht he hs).imp (asg_imp hr (lc_imp hws))
theorem le_lc {elt tg iter : Expr} {ifs : List Expr} {scope : Scope} {own : List (Str × Nat)} {ws : List Nat} {pos : Pos} {si : SemI} {g : SemG} {tt : SemT} {te : SemE} (hws : ∀ i ∈ ws, i ∈ own.map (·.2)) (hc : X.calm = true) (hN : X.N.Nodup) (hi : PI X tg iter (LI X.K si)) (ok : BlkOk X.N X.env.scope scope own)
    (hg : ∀ (s : Shared) (H : Hp) (C : Addr) (cl : List (Str × Addr)) (fp : List Addr), PG (X.blk s H scope (compEnvC scope cl C X.env) fp) tg (LGt X.K ws g)) (ht : ∀ (s : Shared) (H : Hp) (C : Addr) (cl : List (Str × Addr)) (fp : List Addr), PTs (X.blk s H scope (compEnvC scope cl C X.env) fp) ifs (LT X.K tt))
    (he : ∀ (s : Shared) (H : Hp) (C : Addr) (cl : List (Str × Addr)) (fp : List Addr), PE (X.blk s H scope (compEnvC scope cl C X.env) fp) elt (LE X.K te)) (hs : ∀ x, foldedSetIterable iter X.env x = pure x) :
    PE X (.ListComp elt [⟨tg, iter, ifs, 0⟩] scope pos) (LE X.K (sLc (own.map (·.2)) si g tt te)) := (pe_lc hc hN hi ok hg ht he hs).imp (lc_imp hws)
theorem ls_asg {tg : Expr} {g : SemG} {ws : List Nat} (hr : ∀ i ∈ refs, i ∉ ws) (he : PE X e (LE X.K sa)) (hg : PG X tg (LGt X.K ws g)) (hs : swapsWithSole [tg] e pos.line X.env = pure false) (hw : swappedStores [tg] e X.env = pure none)
    (h1 : (assignEach [tg] X.env).map (·.2) = [assign tg X.env]) : PS X (.Assign [tg] e pos) (LS X.K refs (sAsgG g sa)) := (ps_asg he hg hs hw h1).imp fun D σ H ⟨F, ρ, fl, ρ', R, e, k⟩ => by
  unfold sAsgG at e
  split at e
  · rename_i r ρ1 e1
    split at e
    · rename_i ρ2 e2
      cases e
      refine LE.data R e1 fun v F1 H1 s1 d1 => ?_
      exact ⟨F1, ρ1, r.d, _, s1.rel, d1, e2, fun F2 σ2 H2 s2 o2 => k F2 σ2 H2 (s1.trans s2) (o2.pin hr)⟩
    · cases e
  · cases e
theorem ls_exp (he : PE X e (LE X.K sa)) (hs : swapsWith e none pos.line X.env = pure false) : PS X (.Expr e pos) (LS X.K refs (sExp sa)) := (ps_expr he hs).imp fun D σ H ⟨F, ρ, fl, ρ', R, e, k⟩ => by
  unfold sExp at e
  split at e
  · rename_i r ρ1 e1
    cases e
    exact ⟨F, ρ, r, _, R, e1, fun v F1 H1 s1 _ => k F1 σ H1 s1 Pin.refl⟩
  · cases e
theorem ls_ret (he : PE X e (LE X.K sa)) : PS X (.Return (some e) pos) (LS X.K refs (sRet sa)) := (ps_ret he).imp fun D σ H ⟨F, ρ, fl, ρ', R, e, k⟩ => by
  unfold sRet at e
  split at e
  · rename_i r ρ1 e1
    cases e
    exact ⟨F, ρ, r, _, R, e1, fun v F1 H1 s1 h1 => k F1 σ H1 s1 Pin.refl v h1⟩
  · cases e
theorem ls_retN : PS X (.Return none pos) (LS X.K refs sRetN) := ps_retN.imp fun D σ H ⟨F, ρ, fl, ρ', R, e, k⟩ => by
  cases e
  exact k F σ H (Stp.refl R) Pin.refl .non .non
theorem ls_if {c : Expr} {a b : List Stmt} (hc : PT X c (LT X.K tt)) (ha : PSs X a (LS X.K refs s)) (hb : PSs X b (LS X.K refs t)) : PS X (.If c a b pos) (LS X.K refs (sIfS tt s t)) := (ps_if hc ha hb).imp fun D σ H ⟨F, ρ, fl, ρ', R, e, k⟩ => by
  unfold sIfS at e
  split at e
  · rename_i ρ1 e1
    exact ⟨F, ρ, true, ρ1, R, e1, fun F1 H1 s1 => iteT (by exact ⟨F1, ρ1, fl, ρ', s1.rel, e, fun F2 σ2 H2 s2 p2 => FlQ.under s1 (k F2 σ2 H2 (s1.trans s2) p2)⟩)⟩
  · rename_i ρ1 e1
    exact ⟨F, ρ, false, ρ1, R, e1, fun F1 H1 s1 => iteF (by exact ⟨F1, ρ1, fl, ρ', s1.rel, e, fun F2 σ2 H2 s2 p2 => FlQ.under s1 (k F2 σ2 H2 (s1.trans s2) p2)⟩)⟩
  · cases e
theorem ls_for {tg iter : Expr} {body : List Stmt} {si : SemI} {g : SemG} {ws : List Nat} (hr : ∀ i ∈ refs, i ∉ ws) (hp : PassesOwn (model X.prog X.w) X.A X.env X.xe) (hc : X.calm = true) (hi : PI X tg iter (LI X.K si)) (hg : PG X tg (LGt X.K ws g)) (hb : PSs X body (LS X.K refs s))
    (hs : ∀ x, foldedSetIterable iter X.env x = pure x) : PS X (.For tg iter body [] pos) (LS X.K refs (sFor si g s)) := (ps_for hp hc hi hg hb hs).imp fun D σ H ⟨F, ρ, fl, ρ', R, e, k⟩ => by
  unfold sFor at e
  split at e
  · rename_i ds ρ1 e1
    refine ⟨F, ρ, ds, ρ1, R, e1, fun F1 H1 J s1 w => ?_⟩
    refine ⟨fun i m σ' H' => m = ds.length - i ∧ i ≤ ds.length ∧ ∃ F' ρa, Stp X.K F ρ σ H F' ρa σ' H' ∧ Pin refs σ σ' ∧ Sub F1 F' ∧ forL g s (ds.drop i) ρa = some (fl, ρ'),
      ⟨ds.length, by simp, Nat.zero_le _, F1, ρ1, s1, Pin.refl, Sub.refl _, by simpa using e⟩, ?_⟩
    rintro i m σ' H' ⟨rfl, hi, F', ρa, sa, pa, sb, hl⟩
    by_cases hlt : i < ds.length
    · refine .inr ⟨w.go i F' H' hlt sb sa.rel.sub, fun σ'' H'' => ∃ F'' ρb, Stp X.K F ρ σ H F'' ρb σ'' H'' ∧ Pin refs σ σ'' ∧ Sub F1 F'' ∧ forL g s (ds.drop (i + 1)) ρb = some (fl, ρ'),
        fun σ'' H'' ⟨F'', ρb, h⟩ => ⟨ds.length - (i + 1), by omega, rfl, hlt, F'', ρb, h⟩, fun x H2 hy => ?_⟩
      have hd : ds.drop i = ds[i] :: ds.drop (i + 1) := List.drop_eq_getElem_cons hlt
      rw [hd] at hl
      obtain ⟨F2, ex, dx⟩ := w.yld i ds[i] F' H' x H2 (by simp) sb sa.rel.sub hy
      have s2 := sa.ext' ex
      unfold forL at hl
      split at hl
      · rename_i ρc ec
        refine ⟨F2, ρa, ds[i], ρc, s2.rel, dx, ec, fun F3 σ3 H3 s3 o3 => ?_⟩
        have s23 := s2.trans s3
        have p3 := pa.trans (o3.pin hr)
        have sub3 := (sb.trans ex.ext).trans s3.ext
        split at hl
        · rename_i ρd ed
          exact ⟨F3, ρc, .nx, ρd, s3.rel, ed, fun F4 σ4 H4 s4 p4 => ⟨F4, ρd, s23.trans s4, p3.trans p4, sub3.trans s4.ext, hl⟩⟩
        · rename_i ρd ed
          exact ⟨F3, ρc, .ct, ρd, s3.rel, ed, fun F4 σ4 H4 s4 p4 => ⟨F4, ρd, s23.trans s4, p3.trans p4, sub3.trans s4.ext, hl⟩⟩
        · rename_i ρd ed
          cases hl
          exact ⟨F3, ρc, .bk, _, s3.rel, ed, fun F4 σ4 H4 s4 p4 => k F4 σ4 H4 (s23.trans s4) (p3.trans p4)⟩
        · rename_i r ρd ed
          cases hl
          exact ⟨F3, ρc, .rt r, _, s3.rel, ed, fun F4 σ4 H4 s4 p4 => FlQ.under (D := { nx := D.nx, rt := D.rt }) (fl := .rt r) s23 (k F4 σ4 H4 (s23.trans s4) (p3.trans p4))⟩
        · cases hl
      · cases hl
    · have ei : i = ds.length := by omega
      subst ei
      rw [List.drop_length] at hl
      cases hl
      exact .inl ⟨w.stop F' H' sb sa.rel.sub, k F' σ' H' sa pa⟩
  · cases e
theorem ls_while {c : Expr} {body : List Stmt} (n : Nat) (hp : PassesOwn (model X.prog X.w) X.A X.env X.xe) (hc : PT X c (LT X.K tt)) (hb : PSs X body (LS X.K refs s)) : PS X (.While c body [] pos) (LS X.K refs (sWhile n tt s)) := (ps_while hp hc hb).imp fun D σ H ⟨F, ρ, fl, ρ', R, e, k⟩ => by
  unfold sWhile at e
  refine ⟨fun m σ' H' => ∃ F' ρa, Stp X.K F ρ σ H F' ρa σ' H' ∧ Pin refs σ σ' ∧ whileL tt s m ρa = some (fl, ρ'), ⟨n, F, ρ, Stp.refl R, Pin.refl, e⟩, ?_⟩
  rintro m σ' H' ⟨F', ρa, sa, pa, hl⟩
  cases m with
  | zero => cases hl
  | succ m =>
    unfold whileL at hl
    split at hl
    · rename_i ρb eb
      refine ⟨F', ρa, true, ρb, sa.rel, eb, fun F2 H2 s2 => iteT ?_⟩
      have s12 := sa.trans s2
      refine ⟨fun σ'' H'' => ∃ F'' ρd, Stp X.K F ρ σ H F'' ρd σ'' H'' ∧ Pin refs σ σ'' ∧ whileL tt s m ρd = some (fl, ρ'), fun σ'' H'' h => ⟨m, Nat.lt_succ_self m, h⟩, ?_⟩
      split at hl
      · rename_i ρd ed
        exact ⟨F2, ρb, .nx, ρd, s2.rel, ed, fun F4 σ4 H4 s4 p4 => ⟨F4, ρd, s12.trans s4, pa.trans p4, hl⟩⟩
      · rename_i ρd ed
        exact ⟨F2, ρb, .ct, ρd, s2.rel, ed, fun F4 σ4 H4 s4 p4 => ⟨F4, ρd, s12.trans s4, pa.trans p4, hl⟩⟩
      · rename_i ρd ed
        cases hl
        exact ⟨F2, ρb, .bk, _, s2.rel, ed, fun F4 σ4 H4 s4 p4 => k F4 σ4 H4 (s12.trans s4) (pa.trans p4)⟩
      · rename_i r ρd ed
        cases hl
        exact ⟨F2, ρb, .rt r, _, s2.rel, ed, fun F4 σ4 H4 s4 p4 => FlQ.under (D := { nx := D.nx, rt := D.rt }) (fl := .rt r) s12 (k F4 σ4 H4 (s12.trans s4) (pa.trans p4))⟩
      · cases hl
    · rename_i ρb eb
      cases hl
      exact ⟨F', ρa, false, _, sa.rel, eb, fun F2 H2 s2 => iteF (by exact k F2 σ' H2 (sa.trans s2) pa)⟩
    · cases hl
/-- a try whose body lets nothing out -/
theorem ls_try {body : List Stmt} {h₀ : ExceptHandler} {hs : List ExceptHandler} (hb : PSs X.nox body (LS X.K refs s)) : PS X (.Try body (h₀ :: hs) [] [] pos) (LS X.K refs s) := ps_try_thru0 hb

/-! ### methods of a list that a name holds -/
def sApp (i : Nat) (a : SemE) : SemE := fun ρ => match ρ[i]? with
  | some (some (.ow _)) => (match a ρ with
    | some (y, ρ1) => (match ρ1[i]? with
      | some (some (.ow xs)) => if xs.length < 100000 then some (.va .none, ρ1.set i (some (.ow (xs ++ [y.d])))) else none
      | _ => none)
    | none => none)
  | _ => none
def sPop (i : Nat) : SemE := fun ρ => match ρ[i]? with
  | some (some (.ow xs)) => (match xs[xs.length - 1]? with
    | some d => some (.va d, ρ.set i (some (.ow xs.dropLast)))
    | none => none)
  | _ => none
theorem app_imp {i : Nat} : ∀ σ H Q, LE K (sApp i sa) σ H Q → tBM K "list" rAppend (tVar i) (tCons (LE K sa) tNil) σ H Q := by
  rintro σ H Q ⟨F, ρ, r, ρ', R, e, k⟩
  unfold sApp at e
  split at e
  · rename_i xs0 h0
    obtain ⟨a, vs, g1, g2, g3, g4⟩ := R.ow i xs0 h0
    refine ⟨_, g1, .inl ⟨rfl, vs, .inl (.inl g2)⟩, ?_⟩
    split at e
    · rename_i y ρ1 e1
      refine LE.data R e1 fun v F1 H1 s1 d1 => ?_
      split at e
      · rename_i xs h1
        split at e
        · rename_i hl
          cases e
          obtain ⟨a', us, f1, f2, f3, f4⟩ := s1.rel.ow i xs h1
          rw [g1] at f1
          cases f1
          refine ⟨a, us, v, rfl, rfl, f2, by rw [f4.len]; exact Nat.lt_of_lt_of_le hl (by decide), ?_⟩
          exact k .non F1 _ (s1.trans (s1.rel.put h1 g1 (f4.append (.one d1)))) .non
        · cases e
      · cases e
    · cases e
  · cases e
theorem pop_imp {i : Nat} : ∀ σ H Q, LE K (sPop i) σ H Q → tBM0 K "list" rPop (tVar i) σ H Q := by
  rintro σ H Q ⟨F, ρ, r, ρ', R, e, k⟩
  unfold sPop at e
  split at e
  · rename_i xs h0
    obtain ⟨a, vs, g1, g2, g3, g4⟩ := R.ow i xs h0
    refine ⟨_, g1, .inl ⟨rfl, vs, .inl (.inl g2)⟩, ?_⟩
    split at e
    · rename_i d hd
      cases e
      obtain ⟨v, h1, h2⟩ := g4.get hd
      refine ⟨a, vs, v, rfl, rfl, g2, by rw [g4.len]; exact h1, ?_⟩
      exact k v F _ (R.put h0 g1 g4.dropLast) h2
    · cases e
  · cases e
end
end Pv

set_option Elab.async false
set_option linter.all false
set_option maxRecDepth 100000
set_option maxHeartbeats 4000000
set_option autoImplicit false
/-! Pv, part G: built-ins, slices, calls of defs. -/
namespace Pv
open PySem PySem.Spec PyProof.Rows L2

/-! ### built-ins on data -/
def fList : List D → Option Rs
  | [.list xs] => some (.nw xs)
  | [.tuple xs] => some (.nw xs)
  | _ => none
def fTuple : List D → Option Rs
  | [.list xs] => some (.va (.tuple xs))
  | [.tuple xs] => some (.va (.tuple xs))
  | _ => none
def fAbs : List D → Option Rs
  | [.int i] => some (.va (.int (if i < 0 then -i else i)))
  | _ => none
def fInt : List D → Option Rs
  | [.int i] => some (.va (.int i))
  | [.bool b] => some (.va (.int (if b then 1 else 0)))
  | _ => none
def fMax2 : List D → Option Rs
  | [.int i, .int j] => some (.va (.int (if j > i then j else i)))
  | _ => none
def fMin2 : List D → Option Rs
  | [.int i, .int j] => some (.va (.int (if j < i then j else i)))
  | _ => none
def fGcd : List D → Option Rs
  | [.int i, .int j] => some (.va (.int ((Nat.gcd i.natAbs j.natAbs : Nat) : Int)))
  | _ => none
def fSum : List D → Option Rs
  | [.list xs] => (intsOf xs).map fun ns => .va (.int ns.sum)
  | _ => none
def boolsOf : List D → Option (List Bool)
  | [] => some []
  | .bool i :: r => (boolsOf r).map (i :: ·)
  | _ => none
def fAny : List D → Option Rs
  | [.list xs] => (match boolsOf xs with
    | some bs => some (.va (.bool (bs.any id)))
    | none => (match intsOf xs with
      | some ns => some (.va (.bool (ns.any (· != 0))))
      | none => none))
  | _ => none
def fAll : List D → Option Rs
  | [.list xs] => (boolsOf xs).map fun bs => .va (.bool (bs.all id))
  | _ => none
def pairsOf : List D → Option (List (Int × Int))
  | [] => some []
  | .tuple [.int a, .int b] :: r => (pairsOf r).map ((a, b) :: ·)
  | _ => none
def pairD (p : Int × Int) : D := .tuple [.int p.1, .int p.2]
def ltP (p q : Int × Int) : Bool := decide (p.1 < q.1) || (decide (p.1 = q.1) && decide (p.2 < q.2))
def minP (p : Int × Int) (ps : List (Int × Int)) : Int × Int := ps.foldl (fun a y => if ltP y a then y else a) p
def fMin1 : List D → Option Rs
  | [.list xs] => (match intsOf xs with
    | some (n :: ns) => some (.va (.int (ns.foldl min n)))
    | some [] => none
    | none => (match pairsOf xs with
      | some (p :: ps) => some (.va (pairD (minP p ps)))
      | _ => none))
  | [.tuple xs] => (match intsOf xs with
    | some (n :: ns) => some (.va (.int (ns.foldl min n)))
    | _ => none)
  | _ => none
theorem boolsOf_eq : ∀ {xs : List D} {ns : List Bool}, boolsOf xs = some ns → xs = ns.map PyData.bool
  | [], ns, h => by cases h; rfl
  | d :: r, ns, h => by
    unfold boolsOf at h
    split at h
    · cases h; contradiction
    · rename_i i r' e
      cases e
      cases q : boolsOf r with
      | none => rw [q] at h; cases h
      | some ms => rw [q] at h; cases h; rw [boolsOf_eq q]; rfl
    · cases h
@[simp] theorem boolsOf_map : ∀ ns : List Bool, boolsOf (ns.map PyData.bool) = some ns
  | [] => rfl
  | n :: ns => by
    show boolsOf (.bool n :: ns.map PyData.bool) = _
    rw [boolsOf, boolsOf_map ns]
    rfl
theorem pairsOf_eq : ∀ {xs : List D} {ns : List (Int × Int)}, pairsOf xs = some ns → xs = ns.map pairD
  | [], ns, h => by cases h; rfl
  | d :: r, ns, h => by
    unfold pairsOf at h
    split at h
    · cases h; contradiction
    · rename_i a b r' e
      cases e
      cases q : pairsOf r with
      | none => rw [q] at h; cases h
      | some ms => rw [q] at h; cases h; rw [pairsOf_eq q]; rfl
    · cases h
@[simp] theorem pairsOf_map : ∀ ns : List (Int × Int), pairsOf (ns.map pairD) = some ns
  | [] => rfl
  | n :: ns => by
    show pairsOf (.tuple [.int n.1, .int n.2] :: ns.map pairD) = _
    rw [pairsOf, pairsOf_map ns]
    rfl
inductive Tk where
  | int | bool | str | list | tuple
def Tk.name : Tk → String
  | .int => "int"
  | .bool => "bool"
  | .str => "str"
  | .list => "list"
  | .tuple => "tuple"
def isiB : Tk → D → Option Bool
  | .int, .int _ => some true
  | .int, .bool _ => some true
  | .bool, .bool _ => some true
  | .str, .str _ => some true
  | .list, .list _ => some true
  | .tuple, .tuple _ => some true
  | _, .dict _ => none
  | _, _ => some false
def tyD : D → String
  | .none => "NoneType"
  | .bool _ => "bool"
  | .int _ => "int"
  | .str _ => "str"
  | .list _ => "list"
  | .tuple _ => "tuple"
  | .dict _ => "dict"
theorem isiB_kit {T : Tk} {d : D} {b : Bool} (h : isiB T d = some b) : kitB (tyD d) T.name = some b := by
  cases T <;> cases d <;> first | (cases h; done) | (cases h; simp only [tyD, Tk.name]; decide +kernel)
def sIsi (T : Tk) (a : SemE) : SemE := sUn (fun d => (isiB T d).map fun b => .va (.bool b)) a

section
variable {X : Cx} {K : PySem.W.Frag}
theorem tyX_of {F H : Hp} {v : V} {d : D} (s : Sub F H) (q : Dq K F v d) : TyX K H v (.type (tyD d)) := by
  cases q with
  | non => exact .base .non
  | bl b => exact .base (.bl b)
  | int i => exact .base (.int i)
  | str x => exact .base (.str x)
  | lst a c => exact .base (.lst (s _ _ a))
  | tup a c =>
    rcases a with (a | ⟨o, a⟩) | ⟨o, its, n, a, hc, _⟩
    · exact .base (.tup (s _ _ a))
    · exact .fTuple (s _ _ a)
    · exact .kTuple a hc
theorem isi_imp {T : Tk} {sa : SemE} : ∀ σ H Q, LE K (sIsi T sa) σ H Q → tCB (rIsi K) (tCons (LE K sa) (tCons (tC (.ty T.name)) tNil)) σ H Q := by
  rintro σ H Q ⟨F, ρ, z, ρ', R, e, k⟩
  unfold sIsi sUn at e
  cases ea : sa ρ with
  | none => rw [ea] at e; cases e
  | some p =>
    obtain ⟨x, ρ1⟩ := p
    rw [ea] at e
    cases eb : isiB T x.d with
    | none => simp only [eb] at e; cases e
    | some b =>
      simp only [eb] at e
      cases e
      refine LE.data R ea fun v F1 H1 s1 d1 => ?_
      exact ⟨v, .ty T.name, _, _, b, rfl, .ty _, tyX_of s1.rel.sub d1, kit_ty (isiB_kit eb), k _ F1 H1 s1 (.bl b)⟩
theorem le_isi {T : Tk} {e : Expr} {sa : SemE} {x : Str} {p p2 pos : Pos} (ha : PE X e (LE X.K sa)) (hg : Gl X "isinstance") (hm : X.mg "isinstance" = none) (hg2 : Gl X x) (hm2 : X.mg x = none) (hv : bootBuiltins x = some (.type T.name)) (hn : x ≠ "__name__") (hd : (x == ("__debug__" : Str)) = false) (hs : starEach (e :: [.Name x p2]) X.env = (false, eval e X.env) :: starEach [.Name x p2] X.env) :
    PE X (.Call (.Name "isinstance" p) [e, .Name x p2] [] pos) (LE X.K (sIsi T sa)) :=
  (pe_callB call_isi hg hm boot_isinstance (pa_cons ha (pa_cons (pe_bltn (v := .ty T.name) hg2 hm2 hv rfl hn hd) pa_nil) hs) (by decide) (by decide) hs rfl).imp isi_imp

theorem sp_list : CallSp K fList (fun xs H Q => ∃ p ys, xs = [.ref p] ∧ (SqL K H p ys ∨ SqT K H p ys) ∧ ∀ l, H l = none → Q (.ref l) (upd H l (.lst ys))) := by
  intro ds z F H vs Q e s d k
  unfold fList at e
  split at e
  · cases e
    cases d with
    | cons d1 d2 =>
      cases d2
      cases d1 with
      | lst a c => exact ⟨_, _, rfl, .inl (.inl (.inl (s _ _ a))), fun l hl => k _ _ _ (Ext.lst s hl) ⟨l, _, rfl, upd_same, s.nn hl, hl, c⟩⟩
  · cases e
    cases d with
    | cons d1 d2 =>
      cases d2
      cases d1 with
      | tup a c => exact ⟨_, _, rfl, .inr (s.t a), fun l hl => k _ _ _ (Ext.lst s hl) ⟨l, _, rfl, upd_same, s.nn hl, hl, c⟩⟩
  · cases e
theorem sp_tuple : CallSp K fTuple (fun xs H Q => ∃ p ys, xs = [.ref p] ∧ ((SqL K H p ys ∧ ∀ l, H l = none → Q (.ref l) (upd H l (.tup ys))) ∨ (SqT K H p ys ∧ Q (.ref p) H))) := by
  intro ds z F H vs Q e s d k
  unfold fTuple at e
  split at e
  · cases e
    cases d with
    | cons d1 d2 =>
      cases d2
      cases d1 with
      | lst a c => exact ⟨_, _, rfl, .inl ⟨.inl (.inl (s _ _ a)), fun l hl => k _ _ _ (Ext.tup s hl) (.tup (.inl (.inl upd_same)) ((Sub.put (s.nn hl)).dps c))⟩⟩
  · cases e
    cases d with
    | cons d1 d2 =>
      cases d2
      cases d1 with
      | tup a c => exact ⟨_, _, rfl, .inr ⟨s.t a, same_end s k rfl (.tup a c)⟩⟩
  · cases e
theorem sp_abs : CallSp K fAbs (fun xs H Q => ∃ i, xs = [.int i] ∧ Q (.int (if i < 0 then -i else i)) H) := by
  intro ds z F H vs Q e s d k
  unfold fAbs at e
  split at e
  · cases e
    cases d with
    | cons d1 d2 => cases d2; cases d1; exact ⟨_, rfl, same_end s k rfl (.int _)⟩
  · cases e
theorem sp_int : CallSp K fInt (fun xs H Q => (∃ i, xs = [.int i] ∧ Q (.int i) H) ∨ ∃ k, xs = [.bl k] ∧ Q (.int (if k then 1 else 0)) H) := by
  intro ds z F H vs Q e s d k
  unfold fInt at e
  split at e
  · cases e
    cases d with
    | cons d1 d2 => cases d2; cases d1; exact .inl ⟨_, rfl, same_end s k rfl (.int _)⟩
  · cases e
    cases d with
    | cons d1 d2 => cases d2; cases d1; exact .inr ⟨_, rfl, same_end s k rfl (.int _)⟩
  · cases e
theorem sp_max2 : CallSp K fMax2 (fun xs H Q => ∃ i j, xs = [.int i, .int j] ∧ Q (.int (if j > i then j else i)) H) := by
  intro ds z F H vs Q e s d k
  unfold fMax2 at e
  split at e
  · cases e
    cases d with
    | cons d1 d2 =>
      cases d2 with
      | cons d2 d3 => cases d3; cases d1; cases d2; exact ⟨_, _, rfl, same_end s k rfl (.int _)⟩
  · cases e
theorem sp_min2 : CallSp K fMin2 (fun xs H Q => ∃ i j, xs = [.int i, .int j] ∧ Q (.int (if j < i then j else i)) H) := by
  intro ds z F H vs Q e s d k
  unfold fMin2 at e
  split at e
  · cases e
    cases d with
    | cons d1 d2 =>
      cases d2 with
      | cons d2 d3 => cases d3; cases d1; cases d2; exact ⟨_, _, rfl, same_end s k rfl (.int _)⟩
  · cases e
theorem sp_gcd : CallSp K fGcd rGcd := by
  intro ds z F H vs Q e s d k
  unfold fGcd at e
  split at e
  · cases e
    cases d with
    | cons d1 d2 =>
      cases d2 with
      | cons d2 d3 => cases d3; cases d1; cases d2; exact ⟨_, _, rfl, same_end s k rfl (.int _)⟩
  · cases e
theorem sp_sum : CallSp K fSum (rSum K) := by
  intro ds z F H vs Q e s d k
  unfold fSum at e
  split at e
  · rename_i xs
    cases h : intsOf xs with
    | none => rw [h] at e; cases e
    | some ns =>
      rw [h] at e
      cases e
      have h' := intsOf_eq h
      subst h'
      cases d with
      | cons d1 d2 =>
        cases d2
        cases d1 with
        | lst a c =>
          have c' := c.ints
          subst c'
          exact ⟨_, ns, rfl, .inl (.inl (s _ _ a)), same_end s k rfl (.int _)⟩
  · cases e
def rAnyI (K : PySem.W.Frag) : List V → Hp → VK → Prop := fun vs H Q => ∃ (a : Addr) (ns : List Int), vs = [V.ref a] ∧ SqL K H a (ns.map V.int) ∧ Q (.bl (ns.any (· != 0))) H
theorem truth_ints {prog : Program} {w : World} {A : Around} {ns : List Int} {its : List Value} (e : IntsAre its ns) : TruthOf prog w A (fun i v => its.toArray[i]? = some v) (fun i => ns.getD i 0 != 0) := fun i v s Q E hv hq => by
  have hv' : its[i]? = some v := by simpa using hv
  have f : ∀ {its : List Value} {ns : List Int} (i : Nat) (v : Value), IntsAre its ns → its[i]? = some v → ∃ t, v = .int (ns.getD i 0) t := by
    intro its ns i v e
    induction e generalizing i with
    | nil => intro h; simp at h
    | cons n t r ih =>
      intro h
      cases i with
      | zero =>
        simp at h
        exact ⟨t, h.symm⟩
      | succ i =>
        obtain ⟨u, hu⟩ := ih i (by simpa using h)
        exact ⟨u, by rw [hu]; simp⟩
  obtain ⟨t, rfl⟩ := f i v e hv'
  exact PySem.P.truthy_int hq
theorem anyI_range : ∀ ns : List Int, (List.range ns.length).any (fun i => ns.getD i 0 != 0) = ns.any (· != 0)
  | [] => rfl
  | b :: bs => by
    rw [List.length_cons, List.range_succ_eq_map, List.any_cons, List.any_map, List.any_cons, ← anyI_range bs]
    all_goals rfl
theorem cr_anyI (hc : X.calm = true) : CallR X (.builtin "any") (rAnyI X.K) := by
  intro pins s σ H vs us Q I r h
  obtain ⟨a, ns, rfl, hs, q⟩ := h
  obtain ⟨its, rv, hl, _⟩ := I.list hs
  rw [Vals.ref1 r]
  have hb := rv.ints
  refine call_any_walk (iter_any hl.isList fun s₂ e2 st hne => ?_)
  subst e2
  refine ⟨_, _, _, _, _, _, _, rfl, Walks.list (A := X.A.in1) (I.ok.hd hc) _ a hne its.toArray, st, truth_ints hb, fun h' tk hk => ?_⟩
  refine ⟨.bl _, H, I.kept fun b o eo => hk b o (fun hmem => ?_) (Heap.get?_push_of_some _ eo), ?_, q⟩
  · rcases List.mem_cons.mp hmem with e1 | hmem
    · exact absurd (e1 ▸ Heap.lt_size eo) (Nat.lt_irrefl _)
    · cases hmem
  · show Value.bool _ = Value.bool _
    have hl : its.length = ns.length := hb.length
    rw [← anyI_range, List.size_toArray, hl]
def rAnyD (K : PySem.W.Frag) : List V → Hp → VK → Prop := fun vs H Q => rAny K vs H Q ∨ rAnyI K vs H Q
theorem cr_anyD (hc : X.calm = true) : CallR X (.builtin "any") (rAnyD X.K) := (cr_any hc).or (cr_anyI hc)
theorem sp_any : CallSp K fAny (rAnyD K) := by
  intro ds z F H vs Q e s d k
  unfold fAny at e
  split at e
  · rename_i xs
    cases h : boolsOf xs with
    | some bs =>
      rw [h] at e
      cases e
      have h' := boolsOf_eq h
      subst h'
      cases d with
      | cons d1 d2 =>
        cases d2
        cases d1 with
        | lst a c =>
          have c' := c.bools
          subst c'
          exact .inl ⟨_, bs, rfl, .inl (.inl (s _ _ a)), same_end s k rfl (.bl _)⟩
    | none =>
      simp only [h] at e
      cases h2 : intsOf xs with
      | none => rw [h2] at e; cases e
      | some ns =>
        rw [h2] at e
        cases e
        have h' := intsOf_eq h2
        subst h'
        cases d with
        | cons d1 d2 =>
          cases d2
          cases d1 with
          | lst a c =>
            have c' := c.ints
            subst c'
            exact .inr ⟨_, ns, rfl, .inl (.inl (s _ _ a)), same_end s k rfl (.bl _)⟩
  · cases e
theorem sp_all : CallSp K fAll (rAll K) := by
  intro ds z F H vs Q e s d k
  unfold fAll at e
  split at e
  · rename_i xs
    cases h : boolsOf xs with
    | none => rw [h] at e; cases e
    | some bs =>
      rw [h] at e
      cases e
      have h' := boolsOf_eq h
      subst h'
      cases d with
      | cons d1 d2 =>
        cases d2
        cases d1 with
        | lst a c =>
          have c' := c.bools
          subst c'
          exact ⟨_, bs, rfl, .inl (.inl (s _ _ a)), same_end s k rfl (.bl _)⟩
  · cases e

/-! ### min of a list of ints, of pairs -/
def rMinP (K : PySem.W.Frag) : List V → Hp → VK → Prop := fun vs H Q => ∃ (a : Addr) (ws : List V) (p : Int × Int) (ps : List (Int × Int)), vs = [V.ref a] ∧ SqL K H a ws ∧ DpAll K H ws ((p :: ps).map pairD) ∧
  ∀ (i : Nat) (v : V), ws[i]? = some v → (p :: ps)[i]? = some (minP p ps) → Q v H
theorem alike_pair (p q : Int × Int) : PySem.W.alike (pairD p) (pairD q) = true := by
  simp [pairD, PySem.W.alike, PySem.W.alikeAll]
theorem dataLt_pair (p q : Int × Int) : PySem.W.dataLt (pairD p) (pairD q) = ltP p q := by
  obtain ⟨a, b⟩ := p
  obtain ⟨c, d⟩ := q
  unfold pairD ltP
  rw [PySem.W.dataLt_tuple]
  have ev : ∀ x y : Int, PyData.eqv (.int x) (.int y) = decide (x = y) := fun x y => by
    rw [PyData.eqv]
    simp [BEq.beq, instBEqOfDecidableEq]
  have e0 : PyProof.Rows.lexLt itemOrd (PySem.W.keyToksAll []) (PySem.W.keyToksAll []) = false := by decide +kernel
  have al : ∀ x y : Int, PySem.W.alike (.int x) (.int y) = true := fun _ _ => rfl
  by_cases h : a = c
  · rw [PySem.W.dataLt_all_yes (al a c) (by rw [ev]; exact decide_eq_true h)]
    by_cases g : b = d
    · rw [PySem.W.dataLt_all_yes (al b d) (by rw [ev]; exact decide_eq_true g), e0]
      simp [h, g]
    · rw [PySem.W.dataLt_all_no (al b d) (by rw [ev]; exact decide_eq_false g), PySem.W.dataLt_int]
      simp [h]
  · rw [PySem.W.dataLt_all_no (al a c) (by rw [ev]; exact decide_eq_false h), PySem.W.dataLt_int]
    simp [h]
theorem minD_pair : ∀ (ps : List (Int × Int)) (p : Int × Int), PySem.W.minD (pairD p) (ps.map pairD) = pairD (minP p ps)
  | [], p => rfl
  | q :: ps, p => by
    unfold PySem.W.minD minP
    rw [List.map_cons, List.foldl_cons, List.foldl_cons, dataLt_pair]
    by_cases h : ltP q p = true
    · rw [if_pos h, if_pos h]
      exact minD_pair ps q
    · rw [if_neg h, if_neg h]
      exact minD_pair ps p
theorem pairs_alike (ps : List (Int × Int)) : PySem.W.AlikeAll (ps.map pairD) := by
  refine ⟨fun x hx y hy => ?_, fun x hx => ?_⟩
  · obtain ⟨p, _, rfl⟩ := List.mem_map.mp hx
    obtain ⟨q, _, rfl⟩ := List.mem_map.mp hy
    exact alike_pair p q
  · obtain ⟨p, _, rfl⟩ := List.mem_map.mp hx
    intro h
    cases h
theorem pairs_depth : ∀ ps : List (Int × Int), PyData.depthAll (ps.map pairD) ≤ 4
  | [] => by simp [PyData.depthAll]
  | p :: ps => by
    have := pairs_depth ps
    simp only [List.map_cons, PyData.depthAll, pairD, PyData.depth]
    omega
theorem cr_minP (hc : X.calm = true) (hu : X.A.units + 64 < cLine) : CallR X (.builtin "min") (rMinP X.K) := by
  intro pins s σ H vs us Q I r h
  obtain ⟨a, ws, p, ps, rfl, hs, hd, q⟩ := h
  obtain ⟨its, rv, hl, _⟩ := I.list hs
  rw [Vals.ref1 r]
  obtain ⟨as, hr⟩ := Dp.readsAll I _ ws its hd rv
  refine PySem.W.min_list_data (x := pairD p) (xs := ps.map pairD) (I.ok.hd hc) hl.isList (by simpa using hr) (pairs_alike (p :: ps)) (by have := pairs_depth (p :: ps); rw [List.map_cons] at this; omega) fun i v h' tk bs hv hrd hk => ?_
  rw [minD_pair] at hrd
  have hv' : its[i]? = some v := by simpa using hv
  obtain ⟨bs', r1, hlt, _, _⟩ := PySem.W.readsAll_at hr i v hv'
  have hi : i < (p :: ps).length := by simpa using hlt
  have e1 : ((p :: ps).map pairD).getD i .none = pairD ((p :: ps)[i]) := by
    rw [List.getD_eq_getElem?_getD, List.getElem?_map, List.getElem?_eq_getElem hi]
    rfl
  rw [e1] at r1
  have e2 := PySem.W.alike_unique _ _ v _ _ (alike_pair _ _) (Reads.keeps hk r1) hrd
  have e3 : (p :: ps)[i] = minP p ps := by
    unfold pairD at e2
    injection e2 with e2
    injection e2 with e4 e5
    injection e5 with e5 _
    injection e4 with e4
    injection e5 with e5
    exact Prod.ext e4 e5
  have hwi : i < ws.length := by rw [rv.length]; exact (List.getElem?_eq_some_iff.mp hv').1
  obtain ⟨u, hu, ru⟩ := rv.get (List.getElem?_eq_getElem hwi)
  rw [hv'] at hu
  cases hu
  exact ⟨ws[i], H, I.kept hk, ru, q i ws[i] (List.getElem?_eq_getElem hwi) (by rw [List.getElem?_eq_getElem hi, e3])⟩
def rMinT (K : PySem.W.Frag) : List V → Hp → VK → Prop := fun vs H Q => ∃ (a : Addr) (n : Int) (ns : List Int), vs = [V.ref a] ∧ SqT K H a ((n :: ns).map V.int) ∧ Q (.int (ns.foldl min n)) H
theorem ints_alike (ns : List Int) : PySem.W.AlikeAll (ns.map PyData.int) := by
  refine ⟨fun x hx y hy => ?_, fun x hx => ?_⟩
  · obtain ⟨p, _, rfl⟩ := List.mem_map.mp hx
    obtain ⟨q, _, rfl⟩ := List.mem_map.mp hy
    rfl
  · obtain ⟨p, _, rfl⟩ := List.mem_map.mp hx
    intro h
    cases h
theorem ints_depth : ∀ ns : List Int, PyData.depthAll (ns.map PyData.int) ≤ 4
  | [] => by simp [PyData.depthAll]
  | p :: ps => by
    have := ints_depth ps
    simp only [List.map_cons, PyData.depthAll, PyData.depth]
    omega
theorem cr_minT (hc : X.calm = true) (hu : X.A.units + 64 < cLine) : CallR X (.builtin "min") (rMinT X.K) := by
  intro pins s σ H vs us Q I r h
  obtain ⟨a, n, ns, rfl, hs, q⟩ := h
  obtain ⟨its, rv, ht, _⟩ := I.tuple hs
  rw [Vals.ref1 r]
  obtain ⟨as, hr⟩ := Dp.readsAll I _ _ its ((DqAll.of_ints (K := X.K) (F := H) (n :: ns)).dp) rv
  refine PySem.W.min_tuple_data (x := .int n) (xs := ns.map .int) (I.ok.hd hc) ht (by simpa using hr) (ints_alike (n :: ns)) (by have := ints_depth (n :: ns); rw [List.map_cons] at this; omega) fun i v h' tk bs hv hrd hk => ?_
  rw [PySem.W.minD_ints] at hrd
  cases hrd
  exact ⟨.int _, H, I.kept hk, ⟨_, rfl⟩, q⟩
def rMinD (K : PySem.W.Frag) : List V → Hp → VK → Prop := fun vs H Q => rMin K vs H Q ∨ rMinP K vs H Q ∨ rMinT K vs H Q
theorem cr_minD (hc : X.calm = true) (hu : X.A.units + 64 < cLine) : CallR X (.builtin "min") (rMinD X.K) := (cr_min hc).or ((cr_minP hc hu).or (cr_minT hc hu))
theorem foldl_min : ∀ (ns : List Int) (n m : Int), m ∈ n :: ns → (∀ y, y ∈ n :: ns → m ≤ y) → m = ns.foldl min n
  | [], n, m, h, _ => by
    simp at h
    exact h
  | k :: ns, n, m, h, l => by
    rw [List.foldl_cons]
    refine foldl_min ns (min n k) m ?_ fun y hy => ?_
    · rcases List.mem_cons.mp h with e | h
      · have h1 := l k (by simp)
        rw [Int.min_def]
        split
        · rw [e]; exact List.mem_cons_self
        · have : m = k := by omega
          rw [this]; exact List.mem_cons_self
      · rcases List.mem_cons.mp h with e | h
        · have h1 := l n (by simp)
          rw [Int.min_def]
          split
          · have : m = n := by omega
            rw [this]; exact List.mem_cons_self
          · rw [e]; exact List.mem_cons_self
        · exact List.mem_cons_of_mem _ h
    · rcases List.mem_cons.mp hy with e | hy
      · rw [e, Int.min_def]
        split
        · exact l n (by simp)
        · exact l k (by simp)
      · exact l y (by simp [hy])
theorem minP_mem : ∀ (ps : List (Int × Int)) (p : Int × Int), minP p ps ∈ p :: ps
  | [], p => List.mem_cons_self
  | q :: ps, p => by
    unfold minP
    rw [List.foldl_cons]
    by_cases h : ltP q p = true
    · rw [if_pos h]
      exact List.mem_cons_of_mem _ (minP_mem ps q)
    · rw [if_neg h]
      rcases List.mem_cons.mp (minP_mem ps p) with e | e
      · unfold minP at e
        rw [e]; exact List.mem_cons_self
      · exact List.mem_cons_of_mem _ (List.mem_cons_of_mem _ e)
theorem sp_min1 : CallSp K fMin1 (rMinD K) := by
  intro ds z F H vs Q e s d k
  unfold fMin1 at e
  split at e
  · rename_i xs
    split at e
    · rename_i n ns h
      cases e
      have h' := intsOf_eq h
      subst h'
      cases d with
      | cons d1 d2 =>
        cases d2
        cases d1 with
        | lst a c =>
          have c' := c.ints
          subst c'
          exact .inl ⟨_, n :: ns, rfl, .inl (.inl (s _ _ a)), Nat.succ_pos _, fun m h1 h2 => by rw [foldl_min ns n m h1 h2]; exact same_end s k rfl (.int _)⟩
    · cases e
    · split at e
      · rename_i p ps h
        cases e
        have h' := pairsOf_eq h
        subst h'
        cases d with
        | cons d1 d2 =>
          cases d2
          cases d1 with
          | lst a c =>
            refine .inr (.inl ⟨_, _, p, ps, rfl, .inl (.inl (s _ _ a)), (s.dps c).dp, fun i v h1 h2 => ?_⟩)
            obtain ⟨dd, h3, h4⟩ := c.get' h1
            rw [List.getElem?_map, h2] at h3
            cases h3
            exact same_end s k rfl h4
      · cases e
  · rename_i xs
    split at e
    · rename_i n ns h
      cases e
      have h' := intsOf_eq h
      subst h'
      cases d with
      | cons d1 d2 =>
        cases d2
        cases d1 with
        | tup a c =>
          have c' := c.ints
          subst c'
          exact .inr (.inr ⟨_, n, ns, rfl, s.t a, same_end s k rfl (.int _)⟩)
    · cases e
  · cases e
/-! ### list(range(..)), list(x) of a name that is only looked at -/
def sLstRg (a : SemE) : SemE := fun ρ => match a ρ with
  | some (x, ρ1) => (match x.d with
    | .int n => if n.natAbs ≤ 100000 then some (.nw (rgD 0 n.toNat), ρ1) else none
    | _ => none)
  | none => none
theorem rgV_D {F : Hp} (n : Int) : DqAll K F (rgV 0 n) (rgD 0 n.toNat) := by
  unfold rgV rgD
  rw [show n - 0 = n by omega]
  induction (List.range n.toNat) with
  | nil => exact .nil
  | cons i r ih => exact .cons (.int _) ih
theorem le_lstRg {a : Expr} {sa : SemE} {p p2 pos pos2 : Pos} (hc : X.calm = true) (hg : Gl X "list") (hm : X.mg "list" = none) (hg2 : Gl X "range") (hm2 : X.mg "range" = none) (ha : PE X a (LE X.K sa)) (na : starEach [a] X.env = (false, eval a X.env) :: starEach [] X.env) :
    PE X (.Call (.Name "list" p) [.Call (.Name "range" p2) [a] [] pos2] [] pos) (LE X.K (sLstRg sa)) :=
  (pe_listRg hc hg hm (prg_1 hg2 hm2 ha na)).imp fun σ H Q ⟨F, ρ, r, ρ', R, e, k⟩ => by
    unfold sLstRg at e
    split at e
    · rename_i x ρ1 e1
      split at e
      · rename_i n hx
        split at e
        · rename_i h
          cases e
          refine LE.data R e1 fun v F1 H1 s1 d1 => ?_
          rw [hx] at d1
          cases d1
          refine ⟨n, rfl, ⟨by decide, by decide, by omega, by omega, by omega⟩, fun q hq => ?_⟩
          exact k (.ref q) F1 _ (s1.ext' (Ext.lst s1.rel.sub hq)) (s1.res (Ext.lst s1.rel.sub hq) (r := .nw _) ⟨q, _, rfl, upd_same, s1.rel.sub.nn hq, hq, rgV_D n⟩)
        · cases e
      · cases e
    · cases e
def sLstV (i : Nat) : SemE := fun ρ => match ρ[i]? with
  | some (some sl) => (match sl.d with
    | .list xs => some (.nw xs, ρ)
    | .tuple xs => some (.nw xs, ρ)
    | _ => none)
  | _ => none
theorem lstV_imp {i : Nat} : ∀ σ H Q, LE K (sLstV i) σ H Q → tCB (fun xs H Q => ∃ p ys, xs = [.ref p] ∧ (SqL K H p ys ∨ SqT K H p ys) ∧ ∀ l, H l = none → Q (.ref l) (upd H l (.lst ys))) (tCons (tVar i) tNil) σ H Q := by
  rintro σ H Q ⟨F, ρ, z, ρ', R, e, k⟩
  unfold sLstV at e
  split at e
  · rename_i sl h
    obtain ⟨v, hv⟩ := R.val h
    refine ⟨v, hv, ?_⟩
    rcases R.look h hv with q | ⟨a, vs, xs, rfl, ex, hs, hd⟩
    · have s0 := Stp.refl R
      split at e
      · rename_i xs h2
        cases e
        exact sp_list [sl.d] (.nw xs) F H [v] Q (by rw [h2]; rfl) R.sub (.cons q .nil) fun v' F' H' ex h => k v' F' H' (s0.ext' ex) (s0.res ex h)
      · rename_i xs h2
        cases e
        exact sp_list [sl.d] (.nw xs) F H [v] Q (by rw [h2]; rfl) R.sub (.cons q .nil) fun v' F' H' ex h => k v' F' H' (s0.ext' ex) (s0.res ex h)
      · cases e
    · rw [ex] at e
      cases e
      refine ⟨a, vs, rfl, .inl hs, fun l hl => ?_⟩
      have s0 := Stp.refl R
      exact k (.ref l) F _ (s0.ext' (Ext.lst R.sub hl)) (s0.res (Ext.lst R.sub hl) (r := .nw _) ⟨l, vs, rfl, upd_same, R.sub.nn hl, hl, hd⟩)
  · cases e

/-! ### slices -/
def cutD (xs : List D) (lo hi : Option Int) : List D := (xs.drop (HT.sIx xs.length 0 lo)).take (HT.sIx xs.length xs.length hi - HT.sIx xs.length 0 lo)
abbrev SemO := Sr → Option (Option Int × Sr)
def LO (K : PySem.W.Frag) (s : SemO) : TO := fun σ H Q => ∃ F ρ o ρ', Rel K F ρ σ H ∧ s ρ = some (o, ρ') ∧ ∀ F' H', Stp K F ρ σ H F' ρ' σ H' → Q o H'
def oNo : SemO := fun ρ => some (none, ρ)
def oSome (a : SemE) : SemO := fun ρ => match a ρ with
  | some (x, ρ1) => (match x.d with
    | .int i => some (some i, ρ1)
    | _ => none)
  | none => none
def slD (d : D) (lo hi : Option Int) : Option Rs := match d with
  | .list xs => some (.nw (cutD xs lo hi))
  | .tuple xs => if HT.sIx xs.length 0 lo = 0 ∧ HT.sIx xs.length xs.length hi = xs.length then none else some (.va (.tuple (cutD xs lo hi)))
  | _ => none
def sSl (a : SemE) (lo hi : SemO) : SemE := fun ρ => match a ρ with
  | some (x, ρ1) => (match lo ρ1 with
    | some (l, ρ2) => (match hi ρ2 with
      | some (u, ρ3) => (match slD x.d l u with
        | some r => some (r, ρ3)
        | none => none)
      | none => none)
    | none => none)
  | none => none
theorem lo_none : PO X none (LO X.K oNo) := ⟨fun pins s σ H Q I ⟨F, ρ, o, ρ', R, e, k⟩ => by
  cases e
  exact po_none.run pins s σ H Q I (k F H (Stp.refl R))⟩
theorem lo_some {e : Expr} {sa : SemE} (h : PE X e (LE X.K sa)) : PO X (some e) (LO X.K (oSome sa)) := ⟨fun pins s σ H Q I ⟨F, ρ, o, ρ', R, e, k⟩ => by
  refine (po_some h).run pins s σ H Q I ?_
  unfold oSome at e
  split at e
  · rename_i x ρ1 e1
    split at e
    · rename_i i hx
      cases e
      refine LE.data R e1 fun v F1 H1 s1 d1 => ?_
      rw [hx] at d1
      cases d1
      exact ⟨i, rfl, k F1 H1 s1⟩
    · cases e
  · cases e⟩
def rSlD (K : PySem.W.Frag) : V → Option Int → Option Int → Hp → VK → Prop := fun x lo hi H Q => rSlL K x lo hi H Q ∨ rSlT K x lo hi H Q
theorem sl_D : SlR X (rSlD X.K) := sl_list.or sl_tup
theorem DqAll.cut {F : Hp} {vs : List V} {ds : List D} (h : DqAll K F vs ds) (lo hi : Option Int) : DqAll K F (cutV vs lo hi) (cutD ds lo hi) := by
  unfold cutV cutD
  rw [h.len]
  exact (h.drop _).take _
theorem le_slice {e : Expr} {lo hi : Option Expr} {sa : SemE} {sl sh : SemO} {pos p2 : Pos} (he : PE X e (LE X.K sa)) (hl : PO X lo (LO X.K sl)) (hu : PO X hi (LO X.K sh)) : PE X (.Subscript e (.Slice lo hi none p2) pos) (LE X.K (sSl sa sl sh)) :=
  (pe_slice sl_D he hl hu).imp fun σ H Q ⟨F, ρ, r, ρ', R, e, k⟩ => by
    unfold sSl at e
    split at e
    · rename_i x ρ1 e1
      split at e
      · rename_i l ρ2 e2
        split at e
        · rename_i u ρ3 e3
          split at e
          · rename_i z e4
            cases e
            refine LE.data R e1 fun v F1 H1 s1 d1 => ?_
            refine ⟨F1, ρ1, l, ρ2, s1.rel, e2, fun F2 H2 s2 => ?_⟩
            refine ⟨F2, ρ2, u, _, s2.rel, e3, fun F3 H3 s3 => ?_⟩
            have s := (s1.trans s2).trans s3
            have d3 := s3.ext.dp (s2.ext.dp d1)
            unfold slD at e4
            split at e4
            · rename_i xs hx
              cases e4
              rw [hx] at d3
              cases d3 with
              | lst a c => exact .inl ⟨_, _, rfl, .inl (.inl (s3.rel.sub _ _ a)), fun p hp => k (.ref p) F3 _ (s.ext' (Ext.lst s3.rel.sub hp)) (s.res (Ext.lst s3.rel.sub hp) (r := .nw _) ⟨p, _, rfl, upd_same, s3.rel.sub.nn hp, hp, c.cut l u⟩)⟩
            · rename_i xs hx
              split at e4
              · cases e4
              · rename_i hw
                cases e4
                rw [hx] at d3
                cases d3 with
                | tup a c =>
                  refine .inr ⟨_, _, rfl, s3.rel.sub.t a, by rw [c.len]; exact hw, fun p hp => ?_⟩
                  have ex : ∀ o, Ext F3 H3 (upd F3 p o) (upd H3 p o) := fun o => Ext.tup s3.rel.sub hp
                  exact k (.ref p) _ _ (s.ext' (ex _)) (s.res (ex _) (r := .va _) (.tup (.inl (.inl upd_same)) ((Sub.put (s3.rel.sub.nn hp)).dps (c.cut l u))))
            · cases e4
          · cases e
        · cases e
      · cases e
    · cases e

/-! ### calls of defs -/
/-- a def on data: its first argument may be a list that it changes (ow), the script (sc); the result, the changed list -/
abbrev Orc := Option Sl → List D → Option (Rs × Option (List D))
def ArgR (K : PySem.W.Frag) (F H : Hp) (fst : Option Sl) (vs : List V) (ds : List D) : Prop := Sub F H ∧ match fst with
  | none => DqAll K F vs ds
  | some (.ow xs) => ∃ a us ws, vs = .ref a :: ws ∧ H a = some (.lst us) ∧ F a = none ∧ DqAll K F us xs ∧ DqAll K F ws ds
  | some (.sc xs) => ∃ a us ws, vs = .ref a :: ws ∧ SqL K F a us ∧ DqAll K F us xs ∧ DqAll K F ws ds
  | some (.va _) => False
structure CallPost (K : PySem.W.Frag) (F H F' H' : Hp) (fst : Option Sl) (vs : List V) (out : Option (List D)) : Prop where
  sub : Sub F' H'
  ext : Sub F F'
  new : ∀ a, F' a ≠ none → F a ≠ none ∨ H a = none
  keep : ∀ b o, H b = some o → (∀ xs, fst = some (.ow xs) → vs.head? ≠ some (.ref b)) → H' b = some o
  dom : ∀ a, H a ≠ none → H' a ≠ none
  out : ∀ xs, fst = some (.ow xs) → ∃ a us' xs', out = some xs' ∧ vs.head? = some (.ref a) ∧ H' a = some (.lst us') ∧ DqAll K F' us' xs'
def CallSpec (K : PySem.W.Frag) (f : Orc) : Sp := fun vs H Q _ => ∃ F fst ds r out, ArgR K F H fst vs ds ∧ f fst ds = some (r, out) ∧ ∀ v F' H', CallPost K F H F' H' fst vs out → RsE K F' H H' r v → Q v H'
def sCall (f : Orc) (as : SemL) : SemE := fun ρ => match as ρ with
  | some (ds, ρ1) => (match f none ds with
    | some (r, none) => some (r, ρ1)
    | _ => none)
  | none => none
/-- the first argument a name: handed on as it stands -/
def sCallV (f : Orc) (i : Nat) (as : SemL) : SemE := fun ρ => match ρ[i]? with
  | some (some sl0) => (match as ρ with
    | some (ds, ρ1) => (match ρ1[i]? with
      | some (some (.ow xs)) => (match f (some (.ow xs)) ds with
        | some (r, some xs') => some (r, ρ1.set i (some (.ow xs')))
        | _ => none)
      | some (some (.sc xs)) => (match f (some (.sc xs)) ds with
        | some (r, none) => some (r, ρ1)
        | _ => none)
      | _ => none)
    | none => none)
  | _ => none
/-- the first argument a list just made -/
def sCallN (f : Orc) (a : SemE) (as : SemL) : SemE := fun ρ => match a ρ with
  | some (.nw xs, ρ1) => (match as ρ1 with
    | some (ds, ρ2) => (match f (some (.ow xs)) ds with
      | some (r, some _) => some (r, ρ2)
      | _ => none)
    | none => none)
  | _ => none
theorem post_ext {F H F' H' : Hp} {vs : List V} {out : Option (List D)} (p : CallPost K F H F' H' none vs out) : Ext F H F' H' := ⟨p.sub, p.ext, p.new, fun b o h => p.keep b o h fun xs z => by cases z⟩
theorem call_imp {f : Orc} {as : SemL} : ∀ σ H Q, LE K (sCall f as) σ H Q → tCall (CallSpec K f) [] E0 (LA K as) σ H Q := by
  rintro σ H Q ⟨F, ρ, z, ρ', R, e, k⟩
  unfold sCall at e
  split at e
  · rename_i ds ρ1 e1
    split at e
    · rename_i r e2
      cases e
      refine ⟨F, ρ, ds, _, R, e1, fun vs F1 H1 s1 d1 => ?_⟩
      refine ⟨F1, none, ds, _, none, ⟨s1.rel.sub, by rw [List.append_nil]; exact d1⟩, e2, fun v F' H' p h => ?_⟩
      exact k v F' H' (s1.ext' (post_ext p)) (s1.res (post_ext p) h)
    · cases e
  · cases e
theorem callV_imp {f : Orc} {i : Nat} {as : SemL} : ∀ σ H Q, LE K (sCallV f i as) σ H Q → tCall (CallSpec K f) [] E0 (tCons (tVar i) (LA K as)) σ H Q := by
  rintro σ H Q ⟨F, ρ, z, ρ', R, e, k⟩
  unfold sCallV at e
  split at e
  · rename_i sl0 h0
    obtain ⟨v0, hv0⟩ := R.val h0
    refine ⟨v0, hv0, ?_⟩
    split at e
    · rename_i ds ρ1 e1
      refine ⟨F, ρ, ds, ρ1, R, e1, fun vs F1 H1 s1 d1 => ?_⟩
      split at e
      · rename_i xs h1
        split at e
        · rename_i r xs' e2
          cases e
          obtain ⟨a, us, g1, g2, g3, g4⟩ := s1.rel.ow i xs h1
          rw [hv0] at g1
          cases g1
          refine ⟨F1, some (.ow xs), ds, _, some xs', ⟨s1.rel.sub, a, us, vs, by rw [List.append_nil], g2, g3, g4, d1⟩, e2, fun v F' H' p h => ?_⟩
          obtain ⟨a', us', xs'', eo, ha', hh, hd⟩ := p.out xs rfl
          cases eo
          have ea : a' = a := by
            have : some (V.ref a) = some (V.ref a') := by simpa using ha'
            cases this
            rfl
          subst ea
          have hF' : F' a' = none := by
            cases q : F' a' with
            | none => rfl
            | some o =>
              rcases p.new a' (by rw [q]; simp) with z | z
              · exact absurd g3 z
              · rw [z] at g2; cases g2
          have hi : i < ρ1.length := (List.getElem?_eq_some_iff.mp h1).1
          have kp : ∀ b o, H1 b = some o → b ≠ a' → H' b = some o := fun b o hb nb => p.keep b o hb fun xs _ => by
            intro z
            have : some (V.ref a') = some (V.ref b) := by simpa using z
            cases this
            exact nb rfl
          have s2 : Stp K F1 ρ1 σ H1 F' (ρ1.set i (some (.ow xs'))) σ H' := by
            refine ⟨⟨p.sub, fun j d hj => ?_, fun j zs hj => ?_, fun j zs hj => ?_, fun j l zs ws b q1 q2 q3 q4 => ?_, by rw [List.length_set]; exact s1.rel.ln⟩, p.ext, fun b hb => (p.new b hb).elim .inl fun z => .inr (.inl z), fun b o hb no => kp b o hb fun z => no ⟨i, xs, h1, by rw [z]; exact hv0⟩, fun b hb => ?_, p.dom⟩
            · rcases set_get hj with ⟨rfl, e1, _⟩ | ⟨ne, hj⟩
              · cases e1
              · obtain ⟨w, q1, q2⟩ := s1.rel.va j d hj
                exact ⟨w, q1, p.ext.dp q2⟩
            · rcases set_get hj with ⟨rfl, e1, _⟩ | ⟨ne, hj⟩
              · cases e1
                exact ⟨a', us', hv0, hh, hF', hd⟩
              · obtain ⟨b, ws, q1, q2, q3, q4⟩ := s1.rel.ow j zs hj
                have nb : b ≠ a' := fun z => ne (s1.rel.ne j i zs xs a' hj h1 (by rw [← z]; exact q1) hv0)
                refine ⟨b, ws, q1, kp b _ q2 nb, ?_, p.ext.dps q4⟩
                cases q : F' b with
                | none => rfl
                | some o =>
                  rcases p.new b (by rw [q]; simp) with z | z
                  · exact absurd q3 z
                  · rw [z] at q2; cases q2
            · rcases set_get hj with ⟨rfl, e1, _⟩ | ⟨ne, hj⟩
              · cases e1
              · obtain ⟨b, ws, q1, q2, q3⟩ := s1.rel.sc j zs hj
                exact ⟨b, ws, q1, p.ext.l q2, p.ext.dps q3⟩
            · have f1 : ∃ zs', ρ1[j]? = some (some (.ow zs')) := by
                rcases set_get q1 with ⟨rfl, e1, _⟩ | ⟨ne, h⟩
                · exact ⟨xs, h1⟩
                · exact ⟨zs, h⟩
              have f2 : ∃ zs', ρ1[l]? = some (some (.ow zs')) := by
                rcases set_get q2 with ⟨rfl, e1, _⟩ | ⟨ne, h⟩
                · exact ⟨xs, h1⟩
                · exact ⟨ws, h⟩
              obtain ⟨z1, f1⟩ := f1
              obtain ⟨z2, f2⟩ := f2
              exact s1.rel.ne j l z1 z2 b f1 f2 q3 q4
            · obtain ⟨j, zs, q1, q2⟩ := hb
              rcases set_get q1 with ⟨rfl, e1, _⟩ | ⟨ne, q1⟩
              · exact .inl ⟨j, xs, h1, q2⟩
              · exact .inl ⟨j, zs, q1, q2⟩
          refine k v F' H' (s1.trans s2) ?_
          cases z with
          | va d => exact h
          | nw ys =>
            obtain ⟨b, ws, rfl, q1, q2, q3, q4⟩ := h
            exact ⟨b, ws, rfl, q1, q2, s1.back q3, fun z => by
              rcases s2.owns b z with z | z
              · exact s1.rel.own_ne q3 z
              · obtain ⟨j, zs, w1, w2⟩ := ‹Own _ σ b›
                rcases set_get w1 with ⟨rfl, e1, _⟩ | ⟨ne, w1⟩
                · rw [hv0] at w2
                  cases w2
                  rw [q3] at g2
                  cases g2
                · exact s1.rel.own_ne q3 ⟨j, zs, w1, w2⟩, q4⟩
        · cases e
      · rename_i xs h1
        split at e
        · rename_i r e2
          cases e
          obtain ⟨a, us, g1, g2, g3⟩ := s1.rel.sc i xs h1
          rw [hv0] at g1
          cases g1
          refine ⟨F1, some (.sc xs), ds, _, none, ⟨s1.rel.sub, a, us, vs, by rw [List.append_nil], g2, g3, d1⟩, e2, fun v F' H' p h => ?_⟩
          have ex : Ext F1 H1 F' H' := ⟨p.sub, p.ext, p.new, fun b o h => p.keep b o h fun xs z => by cases z⟩
          exact k v F' H' (s1.ext' ex) (s1.res ex h)
        · cases e
      · cases e
    · cases e
  · cases e
theorem callN_imp {f : Orc} {sa : SemE} {as : SemL} : ∀ σ H Q, LE K (sCallN f sa as) σ H Q → tCall (CallSpec K f) [] E0 (tCons (LE K sa) (LA K as)) σ H Q := by
  rintro σ H Q ⟨F, ρ, z, ρ', R, e, k⟩
  unfold sCallN at e
  split at e
  · rename_i xs ρ1 e1
    refine ⟨F, ρ, _, ρ1, R, e1, fun v0 F1 H1 s1 h1 => ?_⟩
    split at e
    · rename_i ds ρ2 e2
      refine ⟨F1, ρ1, ds, ρ2, s1.rel, e2, fun vs F2 H2 s2 d2 => ?_⟩
      split at e
      · rename_i r xs' e3
        cases e
        obtain ⟨a, us, rfl, g1, g2, g3, g4, g5⟩ := RsR.hold s1 h1 s2
        have s12 := s1.trans s2
        refine ⟨F2, some (.ow xs), ds, _, some xs', ⟨s2.rel.sub, a, us, vs, by rw [List.append_nil], g1, g2, g5, d2⟩, e3, fun v F' H' p h => ?_⟩
        have kp : ∀ b o, H2 b = some o → b ≠ a → H' b = some o := fun b o hb nb => p.keep b o hb fun xs _ => by
          intro z
          have : some (V.ref a) = some (V.ref b) := by simpa using z
          cases this
          exact nb rfl
        have na : ∀ {i : Nat} {ys : List D} {b : Addr}, ρ'[i]? = some (some (.ow ys)) → σ[i]? = some (some (.ref b)) → b ≠ a := fun {i ys b} w1 w2 z => g4 ⟨i, ys, w1, by rw [← z]; exact w2⟩
        have s3 : Stp K F ρ σ H F' ρ' σ H' := by
          refine ⟨⟨p.sub, fun j d hj => ?_, fun j zs hj => ?_, fun j zs hj => ?_, s2.rel.ne, s2.rel.ln⟩, s12.ext.trans p.ext, fun b hb => ?_, fun b o hb no => ?_, s12.owns, fun b hb => p.dom b (s12.dom b hb)⟩
          · obtain ⟨w, q1, q2⟩ := s2.rel.va j d hj
            exact ⟨w, q1, p.ext.dp q2⟩
          · obtain ⟨b, ws, q1, q2, q3, q4⟩ := s2.rel.ow j zs hj
            refine ⟨b, ws, q1, kp b _ q2 (na hj q1), ?_, p.ext.dps q4⟩
            cases q : F' b with
            | none => rfl
            | some o =>
              rcases p.new b (by rw [q]; simp) with z | z
              · exact absurd q3 z
              · rw [z] at q2; cases q2
          · obtain ⟨b, ws, q1, q2, q3⟩ := s2.rel.sc j zs hj
            exact ⟨b, ws, q1, p.ext.l q2, p.ext.dps q3⟩
          · rcases p.new b hb with z | z
            · exact s12.new b z
            · exact .inr (.inl (s12.back z))
          · exact kp b o (s12.keep b o hb no) (ne_of_none hb g3)
        refine k v F' H' s3 ?_
        cases z with
        | va d => exact h
        | nw ys =>
          obtain ⟨b, ws, rfl, q1, q2, q3, q4⟩ := h
          exact ⟨b, ws, rfl, q1, q2, s12.back q3, s2.rel.own_ne q3, q4⟩
      · cases e
    · cases e
  · cases e
end
end Pv

set_option Elab.async false
set_option linter.all false
set_option maxRecDepth 100000
set_option maxHeartbeats 8000000
set_option autoImplicit false
/-! Pv, part H: from the syntax tree to the semantic functions. -/
namespace Pv
open PySem PySem.Spec PyProof.Rows L2

/-! ### comparing a name's list that is only looked at -/
def sCmpV (f : D → D → Option Rs) (i : Nat) (sb : SemE) : SemE := fun ρ => match ρ[i]? with
  | some (some _) => (match sb ρ with
    | some (y, ρ1) => (match ρ1[i]? with
      | some (some (.va d)) => (match f d y.d with
        | some (.va (.bool b)) => some (.va (.bool b), ρ1)
        | _ => none)
      | some (some (.ow xs)) => (match f (.list xs) y.d with
        | some (.va (.bool b)) => some (.va (.bool b), ρ1)
        | _ => none)
      | _ => none)
    | none => none)
  | _ => none
theorem cmpV_imp {K : PySem.W.Frag} {f : D → D → Option Rs} {r : R2} {i : Nat} {sb : SemE} (hf : OpSp K f r) : ∀ σ H Q, LE K (sCmpV f i sb) σ H Q → tOp r (tVar i) (LE K sb) σ H Q := by
  rintro σ H Q ⟨F, ρ, z, ρ', R, e, k⟩
  unfold sCmpV at e
  split at e
  · rename_i sl0 h0
    obtain ⟨v, hv⟩ := R.val h0
    refine ⟨v, hv, ?_⟩
    split at e
    · rename_i y ρ1 h1
      refine LE.data R h1 fun vy F1 H1 s1 d1 => ?_
      split at e
      · rename_i d h2
        split at e
        · rename_i b h3
          cases e
          obtain ⟨v', e', q⟩ := s1.rel.va i d h2
          rw [hv] at e'
          cases e'
          exact hf _ _ _ F1 H1 v vy Q h3 s1.rel.sub q d1 fun v' F' H' ex h => by
            cases h
            exact k (.bl b) F1 H' (s1.ext' ⟨s1.rel.sub.trans ex.keep, Sub.refl _, fun _ h => .inl h, ex.keep⟩) (.bl b)
        · cases e
      · rename_i xs h2
        split at e
        · rename_i b h3
          cases e
          obtain ⟨a, vs, e', g1, g2, g3⟩ := s1.rel.ow i xs h2
          rw [hv] at e'
          cases e'
          have s2 : Sub (upd F1 a (.lst vs)) H1 := fun b' o q => by
            by_cases z : b' = a
            · subst z; rw [upd_same] at q; cases q; exact g1
            · rw [upd_ne z] at q; exact s1.rel.sub _ _ q
          exact hf _ _ _ _ H1 _ vy Q h3 s2 (.lst upd_same ((Sub.put g2).dps g3)) ((Sub.put g2).dp d1) fun v' F' H' ex h => by
            cases h
            exact k (.bl b) F1 H' (s1.ext' ⟨s1.rel.sub.trans ex.keep, Sub.refl _, fun _ h => .inl h, ex.keep⟩) (.bl b)
        · cases e
      · cases e
    · cases e
  · cases e

/-! ### the tables -/
def freeN : List Str := ["len", "min", "max", "abs", "sum", "any", "all", "list", "tuple", "range", "enumerate", "zip", "isinstance", "int", "bool", "str"]
def idxOf : List Str → Str → Option Nat
  | [], _ => none
  | y :: r, x => if y = x then some 0 else (idxOf r x).map (· + 1)
theorem idxOf_get : ∀ {N : List Str} {x : Str} {i : Nat}, idxOf N x = some i → N[i]? = some x
  | [], _, _, h => by cases h
  | y :: r, x, i, h => by
    unfold idxOf at h
    split at h
    · rename_i e
      cases h
      rw [e]; rfl
    · cases q : idxOf r x with
      | none => rw [q] at h; cases h
      | some j =>
        rw [q] at h
        cases h
        rw [List.getElem?_cons_succ]
        exact idxOf_get q
def gd (b : Bool) : Option Unit := if b = true then some () else none
theorem gd_some {b : Bool} {u : Unit} (h : gd b = some u) : b = true := by
  unfold gd at h
  split at h
  · assumption
  · cases h
def visB (sc : Scope) (x : Str) : Bool := match sc.names.lookup x with
  | some .local => true
  | some .cell => true
  | some .free => true
  | _ => false
def locB (sc : Scope) (fn : Str → Bool) (x : Str) : Bool := match sc.names.lookup x with
  | some .local => true
  | some .cell => fn x
  | _ => false
def glB (sc : Scope) (x : Str) : Bool := match sc.names.lookup x with
  | some .globalImplicit => true
  | _ => false
def okN (x : Str) : Bool := !(x == ("__debug__" : Str)) && !(x == ("__classdict__" : Str))
def notStar : Expr → Bool
  | .Starred .. => false
  | _ => true
def notSet : Expr → Bool
  | .Set .. => false
  | _ => true
def notSlice : Expr → Bool
  | .Slice .. => false
  | _ => true
def notLc : Expr → Bool
  | .ListComp .. => false
  | .SetComp .. => false
  | .DictComp .. => false
  | _ => true
def truB : Expr → Bool
  | .Name .. => true
  | .Call .. => true
  | .Subscript .. => true
  | .Constant .. => true
  | _ => false
def constS : Const → Option SemE
  | .int i => some (sC (.int i))
  | .bool b => some (sC (.bool b))
  | .none => some (sC .none)
  | .str x => some (sC (.str x))
  | _ => none
def binF : Operator → Option (D → D → Option Rs)
  | .Add => some fAdd
  | .Sub => some fSub
  | .Mult => some fMul
  | .FloorDiv => some fDiv
  | .Mod => some fMod
  | .Pow => some fPow
  | _ => none
def cmpF : CmpOp → Option (D → D → Option Rs)
  | .Eq => some fEq
  | .NotEq => some fNe
  | .Lt => some fLt
  | .LtE => some fLe
  | .Gt => some fGt
  | .GtE => some fGe
  | .In => some fIn
  | .NotIn => some fNotIn
  | .Is => some fIsN
  | .IsNot => some fNotN
def tkOf (x : Str) : Option Tk := if x = "int" then some .int else if x = "bool" then some .bool else if x = "str" then some .str else if x = "list" then some .list else if x = "tuple" then some .tuple else none
/-- built-ins by name and number of arguments: a type or not, what it does -/
def bltF (x : Str) (m : Nat) : Option (Bool × (List D → Option Rs)) :=
  if x = "len" then (if m = 1 then some (false, fLen) else none)
  else if x = "min" then (if m = 1 then some (false, fMin1) else if m = 2 then some (false, fMin2) else none)
  else if x = "max" then (if m = 2 then some (false, fMax2) else none)
  else if x = "abs" then (if m = 1 then some (false, fAbs) else none)
  else if x = "sum" then (if m = 1 then some (false, fSum) else none)
  else if x = "any" then (if m = 1 then some (false, fAny) else none)
  else if x = "all" then (if m = 1 then some (false, fAll) else none)
  else if x = "list" then (if m = 1 then some (true, fList) else none)
  else if x = "tuple" then (if m = 1 then some (true, fTuple) else none)
  else if x = "int" then (if m = 1 then some (true, fInt) else none)
  else none

/-- what a text is compiled over: the names by slot, the defs, those whose first argument is handed on as it stands -/
structure CE where
  N : List Str
  O : Str → Option Orc
  by_ : Str → Bool
def CallOk (X : Cx) (f : Str) (orc : Orc) : Prop := ∃ (k : Nat) (a : Addr) (fd : FuncData) (ps : List Str), FnOk X.prog X.w X.K X.mg X.base CX0 k a fd ps (CallSpec X.K orc) ∧ Room k X.A ∧ X.mg f = some (.ref a) ∧ PySem.W.keepIn X.K (.ref a) = true ∧ Binds X.K fd ps []
structure Ctx (X : Cx) (G : CE) (sc : Scope) (fn : Str → Bool) : Prop where
  N : X.N = G.N
  nd : G.N.Nodup
  sc_ : X.env.scope = sc
  fn_ : X.fn = fn
  calm : X.calm = true
  nox : X.xe = fun _ _ => False
  un : X.A.units + 64 < cLine
  call : ∀ f orc, G.O f = some orc → CallOk X f orc
  free : ∀ x ∈ freeN, X.mg x = none
  gcd : X.mg "gcd" = some (.builtin "math.gcd")
section
variable {X : Cx} {G : CE} {sc : Scope} {fn : Str → Bool}
theorem Ctx.blk (c : Ctx X G sc fn) (s : Shared) (H : Hp) (cs : Scope) (C : Addr) (cl : List (Str × Addr)) (fp : List Addr) : Ctx (X.blk s H cs (compEnvC cs cl C X.env) fp) G (relS cs sc) (fun x => cs.names.lookup x == some .cell) :=
  ⟨c.N, c.nd, by rw [← c.sc_]; rfl, rfl, c.calm, rfl, c.un, c.call, c.free, c.gcd⟩
theorem Ctx.nox_ (c : Ctx X G sc fn) : Ctx X.nox G sc fn := ⟨c.N, c.nd, c.sc_, c.fn_, c.calm, rfl, c.un, c.call, c.free, c.gcd⟩
theorem Ctx.name (c : Ctx X G sc fn) {x : Str} {i : Nat} (h : idxOf G.N x = some i) : X.N[i]? = some x := by rw [c.N]; exact idxOf_get h
theorem Ctx.vis (c : Ctx X G sc fn) {x : Str} (h : visB sc x = true) : Vis X.env.scope x := by
  rw [c.sc_]
  unfold visB at h
  split at h
  · exact .inl (by assumption)
  · exact .inr (.inl (by assumption))
  · exact .inr (.inr (by assumption))
  · cases h
theorem Ctx.loc (c : Ctx X G sc fn) {x : Str} (h : locB sc fn x = true) : Loc X.env.scope x ∧ (X.fn x = true ∨ X.env.scope.names.lookup x = some .local) := by
  rw [c.sc_, c.fn_]
  unfold locB at h
  split at h
  · rename_i e
    exact ⟨.inl e, .inr e⟩
  · rename_i e
    exact ⟨.inr e, .inl h⟩
  · cases h
theorem Ctx.gl (c : Ctx X G sc fn) {x : Str} (h : glB sc x = true) : Gl X x := by
  show X.env.scope.names.lookup x = _
  rw [c.sc_]
  unfold glB at h
  split at h
  · assumption
  · cases h
theorem okN_1 {x : Str} (h : okN x = true) : (x == ("__debug__" : Str)) = false := by
  unfold okN at h
  have := (Bool.and_eq_true_iff.mp h).1
  simpa using this
theorem okN_2 {x : Str} (h : okN x = true) : (x == ("__classdict__" : Str)) = false := by
  unfold okN at h
  have := (Bool.and_eq_true_iff.mp h).2
  simpa using this
theorem star_of {e : Expr} {es : List Expr} {env : Env} (h : notStar e = true) : starEach (e :: es) env = (false, eval e env) :: starEach es env := by
  cases e <;> first | rfl | cases h
theorem assign_of {e : Expr} {es : List Expr} {env : Env} (h : notStar e = true) : assignEach (e :: es) env = (false, assign e env) :: assignEach es env := by
  cases e <;> first | rfl | cases h
theorem plain_of {pos : Pos} {env : Env} : ∀ {es : List Expr}, es.all notStar = true → (backTo pos (starEach es env)).any (·.1) = false
  | [], _ => rfl
  | e :: es, h => by
    rw [List.all_cons, Bool.and_eq_true] at h
    rw [star_of h.1]
    show (false || (backTo pos (starEach es env)).any (·.1)) = false
    rw [plain_of h.2]
    rfl
theorem assign_len {env : Env} : ∀ {es : List Expr}, es.all notStar = true → (assignEach es env).length = es.length ∧ (assignEach es env).findIdx? (·.1) = none
  | [], _ => ⟨rfl, rfl⟩
  | e :: es, h => by
    rw [List.all_cons, Bool.and_eq_true] at h
    rw [assign_of h.1]
    obtain ⟨h1, h2⟩ := assign_len (env := env) h.2
    exact ⟨by rw [List.length_cons, List.length_cons, h1], by rw [List.findIdx?_cons]; simp [h2]⟩
theorem set_of {e : Expr} {env : Env} (h : notSet e = true) : ∀ x, foldedSetIterable e env x = pure x := by
  intro x
  cases e <;> first | rfl | cases h
theorem mark_of {e : Expr} {op : CmpOp} (h : notSet e = true) : behindInMarks op e = false := by
  cases e <;> first | rfl | cases h
theorem ix_of {b : Expr} (h : notSlice b = true) : PlainIx b := by
  intro o i
  cases b <;> first | rfl | cases h
theorem tru_of' {e : Expr} (h : truB e = true) : ∀ whole, isTrue e X.env whole = (do let v ← whole; standAt e.pos; holding [v] (truthy v)) := by
  intro whole
  cases e <;> first | rfl | cases h
theorem bin_of {op : Operator} {f : D → D → Option Rs} (h : binF op = some f) : ∃ r, OpR X (binaryOp op) r ∧ OpSp X.K f r := by
  unfold binF at h
  split at h <;> first | (cases h; done) | cases h
  · exact ⟨_, op_addD, sp_add⟩
  · exact ⟨_, op_subD, sp_sub⟩
  · exact ⟨_, op_mulD, sp_mul⟩
  · exact ⟨_, op_divD, sp_div⟩
  · exact ⟨_, op_modD, sp_mod⟩
  · exact ⟨_, op_powD, sp_pow⟩
theorem cmp_of (hu : X.A.units + 64 < cLine) {op : CmpOp} {f : D → D → Option Rs} (h : cmpF op = some f) : ∃ r, OpR X (compareOp op) r ∧ OpSp X.K f r := by
  unfold cmpF at h
  split at h <;> cases h
  · exact ⟨_, op_eqA hu, sp_eq⟩
  · exact ⟨_, op_neA hu, sp_ne⟩
  · exact ⟨_, op_lt, sp_lt⟩
  · exact ⟨_, op_le, sp_le⟩
  · exact ⟨_, op_gt, sp_gt⟩
  · exact ⟨_, op_ge, sp_ge⟩
  · exact ⟨_, op_in_seq, sp_in⟩
  · exact ⟨_, op_notIn_seq, sp_notIn⟩
  · exact ⟨_, op_isN, sp_isN⟩
  · exact ⟨_, op_notN, sp_notN⟩
theorem blt_of (hc : X.calm = true) (hu : X.A.units + 64 < cLine) {x : Str} {m : Nat} {ty : Bool} {f : List D → Option Rs} (h : bltF x m = some (ty, f)) :
    (∃ id r, CallSp X.K f r ∧ ((ty = false ∧ CallR X (.builtin id) r ∧ bootBuiltins x = some (.builtin id)) ∨ (ty = true ∧ CallR X (.type id) r ∧ bootBuiltins x = some (.type id)))) ∧ x ∈ freeN ∧ x ≠ "__name__" ∧ (x == ("__debug__" : Str)) = false := by
  unfold bltF at h
  split at h
  · rename_i e; subst e
    split at h <;> cases h
    exact ⟨⟨_, _, sp_len, .inl ⟨rfl, call_len_seq, PySem.boot_len⟩⟩, by decide, by decide, by decide⟩
  split at h
  · rename_i e; subst e
    split at h
    · cases h
      exact ⟨⟨_, _, sp_min1, .inl ⟨rfl, cr_minD hc hu, boot_min⟩⟩, by decide, by decide, by decide⟩
    · split at h <;> cases h
      exact ⟨⟨_, _, sp_min2, .inl ⟨rfl, call_min2 hc, boot_min⟩⟩, by decide, by decide, by decide⟩
  split at h
  · rename_i e; subst e
    split at h <;> cases h
    exact ⟨⟨_, _, sp_max2, .inl ⟨rfl, call_max2 hc, boot_max⟩⟩, by decide, by decide, by decide⟩
  split at h
  · rename_i e; subst e
    split at h <;> cases h
    exact ⟨⟨_, _, sp_abs, .inl ⟨rfl, call_abs, boot_abs⟩⟩, by decide, by decide, by decide⟩
  split at h
  · rename_i e; subst e
    split at h <;> cases h
    exact ⟨⟨_, _, sp_sum, .inl ⟨rfl, cr_sum hc, boot_sum⟩⟩, by decide, by decide, by decide⟩
  split at h
  · rename_i e; subst e
    split at h <;> cases h
    exact ⟨⟨_, _, sp_any, .inl ⟨rfl, cr_anyD hc, boot_any⟩⟩, by decide, by decide, by decide⟩
  split at h
  · rename_i e; subst e
    split at h <;> cases h
    exact ⟨⟨_, _, sp_all, .inl ⟨rfl, cr_all hc, boot_all⟩⟩, by decide, by decide, by decide⟩
  split at h
  · rename_i e; subst e
    split at h <;> cases h
    exact ⟨⟨_, _, sp_list, .inr ⟨rfl, call_list_of, boot_list⟩⟩, by decide, by decide, by decide⟩
  split at h
  · rename_i e; subst e
    split at h <;> cases h
    exact ⟨⟨_, _, sp_tuple, .inr ⟨rfl, call_tuple_of, boot_tuple⟩⟩, by decide, by decide, by decide⟩
  split at h
  · rename_i e; subst e
    split at h <;> cases h
    exact ⟨⟨_, _, sp_int, .inr ⟨rfl, call_int1, boot_int⟩⟩, by decide, by decide, by decide⟩
  cases h
theorem tk_of {x : Str} {T : Tk} (h : tkOf x = some T) : x ∈ freeN ∧ bootBuiltins x = some (.type T.name) ∧ x ≠ "__name__" ∧ (x == ("__debug__" : Str)) = false := by
  unfold tkOf at h
  split at h
  · rename_i e; subst e; cases h; exact ⟨by decide, boot_int, by decide, by decide⟩
  split at h
  · rename_i e; subst e; cases h; exact ⟨by decide, boot_bool, by decide, by decide⟩
  split at h
  · rename_i e; subst e; cases h; exact ⟨by decide, boot_str, by decide, by decide⟩
  split at h
  · rename_i e; subst e; cases h; exact ⟨by decide, boot_list, by decide, by decide⟩
  split at h
  · rename_i e; subst e; cases h; exact ⟨by decide, boot_tuple, by decide, by decide⟩
  cases h
end
end Pv

set_option Elab.async false
set_option linter.all false
set_option maxRecDepth 100000
set_option maxHeartbeats 8000000
set_option autoImplicit false
/-! Pv, part I: the compiler and its soundness. -/
namespace Pv
open PySem PySem.Spec PyProof.Rows L2

theorem bd {α β : Type} {o : Option α} {f : α → Option β} {z : β} (h : (o >>= f) = some z) : ∃ x, o = some x ∧ f x = some z := by
  cases o with
  | none => cases h
  | some x => exact ⟨x, rfl, h⟩

structure Rec where
  E : Scope → (Str → Bool) → Expr → Option SemE
  T : Scope → (Str → Bool) → Expr → Option SemT
  G : Scope → (Str → Bool) → Expr → Option (SemG × List Nat)
  S : Scope → (Str → Bool) → List Nat → List Stmt → Option SemS
def rec0 : Rec := ⟨fun _ _ _ => none, fun _ _ _ => none, fun _ _ _ => none, fun _ _ _ _ => none⟩
structure Snd (G : CE) (R : Rec) : Prop where
  e_ : ∀ {X : Cx} {sc : Scope} {fn : Str → Bool} {e : Expr} {s : SemE}, Ctx X G sc fn → R.E sc fn e = some s → PE X e (LE X.K s)
  t_ : ∀ {X : Cx} {sc : Scope} {fn : Str → Bool} {e : Expr} {s : SemT}, Ctx X G sc fn → R.T sc fn e = some s → PT X e (LT X.K s)
  g_ : ∀ {X : Cx} {sc : Scope} {fn : Str → Bool} {e : Expr} {s : SemG} {ws : List Nat}, Ctx X G sc fn → R.G sc fn e = some (s, ws) → PG X e (LGt X.K ws s)
  s_ : ∀ {X : Cx} {sc : Scope} {fn : Str → Bool} {refs : List Nat} {b : List Stmt} {s : SemS}, Ctx X G sc fn → R.S sc fn refs b = some s → PSs X b (LS X.K refs s)
theorem snd0 (G : CE) : Snd G rec0 := ⟨fun _ h => (by cases h), fun _ h => (by cases h), fun _ h => (by cases h), fun _ h => (by cases h)⟩

section
variable (G : CE) (R : Rec) (sc : Scope) (fn : Str → Bool)
def cA : List Expr → Option SemL
  | [] => some sNil
  | e :: es => do
    let _ ← gd (notStar e && es.all notStar)
    let a ← R.E sc fn e
    let r ← cA es
    pure (sCons a r)
def cV (x : Str) : Option Nat := do
  let _ ← gd (visB sc x && okN x)
  idxOf G.N x
def nameOf : Expr → Option Str
  | .Name x _ => some x
  | _ => none
def cCmp (a : Expr) (op : CmpOp) (b : Expr) : Option SemE := do
  let f ← cmpF op
  let _ ← gd (notSet b)
  let sb ← R.E sc fn b
  match a with
  | .Name x _ => do
    let i ← cV G sc x
    pure (sCmpV f i sb)
  | a => do
    let sa ← R.E sc fn a
    pure (sBin f sa sb)
def cBV (op : BoolOp) : List Expr → Option SemE
  | [] => none
  | [a] => R.E sc fn a
  | a :: b :: r => do
    let sa ← R.E sc fn a
    let sb ← cBV op (b :: r)
    match op with
    | .And => pure (sAndV sa sb)
    | .Or => pure (sOrV sa sb)
def cBT (op : BoolOp) : List Expr → Option SemT
  | [] => none
  | [a] => R.T sc fn a
  | a :: b :: r => do
    let sa ← R.T sc fn a
    let sb ← cBT op (b :: r)
    match op with
    | .And => pure (sAnd sa sb)
    | .Or => pure (sOr sa sb)
def cO : Option Expr → Option SemO
  | none => some oNo
  | some e => do
    let a ← R.E sc fn e
    pure (oSome a)
def cI (tg e : Expr) : Option SemI := do
  match e with
  | .Call (.Name x _) as [] _ =>
    if x = "range" then do
      let _ ← gd (glB sc x)
      let s ← cA R sc fn as
      match as with
      | [_] => pure (iRg1 s)
      | [_, _] => pure (iRg2 s)
      | _ => none
    else if x = "enumerate" then do
      let _ ← gd (glB sc x)
      let s ← cA R sc fn as
      match tg, as with
      | .Tuple .., [_] => pure (iEn s)
      | _, _ => none
    else if x = "zip" then do
      let _ ← gd (glB sc x)
      let s ← cA R sc fn as
      match tg, as with
      | .Tuple .., [_, _] => pure (iZp s)
      | _, _ => none
    else do
      let s ← R.E sc fn e
      pure (iS s)
  | _ => do
    let s ← R.E sc fn e
    pure (iS s)
def sYes : SemT := fun ρ => some (true, ρ)
def cTs : List Expr → Option SemT
  | [] => some sYes
  | [c] => R.T sc fn c
  | _ => none
def ownOf (scope : Scope) : List (Str × Nat) := scope.names.filterMap fun y => match y.2 with
  | .local => (idxOf G.N y.1).map fun i => (y.1, i)
  | .cell => (idxOf G.N y.1).map fun i => (y.1, i)
  | _ => none
def blkFn (scope : Scope) : Str → Bool := fun x => scope.names.lookup x == some .cell
def cLc (elt tg iter : Expr) (ifs : List Expr) (scope : Scope) : Option SemE := do
  let _ ← gd (blkC G.N sc scope (ownOf G scope) && notSet iter)
  let si ← cI R sc fn tg iter
  let (g, ws) ← R.G (relS scope sc) (blkFn scope) tg
  let _ ← gd (ws.all fun i => decide (i ∈ (ownOf G scope).map (·.2)))
  let tt ← cTs R (relS scope sc) (blkFn scope) ifs
  let te ← R.E (relS scope sc) (blkFn scope) elt
  pure (sLc ((ownOf G scope).map (·.2)) si g tt te)
def cC (x : Str) (as : List Expr) : Option SemE := do
  let _ ← gd (glB sc x && okN x && as.all notStar)
  match G.O x with
  | some orc => (match as with
    | [] => none
    | a :: r => do
      let sr ← cA R sc fn r
      (if G.by_ x = true then (match nameOf a with
        | some y => (do
          let i ← cV G sc y
          pure (sCallV orc i sr))
        | none => (do
          let sa ← R.E sc fn a
          pure (sCallN orc sa sr)))
      else (do
        let sa ← R.E sc fn a
        pure (sCall orc (sCons sa sr)))))
  | none =>
    if x = "isinstance" then (match as with
      | [e, .Name t _] => do
        let _ ← gd (glB sc t)
        let T ← tkOf t
        let s ← R.E sc fn e
        pure (sIsi T s)
      | _ => none)
    else if x = "gcd" then do
      let s ← cA R sc fn as
      match as with
      | [_, _] => pure (sArgs fGcd s)
      | _ => none
    else do
      let (_, f) ← bltF x as.length
      let s ← cA R sc fn as
      match as with
      | [] => none
      | [.Name y _] => (if x = "list" then (do
          let i ← cV G sc y
          pure (sLstV i))
        else if x = "len" then (do
          let i ← cV G sc y
          pure (sLenV i))
        else pure (sArgs f s))
      | _ => pure (sArgs f s)
/-- list(range(e)) -/
def cLr (x : Str) : Expr → Option SemE
  | .Call (.Name y _) [a] [] _ => if x = "list" ∧ y = "range" then (do
      let _ ← gd (glB sc x && glB sc y && notStar a)
      let s ← R.E sc fn a
      pure (sLstRg s))
    else none
  | _ => none
def cM (x m : Str) (as : List Expr) : Option SemE := do
  let i ← cV G sc x
  match as with
  | [] => (if m = "pop" then pure (sPop i) else none)
  | [e] => (if m = "append" then (do
      let _ ← gd (notStar e)
      let s ← R.E sc fn e
      pure (sApp i s))
    else none)
  | _ => none
def cE : Expr → Option SemE
  | .Name x _ => do
    let i ← cV G sc x
    pure (sVar i)
  | .Constant c _ _ => constS c
  | .BinOp a op b _ => do
    let f ← binF op
    let sa ← R.E sc fn a
    let sb ← R.E sc fn b
    pure (sBin f sa sb)
  | .UnaryOp .USub a _ => do
    let sa ← R.E sc fn a
    pure (sUn fNeg sa)
  | .UnaryOp .Not a _ => do
    let sa ← R.E sc fn a
    pure (sNotV sa)
  | .Compare a [op] [b] _ => cCmp G R sc fn a op b
  | .BoolOp op es _ => cBV R sc fn op es
  | .IfExp c a b _ => do
    let sc' ← R.T sc fn c
    let sa ← R.E sc fn a
    let sb ← R.E sc fn b
    pure (sIf sc' sa sb)
  | .List es _ => do
    let s ← cA R sc fn es
    pure (sArgs fLst s)
  | .Tuple es _ _ => do
    let s ← cA R sc fn es
    pure (sArgs fTup s)
  | .Subscript o (.Slice lo hi none _) _ => do
    let so ← R.E sc fn o
    let sl ← cO R sc fn lo
    let sh ← cO R sc fn hi
    pure (sSl so sl sh)
  | .Subscript o i _ => do
    let _ ← gd (notSlice i)
    let si ← R.E sc fn i
    match nameOf o with
    | some x => do
      let k ← cV G sc x
      pure (sIxV k si)
    | none => do
      let so ← R.E sc fn o
      pure (sBin fIx so si)
  | .ListComp elt [⟨tg, iter, ifs, 0⟩] scope _ => cLc G R sc fn elt tg iter ifs scope
  | .Call (.Name x _) as [] _ => (match as with
    | [a] => (match cLr R sc fn x a with
      | some s => some s
      | none => cC G R sc fn x as)
    | _ => cC G R sc fn x as)
  | .Call (.Attribute (.Name x _) m apos) as [] cpos => do
    let _ ← gd (apos.endLine == cpos.line)
    cM G R sc fn x m as
  | _ => none
def cT : Expr → Option SemT
  | .BoolOp op es _ => cBT R sc fn op es
  | .UnaryOp .Not a _ => do
    let s ← R.T sc fn a
    pure (sNot s)
  | .Compare a [op] [b] _ => do
    let s ← cCmp G R sc fn a op b
    pure (sAsT s)
  | e => do
    let _ ← gd (truB e)
    let s ← R.E sc fn e
    pure (sTru s)
def cGs : List Expr → Option (SemGs × List Nat)
  | [] => some (gsNil, [])
  | e :: es => do
    let _ ← gd (notStar e)
    let (g, ws) ← R.G sc fn e
    let (gs, us) ← cGs es
    pure (gsCons g gs, ws ++ us)
def cG : Expr → Option (SemG × List Nat)
  | .Name x _ => do
    let _ ← gd (locB sc fn x)
    let i ← idxOf G.N x
    pure (gN i, [i])
  | .Tuple es _ _ => do
    let _ ← gd (es.all notStar)
    let (gs, ws) ← cGs R sc fn es
    pure (gT gs, ws)
  | .Subscript (.Name x _) b _ => do
    let _ ← gd (notSlice b)
    let i ← cV G sc x
    let s ← R.E sc fn b
    pure (gSbV i s, [])
  | _ => none
def isLoc (o : Option NameKind) : Bool := match o with
  | some .local => true
  | _ => false
def isFun (s : Scope) : Bool := match s.kind with
  | .function => true
  | _ => false
def swB (y : Str) (py lpos : Pos) (scope : Scope) : Bool := isLoc (sc.names.lookup y) && (py.line == lpos.line) && !(scope.names.any fun (n, k) => n == y && (k == .local || k == .cell))
def locNm (t : Expr) : Option Str := match nameOf t with
  | some x => if isLoc (sc.names.lookup x) = true then some x else none
  | none => none
def okSw (ts vs : List Expr) : Bool := ts.any fun t => (locNm sc t).isNone
def sPar (i j : Nat) (as : SemL) : SemS := fun ρ => match as ρ with
  | some ([x, y], ρ1) => some (.nx, (ρ1.set i (some (.va x))).set j (some (.va y)))
  | _ => none
def cPar (refs : List Nat) (x y : Str) (px py : Pos) (a b : Expr) : Option SemS := do
  let _ ← gd (isFun sc && isLoc (sc.names.lookup x) && isLoc (sc.names.lookup y) && notStar a && notStar b && (py.line == px.line) && !(x == y) && !([a, b].all (foldedForSure 8)) && !([a, b].all (constantsAlone 8)))
  let i ← idxOf G.N x
  let j ← idxOf G.N y
  let _ ← gd (decide (i ∉ refs) && decide (j ∉ refs) && !(i == j))
  let s ← cA R sc fn [a, b]
  pure (sPar i j s)
def cAsg (refs : List Nat) (tg e : Expr) : Option SemS :=
  match tg, e with
  | .Name y py, .ListComp elt [⟨t, iter, ifs, 0⟩] scope lpos => do
    let _ ← gd (isFun sc && locB sc fn y)
    let i ← idxOf G.N y
    let _ ← gd (decide (i ∉ refs))
    let s ← cLc G R sc fn elt t iter ifs scope
    pure (sAsg i s)
  | .Name y _, e => do
    let _ ← gd (locB sc fn y && notLc e)
    let i ← idxOf G.N y
    let _ ← gd (decide (i ∉ refs))
    let s ← R.E sc fn e
    pure (sAsg i s)
  | .Subscript (.Name x px) b p, e => do
    let (g, ws) ← R.G sc fn (.Subscript (.Name x px) b p)
    let _ ← gd (refs.all fun i => decide (i ∉ ws))
    let s ← R.E sc fn e
    pure (sAsgG g s)
  | .Tuple ts k1 p1, .Tuple vs k2 p2 => (if okSw sc ts vs = true then (do
      let (g, ws) ← R.G sc fn (.Tuple ts k1 p1)
      let _ ← gd (refs.all fun i => decide (i ∉ ws))
      let s ← R.E sc fn (.Tuple vs k2 p2)
      pure (sAsgG g s))
    else (match ts, vs with
    | [.Name x px, .Name y py], [a, b] => cPar G R sc fn refs x y px py a b
    | _, _ => none))
  | .Tuple ts k1 p1, .Call f as kw p => do
    let (g, ws) ← R.G sc fn (.Tuple ts k1 p1)
    let _ ← gd (refs.all fun i => decide (i ∉ ws))
    let s ← R.E sc fn (.Call f as kw p)
    pure (sAsgG g s)
  | _, _ => none
def cS (refs : List Nat) : Stmt → Option SemS
  | .Assign [tg] e _ => cAsg G R sc fn refs tg e
  | .Expr e _ => do
    let _ ← gd (notLc e)
    let s ← R.E sc fn e
    pure (sExp s)
  | .Return (some e) _ => do
    let s ← R.E sc fn e
    pure (sRet s)
  | .Return none _ => some sRetN
  | .If c a b _ => do
    let t ← R.T sc fn c
    let sa ← R.S sc fn refs a
    let sb ← R.S sc fn refs b
    pure (sIfS t sa sb)
  | .For tg iter body [] _ => do
    let _ ← gd (notSet iter)
    let si ← cI R sc fn tg iter
    let (g, ws) ← R.G sc fn tg
    let _ ← gd (refs.all fun i => decide (i ∉ ws))
    let sb ← R.S sc fn refs body
    pure (sFor si g sb)
  | .While c body [] _ => do
    let t ← R.T sc fn c
    let sb ← R.S sc fn refs body
    pure (sWhile 1000000 t sb)
  | .Raise .. => some sNone
  | .Try body (_ :: _) [] [] _ => R.S sc fn refs body
  | .Pass _ => some sNx
  | .Break _ => some sBk
  | .Continue _ => some sCt
  | _ => none
def cSs (refs : List Nat) : List Stmt → Option SemS
  | [] => some sNx
  | [st] => cS G R sc fn refs st
  | st :: rest => do
    let a ← cS G R sc fn refs st
    let b ← cSs refs rest
    pure (sSeq a b)
end
def stepR (G : CE) (R : Rec) : Rec := ⟨cE G R, cT G R, cG G R, cSs G R⟩
def recN (G : CE) : Nat → Rec
  | 0 => rec0
  | n + 1 => stepR G (recN G n)

section
variable {G : CE} {R : Rec} {X : Cx} {sc : Scope} {fn : Str → Bool}
theorem cA_ok (h : Snd G R) (c : Ctx X G sc fn) : ∀ {es : List Expr} {s : SemL}, cA R sc fn es = some s → PA X es (LA X.K s)
  | [], s, e => by cases e; exact la_nil
  | a :: es, s, e => by
    obtain ⟨_, h1, e⟩ := bd e
    obtain ⟨sa, h2, e⟩ := bd e
    obtain ⟨sr, h3, e⟩ := bd e
    cases e
    have h1 := gd_some h1
    rw [Bool.and_eq_true] at h1
    exact la_cons (h.e_ c h2) (cA_ok h c h3) (star_of h1.1)
theorem cA_star {es : List Expr} {s : SemL} (e : cA R sc fn es = some s) : es.all notStar = true := by
  cases es with
  | nil => rfl
  | cons a es =>
    obtain ⟨_, h1, e⟩ := bd e
    exact gd_some h1
theorem cV_ok {x : Str} {i : Nat} (c : Ctx X G sc fn) (h : cV G sc x = some i) : X.N[i]? = some x ∧ Vis X.env.scope x ∧ (x == ("__debug__" : Str)) = false ∧ (x == ("__classdict__" : Str)) = false := by
  obtain ⟨_, h1, h⟩ := bd h
  have h1 := gd_some h1
  rw [Bool.and_eq_true] at h1
  exact ⟨c.name h, c.vis h1.1, okN_1 h1.2, okN_2 h1.2⟩
theorem cCmp_ok (h : Snd G R) (c : Ctx X G sc fn) {a b : Expr} {op : CmpOp} {s : SemE} {pos : Pos} (e : cCmp G R sc fn a op b = some s) :
    PE X (.Compare a [op] [b] pos) (LE X.K s) ∧ PT X (.Compare a [op] [b] pos) (LT X.K (sAsT s)) := by
  obtain ⟨f, hf, e⟩ := bd e
  obtain ⟨_, h1, e⟩ := bd e
  obtain ⟨sb, h2, e⟩ := bd e
  have hm := mark_of (op := op) (gd_some h1)
  obtain ⟨r, ho, hs⟩ := cmp_of c.un hf
  cases a with
  | Name x p =>
    obtain ⟨i, h3, e⟩ := bd e
    cases e
    obtain ⟨v1, v2, v3, v4⟩ := cV_ok c h3
    exact ⟨(pe_cmpR ho (pe_var v1 v2 v3 v4) (h.e_ c h2) hm).imp (cmpV_imp hs), (pt_cmpR ho (pe_var v1 v2 v3 v4) (h.e_ c h2) hm).imp (asT_imp (cmpV_imp hs))⟩
  | _ =>
    obtain ⟨sa, h3, e⟩ := bd e
    cases e
    exact ⟨le_cmp ho hs (h.e_ c h3) (h.e_ c h2) hm, lt_cmp ho hs (h.e_ c h3) (h.e_ c h2) hm⟩
theorem cBV_ok (h : Snd G R) (c : Ctx X G sc fn) {op : BoolOp} {pos : Pos} : ∀ {es : List Expr} {s : SemE}, cBV R sc fn op es = some s → PE X (.BoolOp op es pos) (LE X.K s)
  | [], s, e => by cases e
  | [a], s, e => le_one (h.e_ c e)
  | a :: b :: r, s, e => by
    obtain ⟨sa, h1, e⟩ := bd e
    obtain ⟨sb, h2, e⟩ := bd e
    have hb := cBV_ok h c (pos := pos) h2
    cases op with
    | And => cases e; exact le_and (h.e_ c h1) hb
    | Or => cases e; exact le_or (h.e_ c h1) hb
theorem cBT_ok (h : Snd G R) (c : Ctx X G sc fn) {op : BoolOp} {pos : Pos} : ∀ {es : List Expr} {s : SemT}, cBT R sc fn op es = some s → PW X (.BoolOp op es pos) (LT X.K s)
  | [], s, e => by cases e
  | [a], s, e => by
    cases op with
    | And => exact lw_and1 (h.t_ c e)
    | Or => exact lw_or1 (h.t_ c e)
  | a :: b :: r, s, e => by
    obtain ⟨sa, h1, e⟩ := bd e
    obtain ⟨sb, h2, e⟩ := bd e
    have hb := cBT_ok h c (pos := pos) h2
    cases op with
    | And => cases e; exact lw_and (h.t_ c h1) hb
    | Or => cases e; exact lw_or (h.t_ c h1) hb
theorem cO_ok (h : Snd G R) (c : Ctx X G sc fn) {o : Option Expr} {s : SemO} (e : cO R sc fn o = some s) : PO X o (LO X.K s) := by
  cases o with
  | none => cases e; exact lo_none
  | some a =>
    obtain ⟨sa, h1, e⟩ := bd e
    cases e
    exact lo_some (h.e_ c h1)
theorem cI_ok (h : Snd G R) (c : Ctx X G sc fn) {tg it : Expr} {s : SemI} (e : cI R sc fn tg it = some s) : PI X tg it (LI X.K s) := by
  unfold cI at e
  split at e
  · rename_i x p as p2
    split at e
    · rename_i hx
      subst hx
      obtain ⟨_, h1, e⟩ := bd e
      obtain ⟨sa, h2, e⟩ := bd e
      have hg := c.gl (gd_some h1)
      have hm := c.free "range" (by decide)
      have ha := cA_ok h c h2
      have st := cA_star h2
      split at e
      · cases e
        rename_i a
        simp only [List.all_cons, List.all_nil, Bool.and_true] at st
        exact li_rg1 hg hm ha (star_of st)
      · cases e
        rename_i a b
        simp only [List.all_cons, List.all_nil, Bool.and_true, Bool.and_eq_true] at st
        exact li_rg2 hg hm ha (by rw [star_of st.1, star_of st.2]; rfl) (by rw [star_of st.2]; rfl)
      · cases e
    · split at e
      · rename_i hx
        subst hx
        obtain ⟨_, h1, e⟩ := bd e
        obtain ⟨sa, h2, e⟩ := bd e
        have hg := c.gl (gd_some h1)
        have hm := c.free "enumerate" (by decide)
        have ha := cA_ok h c h2
        have st := cA_star h2
        split at e
        · cases e
          simp only [List.all_cons, List.all_nil, Bool.and_true] at st
          exact li_en hg hm ha (by rw [star_of st]; rfl)
        · cases e
      · split at e
        · rename_i hx
          subst hx
          obtain ⟨_, h1, e⟩ := bd e
          obtain ⟨sa, h2, e⟩ := bd e
          have hg := c.gl (gd_some h1)
          have hm := c.free "zip" (by decide)
          have ha := cA_ok h c h2
          have st := cA_star h2
          split at e
          · cases e
            simp only [List.all_cons, List.all_nil, Bool.and_true, Bool.and_eq_true] at st
            exact li_zp hg hm ha (star_of st.1) (plain_of (by simp [st.2]))
          · cases e
        · obtain ⟨sa, h1, e⟩ := bd e
          cases e
          exact li_seq (h.e_ c h1)
  · obtain ⟨sa, h1, e⟩ := bd e
    cases e
    exact li_seq (h.e_ c h1)
theorem lts_nil : PTs X [] (LT X.K sYes) := ⟨fun pins s σ H Q I ⟨F, ρ, b, ρ', Rl, e, k⟩ => by
  cases e
  exact pts_nil.run pins s σ H Q I (k F H (Stp.refl Rl))⟩
theorem cTs_ok (h : Snd G R) (c : Ctx X G sc fn) {ifs : List Expr} {s : SemT} (e : cTs R sc fn ifs = some s) : PTs X ifs (LT X.K s) := by
  match ifs, e with
  | [], e => cases e; exact lts_nil
  | [a], e => exact pts_one (h.t_ c e)
  | _ :: _ :: _, e => cases e
theorem cLc_ok (h : Snd G R) (c : Ctx X G sc fn) {elt tg iter : Expr} {ifs : List Expr} {scope : Scope} {s : SemE} (e : cLc G R sc fn elt tg iter ifs scope = some s) :
    ∃ (si : SemI) (g : SemG) (ws : List Nat) (tt : SemT) (te : SemE), s = sLc ((ownOf G scope).map (·.2)) si g tt te ∧ (∀ i ∈ ws, i ∈ (ownOf G scope).map (·.2)) ∧ PI X tg iter (LI X.K si) ∧ BlkOk X.N X.env.scope scope (ownOf G scope) ∧
      (∀ (s : Shared) (H : Hp) (C : Addr) (cl : List (Str × Addr)) (fp : List Addr), PG (X.blk s H scope (compEnvC scope cl C X.env) fp) tg (LGt X.K ws g)) ∧
      (∀ (s : Shared) (H : Hp) (C : Addr) (cl : List (Str × Addr)) (fp : List Addr), PTs (X.blk s H scope (compEnvC scope cl C X.env) fp) ifs (LT X.K tt)) ∧
      (∀ (s : Shared) (H : Hp) (C : Addr) (cl : List (Str × Addr)) (fp : List Addr), PE (X.blk s H scope (compEnvC scope cl C X.env) fp) elt (LE X.K te)) ∧ (∀ x, foldedSetIterable iter X.env x = pure x) := by
  obtain ⟨_, h1, e⟩ := bd e
  obtain ⟨si, h2, e⟩ := bd e
  obtain ⟨⟨g, ws⟩, h3, e⟩ := bd e
  obtain ⟨_, h4, e⟩ := bd e
  obtain ⟨tt, h5, e⟩ := bd e
  obtain ⟨te, h6, e⟩ := bd e
  cases e
  have h1 := gd_some h1
  rw [Bool.and_eq_true] at h1
  have h4 := gd_some h4
  rw [List.all_eq_true] at h4
  refine ⟨si, g, ws, tt, te, rfl, fun i hi => of_decide_eq_true (h4 i hi), cI_ok h c h2, ?_, fun s H C cl fp => ?_, fun s H C cl fp => ?_, fun s H C cl fp => ?_, set_of h1.2⟩
  · rw [c.N, c.sc_]
    exact blkOk_by h1.1
  · exact h.g_ (c.blk s H scope C cl fp) h3
  · exact cTs_ok h (c.blk s H scope C cl fp) h5
  · exact h.e_ (c.blk s H scope C cl fp) h6
theorem cLc_pe (h : Snd G R) (c : Ctx X G sc fn) {elt tg iter : Expr} {ifs : List Expr} {scope : Scope} {s : SemE} {pos : Pos} (e : cLc G R sc fn elt tg iter ifs scope = some s) :
    PE X (.ListComp elt [⟨tg, iter, ifs, 0⟩] scope pos) (LE X.K s) := by
  obtain ⟨si, g, ws, tt, te, rfl, a1, a2, a3, a4, a5, a6, a7⟩ := cLc_ok h c e
  exact le_lc a1 c.calm (by rw [c.N]; exact c.nd) a2 a3 a4 a5 a6 a7
end
end Pv

set_option Elab.async false
set_option linter.all false
set_option maxRecDepth 100000
set_option maxHeartbeats 8000000
set_option autoImplicit false
/-! Pv, part J: the compiler's soundness, continued. -/
namespace Pv
open PySem PySem.Spec PyProof.Rows L2
section
variable {G : CE} {R : Rec} {X : Cx} {sc : Scope} {fn : Str → Bool}
theorem nameOf_some {e : Expr} {x : Str} (h : nameOf e = some x) : ∃ p, e = .Name x p := by
  cases e <;> first | (cases h; exact ⟨_, rfl⟩) | cases h
theorem cC_ok (h : Snd G R) (c : Ctx X G sc fn) {x : Str} {as : List Expr} {s : SemE} {p pos : Pos} (e : cC G R sc fn x as = some s) : PE X (.Call (.Name x p) as [] pos) (LE X.K s) := by
  obtain ⟨_, h1, e'⟩ := bd e
  clear e
  have e := e'
  clear e'
  have h1 := gd_some h1
  simp only [Bool.and_eq_true] at h1
  obtain ⟨⟨h1, h2⟩, h3⟩ := h1
  have hg := c.gl h1
  have hd := okN_1 h2
  split at e
  · rename_i orc ho
    obtain ⟨k, a, fd, ps, F, hr, hm, hk, hb⟩ := c.call x orc ho
    split at e
    · cases e
    · rename_i a r
      obtain ⟨sr, h4, e'⟩ := bd e
      clear e
      have e := e'
      clear e'
      rw [List.all_cons, Bool.and_eq_true] at h3
      have hst := star_of (es := r) (env := X.env) h3.1
      have hpl := plain_of (pos := pos) (env := X.env) h3.2
      split at e
      · split at e
        · rename_i y hy
          obtain ⟨py, rfl⟩ := nameOf_some hy
          obtain ⟨i, h5, e'⟩ := bd e
          clear e
          have e := e'
          clear e'
          cases e
          obtain ⟨v1, v2, v3, v4⟩ := cV_ok c h5
          exact (pe_call F hr hg hm hk hb .nil pass0 (pa_cons (pe_var v1 v2 v3 v4) (cA_ok h c h4) hst) hd hst hpl).imp callV_imp
        · obtain ⟨sa, h5, e⟩ := bd e
          cases e
          exact (pe_call F hr hg hm hk hb .nil pass0 (pa_cons (h.e_ c h5) (cA_ok h c h4) hst) hd hst hpl).imp callN_imp
      · obtain ⟨sa, h5, e⟩ := bd e
        cases e
        exact (pe_call F hr hg hm hk hb .nil pass0 (la_cons (h.e_ c h5) (cA_ok h c h4) hst) hd hst hpl).imp call_imp
  · split at e
    · rename_i hx
      subst hx
      split at e
      · rename_i a t pt
        obtain ⟨_, h4, e'⟩ := bd e
        clear e
        have e := e'
        clear e'
        obtain ⟨T, h5, e'⟩ := bd e
        clear e
        have e := e'
        clear e'
        obtain ⟨sa, h6, e'⟩ := bd e
        clear e
        have e := e'
        clear e'
        cases e
        rw [List.all_cons, Bool.and_eq_true] at h3
        obtain ⟨t1, t2, t3, t4⟩ := tk_of h5
        exact le_isi (h.e_ c h6) hg (c.free "isinstance" (by decide)) (c.gl (gd_some h4)) (c.free t t1) t2 t3 t4 (star_of h3.1)
      · cases e
    · split at e
      · rename_i hx
        subst hx
        obtain ⟨sa, h4, e'⟩ := bd e
        clear e
        have e := e'
        clear e'
        split at e
        · cases e
          rename_i a b
          have st := cA_star h4
          simp only [List.all_cons, List.all_nil, Bool.and_true, Bool.and_eq_true] at st
          exact (pe_callBfun cr_gcd hg c.gcd (cA_ok h c h4) hd (star_of st.1) (plain_of (by simp [st.2]))).imp (args_imp sp_gcd)
        · cases e
      · obtain ⟨⟨ty, f⟩, h4, e⟩ := bd e
        obtain ⟨sa, h5, e'⟩ := bd e
        clear e
        have e := e'
        clear e'
        have hA := cA_ok h c h5
        have st := cA_star h5
        obtain ⟨⟨id, r, hs, hB⟩, b1, b2, b3⟩ := blt_of c.calm c.un h4
        have hm := c.free x b1
        have gen : ∀ {a : Expr} {r' : List Expr}, as = a :: r' → PE X (.Call (.Name x p) as [] pos) (LE X.K (sArgs f sa)) := by
          rintro a r' rfl
          rw [List.all_cons, Bool.and_eq_true] at st
          rcases hB with ⟨-, q1, q2⟩ | ⟨-, q1, q2⟩
          · exact (pe_callB q1 hg hm q2 hA b2 b3 (star_of st.1) (plain_of st.2)).imp (args_imp hs)
          · exact (pe_callTy q1 hg hm q2 hA b2 b3 (star_of st.1) (plain_of st.2)).imp (args_imp hs)
        split at e
        · cases e
        · rename_i y py
          split at e
          · rename_i hx
            subst hx
            obtain ⟨i, h6, e'⟩ := bd e
            clear e
            have e := e'
            clear e'
            cases e
            obtain ⟨v1, v2, v3, v4⟩ := cV_ok c h6
            exact (pe_callTy call_list_of hg hm boot_list (pa_cons (pe_var v1 v2 v3 v4) pa_nil rfl) b2 b3 rfl rfl).imp lstV_imp
          · split at e
            · rename_i hx
              subst hx
              obtain ⟨i, h6, e'⟩ := bd e
              clear e
              have e := e'
              clear e'
              cases e
              obtain ⟨v1, v2, v3, v4⟩ := cV_ok c h6
              exact (pe_callB call_len_seq hg hm PySem.boot_len (pa_cons (pe_var v1 v2 v3 v4) pa_nil rfl) b2 b3 rfl rfl).imp lenV_imp
            · cases e
              exact gen rfl
        · cases e
          rename_i n1 n2
          cases as with
          | nil => exact absurd rfl n1
          | cons a r => exact gen rfl
theorem cLr_ok (h : Snd G R) (c : Ctx X G sc fn) {x : Str} {a : Expr} {s : SemE} {p pos : Pos} (e : cLr R sc fn x a = some s) : PE X (.Call (.Name x p) [a] [] pos) (LE X.K s) := by
  unfold cLr at e
  split at e
  · split at e
    · rename_i hx
      obtain ⟨rfl, rfl⟩ := hx
      obtain ⟨_, h1, e'⟩ := bd e
      clear e
      have e := e'
      clear e'
      obtain ⟨sa, h2, e'⟩ := bd e
      clear e
      have e := e'
      clear e'
      cases e
      have h1 := gd_some h1
      simp only [Bool.and_eq_true] at h1
      exact le_lstRg c.calm (c.gl h1.1.1) (c.free _ (by decide)) (c.gl h1.1.2) (c.free _ (by decide)) (h.e_ c h2) (star_of h1.2)
    · cases e
  · cases e
theorem cM_ok (h : Snd G R) (c : Ctx X G sc fn) {x m : Str} {as : List Expr} {s : SemE} {p apos cpos : Pos} (hl : (apos.endLine == cpos.line) = true) (e : cM G R sc fn x m as = some s) : PE X (.Call (.Attribute (.Name x p) m apos) as [] cpos) (LE X.K s) := by
  obtain ⟨i, h1, e'⟩ := bd e
  clear e
  have e := e'
  clear e'
  obtain ⟨v1, v2, v3, v4⟩ := cV_ok c h1
  split at e
  · split at e
    · rename_i hm
      subst hm
      cases e
      exact (pe_bm0 PySem.F.plainAttrs_list PySem.F.slot_list_pop PySem.F.type_list_pop mt_pop (pe_var v1 v2 v3 v4) rfl hl).imp pop_imp
    · cases e
  · rename_i a
    split at e
    · rename_i hm
      subst hm
      obtain ⟨_, h2, e'⟩ := bd e
      clear e
      have e := e'
      clear e'
      obtain ⟨sa, h3, e'⟩ := bd e
      clear e
      have e := e'
      clear e'
      cases e
      have hs := star_of (es := []) (env := X.env) (gd_some h2)
      exact (pe_bm PySem.F.plainAttrs_list slot_list_append type_list_append mt_append (pe_var v1 v2 v3 v4) (pa_cons (h.e_ c h3) pa_nil hs) rfl (by rw [hs]; rfl) hl hs rfl).imp app_imp
    · cases e
  · cases e
theorem const_ok {cn : Const} {j : Nat} {pos : Pos} {s : SemE} (e : constS cn = some s) : PE X (.Constant cn j pos) (LE X.K s) := by
  unfold constS at e
  split at e <;> cases e
  · exact le_int
  · exact le_bl
  · exact le_non
  · exact le_str
theorem cE_ok (h : Snd G R) (c : Ctx X G sc fn) {x : Expr} {s : SemE} (e : cE G R sc fn x = some s) : PE X x (LE X.K s) := by
  unfold cE at e
  split at e
  · obtain ⟨i, h1, e⟩ := bd e
    cases e
    obtain ⟨v1, v2, v3, v4⟩ := cV_ok c h1
    exact le_var v1 v2 v3 v4
  · exact const_ok e
  · obtain ⟨f, h1, e⟩ := bd e
    obtain ⟨sa, h2, e'⟩ := bd e
    clear e
    have e := e'
    clear e'
    obtain ⟨sb, h3, e'⟩ := bd e
    clear e
    have e := e'
    clear e'
    cases e
    obtain ⟨r, ho, hs⟩ := bin_of (X := X) h1
    exact le_op ho hs (h.e_ c h2) (h.e_ c h3)
  · obtain ⟨sa, h2, e⟩ := bd e
    cases e
    exact le_un un_neg sp_neg (h.e_ c h2)
  · obtain ⟨sa, h2, e⟩ := bd e
    cases e
    exact le_not (h.e_ c h2)
  · exact (cCmp_ok h c e).1
  · exact cBV_ok h c e
  · obtain ⟨t, h1, e⟩ := bd e
    obtain ⟨sa, h2, e'⟩ := bd e
    clear e
    have e := e'
    clear e'
    obtain ⟨sb, h3, e'⟩ := bd e
    clear e
    have e := e'
    clear e'
    cases e
    exact le_if (h.t_ c h1) (h.e_ c h2) (h.e_ c h3)
  · obtain ⟨sa, h2, e⟩ := bd e
    cases e
    exact le_lst (cA_ok h c h2)
  · obtain ⟨sa, h2, e⟩ := bd e
    cases e
    exact le_tup (cA_ok h c h2)
  · obtain ⟨so, h1, e⟩ := bd e
    obtain ⟨sl, h2, e'⟩ := bd e
    clear e
    have e := e'
    clear e'
    obtain ⟨sh, h3, e'⟩ := bd e
    clear e
    have e := e'
    clear e'
    cases e
    exact le_slice (h.e_ c h1) (cO_ok h c h2) (cO_ok h c h3)
  · obtain ⟨_, h1, e⟩ := bd e
    obtain ⟨si, h2, e'⟩ := bd e
    clear e
    have e := e'
    clear e'
    split at e
    · rename_i y hy
      obtain ⟨k, h3, e'⟩ := bd e
      clear e
      cases e'
      obtain ⟨py, rfl⟩ := nameOf_some hy
      obtain ⟨v1, v2, v3, v4⟩ := cV_ok c h3
      exact le_ixV v1 v2 v3 v4 (h.e_ c h2) (ix_of (gd_some h1))
    · obtain ⟨so, h3, e⟩ := bd e
      cases e
      exact le_ix (h.e_ c h3) (h.e_ c h2) (ix_of (gd_some h1))
  · exact cLc_pe h c e
  · split at e
    · split at e
      · cases e
        rename_i q
        exact cLr_ok h c q
      · exact cC_ok h c e
    · exact cC_ok h c e
  · obtain ⟨_, h1, e⟩ := bd e
    exact cM_ok h c (gd_some h1) e
  · cases e
theorem cT_ok (h : Snd G R) (c : Ctx X G sc fn) {x : Expr} {s : SemT} (e : cT G R sc fn x = some s) : PT X x (LT X.K s) := by
  unfold cT at e
  split at e
  · exact (cBT_ok h c e).pt
  · obtain ⟨sa, h2, e⟩ := bd e
    cases e
    exact lt_not (h.t_ c h2)
  · obtain ⟨sa, h2, e⟩ := bd e
    cases e
    exact (cCmp_ok h c h2).2
  · obtain ⟨_, h1, e⟩ := bd e
    obtain ⟨sa, h2, e'⟩ := bd e
    clear e
    have e := e'
    clear e'
    cases e
    exact lt_tru (h.e_ c h2) (tru_of' (gd_some h1))
theorem cGs_ok (h : Snd G R) (c : Ctx X G sc fn) : ∀ {es : List Expr} {gs : SemGs} {ws : List Nat}, cGs R sc fn es = some (gs, ws) → PGs X es (LGs X.K ws gs) ∧ ∀ ds ρ ρ', gs ds ρ = some ρ' → ds.length = es.length
  | [], gs, ws, e => by
    cases e
    refine ⟨lgs_nil, fun ds ρ ρ' q => ?_⟩
    unfold gsNil at q
    split at q
    · rfl
    · cases q
  | a :: es, gs, ws, e => by
    obtain ⟨_, h1, e'⟩ := bd e
    clear e
    have e := e'
    clear e'
    obtain ⟨⟨g, w⟩, h2, e'⟩ := bd e
    clear e
    have e := e'
    clear e'
    obtain ⟨⟨gs', us⟩, h3, e'⟩ := bd e
    clear e
    have e := e'
    clear e'
    cases e
    obtain ⟨i1, i2⟩ := cGs_ok h c h3
    refine ⟨lgs_cons (h.g_ c h2) i1 (by rw [assign_of (gd_some h1)]; rfl), fun ds ρ ρ' q => ?_⟩
    unfold gsCons at q
    split at q
    · split at q
      · rw [List.length_cons, List.length_cons, i2 _ _ _ q]
      · cases q
    · cases q
theorem sub_assign {x : Str} {p pos : Pos} {b : Expr} {env : Env} (h : notSlice b = true) : ∀ v, assign (.Subscript (.Name x p) b pos) env v = (do
      let ov ← holding [v] (eval (.Name x p) env)
      let iv ← holding [v, ov] (eval b env)
      standAt pos
      holding [v, ov, iv] (setItem ov iv v)
      release [v, ov, iv] []) := by
  intro v
  cases b <;> first | rfl | cases h
theorem cG_ok (h : Snd G R) (c : Ctx X G sc fn) {x : Expr} {s : SemG} {ws : List Nat} (e : cG G R sc fn x = some (s, ws)) : PG X x (LGt X.K ws s) := by
  unfold cG at e
  split at e
  · obtain ⟨_, h1, e⟩ := bd e
    obtain ⟨i, h2, e'⟩ := bd e
    clear e
    have e := e'
    clear e'
    cases e
    obtain ⟨l1, l2⟩ := c.loc (gd_some h1)
    exact lg_name (by rw [c.N]; exact c.nd) (c.name h2) l1 l2
  · obtain ⟨_, h1, e⟩ := bd e
    obtain ⟨⟨gs, us⟩, h2, e'⟩ := bd e
    clear e
    have e := e'
    clear e'
    cases e
    obtain ⟨i1, i2⟩ := cGs_ok h c h2
    obtain ⟨j1, j2⟩ := assign_len (env := X.env) (gd_some h1)
    exact lg_tup c.calm i1 i2 j1 j2
  · obtain ⟨_, h1, e⟩ := bd e
    obtain ⟨i, h2, e'⟩ := bd e
    clear e
    have e := e'
    clear e'
    obtain ⟨sb, h3, e'⟩ := bd e
    clear e
    have e := e'
    clear e'
    cases e
    obtain ⟨v1, v2, v3, v4⟩ := cV_ok c h2
    exact lg_sub v1 v2 v3 v4 (h.e_ c h3) (sub_assign (gd_some h1))
  · cases e
end
end Pv

set_option Elab.async false
set_option linter.all false
set_option maxRecDepth 100000
set_option maxHeartbeats 8000000
set_option autoImplicit false
/-! Pv, part K: statements and bodies. -/
namespace Pv
open PySem PySem.Spec PyProof.Rows L2
section
variable {G : CE} {R : Rec} {X : Cx} {sc : Scope} {fn : Str → Bool} {refs : List Nat}
theorem bd' {α β : Type} {P : Prop} {o : Option α} {f : α → Option β} {z : β} (h : (o >>= f) = some z) (k : ∀ x, o = some x → f x = some z → P) : P := by
  obtain ⟨x, h1, h2⟩ := bd h
  exact k x h1 h2
theorem isLoc_some {o : Option NameKind} (h : isLoc o = true) : o = some .local := by
  unfold isLoc at h
  split at h
  · rfl
  · cases h
theorem isLoc_eq (o : Option NameKind) : (o == some .local) = isLoc o := by
  cases o with
  | none => rfl
  | some k => cases k <;> rfl
theorem isFun_kind {s : Scope} (h : isFun s = true) : s.kind = .function := by
  unfold isFun at h
  split at h
  · assumption
  · cases h
theorem sw_plain {e : Expr} {t : Option Expr} {l : Nat} {env : Env} (h : notLc e = true) : swapsWith e t l env = pure false := by
  cases e <;> first | rfl | cases h
theorem sw_eq {elt : Expr} {gs : List Comprehension} {scope : Scope} {pos py : Pos} {y : Str} {l : Nat} {env : Env} (hk : env.scope.kind = .function) :
    swapsWith (.ListComp elt gs scope pos) (some (.Name y py)) l env = pure (swB env.scope y py pos scope) := by
  have hb : env.blockKind = .function := by unfold Env.blockKind; rw [hk]; rfl
  unfold swapsWith swB
  simp only [hb, Expr.pos]
  rw [← isLoc_eq]
  rfl
theorem par_ok {x y : Str} {px py p1 p2 : Pos} {a b : Expr} {k1 k2 : Nat} {env : Env} (hk : env.scope.kind = .function) (hx : env.scope.names.lookup x = some .local) (hy : env.scope.names.lookup y = some .local) (na : notStar a = true) (nb : notStar b = true)
    (hl : (py.line == px.line) = true) (hxy : (x == y) = false) (h1 : [a, b].all (foldedForSure 8) = false) (h2 : [a, b].all (constantsAlone 8) = false) :
    swappedStores [.Tuple [.Name x px, .Name y py] k1 p1] (.Tuple [a, b] k2 p2) env = pure (some [x, y]) := by
  have hb : env.blockKind = .function := by unfold Env.blockKind; rw [hk]; rfl
  have kx : env.kindOf x = some .local := hx
  have ky : env.kindOf y = some .local := hy
  have hyx : (y == x) = false := by
    rw [beq_eq_false_iff_ne] at hxy ⊢
    exact fun z => hxy z.symm
  have hst : ([a, b].any fun | .Starred .. => true | _ => false) = false := by
    simp only [List.any_cons, List.any_nil, Bool.or_false]
    rw [Bool.or_eq_false_iff]
    constructor
    · cases a <;> first | rfl | cases na
    · cases b <;> first | rfl | cases nb
  unfold swappedStores
  simp only [hb, hst, h1, h2]
  simp [Expr.pos, kx, ky, hl, List.eraseDups_cons, hyx, List.filterMap]
  rintro (z | z)
  · cases a <;> first | (cases z; done) | cases na
  · cases b <;> first | (cases z; done) | cases nb
theorem fm_lt {α β : Type} {f : α → Option β} : ∀ {l : List α}, (l.any fun x => (f x).isNone) = true → (l.filterMap f).length < l.length
  | [], h => by cases h
  | x :: l, h => by
    rw [List.any_cons, Bool.or_eq_true] at h
    have le : (l.filterMap f).length ≤ l.length := List.length_filterMap_le f l
    cases q : f x with
    | none => rw [List.filterMap_cons, q]; simp only [List.length_cons]; omega
    | some y =>
      rw [q] at h
      rcases h with h | h
      · cases h
      · have := fm_lt h
        rw [List.filterMap_cons, q]
        simp only [List.length_cons]
        omega
theorem any_sw {f : Expr → Option Str} (hf : ∀ e, locNm sc e = none → f e = none) : ∀ {ts : List Expr}, (ts.any fun t => (locNm sc t).isNone) = true → (ts.any fun x => (f x).isNone) = true
  | [], h => by cases h
  | e :: r, h => by
    rw [List.any_cons, Bool.or_eq_true] at h ⊢
    rcases h with h | h
    · refine .inl ?_
      rw [hf e (by simpa using h)]
      rfl
    · exact .inr (any_sw hf h)
theorem tup_swapped {ts vs : List Expr} {k1 k2 : Nat} {p1 p2 : Pos} {env : Env} (h : okSw env.scope ts vs = true) : swappedStores [.Tuple ts k1 p1] (.Tuple vs k2 p2) env = pure none := by
  unfold swappedStores
  dsimp only
  split
  · rfl
  split
  · rfl
  have key : ∀ line : Nat, ((ts.filterMap fun
    | .Name id pos => if env.kindOf id == some .local && pos.line == line then some id else none
    | _ => none).length != ts.length) = true := fun line => by
    have q := fm_lt (any_sw (f := fun
      | .Name id pos => if env.kindOf id == some .local && pos.line == line then some id else none
      | _ => none) (fun e he => by
        cases e <;> try rfl
        rename_i x p
        unfold locNm at he
        dsimp only [nameOf] at he
        split at he
        · cases he
        · rename_i hz
          dsimp only
          rw [show env.kindOf x = env.scope.names.lookup x from rfl, isLoc_eq]
          rw [if_neg]
          intro hq
          rw [Bool.and_eq_true] at hq
          exact hz hq.1) h)
    rw [bne_iff_ne]
    exact Nat.ne_of_lt q
  exact if_pos (Bool.or_eq_true_iff.mpr (Or.inl (key _)))
theorem sub_swapped {t e : Expr} {env : Env} (h : ∀ ts k p, t ≠ .Tuple ts k p) (h2 : ∀ ts p, t ≠ .List ts p) : swappedStores [t] e env = pure none := by
  cases t <;> first | rfl | (exact absurd rfl (h _ _ _)) | (exact absurd rfl (h2 _ _))
theorem call_swapped {ts : List Expr} {k : Nat} {p p2 : Pos} {f : Expr} {as : List Expr} {kw : List Keyword} {env : Env} : swappedStores [.Tuple ts k p] (.Call f as kw p2) env = pure none := rfl
theorem par_imp {i j : Nat} {K : PySem.W.Frag} {as : SemL} (hi : i ∉ refs) (hj : j ∉ refs) : ∀ D σ H, LS K refs (sPar i j as) D σ H → tPar i j (LA K as) D σ H := by
  rintro D σ H ⟨F, ρ, fl, ρ', R, e, k⟩
  unfold sPar at e
  split at e
  · rename_i x y ρ1 e1
    cases e
    refine ⟨F, ρ, _, ρ1, R, e1, fun vs F1 H1 s1 d1 => ?_⟩
    cases d1 with
    | cons d1 d2 =>
      cases d2 with
      | cons d2 d3 =>
        cases d3
        refine ⟨_, _, rfl, ?_⟩
        have s2 := s1.trans (s1.rel.set_va i d1)
        have s3 := s2.trans (s2.rel.set_va j d2)
        exact k F1 _ H1 s3 fun l hl => by
          rw [List.getElem?_set_ne (fun z => hj (by rw [z]; exact hl)), List.getElem?_set_ne (fun z => hi (by rw [z]; exact hl))]
  · cases e
theorem cPar_ok (h : Snd G R) (c : Ctx X G sc fn) {x y : Str} {px py p1 p2 pos : Pos} {a b : Expr} {k1 k2 : Nat} {s : SemS} (e : cPar G R sc fn refs x y px py a b = some s) :
    PS X (.Assign [.Tuple [.Name x px, .Name y py] k1 p1] (.Tuple [a, b] k2 p2) pos) (LS X.K refs s) := by
  refine bd' e fun _ h1 e => ?_
  refine bd' e fun i h2 e => ?_
  refine bd' e fun j h3 e => ?_
  refine bd' e fun _ h4 e => ?_
  refine bd' e fun sa h5 e => ?_
  cases e
  have h1 := gd_some h1
  simp only [Bool.and_eq_true, Bool.not_eq_true'] at h1
  obtain ⟨⟨⟨⟨⟨⟨⟨⟨q1, q2⟩, q3⟩, q4⟩, q5⟩, q6⟩, q7⟩, q8⟩, q9⟩ := h1
  have h4 := gd_some h4
  simp only [Bool.and_eq_true, Bool.not_eq_true', decide_eq_true_eq, beq_eq_false_iff_ne] at h4
  have hk : X.env.scope.kind = .function := by rw [c.sc_]; exact isFun_kind q1
  have hx : X.env.scope.names.lookup x = some .local := by rw [c.sc_]; exact isLoc_some q2
  have hy : X.env.scope.names.lookup y = some .local := by rw [c.sc_]; exact isLoc_some q3
  exact (ps_par c.calm (by rw [c.N]; exact c.nd) (c.name h2) (c.name h3) h4.2 hx hy (cA_ok h c h5) (par_ok hk hx hy q4 q5 q6 q7 q8 q9) rfl).imp (par_imp h4.1.1 h4.1.2)
theorem refs_ok {ws : List Nat} {u : Unit} (h : gd (refs.all fun i => decide (i ∉ ws)) = some u) : ∀ i ∈ refs, i ∉ ws := fun i hi => by
  have h := gd_some h
  rw [List.all_eq_true] at h
  exact of_decide_eq_true (h i hi)
theorem cAsg_ok (h : Snd G R) (c : Ctx X G sc fn) {tg e : Expr} {pos : Pos} {s : SemS} (q : cAsg G R sc fn refs tg e = some s) : PS X (.Assign [tg] e pos) (LS X.K refs s) := by
  have nd : X.N.Nodup := by rw [c.N]; exact c.nd
  unfold cAsg at q
  split at q
  · rename_i y py elt t iter ifs scope lpos
    refine bd' q fun _ h1 q => ?_
    refine bd' q fun i h2 q => ?_
    refine bd' q fun _ h3 q => ?_
    refine bd' q fun s h4 q => ?_
    cases q
    have h1 := gd_some h1
    rw [Bool.and_eq_true] at h1
    have hk : X.env.scope.kind = .function := by rw [c.sc_]; exact isFun_kind h1.1
    obtain ⟨l1, l2⟩ := c.loc h1.2
    have hr : i ∉ refs := of_decide_eq_true (gd_some h3)
    have sw := sw_eq (elt := elt) (gs := [⟨t, iter, ifs, 0⟩]) (scope := scope) (pos := lpos) (py := py) (y := y) (l := pos.line) hk
    cases hb : swB X.env.scope y py lpos scope with
    | true =>
      obtain ⟨si, g, ws, tt, te, rfl, a1, a2, a3, a4, a5, a6, a7⟩ := cLc_ok h c h4
      have hl := hb
      unfold swB at hl
      simp only [Bool.and_eq_true] at hl
      exact ls_setLc hr a1 c.calm nd (c.name h2) (isLoc_some hl.1.1) (by rw [sw, hb]) a2 a3 a4 a5 a6 a7
    | false => exact ls_set hr nd (c.name h2) l1 (cLc_pe h c h4) (by rw [sw, hb]) l2
  · rename_i y py _ _
    refine bd' q fun _ h1 q => ?_
    refine bd' q fun i h2 q => ?_
    refine bd' q fun _ h3 q => ?_
    refine bd' q fun s h4 q => ?_
    cases q
    have h1 := gd_some h1
    rw [Bool.and_eq_true] at h1
    obtain ⟨l1, l2⟩ := c.loc h1.1
    exact ls_set (of_decide_eq_true (gd_some h3)) nd (c.name h2) l1 (h.e_ c h4) (sw_plain h1.2) l2
  · refine bd' q fun ⟨g, ws⟩ h1 q => ?_
    refine bd' q fun _ h2 q => ?_
    refine bd' q fun s h3 q => ?_
    cases q
    exact ls_asg (refs_ok h2) (h.e_ c h3) (h.g_ c h1) (by cases e <;> rfl) rfl rfl
  · split at q
    · rename_i h0
      refine bd' q fun ⟨g, ws⟩ h1 q => ?_
      refine bd' q fun _ h2 q => ?_
      refine bd' q fun s h3 q => ?_
      cases q
      exact ls_asg (refs_ok h2) (h.e_ c h3) (h.g_ c h1) rfl (tup_swapped (by rw [c.sc_]; exact h0)) rfl
    · split at q
      · exact cPar_ok h c q
      · cases q
  · refine bd' q fun ⟨g, ws⟩ h1 q => ?_
    refine bd' q fun _ h2 q => ?_
    refine bd' q fun s h3 q => ?_
    cases q
    exact ls_asg (refs_ok h2) (h.e_ c h3) (h.g_ c h1) rfl rfl rfl
  · cases q
theorem cS_ok (h : Snd G R) (c : Ctx X G sc fn) {st : Stmt} {s : SemS} (q : cS G R sc fn refs st = some s) : PS X st (LS X.K refs s) := by
  have hp : PassesOwn (model X.prog X.w) X.A X.env X.xe := by rw [c.nox]; exact PassesOwn.never
  unfold cS at q
  split at q
  · exact cAsg_ok h c q
  · refine bd' q fun _ h1 q => ?_
    refine bd' q fun s h2 q => ?_
    cases q
    exact ls_exp (h.e_ c h2) (sw_plain (gd_some h1))
  · refine bd' q fun s h2 q => ?_
    cases q
    exact ls_ret (h.e_ c h2)
  · cases q
    exact ls_retN
  · refine bd' q fun t h1 q => ?_
    refine bd' q fun sa h2 q => ?_
    refine bd' q fun sb h3 q => ?_
    cases q
    exact ls_if (h.t_ c h1) (h.s_ c h2) (h.s_ c h3)
  · refine bd' q fun _ h1 q => ?_
    refine bd' q fun si h2 q => ?_
    refine bd' q fun ⟨g, ws⟩ h3 q => ?_
    refine bd' q fun _ h4 q => ?_
    refine bd' q fun sb h5 q => ?_
    cases q
    exact ls_for (refs_ok h4) hp c.calm (cI_ok h c h2) (h.g_ c h3) (h.s_ c h5) (set_of (gd_some h1))
  · refine bd' q fun t h1 q => ?_
    refine bd' q fun sb h2 q => ?_
    cases q
    exact ls_while _ hp (h.t_ c h1) (h.s_ c h2)
  · cases q
    exact ls_none
  · exact ls_try (h.s_ c.nox_ q)
  · cases q
    exact ls_pass
  · cases q
    exact ls_break
  · cases q
    exact ls_continue
  · cases q
theorem cSs_ok (h : Snd G R) (c : Ctx X G sc fn) : ∀ {b : List Stmt} {s : SemS}, cSs G R sc fn refs b = some s → PSs X b (LS X.K refs s)
  | [], s, q => by cases q; exact lss_nil
  | [st], s, q => lss_one (cS_ok h c q)
  | st :: st2 :: rest, s, q => by
    refine bd' q fun a h1 q => ?_
    refine bd' q fun b h2 q => ?_
    cases q
    exact lss_cons (cS_ok h c h1) (cSs_ok h c h2)
end
theorem snd_step {G : CE} {R : Rec} (h : Snd G R) : Snd G (stepR G R) := ⟨fun c e => cE_ok h c e, fun c e => cT_ok h c e, fun c e => cG_ok h c e, fun c e => cSs_ok h c e⟩
theorem snd_all (G : CE) : ∀ n, Snd G (recN G n)
  | 0 => snd0 G
  | n + 1 => snd_step (snd_all G n)
end Pv

set_option Elab.async false
set_option linter.all false
set_option maxRecDepth 100000
set_option maxHeartbeats 8000000
set_option autoImplicit false
/-! Pv, part L: the defs of a text, evaluated and sound. -/
namespace Pv
open PySem PySem.Spec PyProof.Rows L2

structure DT where
  x : Str
  st : Stmt
  N : List Str
  ps : List Str
  by_ : Bool
  S : (Str → Orc) → SemS
def startR (N : List Str) (sls : List Sl) : Sr := sls.map some ++ List.replicate (N.length - sls.length) none
/-- what a body's end tells a caller -/
def endN : Option (Fl × Sr) → Option (Rs × Option (List D))
  | some (.rt r, _) => some (r, none)
  | some (.nx, _) => some (.va .none, none)
  | _ => none
def endO : Option (Fl × Sr) → Option (Rs × Option (List D))
  | some (.rt r, ρ) => (match (ρ : List (Option Sl))[0]? with
    | some (some (Sl.ow ys)) => some (r, some ys)
    | _ => none)
  | some (.nx, ρ) => (match (ρ : List (Option Sl))[0]? with
    | some (some (Sl.ow ys)) => some (.va .none, some ys)
    | _ => none)
  | _ => none
def runB (d : DT) (o : Str → Orc) : Orc := fun fst ds => match fst with
  | none => if d.by_ = false ∧ ds.length = d.ps.length then endN (d.S o (startR d.N (ds.map .va))) else none
  | some (.ow xs) => if d.by_ = true ∧ ds.length + 1 = d.ps.length then endO (d.S o (startR d.N (.ow xs :: ds.map .va))) else none
  | some (.sc xs) => if d.by_ = true ∧ ds.length + 1 = d.ps.length then endN (d.S o (startR d.N (.sc xs :: ds.map .va))) else none
  | some (.va _) => none
def findT : List DT → Str → Option DT
  | [], _ => none
  | d :: r, x => if d.x = x then some d else findT r x
def evf (T : List DT) : Nat → Str → Orc
  | 0, _ => fun _ _ => none
  | n + 1, f => match findT T f with
    | some d => runB d (evf T n)
    | none => fun _ _ => none
def ceOf (T : List DT) (o : Str → Orc) (N : List Str) : CE := ⟨N, fun f => match findT T f with
  | some _ => some (o f)
  | none => none, fun f => match findT T f with
  | some d => d.by_
  | none => false⟩
structure DOk (T : List DT) (d : DT) : Prop where
  sc : FnScope d.N d.ps (defScope d.st)
  cp : ∀ o : Str → Orc, (recN (ceOf T o d.N) 60).S (defScope d.st) (fun _ => true) (if d.by_ = true then [0] else []) (defBody d.st) = some (d.S o)
structure TOk (K : PySem.W.Frag) (mg : Str → Option Value) (T : List DT) : Prop where
  d : ∀ x d, findT T x = some d → d.x = x ∧ DOk T d ∧ ∃ f fd, FunD K d.x d.x (defArgs d.st) (defBody d.st) (defScope d.st) [] [] f fd ∧ mg d.x = some (.ref f) ∧ Binds K fd d.ps []
  free : ∀ x ∈ freeN, mg x = none
  gcd : mg "gcd" = some (.builtin "math.gcd")

section
variable {K : PySem.W.Frag}
theorem ArgR.len {F H : Hp} {fst : Option Sl} {vs : List V} {ds : List D} (h : ArgR K F H fst vs ds) : vs.length = ds.length + (match fst with
  | none => 0
  | some _ => 1) := by
  obtain ⟨_, h⟩ := h
  cases fst with
  | none => exact h.len
  | some sl =>
    cases sl with
    | va d => exact h.elim
    | ow xs =>
      obtain ⟨a, us, ws, rfl, _, _, _, q⟩ := h
      simp [q.len]
    | sc xs =>
      obtain ⟨a, us, ws, rfl, _, _, q⟩ := h
      simp [q.len]
theorem start_get {N : List Str} {vs : List V} {sls : List Sl} (hl : vs.length = sls.length) {i : Nat} {sl : Sl} (h : (startR N sls)[i]? = some (some sl)) : sls[i]? = some sl ∧ ∀ v, vs[i]? = some v → (L2.start N vs)[i]? = some (some v) := by
  unfold startR at h
  by_cases hi : i < sls.length
  · rw [List.getElem?_append_left (by simpa using hi), List.getElem?_map] at h
    cases q : sls[i]? with
    | none => rw [q] at h; cases h
    | some s =>
      rw [q] at h
      cases h
      refine ⟨rfl, fun v hv => ?_⟩
      unfold L2.start
      rw [List.getElem?_append_left (by simp; omega), List.getElem?_map, hv]
      rfl
  · rw [List.getElem?_append_right (by simp; omega)] at h
    have := List.getElem?_eq_some_iff.mp h
    obtain ⟨h1, h2⟩ := this
    rw [List.getElem_replicate] at h2
    cases h2
theorem start_va {N : List Str} {F H : Hp} {vs : List V} {ds : List D} (s : Sub F H) (h : DqAll K F vs ds) (hn : ds.length ≤ N.length) : Rel K F (startR N (ds.map .va)) (L2.start N vs) H := by
  have hl : vs.length = (ds.map Sl.va).length := by rw [List.length_map]; exact h.len
  have gt : ∀ {i : Nat} {sl : Sl}, (startR N (ds.map .va))[i]? = some (some sl) → ∃ d, ds[i]? = some d ∧ sl = .va d := fun {i sl} e => by
    obtain ⟨e1, _⟩ := start_get hl e
    rw [List.getElem?_map] at e1
    cases q : ds[i]? with
    | none => rw [q] at e1; cases e1
    | some d => rw [q] at e1; cases e1; exact ⟨d, rfl, rfl⟩
  refine ⟨s, fun i d e => ?_, fun i xs e => ?_, fun i xs e => ?_, fun i j xs ys a e => ?_, ?_⟩
  · obtain ⟨d', h1, h2⟩ := gt e
    cases h2
    obtain ⟨v, h3, h4⟩ := h.get h1
    exact ⟨v, (start_get hl e).2 v h3, h4⟩
  · obtain ⟨_, _, h2⟩ := gt e
    cases h2
  · obtain ⟨_, _, h2⟩ := gt e
    cases h2
  · obtain ⟨_, _, h2⟩ := gt e
    cases h2
  · unfold startR L2.start
    simp [h.len]
theorem start_by {N : List Str} {F H : Hp} {v : V} {vs : List V} {ds : List D} {sl : Sl} (s : Sub F H) (h : DqAll K F vs ds) (hn : ds.length + 1 ≤ N.length)
    (hs : (∃ a us xs, sl = .ow xs ∧ v = .ref a ∧ H a = some (.lst us) ∧ F a = none ∧ DqAll K F us xs) ∨ (∃ a us xs, sl = .sc xs ∧ v = .ref a ∧ SqL K F a us ∧ DqAll K F us xs)) : Rel K F (startR N (sl :: ds.map .va)) (L2.start N (v :: vs)) H := by
  have hl : (v :: vs).length = (sl :: ds.map Sl.va).length := by simp [h.len]
  have gt : ∀ {i : Nat} {s' : Sl}, (startR N (sl :: ds.map .va))[i]? = some (some s') → (i = 0 ∧ s' = sl) ∨ ∃ j d, i = j + 1 ∧ ds[j]? = some d ∧ s' = .va d := fun {i s'} e => by
    obtain ⟨e1, _⟩ := start_get hl e
    cases i with
    | zero => cases e1; exact .inl ⟨rfl, rfl⟩
    | succ j =>
      rw [List.getElem?_cons_succ, List.getElem?_map] at e1
      cases q : ds[j]? with
      | none => rw [q] at e1; cases e1
      | some d => rw [q] at e1; cases e1; exact .inr ⟨j, d, rfl, q, rfl⟩
  have z0 : ∀ {i : Nat} {s' : Sl}, (startR N (sl :: ds.map .va))[i]? = some (some s') → i = 0 → (L2.start N (v :: vs))[i]? = some (some v) := fun {i s'} e z => by
    subst z
    exact (start_get hl e).2 v rfl
  refine ⟨s, fun i d e => ?_, fun i xs e => ?_, fun i xs e => ?_, fun i j xs ys a e e2 => ?_, ?_⟩
  · rcases gt e with ⟨z, h2⟩ | ⟨j, d', rfl, h1, h2⟩
    · subst h2
      rcases hs with ⟨_, _, _, q, _⟩ | ⟨_, _, _, q, _⟩ <;> cases q
    · cases h2
      obtain ⟨w, h3, h4⟩ := h.get h1
      exact ⟨w, (start_get hl e).2 w (by rw [List.getElem?_cons_succ]; exact h3), h4⟩
  · rcases gt e with ⟨z, h2⟩ | ⟨j, d', rfl, h1, h2⟩
    · subst h2
      have := z0 e z
      rcases hs with ⟨a, us, xs', q, rfl, q1, q2, q3⟩ | ⟨_, _, _, q, _⟩
      · cases q
        exact ⟨a, us, this, q1, q2, q3⟩
      · cases q
    · cases h2
  · rcases gt e with ⟨z, h2⟩ | ⟨j, d', rfl, h1, h2⟩
    · subst h2
      have := z0 e z
      rcases hs with ⟨_, _, _, q, _⟩ | ⟨a, us, xs', q, rfl, q1, q2⟩
      · cases q
      · cases q
        exact ⟨a, us, this, q1, q2⟩
    · cases h2
  · rcases gt e with ⟨z, _⟩ | ⟨_, _, _, _, h2⟩
    · rcases gt e2 with ⟨z', _⟩ | ⟨_, _, _, _, h2⟩
      · intro _ _
        rw [z, z']
      · cases h2
    · cases h2
  · unfold startR L2.start
    simp [h.len]
theorem not_own_va {N : List Str} {ds : List D} {σ : L2.St} {a : Addr} : ¬ Own (startR N (ds.map .va)) σ a := by
  rintro ⟨i, xs, e, _⟩
  unfold startR at e
  rcases Nat.lt_or_ge i (ds.map Sl.va).length with hi | hi
  · rw [List.getElem?_append_left (by simpa using hi), List.getElem?_map, List.getElem?_map] at e
    cases q : ds[i]? with
    | none => rw [q] at e; cases e
    | some d => rw [q] at e; cases e
  · rw [List.getElem?_append_right (by simpa using hi)] at e
    obtain ⟨h1, h2⟩ := List.getElem?_eq_some_iff.mp e
    rw [List.getElem_replicate] at h2
    cases h2
theorem own_by {N : List Str} {sl : Sl} {ds : List D} {σ : L2.St} {a : Addr} (h : Own (startR N (sl :: ds.map .va)) σ a) : (∃ xs, sl = .ow xs) ∧ σ[0]? = some (some (.ref a)) := by
  obtain ⟨i, xs, e, e2⟩ := h
  cases i with
  | zero =>
    have e : some (some sl) = some (some (Sl.ow xs)) := e
    cases e
    exact ⟨⟨xs, rfl⟩, e2⟩
  | succ i =>
    have e : (startR (N.drop 1) (ds.map .va))[i]? = some (some (.ow xs)) := by
      unfold startR at e ⊢
      rw [List.map_cons, List.cons_append, List.getElem?_cons_succ] at e
      rw [← e]
      congr 3
      simp
      omega
    exact absurd (⟨i, xs, e, (by simp)⟩ : Own (startR (N.drop 1) (ds.map .va)) ((List.replicate i none) ++ [some (.ref a)]) a) not_own_va
theorem res_rse {F' H H' : Hp} {ρ' : Sr} {σ' : L2.St} {r : Rs} {v : V} (h : RsR K F' ρ' σ' H H' r v) : RsE K F' H H' r v := by
  cases r with
  | va d => exact h
  | nw xs =>
    obtain ⟨a, vs, rfl, h1, h2, h3, _, h5⟩ := h
    exact ⟨a, vs, rfl, h1, h2, h3, h5⟩
theorem runB_imp {d : DT} {o : Str → Orc} (hN : d.ps.length ≤ d.N.length) {vs : List V} {H : Hp} {Q : VK} {E : XK} (h : CallSpec K (runB d o) vs H Q E) :
    vs.length = d.ps.length ∧ LS K (if d.by_ = true then [0] else []) (d.S o) { nx := fun _ H' => Q .non H', rt := Q } (L2.start d.N vs) H := by
  obtain ⟨F, fst, ds, r, out, hA, e, k⟩ := h
  have hlen := hA.len
  obtain ⟨sub, hA⟩ := hA
  unfold runB at e
  cases fst with
  | none =>
    dsimp only at e hA hlen
    split at e
    · rename_i hc
      obtain ⟨hb, hl⟩ := hc
      refine ⟨by omega, ?_⟩
      rw [hb]
      have R := start_va (N := d.N) sub hA (by omega)
      have no : ∀ a, ¬ Own (startR d.N (ds.map .va)) (L2.start d.N vs) a := fun a => not_own_va
      have post : ∀ {F' H' : Hp} {ρ' : Sr} {σ' : L2.St}, Stp K F (startR d.N (ds.map .va)) (L2.start d.N vs) H F' ρ' σ' H' → CallPost K F H F' H' none vs none := fun s =>
        ⟨s.rel.sub, s.ext, fun a ha => (s.new a ha).imp_right fun z => z.resolve_right (no a), fun b u hb' _ => s.keep b u hb' (no b), s.dom, fun xs z => by cases z⟩
      unfold endN at e
      split at e
      · rename_i r' ρ' e1
        cases e
        refine ⟨F, _, _, ρ', R, e1, fun F' σ' H' s _ v hv => ?_⟩
        exact k v F' H' (post s) (res_rse hv)
      · rename_i ρ' e1
        cases e
        refine ⟨F, _, _, ρ', R, e1, fun F' σ' H' s _ => ?_⟩
        exact k .non F' H' (post s) .non
      · cases e
    · cases e
  | some sl =>
    cases sl with
    | va x => cases e
    | ow xs =>
      dsimp only at e hA hlen
      obtain ⟨a, us, ws, rfl, h1, h2, h3, h4⟩ := hA
      split at e
      · rename_i hc
        obtain ⟨hb, hl⟩ := hc
        refine ⟨by omega, ?_⟩
        rw [if_pos hb]
        have R : Rel K F (startR d.N (.ow xs :: ds.map .va)) (L2.start d.N (.ref a :: ws)) H := start_by sub h4 (by omega) (.inl ⟨a, us, xs, rfl, rfl, h1, h2, h3⟩)
        have z0 : (L2.start d.N (.ref a :: ws))[0]? = some (some (.ref a)) := rfl
        have own1 : ∀ b, Own (startR d.N (.ow xs :: ds.map .va)) (L2.start d.N (.ref a :: ws)) b → b = a := fun b ob => by
          have := (own_by ob).2
          rw [z0] at this
          cases this
          rfl
        have post : ∀ {F' H' : Hp} {ρ' : Sr} {σ' : L2.St} {ys : List D}, Stp K F (startR d.N (.ow xs :: ds.map .va)) (L2.start d.N (.ref a :: ws)) H F' ρ' σ' H' → Pin [0] (L2.start d.N (.ref a :: ws)) σ' → ρ'[0]? = some (some (.ow ys)) →
            CallPost K F H F' H' (some (.ow xs)) (.ref a :: ws) (some ys) := fun {F' H' ρ' σ' ys} s p hy => by
          have z1 : σ'[0]? = some (some (.ref a)) := by rw [p 0 (by simp)]; exact z0
          obtain ⟨a', us', g1, g2, g3, g4⟩ := s.rel.ow 0 ys hy
          rw [z1] at g1
          cases g1
          refine ⟨s.rel.sub, s.ext, fun b hb' => ?_, fun b u hb' hn => s.keep b u hb' fun ob => ?_, s.dom, fun xs' z => ⟨a, us', ys, rfl, rfl, g2, g4⟩⟩
          · rcases s.new b hb' with z | z | z
            · exact .inl z
            · exact .inr z
            · rw [own1 b z] at hb'
              exact absurd g3 hb'
          · rw [own1 b ob] at hn
            exact hn xs rfl rfl
        unfold endO at e
        split at e
        · rename_i r' ρ' e1
          split at e
          · rename_i ys e2
            cases e
            refine ⟨F, _, _, ρ', R, e1, fun F' σ' H' s p v hv => ?_⟩
            exact k v F' H' (post s p e2) (res_rse hv)
          · cases e
        · rename_i ρ' e1
          split at e
          · rename_i ys e2
            cases e
            refine ⟨F, _, _, ρ', R, e1, fun F' σ' H' s p => ?_⟩
            exact k .non F' H' (post s p e2) .non
          · cases e
        · cases e
      · cases e
    | sc xs =>
      dsimp only at e hA hlen
      obtain ⟨a, us, ws, rfl, h1, h3, h4⟩ := hA
      split at e
      · rename_i hc
        obtain ⟨hb, hl⟩ := hc
        refine ⟨by omega, ?_⟩
        rw [if_pos hb]
        have R : Rel K F (startR d.N (.sc xs :: ds.map .va)) (L2.start d.N (.ref a :: ws)) H := start_by sub h4 (by omega) (.inr ⟨a, us, xs, rfl, rfl, h1, h3⟩)
        have no : ∀ b, ¬ Own (startR d.N (.sc xs :: ds.map .va)) (L2.start d.N (.ref a :: ws)) b := fun b ob => by
          obtain ⟨⟨ys, z⟩, _⟩ := own_by ob
          cases z
        have post : ∀ {F' H' : Hp} {ρ' : Sr} {σ' : L2.St}, Stp K F (startR d.N (.sc xs :: ds.map .va)) (L2.start d.N (.ref a :: ws)) H F' ρ' σ' H' → CallPost K F H F' H' (some (.sc xs)) (.ref a :: ws) none := fun s =>
          ⟨s.rel.sub, s.ext, fun a ha => (s.new a ha).imp_right fun z => z.resolve_right (no a), fun b u hb' _ => s.keep b u hb' (no b), s.dom, fun xs z => by cases z⟩
        unfold endN at e
        split at e
        · rename_i r' ρ' e1
          cases e
          refine ⟨F, _, _, ρ', R, e1, fun F' σ' H' s _ v hv => ?_⟩
          exact k v F' H' (post s) (res_rse hv)
        · rename_i ρ' e1
          cases e
          refine ⟨F, _, _, ρ', R, e1, fun F' σ' H' s _ => ?_⟩
          exact k .non F' H' (post s) .non
        · cases e
      · cases e
end
theorem spec_none {K : PySem.W.Frag} {o : Orc} (ho : ∀ fst ds, o fst ds = none) {vs : List V} {H : Hp} {Q : VK} {E : XK} (h : CallSpec K o vs H Q E) : False := by
  obtain ⟨F, fst, ds, r, out, hA, e, k⟩ := h
  rw [ho] at e
  cases e
/-- every def of the table keeps what the evaluator says -/
theorem all_ok {P : Program} {w : World} {K : PySem.W.Frag} {mg : Str → Option Value} {base : Heap} {T : List DT} (W : TOk K mg T) : ∀ (n : Nat) (x : Str) (d : DT), findT T x = some d → ∀ f fd,
    FunD K d.x d.x (defArgs d.st) (defBody d.st) (defScope d.st) [] [] f fd → FnOk P w K mg base CX0 n f fd d.ps (CallSpec K (evf T n x))
  | 0, x, d, hx, f, fd, hF => ⟨fun vs H Q E h => (spec_none (fun _ _ => rfl) h).elim, fun A outer s H args us vs Q E hr he hb hv h => (spec_none (fun _ _ => rfl) h).elim⟩
  | n + 1, x, d, hx, f, fd, hF => by
    obtain ⟨ex, ok, -⟩ := W.d x d hx
    have ev : evf T (n + 1) x = runB d (evf T n) := by
      show (match findT T x with
        | some d => runB d (evf T n)
        | none => fun _ _ => none) = _
      rw [hx]
    rw [ev]
    have hN : d.ps.length ≤ d.N.length := by
      have := congrArg List.length ok.sc.pre
      rw [List.length_take] at this
      omega
    refine hF.ok ok.sc (fun vs H Q E h => (runB_imp hN h).1) fun cdv A outer s H vs Q E hr h => ⟨LS K (if d.by_ = true then [0] else []) (d.S (evf T n)), PSs.nox ?_, (runB_imp hN h).2⟩
    refine (snd_all (ceOf T (evf T n) d.N) 60).s_ (sc := defScope d.st) (fn := fun _ => true) ?_ (ok.cp (evf T n))
    refine ⟨rfl, ok.sc.nd, rfl, rfl, rfl, rfl, hr.units, fun g orc hg => ?_, W.free, W.gcd⟩
    cases q : findT T g with
    | none => simp only [ceOf, q] at hg; cases hg
    | some d' =>
      simp only [ceOf, q] at hg
      cases hg
      obtain ⟨ex', ok', f', fd', hF', hm', hb'⟩ := W.d g d' q
      subst ex'
      exact ⟨n, f', fd', d'.ps, all_ok W n d'.x d' q f' fd' hF', hr, hm', hF'.kp, hb'⟩
end Pv

set_option Elab.async false
set_option linter.all false
set_option maxRecDepth 100000
set_option maxHeartbeats 8000000
set_option autoImplicit false
/-! Pv: the head's hook and the facts of a table. -/
namespace Pv
open PySem PySem.Spec PyProof.Rows L2 He
abbrev AlE : Type := AlD × Bool
def obsE (n : Nat) (fa : List Fa) (fn : List DefD) (ex : PySem.W.Frag → Bool) (g : Addr → Option Obj) : AlE := (obsDG n fa fn g, ex (frG g (asD g n)))
def hookE (n : Nat) (fa : List Fa) (fn : List DefD) (ex : PySem.W.Frag → Bool) : PySem.W.Hook where
  α := AlE
  obs := fun s => obsE n fa fn ex s.heap.get?
  val := fun _ => (valD fn, true)
  says := fun _ h => ∃ K : PySem.W.Frag, K.In h ∧ SaysD fa fn K ∧ ex K = true
  of := fun _ _ e => ⟨_, frG_in, congrArg (fun z : AlE => z.1) e, congrArg (fun z : AlE => z.2) e⟩
  keeps := fun _ _ _ ⟨K, hK, c⟩ k => ⟨K, PySem.W.Frag.In.keeps hK k, c⟩
theorem obsE_eq {n : Nat} {fa : List Fa} {fn : List DefD} {ex : PySem.W.Frag → Bool} {g : Addr → Option Obj} {s : Shared} (h : ∀ a, g a = s.heap.get? a) : obsE n fa fn ex g = (hookE n fa fn ex).obs s := by
  have e : g = s.heap.get? := funext h
  rw [e] <;> rfl
def faOf (T : List DT) : List Fa := T.map (fun d => .glo d.x) ++ freeN.map .free
def ddOf (d : DT) : DefD := ⟨(d.x, none), d.x, d.x, defArgs d.st, defBody d.st, defScope d.st, [], []⟩
def fnOf' (T : List DT) : List DefD := T.map ddOf
def exGcd (K : PySem.W.Frag) : Bool := eqO (PySem.W.nsIn K mainGlobals "gcd") (some (some (.builtin "math.gcd")))
/-- what each def's arguments are: plain names -/
def argsOk (d : DT) : Prop := ∀ (nm qu : Str) (bd : List Stmt) (sc : Scope) (kV doc pm : Value) (an : Option Addr) (cdv ct : Value) (us : List Value), us.length = d.ps.length → bindArgs (PySem.W.fnOf nm qu (defArgs d.st) bd sc .none kV doc pm an cdv ct) ⟨us, []⟩ = pure (d.ps.zip us)
theorem findT_mem {T : List DT} {x : Str} {d : DT} (h : findT T x = some d) : d.x = x ∧ d ∈ T := by
  induction T with
  | nil => cases h
  | cons a r ih =>
    unfold findT at h
    split at h
    · rename_i e
      cases h
      exact ⟨e, List.mem_cons_self⟩
    · obtain ⟨h1, h2⟩ := ih h
      exact ⟨h1, List.mem_cons_of_mem _ h2⟩
theorem SaysD.fct {fa : List Fa} {fn : List DefD} {K : PySem.W.Frag} (c : SaysD fa fn K) {f : Fa} (h : f ∈ fa) : f.ok K = true := by
  obtain ⟨i, hi, e⟩ := List.mem_iff_getElem.mp h
  exact c.fact i (f := f) (by rw [List.getElem?_eq_getElem hi, e])
theorem SaysD.dfs {fa : List Fa} {fn : List DefD} {K : PySem.W.Frag} (c : SaysD fa fn K) {d : DefD} (h : d ∈ fn) : ∃ fd, FunD K d.name d.qual d.params d.body d.scope (d.dvs K) (d.kws K) (fAd K d.at_) fd := by
  obtain ⟨i, hi, e⟩ := List.mem_iff_getElem.mp h
  exact c.def_ i (d := d) (by rw [List.getElem?_eq_getElem hi, e])
theorem tok_of {T : List DT} {K : PySem.W.Frag} {h : Heap} {mg : Str → Option Value} (X : K.In h) (G : h.Ns mainGlobals mg) (c : SaysD (faOf T) (fnOf' T) K) (hg : exGcd K = true) (ok : ∀ d ∈ T, DOk T d) (ab : ∀ d ∈ T, argsOk d) : TOk K mg T where
  d := fun x d hd => by
    obtain ⟨e, hm⟩ := findT_mem hd
    refine ⟨e, ok d hm, ?_⟩
    obtain ⟨fd, F⟩ := SaysD.dfs c (d := ddOf d) (List.mem_map_of_mem hm)
    refine ⟨_, fd, F, ?_, ?_⟩
    · exact glo_ok X G (SaysD.fct c (f := .glo d.x) (List.mem_append_left _ (List.mem_map.mpr ⟨d, hm, rfl⟩)))
    · exact FunD.bindsN F (ab d hm d.x d.x (defBody d.st) (defScope d.st))
  free := fun x hx => free_ok X G (SaysD.fct c (f := .free x) (List.mem_append_right _ (List.mem_map.mpr ⟨x, hx, rfl⟩)))
  gcd := PySem.W.mg_of X G (eqO_ok hg)
end Pv

set_option Elab.async false
set_option linter.all false
set_option maxRecDepth 100000
set_option maxHeartbeats 8000000
set_option autoImplicit false
/-! Pv, part M: the evaluator's equations for simp. -/
namespace Pv
open PySem PySem.Spec PyProof.Rows L2
@[simp] theorem sVar_ap (i : Nat) (ρ : Sr) : sVar i ρ = (match ρ[i]? with
  | some (some (.va d)) => some (.va d, ρ)
  | some (some (.ow xs)) => some (.va (.list xs), ρ.set i (some (.va (.list xs))))
  | _ => none) := rfl
@[simp] theorem sC_ap (d : D) (ρ : Sr) : sC d ρ = (some (.va d, ρ)) := rfl
@[simp] theorem sBin_ap (f : D → D → Option Rs) (a b : SemE) (ρ : Sr) : sBin f a b ρ = (match a ρ with
  | some (x, ρ1) => (match b ρ1 with
    | some (y, ρ2) => (match f x.d y.d with
      | some r => some (r, ρ2)
      | none => none)
    | none => none)
  | none => none) := rfl
@[simp] theorem sUn_ap (f : D → Option Rs) (a : SemE) (ρ : Sr) : sUn f a ρ = (match a ρ with
  | some (x, ρ1) => (match f x.d with
    | some r => some (r, ρ1)
    | none => none)
  | none => none) := rfl
@[simp] theorem sNil_ap  (ρ : Sr) : sNil  ρ = (some ([], ρ)) := rfl
@[simp] theorem sCons_ap (a : SemE) (as : SemL) (ρ : Sr) : sCons a as ρ = (match a ρ with
  | some (x, ρ1) => (match as ρ1 with
    | some (xs, ρ2) => some (x.d :: xs, ρ2)
    | none => none)
  | none => none) := rfl
@[simp] theorem sArgs_ap (f : List D → Option Rs) (as : SemL) (ρ : Sr) : sArgs f as ρ = (match as ρ with
  | some (ds, ρ1) => (match f ds with
    | some r => some (r, ρ1)
    | none => none)
  | none => none) := rfl
@[simp] theorem sTru_ap (a : SemE) (ρ : Sr) : sTru a ρ = (match a ρ with
  | some (x, ρ1) => (match truD x.d with
    | some b => some (b, ρ1)
    | none => none)
  | none => none) := rfl
@[simp] theorem sAsT_ap (a : SemE) (ρ : Sr) : sAsT a ρ = (match a ρ with
  | some (.va (.bool b), ρ1) => some (b, ρ1)
  | _ => none) := rfl
@[simp] theorem sAnd_ap (a b : SemT) (ρ : Sr) : sAnd a b ρ = (match a ρ with
  | some (true, ρ1) => b ρ1
  | some (false, ρ1) => some (false, ρ1)
  | none => none) := rfl
@[simp] theorem sOr_ap (a b : SemT) (ρ : Sr) : sOr a b ρ = (match a ρ with
  | some (true, ρ1) => some (true, ρ1)
  | some (false, ρ1) => b ρ1
  | none => none) := rfl
@[simp] theorem sNot_ap (a : SemT) (ρ : Sr) : sNot a ρ = (match a ρ with
  | some (b, ρ1) => some (!b, ρ1)
  | none => none) := rfl
@[simp] theorem sAndV_ap (a b : SemE) (ρ : Sr) : sAndV a b ρ = (match a ρ with
  | some (.va (.bool true), ρ1) => b ρ1
  | some (.va (.bool false), ρ1) => some (.va (.bool false), ρ1)
  | _ => none) := rfl
@[simp] theorem sOrV_ap (a b : SemE) (ρ : Sr) : sOrV a b ρ = (match a ρ with
  | some (.va (.bool true), ρ1) => some (.va (.bool true), ρ1)
  | some (.va (.bool false), ρ1) => b ρ1
  | _ => none) := rfl
@[simp] theorem sNotV_ap (a : SemE) (ρ : Sr) : sNotV a ρ = (match a ρ with
  | some (.va (.bool b), ρ1) => some (.va (.bool (!b)), ρ1)
  | _ => none) := rfl
@[simp] theorem sIf_ap (t : SemT) (a b : SemE) (ρ : Sr) : sIf t a b ρ = (match t ρ with
  | some (true, ρ1) => a ρ1
  | some (false, ρ1) => b ρ1
  | none => none) := rfl
@[simp] theorem sIxV_ap (i : Nat) (sb : SemE) (ρ : Sr) : sIxV i sb ρ = (match ρ[i]? with
  | some (some _) => (match sb ρ with
    | some (y, ρ1) => (match ρ1[i]? with
      | some (some sl) => (match fIx sl.d y.d with
        | some r => some (r, ρ1)
        | none => none)
      | _ => none)
    | none => none)
  | _ => none) := rfl
@[simp] theorem sLenV_ap (i : Nat) (ρ : Sr) : sLenV i ρ = (match ρ[i]? with
  | some (some sl) => (match lenD sl.d with
    | some r => some (r, ρ)
    | none => none)
  | _ => none) := rfl
@[simp] theorem iS_ap (a : SemE) (ρ : Sr) : iS a ρ = (match a ρ with
  | some (x, ρ1) => (match seqOf x.d with
    | some ds => some (ds, ρ1)
    | none => none)
  | none => none) := rfl
@[simp] theorem iRg1_ap (as : SemL) (ρ : Sr) : iRg1 as ρ = (match as ρ with
  | some ([.int j], ρ1) => if j.natAbs < 2 ^ 62 then some (rgD 0 j.toNat, ρ1) else none
  | _ => none) := rfl
@[simp] theorem iRg2_ap (as : SemL) (ρ : Sr) : iRg2 as ρ = (match as ρ with
  | some ([.int i, .int j], ρ1) => if i.natAbs < 2 ^ 62 ∧ j.natAbs < 2 ^ 62 then some (rgD i (j - i).toNat, ρ1) else none
  | _ => none) := rfl
@[simp] theorem iEn_ap (as : SemL) (ρ : Sr) : iEn as ρ = (match as ρ with
  | some ([.list xs], ρ1) => some (enumD 0 xs, ρ1)
  | _ => none) := rfl
@[simp] theorem iZp_ap (as : SemL) (ρ : Sr) : iZp as ρ = (match as ρ with
  | some ([x, y], ρ1) => (match seqOf x, seqOf y with
    | some xs, some ys => some (zipD xs ys, ρ1)
    | _, _ => none)
  | _ => none) := rfl
@[simp] theorem gN_ap (i : Nat) (d : D) (ρ : Sr) : gN i d ρ = (some (ρ.set i (some (.va d)))) := rfl
@[simp] theorem gT_t (gs : SemGs) (ds : List D) (ρ : Sr) : gT gs (.tuple ds) ρ = gs ds ρ := rfl
@[simp] theorem gT_l (gs : SemGs) (ds : List D) (ρ : Sr) : gT gs (.list ds) ρ = gs ds ρ := rfl
@[simp] theorem gsNil_ap  (ds : List D) (ρ : Sr) : gsNil  ds ρ = (match ds with
  | [] => some ρ
  | _ => none) := rfl
@[simp] theorem gsCons_ap (g : SemG) (gs : SemGs) (ds : List D) (ρ : Sr) : gsCons g gs ds ρ = (match ds with
  | d :: r => (match g d ρ with
    | some ρ1 => gs r ρ1
    | none => none)
  | [] => none) := rfl
@[simp] theorem gSbV_ap (i : Nat) (sb : SemE) (d : D) (ρ : Sr) : gSbV i sb d ρ = (match ρ[i]? with
  | some (some _) => (match sb ρ with
    | some (y, ρ1) => (match ρ1[i]?, y.d with
      | some (some (.ow xs)), .int k => (match ixN xs.length k with
        | some j => some (ρ1.set i (some (.ow (xs.set j d))))
        | none => none)
      | _, _ => none)
    | none => none)
  | _ => none) := rfl
@[simp] theorem sLc_ap (own : List Nat) (si : SemI) (g : SemG) (tt : SemT) (te : SemE) (ρ : Sr) : sLc own si g tt te ρ = (match si ρ with
  | some (ds, ρ1) => (match lcL own g tt te ds (wipeR ρ1 own) [] with
    | some (xs, ρ2) => some (.nw xs, backR ρ1 ρ2 own)
    | none => none)
  | none => none) := rfl
@[simp] theorem sNx_ap  (ρ : Sr) : sNx  ρ = (some (.nx, ρ)) := rfl
@[simp] theorem sBk_ap  (ρ : Sr) : sBk  ρ = (some (.bk, ρ)) := rfl
@[simp] theorem sCt_ap  (ρ : Sr) : sCt  ρ = (some (.ct, ρ)) := rfl
@[simp] theorem sNone_ap  (ρ : Sr) : sNone  ρ = (none) := rfl
@[simp] theorem sSeq_ap (a b : SemS) (ρ : Sr) : sSeq a b ρ = (match a ρ with
  | some (.nx, ρ1) => b ρ1
  | some (.rt r, ρ1) => some (.rt r, ρ1)
  | some (.bk, ρ1) => some (.bk, ρ1)
  | some (.ct, ρ1) => some (.ct, ρ1)
  | none => none) := rfl
@[simp] theorem sAsg_ap (i : Nat) (a : SemE) (ρ : Sr) : sAsg i a ρ = (match a ρ with
  | some (r, ρ1) => some (.nx, ρ1.set i (some r.sl))
  | none => none) := rfl
@[simp] theorem sAsgG_ap (g : SemG) (a : SemE) (ρ : Sr) : sAsgG g a ρ = (match a ρ with
  | some (r, ρ1) => (match g r.d ρ1 with
    | some ρ2 => some (.nx, ρ2)
    | none => none)
  | none => none) := rfl
@[simp] theorem sExp_ap (a : SemE) (ρ : Sr) : sExp a ρ = (match a ρ with
  | some (_, ρ1) => some (.nx, ρ1)
  | none => none) := rfl
@[simp] theorem sRet_ap (a : SemE) (ρ : Sr) : sRet a ρ = (match a ρ with
  | some (r, ρ1) => some (.rt r, ρ1)
  | none => none) := rfl
@[simp] theorem sRetN_ap  (ρ : Sr) : sRetN  ρ = (some (.rt (.va .none), ρ)) := rfl
@[simp] theorem sIfS_ap (t : SemT) (a b : SemS) (ρ : Sr) : sIfS t a b ρ = (match t ρ with
  | some (true, ρ1) => a ρ1
  | some (false, ρ1) => b ρ1
  | none => none) := rfl
@[simp] theorem sFor_ap (si : SemI) (g : SemG) (body : SemS) (ρ : Sr) : sFor si g body ρ = (match si ρ with
  | some (ds, ρ1) => forL g body ds ρ1
  | none => none) := rfl
@[simp] theorem sWhile_ap (n : Nat) (t : SemT) (body : SemS) (ρ : Sr) : sWhile n t body ρ = (whileL t body n ρ) := rfl
@[simp] theorem sApp_ap (i : Nat) (a : SemE) (ρ : Sr) : sApp i a ρ = (match ρ[i]? with
  | some (some (.ow _)) => (match a ρ with
    | some (y, ρ1) => (match ρ1[i]? with
      | some (some (.ow xs)) => if xs.length < 100000 then some (.va .none, ρ1.set i (some (.ow (xs ++ [y.d])))) else none
      | _ => none)
    | none => none)
  | _ => none) := rfl
@[simp] theorem sPop_ap (i : Nat) (ρ : Sr) : sPop i ρ = (match ρ[i]? with
  | some (some (.ow xs)) => (match xs[xs.length - 1]? with
    | some d => some (.va d, ρ.set i (some (.ow xs.dropLast)))
    | none => none)
  | _ => none) := rfl
@[simp] theorem sLstRg_ap (a : SemE) (ρ : Sr) : sLstRg a ρ = (match a ρ with
  | some (x, ρ1) => (match x.d with
    | .int n => if n.natAbs ≤ 100000 then some (.nw (rgD 0 n.toNat), ρ1) else none
    | _ => none)
  | none => none) := rfl
@[simp] theorem sLstV_ap (i : Nat) (ρ : Sr) : sLstV i ρ = (match ρ[i]? with
  | some (some sl) => (match sl.d with
    | .list xs => some (.nw xs, ρ)
    | .tuple xs => some (.nw xs, ρ)
    | _ => none)
  | _ => none) := rfl
@[simp] theorem oNo_ap  (ρ : Sr) : oNo  ρ = (some (none, ρ)) := rfl
@[simp] theorem oSome_ap (a : SemE) (ρ : Sr) : oSome a ρ = (match a ρ with
  | some (x, ρ1) => (match x.d with
    | .int i => some (some i, ρ1)
    | _ => none)
  | none => none) := rfl
@[simp] theorem sSl_ap (a : SemE) (lo hi : SemO) (ρ : Sr) : sSl a lo hi ρ = (match a ρ with
  | some (x, ρ1) => (match lo ρ1 with
    | some (l, ρ2) => (match hi ρ2 with
      | some (u, ρ3) => (match slD x.d l u with
        | some r => some (r, ρ3)
        | none => none)
      | none => none)
    | none => none)
  | none => none) := rfl
@[simp] theorem sCall_ap (f : Orc) (as : SemL) (ρ : Sr) : sCall f as ρ = (match as ρ with
  | some (ds, ρ1) => (match f none ds with
    | some (r, none) => some (r, ρ1)
    | _ => none)
  | none => none) := rfl
@[simp] theorem sCallV_ap (f : Orc) (i : Nat) (as : SemL) (ρ : Sr) : sCallV f i as ρ = (match ρ[i]? with
  | some (some sl0) => (match as ρ with
    | some (ds, ρ1) => (match ρ1[i]? with
      | some (some (.ow xs)) => (match f (some (.ow xs)) ds with
        | some (r, some xs') => some (r, ρ1.set i (some (.ow xs')))
        | _ => none)
      | some (some (.sc xs)) => (match f (some (.sc xs)) ds with
        | some (r, none) => some (r, ρ1)
        | _ => none)
      | _ => none)
    | none => none)
  | _ => none) := rfl
@[simp] theorem sCallN_ap (f : Orc) (a : SemE) (as : SemL) (ρ : Sr) : sCallN f a as ρ = (match a ρ with
  | some (.nw xs, ρ1) => (match as ρ1 with
    | some (ds, ρ2) => (match f (some (.ow xs)) ds with
      | some (r, some _) => some (r, ρ2)
      | _ => none)
    | none => none)
  | _ => none) := rfl
@[simp] theorem sCmpV_ap (f : D → D → Option Rs) (i : Nat) (sb : SemE) (ρ : Sr) : sCmpV f i sb ρ = (match ρ[i]? with
  | some (some _) => (match sb ρ with
    | some (y, ρ1) => (match ρ1[i]? with
      | some (some (.va d)) => (match f d y.d with
        | some (.va (.bool b)) => some (.va (.bool b), ρ1)
        | _ => none)
      | some (some (.ow xs)) => (match f (.list xs) y.d with
        | some (.va (.bool b)) => some (.va (.bool b), ρ1)
        | _ => none)
      | _ => none)
    | none => none)
  | _ => none) := rfl
@[simp] theorem sPar_ap (i j : Nat) (as : SemL) (ρ : Sr) : sPar i j as ρ = (match as ρ with
  | some ([x, y], ρ1) => some (.nx, (ρ1.set i (some (.va x))).set j (some (.va y)))
  | _ => none) := rfl
@[simp] theorem sYes_ap  (ρ : Sr) : sYes  ρ = (some (true, ρ)) := rfl
@[simp] theorem isi_int (a : SemE) (ρ : Sr) (T : Tk) : sIsi T a ρ = (match a ρ with
  | some (x, ρ1) => (match isiB T x.d with
    | some b => some (.va (.bool b), ρ1)
    | none => none)
  | none => none) := by
  show sUn _ a ρ = _
  rw [sUn_ap]
  cases a ρ with
  | none => rfl
  | some p =>
    obtain ⟨x, ρ1⟩ := p
    dsimp only
    cases isiB T x.d <;> rfl
@[simp] theorem isi_1 (i : Int) : isiB .int (.int i) = some true := rfl
@[simp] theorem isi_2 (i : Int) : isiB .bool (.int i) = some false := rfl
@[simp] theorem isi_3 (xs : List D) : isiB .tuple (.tuple xs) = some true := rfl
@[simp] theorem Rs_d1 (d : D) : (Rs.va d).d = d := rfl
@[simp] theorem Rs_d2 (d : List D) : (Rs.nw d).d = .list d := rfl
@[simp] theorem Rs_s1 (d : D) : (Rs.va d).sl = .va d := rfl
@[simp] theorem Rs_s2 (d : List D) : (Rs.nw d).sl = .ow d := rfl
@[simp] theorem Sl_d1 (d : D) : (Sl.va d).d = d := rfl
@[simp] theorem Sl_d2 (d : List D) : (Sl.ow d).d = .list d := rfl
@[simp] theorem Sl_d3 (d : List D) : (Sl.sc d).d = .list d := rfl
@[simp] theorem fAdd_i (i j : Int) : fAdd (.int i) (.int j) = some (.va (.int (i + j))) := rfl
@[simp] theorem fSub_i (i j : Int) : fSub (.int i) (.int j) = some (.va (.int (i - j))) := rfl
@[simp] theorem fNeg_i (i : Int) : fNeg (.int i) = some (.va (.int (-i))) := rfl
@[simp] theorem fLt_i (i j : Int) : fLt (.int i) (.int j) = some (.va (.bool (decide (i < j)))) := rfl
@[simp] theorem fLe_i (i j : Int) : fLe (.int i) (.int j) = some (.va (.bool (decide (i ≤ j)))) := rfl
@[simp] theorem fGt_i (i j : Int) : fGt (.int i) (.int j) = some (.va (.bool (decide (j < i)))) := rfl
@[simp] theorem fGe_i (i j : Int) : fGe (.int i) (.int j) = some (.va (.bool (decide (j ≤ i)))) := rfl
@[simp] theorem fEq_i (i j : Int) : fEq (.int i) (.int j) = some (.va (.bool (decide (i = j)))) := rfl
@[simp] theorem fNe_i (i j : Int) : fNe (.int i) (.int j) = some (.va (.bool (!decide (i = j)))) := rfl
@[simp] theorem fEq_s (i j : Str) : fEq (.str i) (.str j) = some (.va (.bool (decide (i = j)))) := rfl
@[simp] theorem fNe_s (i j : Str) : fNe (.str i) (.str j) = some (.va (.bool (!decide (i = j)))) := rfl
@[simp] theorem fIsN_1 (d : D) : fIsN d .none = some (.va (.bool (isNon d))) := by cases d <;> rfl
@[simp] theorem fNotN_1 (d : D) : fNotN d .none = some (.va (.bool (!isNon d))) := by cases d <;> rfl
@[simp] theorem isNon_1 (i : Int) : isNon (.int i) = false := rfl
@[simp] theorem isNon_2 : isNon .none = true := rfl
@[simp] theorem isNon_3 (xs : List D) : isNon (.list xs) = false := rfl
@[simp] theorem isNon_4 (xs : List D) : isNon (.tuple xs) = false := rfl
@[simp] theorem truD_b (b : Bool) : truD (.bool b) = some b := rfl
@[simp] theorem truD_i (i : Int) : truD (.int i) = some (i != 0) := rfl
@[simp] theorem fLen_l (xs : List D) : fLen [.list xs] = some (.va (.int xs.length)) := rfl
@[simp] theorem fLen_t (xs : List D) : fLen [.tuple xs] = some (.va (.int xs.length)) := rfl
@[simp] theorem lenD_l (xs : List D) : lenD (.list xs) = some (.va (.int xs.length)) := rfl
@[simp] theorem lenD_t (xs : List D) : lenD (.tuple xs) = some (.va (.int xs.length)) := rfl
@[simp] theorem seqOf_l (xs : List D) : seqOf (.list xs) = some xs := rfl
@[simp] theorem seqOf_t (xs : List D) : seqOf (.tuple xs) = some xs := rfl
@[simp] theorem fList_l (xs : List D) : fList [.list xs] = some (.nw xs) := rfl
@[simp] theorem fList_t (xs : List D) : fList [.tuple xs] = some (.nw xs) := rfl
@[simp] theorem fTuple_l (xs : List D) : fTuple [.list xs] = some (.va (.tuple xs)) := rfl
@[simp] theorem fTuple_t (xs : List D) : fTuple [.tuple xs] = some (.va (.tuple xs)) := rfl
@[simp] theorem fAbs_i (i : Int) : fAbs [.int i] = some (.va (.int (if i < 0 then -i else i))) := rfl
@[simp] theorem fInt_i (i : Int) : fInt [.int i] = some (.va (.int i)) := rfl
@[simp] theorem fInt_b (b : Bool) : fInt [.bool b] = some (.va (.int (if b then 1 else 0))) := rfl
@[simp] theorem fMax2_i (i j : Int) : fMax2 [.int i, .int j] = some (.va (.int (if j > i then j else i))) := rfl
@[simp] theorem fMin2_i (i j : Int) : fMin2 [.int i, .int j] = some (.va (.int (if j < i then j else i))) := rfl
@[simp] theorem fGcd_i (i j : Int) : fGcd [.int i, .int j] = some (.va (.int ((Nat.gcd i.natAbs j.natAbs : Nat) : Int))) := rfl
@[simp] theorem fIx_l (xs : List D) (i : Int) : fIx (.list xs) (.int i) = (atI xs i).map .va := rfl
@[simp] theorem fIx_t (xs : List D) (i : Int) : fIx (.tuple xs) (.int i) = (atI xs i).map .va := rfl
@[simp] theorem fSum_i (ns : List Int) : fSum [.list (ns.map PyData.int)] = some (.va (.int ns.sum)) := by
  show Option.map _ (intsOf (ns.map PyData.int)) = _
  rw [intsOf_map]
  rfl
theorem atI_nat {α : Type} (xs : List α) (j : Nat) : atI xs (j : Int) = xs[j]? := by
  unfold atI ixN
  rw [if_pos (by omega)]
  by_cases h : j < xs.length
  · rw [if_pos (by omega)]
    simp
  · rw [if_neg (by omega)]
    simp at h ⊢
    exact h
@[simp] theorem atI_0 {α : Type} (x : α) (xs : List α) : atI (x :: xs) 0 = some x := by
  have := atI_nat (x :: xs) 0
  simpa using this
@[simp] theorem atI_1 {α : Type} (x y : α) (xs : List α) : atI (x :: y :: xs) 1 = some y := by
  have := atI_nat (x :: y :: xs) 1
  simpa using this
@[simp] theorem atI_2 {α : Type} (x y z : α) (xs : List α) : atI (x :: y :: z :: xs) 2 = some z := by
  have := atI_nat (x :: y :: z :: xs) 2
  simpa using this
@[simp] theorem atI_3 {α : Type} (x y z w : α) (xs : List α) : atI (x :: y :: z :: w :: xs) 3 = some w := by
  have := atI_nat (x :: y :: z :: w :: xs) 3
  simpa using this
theorem fLst_ok {ds : List D} (h : ds.length ≤ 100000) : fLst ds = some (.nw ds) := if_pos h
theorem fTup_ok {ds : List D} (h : ds.length ≤ 100000) : fTup ds = some (.va (.tuple ds)) := if_pos h
@[simp] theorem fLst_0 : fLst [] = some (.nw []) := rfl
@[simp] theorem fLst_1 (a : D) : fLst [a] = some (.nw [a]) := fLst_ok (by simp)
@[simp] theorem fLst_2 (a b : D) : fLst [a, b] = some (.nw [a, b]) := fLst_ok (by simp)
@[simp] theorem fLst_4 (a b c d : D) : fLst [a, b, c, d] = some (.nw [a, b, c, d]) := fLst_ok (by simp)
@[simp] theorem fTup_2 (a b : D) : fTup [a, b] = some (.va (.tuple [a, b])) := fTup_ok (by simp)
@[simp] theorem fTup_3 (a b c : D) : fTup [a, b, c] = some (.va (.tuple [a, b, c])) := fTup_ok (by simp)
@[simp] theorem endN_1 (r : Rs) (ρ : Sr) : endN (some (.rt r, ρ)) = some (r, none) := rfl
@[simp] theorem endN_2 (ρ : Sr) : endN (some (.nx, ρ)) = some (.va .none, none) := rfl
@[simp] theorem endO_1 (r : Rs) (ys : List D) (ρ : Sr) : endO (some (.rt r, some (.ow ys) :: ρ)) = some (r, some ys) := rfl
@[simp] theorem endO_2 (ys : List D) (ρ : Sr) : endO (some (.nx, some (.ow ys) :: ρ)) = some (.va .none, some ys) := rfl
@[simp] theorem wipe_nil (ρ : Sr) : wipeR ρ [] = ρ := rfl
@[simp] theorem wipe_cons (ρ : Sr) (v : Nat) (vs : List Nat) : wipeR ρ (v :: vs) = (wipeR ρ vs).set v none := rfl
@[simp] theorem back_nil (ρ0 ρ : Sr) : backR ρ0 ρ [] = ρ := rfl
@[simp] theorem back_cons (ρ0 ρ : Sr) (v : Nat) (vs : List Nat) : backR ρ0 ρ (v :: vs) = (backR ρ0 ρ vs).set v (ρ0[v]?.getD none) := rfl
@[simp] theorem forL_nil (g : SemG) (b : SemS) (ρ : Sr) : forL g b [] ρ = some (.nx, ρ) := rfl
theorem forL_cons (g : SemG) (b : SemS) (d : D) (ds : List D) (ρ : Sr) : forL g b (d :: ds) ρ = (match g d ρ with
    | some ρ1 => (match b ρ1 with
      | some (.nx, ρ2) => forL g b ds ρ2
      | some (.ct, ρ2) => forL g b ds ρ2
      | some (.bk, ρ2) => some (.nx, ρ2)
      | some (.rt r, ρ2) => some (.rt r, ρ2)
      | none => none)
    | none => none) := rfl
theorem whileL_succ (t : SemT) (b : SemS) (n : Nat) (ρ : Sr) : whileL t b (n + 1) ρ = (match t ρ with
    | some (true, ρ1) => (match b ρ1 with
      | some (.nx, ρ2) => whileL t b n ρ2
      | some (.ct, ρ2) => whileL t b n ρ2
      | some (.bk, ρ2) => some (.nx, ρ2)
      | some (.rt r, ρ2) => some (.rt r, ρ2)
      | none => none)
    | some (false, ρ1) => some (.nx, ρ1)
    | none => none) := rfl
/-- a comprehension without a test: a map -/
theorem lc_map {α : Type} {own : List Nat} {g : SemG} {te : SemE} {ρ : Sr} (enc f : α → D) : ∀ (xs : List α) (acc : List D), acc.length + xs.length ≤ 100000 →
    (∀ x ∈ xs, ∃ ρ1 r ρ3, g (enc x) ρ = some ρ1 ∧ te ρ1 = some (r, ρ3) ∧ r.d = f x ∧ wipeR ρ3 own = ρ) → lcL own g sYes te (xs.map enc) ρ acc = some (acc ++ xs.map f, ρ)
  | [], acc, _, _ => by simp [lcL]
  | x :: xs, acc, hl, h => by
    obtain ⟨ρ1, r, ρ3, h1, h2, h3, h4⟩ := h x List.mem_cons_self
    rw [List.map_cons, lcL, h1]
    simp only [sYes_ap, h2]
    simp only [List.length_cons] at hl
    rw [if_pos (by omega), h4, h3, lc_map enc f xs (acc ++ [f x]) (by simp; omega) fun y hy => h y (List.mem_cons_of_mem _ hy)]
    simp
/-- a comprehension with a test -/
theorem lc_flt {α : Type} {own : List Nat} {g : SemG} {tt : SemT} {te : SemE} {ρ : Sr} (enc f : α → D) (p : α → Bool) : ∀ (xs : List α) (acc : List D), acc.length + xs.length ≤ 100000 →
    (∀ x ∈ xs, ∃ ρ1 ρ2, g (enc x) ρ = some ρ1 ∧ tt ρ1 = some (p x, ρ2) ∧ (p x = false → wipeR ρ2 own = ρ) ∧ (p x = true → ∃ r ρ3, te ρ2 = some (r, ρ3) ∧ r.d = f x ∧ wipeR ρ3 own = ρ)) →
    lcL own g tt te (xs.map enc) ρ acc = some (acc ++ (xs.filter p).map f, ρ)
  | [], acc, _, _ => by simp [lcL]
  | x :: xs, acc, hl, h => by
    obtain ⟨ρ1, ρ2, h1, h2, h3, h4⟩ := h x List.mem_cons_self
    simp only [List.length_cons] at hl
    have ih := fun acc' (hl' : acc'.length + xs.length ≤ 100000) => lc_flt enc f p xs acc' hl' fun y hy => h y (List.mem_cons_of_mem _ hy)
    rw [List.map_cons, lcL, h1]
    cases hp : p x with
    | true =>
      obtain ⟨r, ρ3, h5, h6, h7⟩ := h4 hp
      rw [hp] at h2
      simp only [h2, h5]
      rw [if_pos (by omega), h7, h6, ih _ (by simp; omega), List.filter_cons, hp]
      simp
    | false =>
      rw [hp] at h2
      simp only [h2]
      rw [h3 hp, ih _ (by omega), List.filter_cons, hp]
      simp
/-- one turn of a comprehension -/
def lcOne (own : List Nat) (g : SemG) (te : SemE) (d : D) (ρ : Sr) : Option (D × Sr) := match g d ρ with
  | some ρ1 => (match te ρ1 with
    | some (r, ρ3) => some (r.d, wipeR ρ3 own)
    | none => none)
  | none => none
def lcTwo (own : List Nat) (g : SemG) (tt : SemT) (te : SemE) (d : D) (ρ : Sr) : Option (Option D × Sr) := match g d ρ with
  | some ρ1 => (match tt ρ1 with
    | some (true, ρ2) => (match te ρ2 with
      | some (r, ρ3) => some (some r.d, wipeR ρ3 own)
      | none => none)
    | some (false, ρ2) => some (none, wipeR ρ2 own)
    | none => none)
  | none => none
theorem lc_one {α : Type} {own : List Nat} {g : SemG} {te : SemE} {ρ : Sr} (enc f : α → D) : ∀ (xs : List α) (acc : List D), acc.length + xs.length ≤ 100000 →
    (∀ x ∈ xs, lcOne own g te (enc x) ρ = some (f x, ρ)) → lcL own g sYes te (xs.map enc) ρ acc = some (acc ++ xs.map f, ρ)
  | [], acc, _, _ => by simp [lcL]
  | x :: xs, acc, hl, h => by
    have h1 := h x List.mem_cons_self
    unfold lcOne at h1
    rw [List.map_cons, lcL]
    split at h1
    · rename_i ρ1 e1
      split at h1
      · rename_i r ρ3 e2
        have h1 := Option.some.inj h1
        injection h1 with h2 h3
        simp only [e1, sYes_ap, e2]
        simp only [List.length_cons] at hl
        rw [if_pos (by omega), h2, h3, lc_one enc f xs (acc ++ [f x]) (by simp; omega) fun y hy => h y (List.mem_cons_of_mem _ hy)]
        simp
      · cases h1
    · cases h1
theorem lc_two {α : Type} {own : List Nat} {g : SemG} {tt : SemT} {te : SemE} {ρ : Sr} (enc f : α → D) (p : α → Bool) : ∀ (xs : List α) (acc : List D), acc.length + xs.length ≤ 100000 →
    (∀ x ∈ xs, lcTwo own g tt te (enc x) ρ = some (if p x = true then some (f x) else none, ρ)) → lcL own g tt te (xs.map enc) ρ acc = some (acc ++ (xs.filter p).map f, ρ)
  | [], acc, _, _ => by simp [lcL]
  | x :: xs, acc, hl, h => by
    have h1 := h x List.mem_cons_self
    have ih := fun (acc' : List D) (hl' : acc'.length + xs.length ≤ 100000) => lc_two enc f p xs acc' hl' fun y hy => h y (List.mem_cons_of_mem _ hy)
    unfold lcTwo at h1
    simp only [List.length_cons] at hl
    rw [List.map_cons, lcL]
    split at h1
    · rename_i ρ1 e1
      split at h1
      · rename_i ρ2 e2
        split at h1
        · rename_i r ρ3 e3
          have h1 := Option.some.inj h1
          injection h1 with h2 h3
          by_cases hp : p x = true
          · rw [if_pos hp] at h2
            have h2 := Option.some.inj h2
            try simp only [e1, e2, e3]
            rw [if_pos (by omega), h3, h2, ih _ (by simp; omega), List.filter_cons_of_pos hp]
            simp
          · rw [if_neg hp] at h2
            cases h2
        · cases h1
      · rename_i ρ2 e2
        have h1 := Option.some.inj h1
        injection h1 with h2 h3
        by_cases hp : p x = true
        · rw [if_pos hp] at h2
          cases h2
        · try simp only [e1, e2]
          rw [h3, ih _ (by omega), List.filter_cons_of_neg hp]
      · cases h1
    · cases h1
end Pv

set_option Elab.async false
set_option linter.all false
set_option maxRecDepth 100000
set_option maxHeartbeats 0
set_option autoImplicit false
/-! The table of the defs of law k36, printed by gen.py. -/
namespace K36
open PySem PySem.Spec PyProof.Rows L2 Pv
def tp (i : Nat) : Stmt := PySem.Challenge.pw_somanyties_k36_whole_rows_settled.main.body.getD i (.Pass ⟨0, 0, 0, 0⟩)
def S_whole_from (o : Str → Orc) : SemS :=
    (sRet (sAndV (sIsi .int (sVar 0)) (sAndV (sNotV (sIsi .bool (sVar 0))) (sCmpV fGe 0 (sVar 1)))))
def d_whole_from : DT := ⟨"whole_from", tp 5, ["number", "least"], ["number", "least"], false, S_whole_from⟩
def S_sum_length (o : Str → Orc) : SemS :=
    (sIfS (sAsT (sBin fNe (sLenV 0) (sVar 1))) sNone sNx)
def d_sum_length : DT := ⟨"sum_length", tp 7, ["row", "length", "what"], ["row", "length", "what"], false, S_sum_length⟩
def S_sum_place (o : Str → Orc) : SemS :=
    (sIfS (sOr (sNot (sTru (sCall (o "whole_from") (sCons (sVar 0) (sCons (sC (.int 0)) sNil))))) (sAsT (sCmpV fGe 0 (sVar 1)))) sNone sNx)
def d_sum_place : DT := ⟨"sum_place", tp 8, ["place", "length"], ["place", "length"], false, S_sum_place⟩
def b_sum_rows_1 (o : Str → Orc) : SemS :=
    (sSeq (sExp (sCall (o "sum_length") (sCons (sVar 3) (sCons (sVar 1) (sCons (sC (.str "a row")) sNil)))))
    (sExp (sApp 2 (sArgs fTup (sCons (sArgs fTuple (sCons (sVar 3) sNil)) (sCons (sVar 4) sNil))))))
@[simp] theorem b_sum_rows_1_ap (o : Str → Orc) (ρ : Sr) : b_sum_rows_1 o ρ =
    (sSeq (sExp (sCall (o "sum_length") (sCons (sVar 3) (sCons (sVar 1) (sCons (sC (.str "a row")) sNil)))))
    (sExp (sApp 2 (sArgs fTup (sCons (sArgs fTuple (sCons (sVar 3) sNil)) (sCons (sVar 4) sNil)))))) ρ := rfl
def S_sum_rows (o : Str → Orc) : SemS :=
    (sSeq (sAsg 2 (sArgs fLst sNil))
    (sSeq (sFor (iS (sVar 0)) (gT (gsCons (gN 3) (gsCons (gN 4) gsNil))) (b_sum_rows_1 o))
    (sRet (sVar 2))))
def d_sum_rows : DT := ⟨"sum_rows", tp 9, ["rows", "length", "found", "coefficients", "right"], ["rows", "length"], false, S_sum_rows⟩
def e_lessened_1 (o : Str → Orc) : SemE :=
    (sBin fDiv (sVar 2) (sVar 1))
@[simp] theorem e_lessened_1_ap (o : Str → Orc) (ρ : Sr) : e_lessened_1 o ρ =
    (sBin fDiv (sVar 2) (sVar 1)) ρ := rfl
def b_lessened_2 (o : Str → Orc) : SemS :=
    (sAsg 1 (sArgs fGcd (sCons (sVar 1) (sCons (sVar 2) sNil))))
@[simp] theorem b_lessened_2_ap (o : Str → Orc) (ρ : Sr) : b_lessened_2 o ρ =
    (sAsg 1 (sArgs fGcd (sCons (sVar 1) (sCons (sVar 2) sNil)))) ρ := rfl
def S_lessened (o : Str → Orc) : SemS :=
    (sSeq (sAsg 1 (sC (.int 0)))
    (sSeq (sFor (iS (sVar 0)) (gN 2) (b_lessened_2 o))
    (sSeq (sIfS (sAsT (sCmpV fLt 1 (sC (.int 2)))) (sRet (sLstV 0)) sNx)
    (sRet (sLc [3, 2] (iS (sVar 0)) (gN 2) sYes (e_lessened_1 o))))))
def d_lessened : DT := ⟨"lessened", tp 10, ["numbers", "divisor", "number", ".0"], ["numbers"], false, S_lessened⟩
def e_row_at_1 (o : Str → Orc) : SemE :=
    (sBin fMul (sVar 3) (sVar 4))
@[simp] theorem e_row_at_1_ap (o : Str → Orc) (ρ : Sr) : e_row_at_1 o ρ =
    (sBin fMul (sVar 3) (sVar 4)) ρ := rfl
def S_row_at (o : Str → Orc) : SemS :=
    (sSeq (sExp (sCall (o "sum_length") (sCons (sVar 1) (sCons (sLenV 0) (sCons (sC (.str "the row of numbers")) sNil)))))
    (sRet (sArgs fSum (sCons (sLc [2, 3, 4] (iZp (sCons (sVar 0) (sCons (sVar 1) sNil))) (gT (gsCons (gN 3) (gsCons (gN 4) gsNil))) sYes (e_row_at_1 o)) sNil))))
def d_row_at : DT := ⟨"row_at", tp 11, ["coefficients", "numbers", ".0", "a", "number"], ["coefficients", "numbers"], false, S_row_at⟩
def e_mixed_1 (o : Str → Orc) : SemE :=
    (sBin fAdd (sVar 10) (sBin fMul (sVar 8) (sVar 11)))
@[simp] theorem e_mixed_1_ap (o : Str → Orc) (ρ : Sr) : e_mixed_1 o ρ =
    (sBin fAdd (sVar 10) (sBin fMul (sVar 8) (sVar 11))) ρ := rfl
def b_mixed_2 (o : Str → Orc) : SemS :=
    (sSeq (sAsg 4 (sLc [9, 10, 11] (iZp (sCons (sVar 4) (sCons (sVar 6) sNil))) (gT (gsCons (gN 10) (gsCons (gN 11) gsNil))) sYes (e_mixed_1 o)))
    (sAsg 5 (sBin fAdd (sVar 5) (sBin fMul (sVar 8) (sVar 7)))))
@[simp] theorem b_mixed_2_ap (o : Str → Orc) (ρ : Sr) : b_mixed_2 o ρ =
    (sSeq (sAsg 4 (sLc [9, 10, 11] (iZp (sCons (sVar 4) (sCons (sVar 6) sNil))) (gT (gsCons (gN 10) (gsCons (gN 11) gsNil))) sYes (e_mixed_1 o)))
    (sAsg 5 (sBin fAdd (sVar 5) (sBin fMul (sVar 8) (sVar 7))))) ρ := rfl
def S_mixed (o : Str → Orc) : SemS :=
    (sSeq (sAsg 2 (sIf (sAsT (sBin fGt (sLenV 0) (sC (.int 0)))) (sArgs fLen (sCons (sBin fIx (sIxV 0 (sC (.int 0))) (sC (.int 0))) sNil)) (sC (.int 0))))
    (sSeq (sAsg 3 (sCall (o "sum_rows") (sCons (sVar 0) (sCons (sVar 2) sNil))))
    (sSeq (sExp (sCall (o "sum_length") (sCons (sVar 1) (sCons (sLenV 3) (sCons (sC (.str "the row of weights")) sNil)))))
    (sSeq (sAsg 4 (sBin fMul (sArgs fLst (sCons (sC (.int 0)) sNil)) (sVar 2)))
    (sSeq (sAsg 5 (sC (.int 0)))
    (sSeq (sFor (iZp (sCons (sVar 3) (sCons (sVar 1) sNil))) (gT (gsCons (gT (gsCons (gN 6) (gsCons (gN 7) gsNil))) (gsCons (gN 8) gsNil))) (b_mixed_2 o))
    (sRet (sArgs fTup (sCons (sArgs fTuple (sCons (sVar 4) sNil)) (sCons (sVar 5) sNil))))))))))
def d_mixed : DT := ⟨"mixed", tp 12, ["rows", "weights", "length", "told", "sums", "total", "row", "right", "weight", ".0", "one", "a"], ["rows", "weights"], false, S_mixed⟩
def e_grow_turn_1 (o : Str → Orc) : SemE :=
    (sBin fDiv (sBin fSub (sBin fMul (sVar 10) (sVar 4)) (sBin fMul (sIxV 7 (sVar 2)) (sVar 11))) (sVar 3))
@[simp] theorem e_grow_turn_1_ap (o : Str → Orc) (ρ : Sr) : e_grow_turn_1 o ρ =
    (sBin fDiv (sBin fSub (sBin fMul (sVar 10) (sVar 4)) (sBin fMul (sIxV 7 (sVar 2)) (sVar 11))) (sVar 3)) ρ := rfl
def b_grow_turn_2 (o : Str → Orc) : SemS :=
    (sSeq (sIfS (sAsT (sCmpV fEq 6 (sVar 1))) (sSeq (sAsg 8 (sLstV 7))
    (sAsgG (gSbV 8 (sVar 2)) (sVar 3))) (sSeq (sAsg 8 (sLc [9, 10, 11] (iZp (sCons (sVar 7) (sCons (sIxV 0 (sVar 1)) sNil))) (gT (gsCons (gN 10) (gsCons (gN 11) gsNil))) sYes (e_grow_turn_1 o)))
    (sAsgG (gSbV 8 (sVar 2)) (sUn fNeg (sIxV 7 (sVar 2))))))
    (sExp (sApp 5 (sVar 8))))
@[simp] theorem b_grow_turn_2_ap (o : Str → Orc) (ρ : Sr) : b_grow_turn_2 o ρ =
    (sSeq (sIfS (sAsT (sCmpV fEq 6 (sVar 1))) (sSeq (sAsg 8 (sLstV 7))
    (sAsgG (gSbV 8 (sVar 2)) (sVar 3))) (sSeq (sAsg 8 (sLc [9, 10, 11] (iZp (sCons (sVar 7) (sCons (sIxV 0 (sVar 1)) sNil))) (gT (gsCons (gN 10) (gsCons (gN 11) gsNil))) sYes (e_grow_turn_1 o)))
    (sAsgG (gSbV 8 (sVar 2)) (sUn fNeg (sIxV 7 (sVar 2))))))
    (sExp (sApp 5 (sVar 8)))) ρ := rfl
def S_grow_turn (o : Str → Orc) : SemS :=
    (sSeq (sAsg 4 (sBin fIx (sIxV 0 (sVar 1)) (sVar 2)))
    (sSeq (sAsg 5 (sArgs fLst sNil))
    (sSeq (sFor (iEn (sCons (sVar 0) sNil)) (gT (gsCons (gN 6) (gsCons (gN 7) gsNil))) (b_grow_turn_2 o))
    (sRet (sVar 5)))))
def d_grow_turn : DT := ⟨"grow_turn", tp 14, ["tableau", "at", "place", "below", "pivot", "found", "k", "row", "new", ".0", "a", "b"], ["tableau", "at", "place", "below"], false, S_grow_turn⟩
def b_grow_weights_1 (o : Str → Orc) : SemS :=
    (sIfS (sAsT (sCmpV fGe 6 (sVar 2))) (sAsgG (gSbV 4 (sBin fSub (sVar 6) (sVar 2))) (sIxV 0 (sVar 5))) sNx)
@[simp] theorem b_grow_weights_1_ap (o : Str → Orc) (ρ : Sr) : b_grow_weights_1 o ρ =
    (sIfS (sAsT (sCmpV fGe 6 (sVar 2))) (sAsgG (gSbV 4 (sBin fSub (sVar 6) (sVar 2))) (sIxV 0 (sVar 5))) sNx) ρ := rfl
def S_grow_weights (o : Str → Orc) : SemS :=
    (sSeq (sAsg 4 (sBin fMul (sArgs fLst (sCons (sC (.int 0)) sNil)) (sVar 3)))
    (sSeq (sFor (iEn (sCons (sVar 1) sNil)) (gT (gsCons (gN 5) (gsCons (gN 6) gsNil))) (b_grow_weights_1 o))
    (sRet (sVar 4))))
def d_grow_weights : DT := ⟨"grow_weights", tp 15, ["last", "across", "length", "many", "weights", "place", "name"], ["last", "across", "length", "many"], false, S_grow_weights⟩
def e_grow_numbers_1 (o : Str → Orc) : SemE :=
    (sArgs fTup (sCons (sVar 6) (sCons (sUn fNeg (sBin fIx (sIxV 0 (sVar 9)) (sVar 3))) sNil)))
@[simp] theorem e_grow_numbers_1_ap (o : Str → Orc) (ρ : Sr) : e_grow_numbers_1 o ρ =
    (sArgs fTup (sCons (sVar 6) (sCons (sUn fNeg (sBin fIx (sIxV 0 (sVar 9)) (sVar 3))) sNil))) ρ := rfl
def b_grow_numbers_2 (o : Str → Orc) : SemS :=
    (sIfS (sAsT (sCmpV fLt 6 (sLenV 1))) (sAsgG (gSbV 5 (sVar 6)) (sVar 7)) sNx)
@[simp] theorem b_grow_numbers_2_ap (o : Str → Orc) (ρ : Sr) : b_grow_numbers_2 o ρ =
    (sIfS (sAsT (sCmpV fLt 6 (sLenV 1))) (sAsgG (gSbV 5 (sVar 6)) (sVar 7)) sNx) ρ := rfl
def S_grow_numbers (o : Str → Orc) : SemS :=
    (sSeq (sAsg 5 (sBin fMul (sArgs fLst (sCons (sC (.int 0)) sNil)) (sLenV 1)))
    (sSeq (sFor (iS (sBin fAdd (sArgs fLst (sCons (sArgs fTup (sCons (sIxV 1 (sVar 3)) (sCons (sVar 4) sNil))) sNil)) (sLc [8, 9, 6] (iEn (sCons (sVar 2) sNil)) (gT (gsCons (gN 9) (gsCons (gN 6) gsNil))) sYes (e_grow_numbers_1 o)))) (gT (gsCons (gN 6) (gsCons (gN 7) gsNil))) (b_grow_numbers_2 o))
    (sRet (sCall (o "lessened") (sCons (sVar 5) sNil)))))
def d_grow_numbers : DT := ⟨"grow_numbers", tp 16, ["tableau", "across", "down", "place", "below", "numbers", "name", "number", ".0", "k"], ["tableau", "across", "down", "place", "below"], false, S_grow_numbers⟩
def t_grow_towards_1 (o : Str → Orc) : SemT :=
    (sTru (sC (.bool true)))
@[simp] theorem t_grow_towards_1_ap (o : Str → Orc) (ρ : Sr) : t_grow_towards_1 o ρ =
    (sTru (sC (.bool true))) ρ := rfl
def t_grow_towards_2 (o : Str → Orc) : SemT :=
    (sAsT (sBin fGt (sBin fIx (sIxV 4 (sVar 14)) (sVar 9)) (sC (.int 0))))
@[simp] theorem t_grow_towards_2_ap (o : Str → Orc) (ρ : Sr) : t_grow_towards_2 o ρ =
    (sAsT (sBin fGt (sBin fIx (sIxV 4 (sVar 14)) (sVar 9)) (sC (.int 0)))) ρ := rfl
def e_grow_towards_3 (o : Str → Orc) : SemE :=
    (sArgs fTup (sCons (sIxV 6 (sVar 14)) (sCons (sVar 14) sNil)))
@[simp] theorem e_grow_towards_3_ap (o : Str → Orc) (ρ : Sr) : e_grow_towards_3 o ρ =
    (sArgs fTup (sCons (sIxV 6 (sVar 14)) (sCons (sVar 14) sNil))) ρ := rfl
def t_grow_towards_4 (o : Str → Orc) : SemT :=
    (sAsT (sBin fLt (sBin fIx (sIxV 4 (sVar 3)) (sVar 16)) (sC (.int 0))))
@[simp] theorem t_grow_towards_4_ap (o : Str → Orc) (ρ : Sr) : t_grow_towards_4 o ρ =
    (sAsT (sBin fLt (sBin fIx (sIxV 4 (sVar 3)) (sVar 16)) (sC (.int 0)))) ρ := rfl
def e_grow_towards_5 (o : Str → Orc) : SemE :=
    (sArgs fTup (sCons (sIxV 5 (sVar 16)) (sCons (sVar 16) sNil)))
@[simp] theorem e_grow_towards_5_ap (o : Str → Orc) (ρ : Sr) : e_grow_towards_5 o ρ =
    (sArgs fTup (sCons (sIxV 5 (sVar 16)) (sCons (sVar 16) sNil))) ρ := rfl
def b_grow_towards_6 (o : Str → Orc) : SemS :=
    (sSeq (sAsg 8 (sLc [13, 16] (iRg1 (sCons (sVar 1) sNil)) (gN 16) (t_grow_towards_4 o) (e_grow_towards_5 o)))
    (sSeq (sIfS (sAsT (sBin fEq (sLenV 8) (sC (.int 0)))) (sRet (sArgs fTup (sCons (sC (.bool false)) (sCons (sCall (o "grow_weights") (sCons (sIxV 4 (sVar 3)) (sCons (sVar 5) (sCons (sVar 1) (sCons (sVar 3) sNil))))) (sCons (sVar 7) sNil))))) sNx)
    (sSeq (sAsg 9 (sBin fIx (sArgs fMin1 (sCons (sVar 8) sNil)) (sC (.int 1))))
    (sSeq (sAsg 10 (sLc [13, 14] (iRg1 (sCons (sVar 3) sNil)) (gN 14) (t_grow_towards_2 o) (e_grow_towards_3 o)))
    (sSeq (sIfS (sAsT (sBin fEq (sLenV 10) (sC (.int 0)))) (sRet (sArgs fTup (sCons (sC (.bool true)) (sCons (sCall (o "grow_numbers") (sCons (sVar 4) (sCons (sVar 5) (sCons (sVar 6) (sCons (sVar 9) (sCons (sVar 7) sNil)))))) (sCons (sC (.int 0)) sNil))))) sNx)
    (sSeq (sAsg 11 (sBin fIx (sArgs fMin1 (sCons (sVar 10) sNil)) (sC (.int 1))))
    (sSeq (sAsg 12 (sBin fIx (sIxV 4 (sVar 11)) (sVar 9)))
    (sSeq (sAsg 4 (sCall (o "grow_turn") (sCons (sVar 4) (sCons (sVar 11) (sCons (sVar 9) (sCons (sVar 7) sNil))))))
    (sSeq (sAsg 7 (sVar 12))
    (sAsgG (gT (gsCons (gSbV 5 (sVar 9)) (gsCons (gSbV 6 (sVar 11)) gsNil))) (sArgs fTup (sCons (sIxV 6 (sVar 11)) (sCons (sIxV 5 (sVar 9)) sNil)))))))))))))
@[simp] theorem b_grow_towards_6_ap (o : Str → Orc) (ρ : Sr) : b_grow_towards_6 o ρ =
    (sSeq (sAsg 8 (sLc [13, 16] (iRg1 (sCons (sVar 1) sNil)) (gN 16) (t_grow_towards_4 o) (e_grow_towards_5 o)))
    (sSeq (sIfS (sAsT (sBin fEq (sLenV 8) (sC (.int 0)))) (sRet (sArgs fTup (sCons (sC (.bool false)) (sCons (sCall (o "grow_weights") (sCons (sIxV 4 (sVar 3)) (sCons (sVar 5) (sCons (sVar 1) (sCons (sVar 3) sNil))))) (sCons (sVar 7) sNil))))) sNx)
    (sSeq (sAsg 9 (sBin fIx (sArgs fMin1 (sCons (sVar 8) sNil)) (sC (.int 1))))
    (sSeq (sAsg 10 (sLc [13, 14] (iRg1 (sCons (sVar 3) sNil)) (gN 14) (t_grow_towards_2 o) (e_grow_towards_3 o)))
    (sSeq (sIfS (sAsT (sBin fEq (sLenV 10) (sC (.int 0)))) (sRet (sArgs fTup (sCons (sC (.bool true)) (sCons (sCall (o "grow_numbers") (sCons (sVar 4) (sCons (sVar 5) (sCons (sVar 6) (sCons (sVar 9) (sCons (sVar 7) sNil)))))) (sCons (sC (.int 0)) sNil))))) sNx)
    (sSeq (sAsg 11 (sBin fIx (sArgs fMin1 (sCons (sVar 10) sNil)) (sC (.int 1))))
    (sSeq (sAsg 12 (sBin fIx (sIxV 4 (sVar 11)) (sVar 9)))
    (sSeq (sAsg 4 (sCall (o "grow_turn") (sCons (sVar 4) (sCons (sVar 11) (sCons (sVar 9) (sCons (sVar 7) sNil))))))
    (sSeq (sAsg 7 (sVar 12))
    (sAsgG (gT (gsCons (gSbV 5 (sVar 9)) (gsCons (gSbV 6 (sVar 11)) gsNil))) (sArgs fTup (sCons (sIxV 6 (sVar 11)) (sCons (sIxV 5 (sVar 9)) sNil))))))))))))) ρ := rfl
def e_grow_towards_7 (o : Str → Orc) : SemE :=
    (sBin fAdd (sVar 1) (sVar 14))
@[simp] theorem e_grow_towards_7_ap (o : Str → Orc) (ρ : Sr) : e_grow_towards_7 o ρ =
    (sBin fAdd (sVar 1) (sVar 14)) ρ := rfl
def e_grow_towards_8 (o : Str → Orc) : SemE :=
    (sLstV 15)
@[simp] theorem e_grow_towards_8_ap (o : Str → Orc) (ρ : Sr) : e_grow_towards_8 o ρ =
    (sLstV 15) ρ := rfl
def e_grow_towards_9 (o : Str → Orc) : SemE :=
    (sUn fNeg (sVar 17))
@[simp] theorem e_grow_towards_9_ap (o : Str → Orc) (ρ : Sr) : e_grow_towards_9 o ρ =
    (sUn fNeg (sVar 17)) ρ := rfl
def S_grow_towards (o : Str → Orc) : SemS :=
    (sSeq (sAsg 3 (sLenV 0))
    (sSeq (sAsg 4 (sBin fAdd (sLc [13, 15] (iS (sVar 0)) (gN 15) sYes (e_grow_towards_8 o)) (sArgs fLst (sCons (sLc [13, 17] (iS (sVar 2)) (gN 17) sYes (e_grow_towards_9 o)) sNil))))
    (sSeq (sAsg 5 (sLstRg (sVar 1)))
    (sSeq (sAsg 6 (sLc [13, 14] (iRg1 (sCons (sVar 3) sNil)) (gN 14) sYes (e_grow_towards_7 o)))
    (sSeq (sAsg 7 (sC (.int 1)))
    (sWhile 1000000 (t_grow_towards_1 o) (b_grow_towards_6 o)))))))
def d_grow_towards : DT := ⟨"grow_towards", tp 17, ["matrix", "length", "goal", "many", "tableau", "across", "down", "below", "ready", "place", "stops", "at", "pivot", ".0", "k", "row", "c", "a"], ["matrix", "length", "goal"], false, S_grow_towards⟩
def e_grow_unit_1 (o : Str → Orc) : SemE :=
    (sIf (sAsT (sCmpV fEq 3 (sVar 1))) (sC (.int 1)) (sC (.int 0)))
@[simp] theorem e_grow_unit_1_ap (o : Str → Orc) (ρ : Sr) : e_grow_unit_1 o ρ =
    (sIf (sAsT (sCmpV fEq 3 (sVar 1))) (sC (.int 1)) (sC (.int 0))) ρ := rfl
def S_grow_unit (o : Str → Orc) : SemS :=
    (sRet (sLc [2, 3] (iRg1 (sCons (sVar 0) sNil)) (gN 3) sYes (e_grow_unit_1 o)))
def d_grow_unit : DT := ⟨"grow_unit", tp 18, ["length", "place", ".0", "k"], ["length", "place"], false, S_grow_unit⟩
def e_grow_sum_1 (o : Str → Orc) : SemE :=
    (sBin fAdd (sVar 9) (sVar 10))
@[simp] theorem e_grow_sum_1_ap (o : Str → Orc) (ρ : Sr) : e_grow_sum_1 o ρ =
    (sBin fAdd (sVar 9) (sVar 10)) ρ := rfl
def b_grow_sum_2 (o : Str → Orc) : SemS :=
    (sIfS (sAsT (sBin fEq (sIxV 3 (sVar 4)) (sC (.int 0)))) (sSeq (sAsg 5 (sCall (o "grow_towards") (sCons (sVar 2) (sCons (sVar 1) (sCons (sCall (o "grow_unit") (sCons (sVar 1) (sCons (sVar 4) sNil))) sNil)))))
    (sIfS (sTru (sIxV 5 (sC (.int 0)))) (sAsg 3 (sLc [6, 9, 10] (iZp (sCons (sVar 3) (sCons (sIxV 5 (sC (.int 1))) sNil))) (gT (gsCons (gN 9) (gsCons (gN 10) gsNil))) sYes (e_grow_sum_1 o))) sNx)) sNx)
@[simp] theorem b_grow_sum_2_ap (o : Str → Orc) (ρ : Sr) : b_grow_sum_2 o ρ =
    (sIfS (sAsT (sBin fEq (sIxV 3 (sVar 4)) (sC (.int 0)))) (sSeq (sAsg 5 (sCall (o "grow_towards") (sCons (sVar 2) (sCons (sVar 1) (sCons (sCall (o "grow_unit") (sCons (sVar 1) (sCons (sVar 4) sNil))) sNil)))))
    (sIfS (sTru (sIxV 5 (sC (.int 0)))) (sAsg 3 (sLc [6, 9, 10] (iZp (sCons (sVar 3) (sCons (sIxV 5 (sC (.int 1))) sNil))) (gT (gsCons (gN 9) (gsCons (gN 10) gsNil))) sYes (e_grow_sum_1 o))) sNx)) sNx) ρ := rfl
def e_grow_sum_3 (o : Str → Orc) : SemE :=
    (sVar 7)
@[simp] theorem e_grow_sum_3_ap (o : Str → Orc) (ρ : Sr) : e_grow_sum_3 o ρ =
    (sVar 7) ρ := rfl
def S_grow_sum (o : Str → Orc) : SemS :=
    (sSeq (sAsg 2 (sLc [6, 7, 8] (iS (sVar 0)) (gT (gsCons (gN 7) (gsCons (gN 8) gsNil))) sYes (e_grow_sum_3 o)))
    (sSeq (sAsg 3 (sBin fMul (sArgs fLst (sCons (sC (.int 0)) sNil)) (sVar 1)))
    (sSeq (sFor (iRg1 (sCons (sVar 1) sNil)) (gN 4) (b_grow_sum_2 o))
    (sRet (sCall (o "lessened") (sCons (sVar 3) sNil))))))
def d_grow_sum : DT := ⟨"grow_sum", tp 19, ["told", "length", "matrix", "sums", "place", "found", ".0", "row", "right", "one", "other"], ["told", "length"], false, S_grow_sum⟩
def e_grow_or_cap_1 (o : Str → Orc) : SemE :=
    (sVar 6)
@[simp] theorem e_grow_or_cap_1_ap (o : Str → Orc) (ρ : Sr) : e_grow_or_cap_1 o ρ =
    (sVar 6) ρ := rfl
def S_grow_or_cap (o : Str → Orc) : SemS :=
    (sSeq (sAsg 3 (sCall (o "sum_rows") (sCons (sVar 0) (sCons (sVar 1) sNil))))
    (sSeq (sExp (sCall (o "sum_place") (sCons (sVar 2) (sCons (sVar 1) sNil))))
    (sSeq (sAsg 4 (sCall (o "grow_towards") (sCons (sLc [5, 6, 7] (iS (sVar 3)) (gT (gsCons (gN 6) (gsCons (gN 7) gsNil))) sYes (e_grow_or_cap_1 o)) (sCons (sVar 1) (sCons (sCall (o "grow_unit") (sCons (sVar 1) (sCons (sVar 2) sNil))) sNil)))))
    (sSeq (sIfS (sTru (sIxV 4 (sC (.int 0)))) (sRet (sArgs fTup (sCons (sC (.str "grow")) (sCons (sArgs fTuple (sCons (sIxV 4 (sC (.int 1))) sNil)) sNil)))) sNx)
    (sRet (sArgs fTup (sCons (sC (.str "cap")) (sCons (sArgs fTuple (sCons (sCall (o "lessened") (sCons (sIxV 4 (sC (.int 1))) sNil)) sNil)) sNil))))))))
def d_grow_or_cap : DT := ⟨"grow_or_cap", tp 20, ["rows", "length", "place", "told", "found", ".0", "row", "right"], ["rows", "length", "place"], false, S_grow_or_cap⟩
def S_all_growing (o : Str → Orc) : SemS :=
    (sSeq (sAsg 2 (sCall (o "grow_sum") (sCons (sCall (o "sum_rows") (sCons (sVar 0) (sCons (sVar 1) sNil))) (sCons (sVar 1) sNil))))
    (sSeq (sIfS (sAsT (sBin fIn (sC (.int 0)) (sVar 2))) (sRet (sC .none)) sNx)
    (sRet (sArgs fTuple (sCons (sVar 2) sNil)))))
def d_all_growing : DT := ⟨"all_growing", tp 21, ["rows", "length", "numbers"], ["rows", "length"], false, S_all_growing⟩
def S_cap_bound (o : Str → Orc) : SemS :=
    (sSeq (sAsgG (gT (gsCons (gN 3) (gsCons (gN 4) gsNil))) (sCall (o "mixed") (sCons (sVar 0) (sCons (sVar 1) sNil))))
    (sSeq (sExp (sCall (o "sum_place") (sCons (sVar 2) (sCons (sLenV 3) sNil))))
    (sSeq (sIfS (sOr (sAsT (sBin fLt (sArgs fMin1 (sCons (sBin fAdd (sLstV 1) (sLstV 3)) sNil)) (sC (.int 0)))) (sAsT (sBin fLt (sIxV 3 (sVar 2)) (sC (.int 1))))) sNone sNx)
    (sRet (sBin fDiv (sVar 4) (sIxV 3 (sVar 2)))))))
def d_cap_bound : DT := ⟨"cap_bound", tp 22, ["rows", "y", "place", "sums", "right"], ["rows", "y", "place"], false, S_cap_bound⟩
def e_rest_side_1 (o : Str → Orc) : SemE :=
    (sUn fNeg (sVar 8))
@[simp] theorem e_rest_side_1_ap (o : Str → Orc) (ρ : Sr) : e_rest_side_1 o ρ =
    (sUn fNeg (sVar 8)) ρ := rfl
def e_rest_side_2 (o : Str → Orc) : SemE :=
    (sVar 6)
@[simp] theorem e_rest_side_2_ap (o : Str → Orc) (ρ : Sr) : e_rest_side_2 o ρ =
    (sVar 6) ρ := rfl
def S_rest_side (o : Str → Orc) : SemS :=
    (sSeq (sAsg 2 (sBin fIx (sIxV 0 (sVar 1)) (sC (.int 0))))
    (sSeq (sAsg 3 (sCall (o "grow_towards") (sCons (sLc [5, 6, 7] (iS (sVar 0)) (gT (gsCons (gN 6) (gsCons (gN 7) gsNil))) sYes (e_rest_side_2 o)) (sCons (sLenV 2) (sCons (sLc [5, 8] (iS (sVar 2)) (gN 8) sYes (e_rest_side_1 o)) sNil)))))
    (sSeq (sIfS (sTru (sIxV 3 (sC (.int 0)))) (sRet (sArgs fTup (sCons (sC (.str "loose")) (sCons (sArgs fTuple (sCons (sIxV 3 (sC (.int 1))) sNil)) sNil)))) sNx)
    (sSeq (sAsg 4 (sArgs fList (sCons (sIxV 3 (sC (.int 1))) sNil)))
    (sSeq (sAsgG (gSbV 4 (sVar 1)) (sBin fAdd (sIxV 4 (sVar 1)) (sIxV 3 (sC (.int 2)))))
    (sRet (sArgs fTup (sCons (sC (.str "tight")) (sCons (sArgs fTuple (sCons (sCall (o "lessened") (sCons (sVar 4) sNil)) sNil)) sNil)))))))))
def d_rest_side : DT := ⟨"rest_side", tp 24, ["told", "which", "row", "found", "weights", ".0", "other", "right", "a"], ["told", "which"], false, S_rest_side⟩
def e_rest_parts_1 (o : Str → Orc) : SemE :=
    (sBin fAdd (sVar 7) (sVar 8))
@[simp] theorem e_rest_parts_1_ap (o : Str → Orc) (ρ : Sr) : e_rest_parts_1 o ρ =
    (sBin fAdd (sVar 7) (sVar 8)) ρ := rfl
def b_rest_parts_2 (o : Str → Orc) : SemS :=
    (sIfS (sAsT (sBin fEq (sCall (o "row_at") (sCons (sBin fIx (sIxV 0 (sVar 4)) (sC (.int 0))) (sCons (sVar 2) sNil))) (sC (.int 0)))) (sSeq (sAsg 5 (sCall (o "rest_side") (sCons (sVar 0) (sCons (sVar 4) sNil))))
    (sIfS (sAsT (sBin fEq (sIxV 5 (sC (.int 0))) (sC (.str "loose")))) (sAsg 2 (sArgs fTuple (sCons (sLc [6, 7, 8] (iZp (sCons (sVar 2) (sCons (sIxV 5 (sC (.int 1))) sNil))) (gT (gsCons (gN 7) (gsCons (gN 8) gsNil))) sYes (e_rest_parts_1 o)) sNil))) (sExp (sApp 3 (sVar 4))))) sNx)
@[simp] theorem b_rest_parts_2_ap (o : Str → Orc) (ρ : Sr) : b_rest_parts_2 o ρ =
    (sIfS (sAsT (sBin fEq (sCall (o "row_at") (sCons (sBin fIx (sIxV 0 (sVar 4)) (sC (.int 0))) (sCons (sVar 2) sNil))) (sC (.int 0)))) (sSeq (sAsg 5 (sCall (o "rest_side") (sCons (sVar 0) (sCons (sVar 4) sNil))))
    (sIfS (sAsT (sBin fEq (sIxV 5 (sC (.int 0))) (sC (.str "loose")))) (sAsg 2 (sArgs fTuple (sCons (sLc [6, 7, 8] (iZp (sCons (sVar 2) (sCons (sIxV 5 (sC (.int 1))) sNil))) (gT (gsCons (gN 7) (gsCons (gN 8) gsNil))) sYes (e_rest_parts_1 o)) sNil))) (sExp (sApp 3 (sVar 4))))) sNx) ρ := rfl
def S_rest_parts (o : Str → Orc) : SemS :=
    (sSeq (sAsg 2 (sCall (o "all_growing") (sCons (sVar 0) (sCons (sVar 1) sNil))))
    (sSeq (sIfS (sAsT (sCmpV fIsN 2 (sC .none))) sNone sNx)
    (sSeq (sAsg 3 (sArgs fLst sNil))
    (sSeq (sFor (iRg1 (sCons (sLenV 0) sNil)) (gN 4) (b_rest_parts_2 o))
    (sRet (sArgs fTup (sCons (sArgs fTuple (sCons (sCall (o "lessened") (sCons (sVar 2) sNil)) sNil)) (sCons (sVar 3) sNil))))))))
def d_rest_parts : DT := ⟨"rest_parts", tp 25, ["told", "length", "numbers", "tight", "which", "found", ".0", "one", "other"], ["told", "length"], false, S_rest_parts⟩
def S_loose_or_tight (o : Str → Orc) : SemS :=
    (sSeq (sAsg 3 (sCall (o "sum_rows") (sCons (sVar 0) (sCons (sVar 1) sNil))))
    (sSeq (sIfS (sAsT (sBin fIsN (sCall (o "all_growing") (sCons (sVar 3) (sCons (sVar 1) sNil))) (sC .none))) sNone sNx)
    (sSeq (sExp (sCall (o "sum_place") (sCons (sVar 2) (sCons (sLenV 3) sNil))))
    (sRet (sCall (o "rest_side") (sCons (sVar 3) (sCons (sVar 2) sNil)))))))
def d_loose_or_tight : DT := ⟨"loose_or_tight", tp 26, ["rows", "length", "which", "told"], ["rows", "length", "which"], false, S_loose_or_tight⟩
def e_rest_bound_1 (o : Str → Orc) : SemE :=
    (sCmpV fEq 6 (sC (.int 0)))
@[simp] theorem e_rest_bound_1_ap (o : Str → Orc) (ρ : Sr) : e_rest_bound_1 o ρ =
    (sCmpV fEq 6 (sC (.int 0))) ρ := rfl
def S_rest_bound (o : Str → Orc) : SemS :=
    (sSeq (sAsgG (gT (gsCons (gN 3) (gsCons (gN 4) gsNil))) (sCall (o "mixed") (sCons (sVar 0) (sCons (sVar 1) sNil))))
    (sSeq (sExp (sCall (o "sum_place") (sCons (sVar 2) (sCons (sLenV 1) sNil))))
    (sSeq (sIfS (sOr (sAsT (sBin fLt (sArgs fMin1 (sCons (sVar 1) sNil)) (sC (.int 0)))) (sOr (sAsT (sBin fLt (sIxV 1 (sVar 2)) (sC (.int 1)))) (sNot (sTru (sArgs fAll (sCons (sLc [5, 6] (iS (sVar 3)) (gN 6) sYes (e_rest_bound_1 o)) sNil)))))) sNone sNx)
    (sRet (sBin fDiv (sVar 4) (sIxV 1 (sVar 2)))))))
def d_rest_bound : DT := ⟨"rest_bound", tp 27, ["rows", "y", "which", "sums", "right", ".0", "total"], ["rows", "y", "which"], false, S_rest_bound⟩
def S_tight_rows (o : Str → Orc) : SemS :=
    (sRet (sArgs fTuple (sCons (sBin fIx (sCall (o "rest_parts") (sCons (sCall (o "sum_rows") (sCons (sVar 0) (sCons (sVar 1) sNil))) (sCons (sVar 1) sNil))) (sC (.int 1))) sNil)))
def d_tight_rows : DT := ⟨"tight_rows", tp 28, ["rows", "length"], ["rows", "length"], false, S_tight_rows⟩
def t_whole_clear_1 (o : Str → Orc) : SemT :=
    (sTru (sC (.bool true)))
@[simp] theorem t_whole_clear_1_ap (o : Str → Orc) (ρ : Sr) : t_whole_clear_1 o ρ =
    (sTru (sC (.bool true))) ρ := rfl
def e_whole_clear_2 (o : Str → Orc) : SemE :=
    (sBin fSub (sVar 9) (sBin fMul (sVar 7) (sVar 10)))
@[simp] theorem e_whole_clear_2_ap (o : Str → Orc) (ρ : Sr) : e_whole_clear_2 o ρ =
    (sBin fSub (sVar 9) (sBin fMul (sVar 7) (sVar 10))) ρ := rfl
def b_whole_clear_3 (o : Str → Orc) : SemS :=
    (sIfS (sAsT (sCmpV fNe 3 (sVar 6))) (sSeq (sAsg 7 (sBin fDiv (sBin fIx (sIxV 0 (sVar 3)) (sVar 2)) (sBin fIx (sIxV 0 (sVar 6)) (sVar 2))))
    (sAsgG (gSbV 0 (sVar 3)) (sLc [8, 9, 10] (iZp (sCons (sIxV 0 (sVar 3)) (sCons (sIxV 0 (sVar 6)) sNil))) (gT (gsCons (gN 9) (gsCons (gN 10) gsNil))) sYes (e_whole_clear_2 o)))) sNx)
@[simp] theorem b_whole_clear_3_ap (o : Str → Orc) (ρ : Sr) : b_whole_clear_3 o ρ =
    (sIfS (sAsT (sCmpV fNe 3 (sVar 6))) (sSeq (sAsg 7 (sBin fDiv (sBin fIx (sIxV 0 (sVar 3)) (sVar 2)) (sBin fIx (sIxV 0 (sVar 6)) (sVar 2))))
    (sAsgG (gSbV 0 (sVar 3)) (sLc [8, 9, 10] (iZp (sCons (sIxV 0 (sVar 3)) (sCons (sIxV 0 (sVar 6)) sNil))) (gT (gsCons (gN 9) (gsCons (gN 10) gsNil))) sYes (e_whole_clear_2 o)))) sNx) ρ := rfl
def e_whole_clear_4 (o : Str → Orc) : SemE :=
    (sArgs fTup (sCons (sArgs fAbs (sCons (sBin fIx (sIxV 0 (sVar 3)) (sVar 2)) sNil)) (sCons (sVar 3) sNil)))
@[simp] theorem e_whole_clear_4_ap (o : Str → Orc) (ρ : Sr) : e_whole_clear_4 o ρ =
    (sArgs fTup (sCons (sArgs fAbs (sCons (sBin fIx (sIxV 0 (sVar 3)) (sVar 2)) sNil)) (sCons (sVar 3) sNil))) ρ := rfl
def t_whole_clear_5 (o : Str → Orc) : SemT :=
    (sAsT (sBin fNe (sBin fIx (sIxV 0 (sVar 3)) (sVar 2)) (sC (.int 0))))
@[simp] theorem t_whole_clear_5_ap (o : Str → Orc) (ρ : Sr) : t_whole_clear_5 o ρ =
    (sAsT (sBin fNe (sBin fIx (sIxV 0 (sVar 3)) (sVar 2)) (sC (.int 0)))) ρ := rfl
def e_whole_clear_6 (o : Str → Orc) : SemE :=
    (sVar 3)
@[simp] theorem e_whole_clear_6_ap (o : Str → Orc) (ρ : Sr) : e_whole_clear_6 o ρ =
    (sVar 3) ρ := rfl
def b_whole_clear_7 (o : Str → Orc) : SemS :=
    (sSeq (sAsg 4 (sLc [8, 3] (iS (sVar 1)) (gN 3) (t_whole_clear_5 o) (e_whole_clear_6 o)))
    (sSeq (sIfS (sAsT (sBin fLt (sLenV 4) (sC (.int 2)))) (sRet (sVar 4)) sNx)
    (sSeq (sAsg 5 (sLc [8, 3] (iS (sVar 4)) (gN 3) sYes (e_whole_clear_4 o)))
    (sSeq (sAsg 6 (sBin fIx (sArgs fMin1 (sCons (sVar 5) sNil)) (sC (.int 1))))
    (sFor (iS (sVar 4)) (gN 3) (b_whole_clear_3 o))))))
@[simp] theorem b_whole_clear_7_ap (o : Str → Orc) (ρ : Sr) : b_whole_clear_7 o ρ =
    (sSeq (sAsg 4 (sLc [8, 3] (iS (sVar 1)) (gN 3) (t_whole_clear_5 o) (e_whole_clear_6 o)))
    (sSeq (sIfS (sAsT (sBin fLt (sLenV 4) (sC (.int 2)))) (sRet (sVar 4)) sNx)
    (sSeq (sAsg 5 (sLc [8, 3] (iS (sVar 4)) (gN 3) sYes (e_whole_clear_4 o)))
    (sSeq (sAsg 6 (sBin fIx (sArgs fMin1 (sCons (sVar 5) sNil)) (sC (.int 1))))
    (sFor (iS (sVar 4)) (gN 3) (b_whole_clear_3 o)))))) ρ := rfl
def S_whole_clear (o : Str → Orc) : SemS :=
    (sWhile 1000000 (t_whole_clear_1 o) (b_whole_clear_7 o))
def d_whole_clear : DT := ⟨"whole_clear", tp 30, ["columns", "free", "k", "j", "live", "sizes", "least", "many", ".0", "a", "b"], ["columns", "free", "k"], true, S_whole_clear⟩
def t_whole_stair_1 (o : Str → Orc) : SemT :=
    (sAsT (sCmpV fNotIn 3 (sVar 7)))
@[simp] theorem t_whole_stair_1_ap (o : Str → Orc) (ρ : Sr) : t_whole_stair_1 o ρ =
    (sAsT (sCmpV fNotIn 3 (sVar 7))) ρ := rfl
def e_whole_stair_2 (o : Str → Orc) : SemE :=
    (sVar 3)
@[simp] theorem e_whole_stair_2_ap (o : Str → Orc) (ρ : Sr) : e_whole_stair_2 o ρ =
    (sVar 3) ρ := rfl
def b_whole_stair_3 (o : Str → Orc) : SemS :=
    (sSeq (sAsg 7 (sCallV (o "whole_clear") 2 (sCons (sVar 5) (sCons (sVar 4) sNil))))
    (sSeq (sExp (sApp 6 (sIf (sAsT (sBin fGt (sLenV 7) (sC (.int 0)))) (sIxV 7 (sC (.int 0))) (sC .none))))
    (sAsg 5 (sLc [8, 3] (iS (sVar 5)) (gN 3) (t_whole_stair_1 o) (e_whole_stair_2 o)))))
@[simp] theorem b_whole_stair_3_ap (o : Str → Orc) (ρ : Sr) : b_whole_stair_3 o ρ =
    (sSeq (sAsg 7 (sCallV (o "whole_clear") 2 (sCons (sVar 5) (sCons (sVar 4) sNil))))
    (sSeq (sExp (sApp 6 (sIf (sAsT (sBin fGt (sLenV 7) (sC (.int 0)))) (sIxV 7 (sC (.int 0))) (sC .none))))
    (sAsg 5 (sLc [8, 3] (iS (sVar 5)) (gN 3) (t_whole_stair_1 o) (e_whole_stair_2 o))))) ρ := rfl
def e_whole_stair_4 (o : Str → Orc) : SemE :=
    (sIxV 9 (sVar 3))
@[simp] theorem e_whole_stair_4_ap (o : Str → Orc) (ρ : Sr) : e_whole_stair_4 o ρ =
    (sIxV 9 (sVar 3)) ρ := rfl
def e_whole_stair_5 (o : Str → Orc) : SemE :=
    (sIf (sAsT (sCmpV fEq 4 (sVar 3))) (sC (.int 1)) (sC (.int 0)))
@[simp] theorem e_whole_stair_5_ap (o : Str → Orc) (ρ : Sr) : e_whole_stair_5 o ρ =
    (sIf (sAsT (sCmpV fEq 4 (sVar 3))) (sC (.int 1)) (sC (.int 0))) ρ := rfl
def b_whole_stair_6 (o : Str → Orc) : SemS :=
    (sExp (sApp 2 (sBin fAdd (sLc [8, 9, 10] (iS (sVar 0)) (gT (gsCons (gN 9) (gsCons (gN 10) gsNil))) sYes (e_whole_stair_4 o)) (sLc [8, 4] (iRg1 (sCons (sVar 1) sNil)) (gN 4) sYes (e_whole_stair_5 o)))))
@[simp] theorem b_whole_stair_6_ap (o : Str → Orc) (ρ : Sr) : b_whole_stair_6 o ρ =
    (sExp (sApp 2 (sBin fAdd (sLc [8, 9, 10] (iS (sVar 0)) (gT (gsCons (gN 9) (gsCons (gN 10) gsNil))) sYes (e_whole_stair_4 o)) (sLc [8, 4] (iRg1 (sCons (sVar 1) sNil)) (gN 4) sYes (e_whole_stair_5 o))))) ρ := rfl
def S_whole_stair (o : Str → Orc) : SemS :=
    (sSeq (sAsg 2 (sArgs fLst sNil))
    (sSeq (sFor (iRg1 (sCons (sVar 1) sNil)) (gN 3) (b_whole_stair_6 o))
    (sSeq (sAsg 5 (sLstRg (sVar 1)))
    (sSeq (sAsg 6 (sArgs fLst sNil))
    (sSeq (sFor (iRg1 (sCons (sLenV 0) sNil)) (gN 4) (b_whole_stair_3 o))
    (sRet (sArgs fTup (sCons (sVar 2) (sCons (sVar 6) (sCons (sVar 5) sNil))))))))))
def d_whole_stair : DT := ⟨"whole_stair", tp 31, ["told", "length", "columns", "j", "k", "free", "pivots", "live", ".0", "row", "right"], ["told", "length"], false, S_whole_stair⟩
def e_whole_readers_1 (o : Str → Orc) : SemE :=
    (sBin fSub (sBin fMul (sVar 10) (sVar 8)) (sBin fMul (sVar 7) (sVar 11)))
@[simp] theorem e_whole_readers_1_ap (o : Str → Orc) (ρ : Sr) : e_whole_readers_1 o ρ =
    (sBin fSub (sBin fMul (sVar 10) (sVar 8)) (sBin fMul (sVar 7) (sVar 11))) ρ := rfl
def b_whole_readers_2 (o : Str → Orc) : SemS :=
    (sIfS (sAnd (sAsT (sCmpV fNotN 6 (sC .none))) (sAsT (sBin fNe (sBin fIx (sIxV 0 (sVar 6)) (sVar 3)) (sC (.int 0))))) (sSeq (sAsg 7 (sBin fMul (sIxV 5 (sVar 3)) (sBin fIx (sIxV 0 (sVar 6)) (sVar 3))))
    (sSeq (sAsg 8 (sBin fMul (sBin fIx (sIxV 0 (sVar 6)) (sVar 4)) (sBin fIx (sIxV 2 (sVar 4)) (sVar 4))))
    (sSeq (sIfS (sAsT (sCmpV fLt 8 (sC (.int 0)))) (sAsgG (gT (gsCons (gN 7) (gsCons (gN 8) gsNil))) (sArgs fTup (sCons (sUn fNeg (sVar 7)) (sCons (sUn fNeg (sVar 8)) sNil)))) sNx)
    (sAsg 5 (sCall (o "lessened") (sCons (sLc [9, 10, 11] (iZp (sCons (sVar 5) (sCons (sIxV 2 (sVar 4)) sNil))) (gT (gsCons (gN 10) (gsCons (gN 11) gsNil))) sYes (e_whole_readers_1 o)) sNil)))))) sNx)
@[simp] theorem b_whole_readers_2_ap (o : Str → Orc) (ρ : Sr) : b_whole_readers_2 o ρ =
    (sIfS (sAnd (sAsT (sCmpV fNotN 6 (sC .none))) (sAsT (sBin fNe (sBin fIx (sIxV 0 (sVar 6)) (sVar 3)) (sC (.int 0))))) (sSeq (sAsg 7 (sBin fMul (sIxV 5 (sVar 3)) (sBin fIx (sIxV 0 (sVar 6)) (sVar 3))))
    (sSeq (sAsg 8 (sBin fMul (sBin fIx (sIxV 0 (sVar 6)) (sVar 4)) (sBin fIx (sIxV 2 (sVar 4)) (sVar 4))))
    (sSeq (sIfS (sAsT (sCmpV fLt 8 (sC (.int 0)))) (sAsgG (gT (gsCons (gN 7) (gsCons (gN 8) gsNil))) (sArgs fTup (sCons (sUn fNeg (sVar 7)) (sCons (sUn fNeg (sVar 8)) sNil)))) sNx)
    (sAsg 5 (sCall (o "lessened") (sCons (sLc [9, 10, 11] (iZp (sCons (sVar 5) (sCons (sIxV 2 (sVar 4)) sNil))) (gT (gsCons (gN 10) (gsCons (gN 11) gsNil))) sYes (e_whole_readers_1 o)) sNil)))))) sNx) ρ := rfl
def e_whole_readers_3 (o : Str → Orc) : SemE :=
    (sIf (sAsT (sCmpV fEq 4 (sVar 3))) (sC (.int 1)) (sC (.int 0)))
@[simp] theorem e_whole_readers_3_ap (o : Str → Orc) (ρ : Sr) : e_whole_readers_3 o ρ =
    (sIf (sAsT (sCmpV fEq 4 (sVar 3))) (sC (.int 1)) (sC (.int 0))) ρ := rfl
def b_whole_readers_4 (o : Str → Orc) : SemS :=
    (sSeq (sAsg 5 (sLc [9, 4] (iRg1 (sCons (sLenV 1) sNil)) (gN 4) sYes (e_whole_readers_3 o)))
    (sSeq (sFor (iEn (sCons (sSl (sVar 1) oNo (oSome (sVar 3))) sNil)) (gT (gsCons (gN 4) (gsCons (gN 6) gsNil))) (b_whole_readers_2 o))
    (sExp (sApp 2 (sVar 5)))))
@[simp] theorem b_whole_readers_4_ap (o : Str → Orc) (ρ : Sr) : b_whole_readers_4 o ρ =
    (sSeq (sAsg 5 (sLc [9, 4] (iRg1 (sCons (sLenV 1) sNil)) (gN 4) sYes (e_whole_readers_3 o)))
    (sSeq (sFor (iEn (sCons (sSl (sVar 1) oNo (oSome (sVar 3))) sNil)) (gT (gsCons (gN 4) (gsCons (gN 6) gsNil))) (b_whole_readers_2 o))
    (sExp (sApp 2 (sVar 5))))) ρ := rfl
def S_whole_readers (o : Str → Orc) : SemS :=
    (sSeq (sAsg 2 (sArgs fLst sNil))
    (sSeq (sFor (iRg1 (sCons (sLenV 1) sNil)) (gN 3) (b_whole_readers_4 o))
    (sRet (sVar 2))))
def d_whole_readers : DT := ⟨"whole_readers", tp 32, ["columns", "pivots", "found", "k", "i", "weights", "at", "above", "under", ".0", "a", "b"], ["columns", "pivots"], false, S_whole_readers⟩
def e_whole_1 (o : Str → Orc) : SemE :=
    (sBin fAdd (sVar 16) (sBin fMul (sBin fDiv (sVar 11) (sVar 13)) (sVar 17)))
@[simp] theorem e_whole_1_ap (o : Str → Orc) (ρ : Sr) : e_whole_1 o ρ =
    (sBin fAdd (sVar 16) (sBin fMul (sBin fDiv (sVar 11) (sVar 13)) (sVar 17))) ρ := rfl
def b_whole_2 (o : Str → Orc) : SemS :=
    (sSeq (sAsg 11 (sBin fSub (sVar 10) (sCall (o "row_at") (sCons (sVar 9) (sCons (sVar 7) sNil)))))
    (sSeq (sAsg 12 (sIxV 4 (sVar 8)))
    (sSeq (sIfS (sAnd (sAsT (sCmpV fIsN 12 (sC .none))) (sAsT (sCmpV fNe 11 (sC (.int 0))))) (sRet (sArgs fTup (sCons (sC (.str "remainder")) (sCons (sArgs fTuple (sCons (sIxV 6 (sVar 8)) sNil)) (sCons (sBin fAdd (sArgs fAbs (sCons (sBin fIx (sCall (o "mixed") (sCons (sVar 2) (sCons (sIxV 6 (sVar 8)) sNil))) (sC (.int 1))) sNil)) (sC (.int 1))) sNil))))) sNx)
    (sIfS (sAsT (sCmpV fNotN 12 (sC .none))) (sSeq (sAsg 13 (sBin fIx (sIxV 3 (sVar 12)) (sVar 8)))
    (sSeq (sIfS (sAsT (sBin fNe (sBin fMod (sVar 11) (sVar 13)) (sC (.int 0)))) (sSeq (sAsg 14 (sCall (o "lessened") (sCons (sBin fAdd (sIxV 6 (sVar 8)) (sArgs fLst (sCons (sArgs fAbs (sCons (sBin fMul (sBin fIx (sIxV 6 (sVar 8)) (sVar 8)) (sVar 13)) sNil)) sNil))) sNil)))
    (sRet (sArgs fTup (sCons (sC (.str "remainder")) (sCons (sArgs fTuple (sCons (sSl (sVar 14) oNo (oSome (sUn fNeg (sC (.int 1))))) sNil)) (sCons (sIxV 14 (sUn fNeg (sC (.int 1)))) sNil)))))) sNx)
    (sAsg 7 (sLc [15, 16, 17] (iZp (sCons (sVar 7) (sCons (sSl (sIxV 3 (sVar 12)) (oSome (sLenV 2)) oNo) sNil))) (gT (gsCons (gN 16) (gsCons (gN 17) gsNil))) sYes (e_whole_1 o))))) sNx))))
@[simp] theorem b_whole_2_ap (o : Str → Orc) (ρ : Sr) : b_whole_2 o ρ =
    (sSeq (sAsg 11 (sBin fSub (sVar 10) (sCall (o "row_at") (sCons (sVar 9) (sCons (sVar 7) sNil)))))
    (sSeq (sAsg 12 (sIxV 4 (sVar 8)))
    (sSeq (sIfS (sAnd (sAsT (sCmpV fIsN 12 (sC .none))) (sAsT (sCmpV fNe 11 (sC (.int 0))))) (sRet (sArgs fTup (sCons (sC (.str "remainder")) (sCons (sArgs fTuple (sCons (sIxV 6 (sVar 8)) sNil)) (sCons (sBin fAdd (sArgs fAbs (sCons (sBin fIx (sCall (o "mixed") (sCons (sVar 2) (sCons (sIxV 6 (sVar 8)) sNil))) (sC (.int 1))) sNil)) (sC (.int 1))) sNil))))) sNx)
    (sIfS (sAsT (sCmpV fNotN 12 (sC .none))) (sSeq (sAsg 13 (sBin fIx (sIxV 3 (sVar 12)) (sVar 8)))
    (sSeq (sIfS (sAsT (sBin fNe (sBin fMod (sVar 11) (sVar 13)) (sC (.int 0)))) (sSeq (sAsg 14 (sCall (o "lessened") (sCons (sBin fAdd (sIxV 6 (sVar 8)) (sArgs fLst (sCons (sArgs fAbs (sCons (sBin fMul (sBin fIx (sIxV 6 (sVar 8)) (sVar 8)) (sVar 13)) sNil)) sNil))) sNil)))
    (sRet (sArgs fTup (sCons (sC (.str "remainder")) (sCons (sArgs fTuple (sCons (sSl (sVar 14) oNo (oSome (sUn fNeg (sC (.int 1))))) sNil)) (sCons (sIxV 14 (sUn fNeg (sC (.int 1)))) sNil)))))) sNx)
    (sAsg 7 (sLc [15, 16, 17] (iZp (sCons (sVar 7) (sCons (sSl (sIxV 3 (sVar 12)) (oSome (sLenV 2)) oNo) sNil))) (gT (gsCons (gN 16) (gsCons (gN 17) gsNil))) sYes (e_whole_1 o))))) sNx)))) ρ := rfl
def S_whole (o : Str → Orc) : SemS :=
    (sSeq (sAsg 2 (sCall (o "sum_rows") (sCons (sVar 0) (sCons (sVar 1) sNil))))
    (sSeq (sAsgG (gT (gsCons (gN 3) (gsCons (gN 4) (gsCons (gN 5) gsNil)))) (sCall (o "whole_stair") (sCons (sVar 2) (sCons (sVar 1) sNil))))
    (sSeq (sAsg 6 (sCall (o "whole_readers") (sCons (sVar 3) (sCons (sVar 4) sNil))))
    (sSeq (sAsg 7 (sBin fMul (sArgs fLst (sCons (sC (.int 0)) sNil)) (sVar 1)))
    (sSeq (sFor (iEn (sCons (sVar 2) sNil)) (gT (gsCons (gN 8) (gsCons (gT (gsCons (gN 9) (gsCons (gN 10) gsNil))) gsNil))) (b_whole_2 o))
    (sRet (sArgs fTup (sCons (sC (.str "solution")) (sCons (sArgs fTuple (sCons (sVar 7) sNil)) sNil)))))))))
def d_whole : DT := ⟨"whole", tp 33, ["equations", "length", "told", "columns", "pivots", "free", "readers", "x", "k", "row", "right", "left", "at", "part", "ready", ".0", "a", "b"], ["equations", "length"], false, S_whole⟩
def e_lift_by_1 (o : Str → Orc) : SemE :=
    (sArgs fTup (sCons (sBin fIx (sIxV 0 (sVar 6)) (sC (.int 0))) (sCons (sBin fSub (sBin fIx (sIxV 0 (sVar 6)) (sC (.int 1))) (sVar 7)) sNil)))
@[simp] theorem e_lift_by_1_ap (o : Str → Orc) (ρ : Sr) : e_lift_by_1 o ρ =
    (sArgs fTup (sCons (sBin fIx (sIxV 0 (sVar 6)) (sC (.int 0))) (sCons (sBin fSub (sBin fIx (sIxV 0 (sVar 6)) (sC (.int 1))) (sVar 7)) sNil))) ρ := rfl
def S_lift_by (o : Str → Orc) : SemS :=
    (sSeq (sAsg 4 (sCall (o "whole") (sCons (sLc [5, 6, 7] (iS (sVar 2)) (gT (gsCons (gN 6) (gsCons (gN 7) gsNil))) sYes (e_lift_by_1 o)) (sCons (sVar 1) sNil))))
    (sSeq (sIfS (sAsT (sBin fEq (sIxV 4 (sC (.int 0))) (sC (.str "remainder")))) (sRet (sVar 4)) sNx)
    (sRet (sArgs fTup (sCons (sC (.str "numbers")) (sCons (sIxV 4 (sC (.int 1))) (sCons (sVar 3) sNil)))))))
def d_lift_by : DT := ⟨"lift_by", tp 34, ["told", "length", "rests", "numbers", "found", ".0", "which", "rest"], ["told", "length", "rests", "numbers"], false, S_lift_by⟩
def e_lifted_1 (o : Str → Orc) : SemE :=
    (sAndV (sCall (o "whole_from") (sCons (sVar 8) (sCons (sC (.int 0)) sNil))) (sCall (o "whole_from") (sCons (sVar 9) (sCons (sC (.int 0)) sNil))))
@[simp] theorem e_lifted_1_ap (o : Str → Orc) (ρ : Sr) : e_lifted_1 o ρ =
    (sAndV (sCall (o "whole_from") (sCons (sVar 8) (sCons (sC (.int 0)) sNil))) (sCall (o "whole_from") (sCons (sVar 9) (sCons (sC (.int 0)) sNil)))) ρ := rfl
def e_lifted_2 (o : Str → Orc) : SemE :=
    (sIxV 7 (sC (.int 0)))
@[simp] theorem e_lifted_2_ap (o : Str → Orc) (ρ : Sr) : e_lifted_2 o ρ =
    (sIxV 7 (sC (.int 0))) ρ := rfl
def S_lifted (o : Str → Orc) : SemS :=
    (sSeq (sAsg 3 (sCall (o "sum_rows") (sCons (sVar 0) (sCons (sVar 1) sNil))))
    (sSeq (sAsgG (gT (gsCons (gN 4) (gsCons (gN 5) gsNil))) (sCall (o "rest_parts") (sCons (sVar 3) (sCons (sVar 1) sNil))))
    (sSeq (sIfS (sAsT (sBin fNe (sLc [6, 7] (iS (sVar 2)) (gN 7) sYes (e_lifted_2 o)) (sVar 5))) sNone sNx)
    (sSeq (sIfS (sNot (sTru (sArgs fAll (sCons (sLc [6, 8, 9] (iS (sVar 2)) (gT (gsCons (gN 8) (gsCons (gN 9) gsNil))) sYes (e_lifted_1 o)) sNil)))) sNone sNx)
    (sRet (sCall (o "lift_by") (sCons (sVar 3) (sCons (sVar 1) (sCons (sVar 2) (sCons (sVar 4) sNil))))))))))
def d_lifted : DT := ⟨"lifted", tp 35, ["rows", "length", "rests", "told", "numbers", "tight", ".0", "pair", "which", "rest"], ["rows", "length", "rests"], false, S_lifted⟩
def b_lift_from_1 (o : Str → Orc) : SemS :=
    (sSeq (sAsg 10 (sCall (o "row_at") (sCons (sVar 8) (sCons (sVar 2) sNil))))
    (sSeq (sAsg 11 (sBin fSub (sCall (o "row_at") (sCons (sVar 8) (sCons (sVar 1) sNil))) (sVar 9)))
    (sSeq (sIfS (sOr (sAsT (sCmpV fGt 10 (sC (.int 0)))) (sAnd (sAsT (sCmpV fEq 10 (sC (.int 0)))) (sAsT (sCmpV fGt 11 (sC (.int 0)))))) sNone sNx)
    (sIfS (sAsT (sCmpV fLt 10 (sC (.int 0)))) (sAsg 6 (sArgs fMax2 (sCons (sVar 6) (sCons (sUn fNeg (sBin fDiv (sVar 11) (sVar 10))) sNil)))) sNx))))
@[simp] theorem b_lift_from_1_ap (o : Str → Orc) (ρ : Sr) : b_lift_from_1 o ρ =
    (sSeq (sAsg 10 (sCall (o "row_at") (sCons (sVar 8) (sCons (sVar 2) sNil))))
    (sSeq (sAsg 11 (sBin fSub (sCall (o "row_at") (sCons (sVar 8) (sCons (sVar 1) sNil))) (sVar 9)))
    (sSeq (sIfS (sOr (sAsT (sCmpV fGt 10 (sC (.int 0)))) (sAnd (sAsT (sCmpV fEq 10 (sC (.int 0)))) (sAsT (sCmpV fGt 11 (sC (.int 0)))))) sNone sNx)
    (sIfS (sAsT (sCmpV fLt 10 (sC (.int 0)))) (sAsg 6 (sArgs fMax2 (sCons (sVar 6) (sCons (sUn fNeg (sBin fDiv (sVar 11) (sVar 10))) sNil)))) sNx)))) ρ := rfl
def b_lift_from_2 (o : Str → Orc) : SemS :=
    (sAsg 6 (sArgs fMax2 (sCons (sVar 6) (sCons (sUn fNeg (sBin fDiv (sBin fSub (sVar 7) (sVar 3)) (sVar 5))) sNil))))
@[simp] theorem b_lift_from_2_ap (o : Str → Orc) (ρ : Sr) : b_lift_from_2 o ρ =
    (sAsg 6 (sArgs fMax2 (sCons (sVar 6) (sCons (sUn fNeg (sBin fDiv (sBin fSub (sVar 7) (sVar 3)) (sVar 5))) sNil)))) ρ := rfl
def e_lift_from_3 (o : Str → Orc) : SemE :=
    (sCmpV fGe 5 (sC (.int 1)))
@[simp] theorem e_lift_from_3_ap (o : Str → Orc) (ρ : Sr) : e_lift_from_3 o ρ =
    (sCmpV fGe 5 (sC (.int 1))) ρ := rfl
def S_lift_from (o : Str → Orc) : SemS :=
    (sSeq (sAsg 4 (sCall (o "sum_rows") (sCons (sVar 0) (sCons (sLenV 1) sNil))))
    (sSeq (sExp (sCall (o "sum_length") (sCons (sVar 2) (sCons (sLenV 1) (sCons (sC (.str "the growing row")) sNil)))))
    (sSeq (sIfS (sNot (sTru (sArgs fAll (sCons (sLc [12, 5] (iS (sVar 2)) (gN 5) sYes (e_lift_from_3 o)) sNil)))) sNone sNx)
    (sSeq (sAsg 6 (sC (.int 0)))
    (sSeq (sFor (iZp (sCons (sVar 1) (sCons (sVar 2) sNil))) (gT (gsCons (gN 7) (gsCons (gN 5) gsNil))) (b_lift_from_2 o))
    (sSeq (sFor (iS (sVar 4)) (gT (gsCons (gN 8) (gsCons (gN 9) gsNil))) (b_lift_from_1 o))
    (sRet (sVar 6))))))))
def d_lift_from : DT := ⟨"lift_from", tp 36, ["rows", "x", "h", "least", "told", "b", "many", "a", "row", "right", "rise", "over", ".0"], ["rows", "x", "h", "least"], false, S_lift_from⟩
def S__law_pool (o : Str → Orc) : SemS :=
    (sRet (sArgs fLst (sCons (sSl (sLstV 0) oNo (oSome (sC (.int 63)))) (sCons (sC (.int 0)) (sCons (sC (.int 0)) (sCons (sC (.int 0)) sNil))))))
def d__law_pool : DT := ⟨"_law_pool", tp 38, ["script"], ["script"], true, S__law_pool⟩
def S__law_mixed (o : Str → Orc) : SemS :=
    (sSeq (sAsg 0 (sBin fMod (sArgs fInt (sCons (sBin fAdd (sBin fAdd (sBin fMul (sVar 0) (sC (.int 48271))) (sBin fMul (sVar 1) (sC (.int 69621)))) (sC (.int 11))) sNil)) (sC (.int 2147483647))))
    (sSeq (sAsg 0 (sBin fMod (sArgs fInt (sCons (sBin fAdd (sBin fAdd (sBin fMul (sVar 0) (sVar 0)) (sBin fMul (sC (.int 16807)) (sVar 1))) (sC (.int 7))) sNil)) (sC (.int 2147483647))))
    (sRet (sBin fMod (sArgs fInt (sCons (sBin fDiv (sVar 0) (sC (.int 8))) sNil)) (sC (.int 268435399))))))
def d__law_mixed : DT := ⟨"_law_mixed", tp 39, ["number", "place"], ["number", "place"], false, S__law_mixed⟩
def S__law_draw (o : Str → Orc) : SemS :=
    (sSeq (sIfS (sAsT (sBin fGt (sIxV 0 (sC (.int 3))) (sC (.int 0)))) (sSeq (sAsg 2 (sBin fMod (sArgs fInt (sCons (sIxV 0 (sC (.int 2))) sNil)) (sVar 1)))
    (sSeq (sAsgG (gSbV 0 (sC (.int 2))) (sBin fDiv (sArgs fInt (sCons (sIxV 0 (sC (.int 2))) sNil)) (sVar 1)))
    (sSeq (sAsgG (gSbV 0 (sC (.int 3))) (sBin fSub (sIxV 0 (sC (.int 3))) (sC (.int 1))))
    (sRet (sVar 2))))) sNx)
    (sSeq (sIfS (sAsT (sBin fGe (sIxV 0 (sC (.int 1))) (sArgs fLen (sCons (sIxV 0 (sC (.int 0))) sNil)))) (sRet (sC (.int 0))) sNx)
    (sSeq (sAsg 3 (sArgs fInt (sCons (sBin fIx (sIxV 0 (sC (.int 0))) (sIxV 0 (sC (.int 1)))) sNil)))
    (sSeq (sAsgG (gSbV 0 (sC (.int 1))) (sBin fAdd (sIxV 0 (sC (.int 1))) (sC (.int 1))))
    (sSeq (sIfS (sAsT (sCmpV fLt 3 (sC (.int 0)))) (sAsg 3 (sBin fSub (sC (.int 1)) (sVar 3))) sNx)
    (sSeq (sIfS (sAsT (sCmpV fGe 3 (sBin fPow (sC (.int 10)) (sC (.int 18))))) (sSeq (sAsgG (gSbV 0 (sC (.int 2))) (sBin fDiv (sVar 3) (sVar 1)))
    (sSeq (sAsgG (gSbV 0 (sC (.int 3))) (sC (.int 40)))
    (sRet (sBin fMod (sArgs fInt (sCons (sVar 3) sNil)) (sVar 1))))) sNx)
    (sRet (sBin fMod (sArgs fInt (sCons (sCall (o "_law_mixed") (sCons (sVar 3) (sCons (sIxV 0 (sC (.int 1))) sNil))) sNil)) (sVar 1)))))))))
def d__law_draw : DT := ⟨"_law_draw", tp 40, ["pool", "base", "digit", "cell"], ["pool", "base"], true, S__law_draw⟩
def b__law_dot_1 (o : Str → Orc) : SemS :=
    (sAsg 2 (sBin fAdd (sVar 2) (sBin fMul (sIxV 0 (sVar 3)) (sIxV 1 (sVar 3)))))
@[simp] theorem b__law_dot_1_ap (o : Str → Orc) (ρ : Sr) : b__law_dot_1 o ρ =
    (sAsg 2 (sBin fAdd (sVar 2) (sBin fMul (sIxV 0 (sVar 3)) (sIxV 1 (sVar 3))))) ρ := rfl
def S__law_dot (o : Str → Orc) : SemS :=
    (sSeq (sAsg 2 (sC (.int 0)))
    (sSeq (sFor (iRg1 (sCons (sLenV 0) sNil)) (gN 3) (b__law_dot_1 o))
    (sRet (sVar 2))))
def d__law_dot : DT := ⟨"_law_dot", tp 41, ["one", "two", "total", "k"], ["one", "two"], false, S__law_dot⟩
def S__law_number (o : Str → Orc) : SemS :=
    (sSeq (sAsg 2 (sCallV (o "_law_draw") 0 (sCons (sBin fAdd (sBin fMul (sC (.int 2)) (sVar 1)) (sC (.int 1))) sNil)))
    (sSeq (sIfS (sAsT (sBin fEq (sBin fMod (sArgs fInt (sCons (sVar 2) sNil)) (sC (.int 2))) (sC (.int 1)))) (sRet (sBin fDiv (sBin fAdd (sVar 2) (sC (.int 1))) (sC (.int 2)))) sNx)
    (sRet (sBin fSub (sC (.int 0)) (sBin fDiv (sVar 2) (sC (.int 2)))))))
def d__law_number : DT := ⟨"_law_number", tp 42, ["pool", "most", "digit"], ["pool", "most"], true, S__law_number⟩
def e__law_drawn_1 (o : Str → Orc) : SemE :=
    (sC (.int 0))
@[simp] theorem e__law_drawn_1_ap (o : Str → Orc) (ρ : Sr) : e__law_drawn_1 o ρ =
    (sC (.int 0)) ρ := rfl
def e__law_drawn_2 (o : Str → Orc) : SemE :=
    (sArgs fLst (sCons (sBin fAdd (sArgs fLst (sCons (sC (.int 0)) sNil)) (sIxV 12 (sC (.int 0)))) (sCons (sIxV 12 (sC (.int 1))) sNil)))
@[simp] theorem e__law_drawn_2_ap (o : Str → Orc) (ρ : Sr) : e__law_drawn_2 o ρ =
    (sArgs fLst (sCons (sBin fAdd (sArgs fLst (sCons (sC (.int 0)) sNil)) (sIxV 12 (sC (.int 0)))) (sCons (sIxV 12 (sC (.int 1))) sNil))) ρ := rfl
def e__law_drawn_3 (o : Str → Orc) : SemE :=
    (sCallV (o "_law_number") 0 (sCons (sC (.int 2)) sNil))
@[simp] theorem e__law_drawn_3_ap (o : Str → Orc) (ρ : Sr) : e__law_drawn_3 o ρ =
    (sCallV (o "_law_number") 0 (sCons (sC (.int 2)) sNil)) ρ := rfl
def b__law_drawn_4 (o : Str → Orc) : SemS :=
    (sExp (sApp 3 (sArgs fLst (sCons (sLc [10, 11] (iRg1 (sCons (sVar 2) sNil)) (gN 11) sYes (e__law_drawn_3 o)) (sCons (sCallV (o "_law_number") 0 (sCons (sC (.int 4)) sNil)) sNil)))))
@[simp] theorem b__law_drawn_4_ap (o : Str → Orc) (ρ : Sr) : b__law_drawn_4 o ρ =
    (sExp (sApp 3 (sArgs fLst (sCons (sLc [10, 11] (iRg1 (sCons (sVar 2) sNil)) (gN 11) sYes (e__law_drawn_3 o)) (sCons (sCallV (o "_law_number") 0 (sCons (sC (.int 4)) sNil)) sNil))))) ρ := rfl
def S__law_drawn (o : Str → Orc) : SemS :=
    (sSeq (sAsg 1 (sCallV (o "_law_draw") 0 (sCons (sC (.int 3)) sNil)))
    (sSeq (sAsg 2 (sBin fAdd (sC (.int 1)) (sCallV (o "_law_draw") 0 (sCons (sC (.int 3)) sNil))))
    (sSeq (sAsg 3 (sArgs fLst sNil))
    (sSeq (sFor (iRg1 (sCons (sBin fDiv (sCallV (o "_law_draw") 0 (sCons (sC (.int 5)) sNil)) (sBin fAdd (sC (.int 1)) (sVar 1))) sNil)) (gN 4) (b__law_drawn_4 o))
    (sSeq (sIfS (sAnd (sAsT (sCmpV fGt 1 (sC (.int 0)))) (sAsT (sCmpV fEq 2 (sC (.int 1))))) (sSeq (sAsg 2 (sC (.int 2)))
    (sAsg 3 (sLc [10, 12] (iS (sVar 3)) (gN 12) sYes (e__law_drawn_2 o)))) sNx)
    (sSeq (sAsg 5 (sLc [10, 11] (iRg1 (sCons (sBin fSub (sVar 2) (sC (.int 2))) sNil)) (gN 11) sYes (e__law_drawn_1 o)))
    (sSeq (sIfS (sAsT (sCmpV fEq 1 (sC (.int 1)))) (sSeq (sAsg 6 (sBin fAdd (sC (.int 1)) (sCallV (o "_law_draw") 0 (sCons (sC (.int 2)) sNil))))
    (sSeq (sAsg 7 (sBin fMul (sVar 6) (sBin fAdd (sC (.int 1)) (sCallV (o "_law_draw") 0 (sCons (sC (.int 2)) sNil)))))
    (sSeq (sAsg 8 (sBin fMul (sVar 6) (sBin fAdd (sC (.int 1)) (sCallV (o "_law_draw") 0 (sCons (sC (.int 2)) sNil)))))
    (sSeq (sAsg 9 (sCallV (o "_law_number") 0 (sCons (sC (.int 4)) sNil)))
    (sSeq (sExp (sApp 3 (sArgs fLst (sCons (sBin fAdd (sArgs fLst (sCons (sVar 7) (sCons (sBin fSub (sC (.int 0)) (sVar 8)) sNil))) (sVar 5)) (sCons (sVar 9) sNil)))))
    (sExp (sApp 3 (sArgs fLst (sCons (sBin fAdd (sArgs fLst (sCons (sBin fSub (sC (.int 0)) (sVar 7)) (sCons (sVar 8) sNil))) (sVar 5)) (sCons (sBin fSub (sC (.int 0)) (sVar 9)) sNil)))))))))) sNx)
    (sSeq (sIfS (sAsT (sCmpV fEq 1 (sC (.int 2)))) (sSeq (sExp (sApp 3 (sArgs fLst (sCons (sBin fAdd (sArgs fLst (sCons (sC (.int 2)) (sCons (sBin fSub (sC (.int 0)) (sC (.int 1))) sNil))) (sVar 5)) (sCons (sCallV (o "_law_draw") 0 (sCons (sC (.int 5)) sNil)) sNil)))))
    (sSeq (sExp (sApp 3 (sArgs fLst (sCons (sBin fAdd (sArgs fLst (sCons (sBin fSub (sC (.int 0)) (sC (.int 1))) (sCons (sC (.int 1)) sNil))) (sVar 5)) (sCons (sC (.int 0)) sNil)))))
    (sExp (sApp 3 (sArgs fLst (sCons (sBin fAdd (sArgs fLst (sCons (sBin fSub (sC (.int 0)) (sC (.int 1))) (sCons (sC (.int 0)) sNil))) (sVar 5)) (sCons (sBin fSub (sC (.int 0)) (sCallV (o "_law_draw") 0 (sCons (sC (.int 5)) sNil))) sNil))))))) sNx)
    (sRet (sArgs fLst (sCons (sVar 3) (sCons (sVar 2) sNil))))))))))))
def d__law_drawn : DT := ⟨"_law_drawn", tp 43, ["pool", "kind", "length", "rows", "turn", "rest", "part", "first", "second", "right", ".0", "k", "pair"], ["pool"], true, S__law_drawn⟩
def b__law_ints_1 (o : Str → Orc) : SemS :=
    (sIfS (sOr (sNot (sTru (sIsi .int (sVar 3)))) (sOr (sTru (sIsi .bool (sVar 3))) (sAnd (sAsT (sCmpV fNotN 2 (sC .none))) (sAsT (sCmpV fLt 3 (sVar 2)))))) (sRet (sC (.bool false))) sNx)
@[simp] theorem b__law_ints_1_ap (o : Str → Orc) (ρ : Sr) : b__law_ints_1 o ρ =
    (sIfS (sOr (sNot (sTru (sIsi .int (sVar 3)))) (sOr (sTru (sIsi .bool (sVar 3))) (sAnd (sAsT (sCmpV fNotN 2 (sC .none))) (sAsT (sCmpV fLt 3 (sVar 2)))))) (sRet (sC (.bool false))) sNx) ρ := rfl
def S__law_ints (o : Str → Orc) : SemS :=
    (sSeq (sIfS (sOr (sNot (sTru (sIsi .tuple (sVar 0)))) (sAsT (sBin fNe (sLenV 0) (sVar 1)))) (sRet (sC (.bool false))) sNx)
    (sSeq (sFor (iS (sVar 0)) (gN 3) (b__law_ints_1 o))
    (sRet (sC (.bool true)))))
def d__law_ints : DT := ⟨"_law_ints", tp 44, ["told", "length", "least", "number"], ["told", "length", "least"], false, S__law_ints⟩
def e__law_sums_1 (o : Str → Orc) : SemE :=
    (sBin fIx (sIxV 5 (sC (.int 0))) (sVar 4))
@[simp] theorem e__law_sums_1_ap (o : Str → Orc) (ρ : Sr) : e__law_sums_1 o ρ =
    (sBin fIx (sIxV 5 (sC (.int 0))) (sVar 4)) ρ := rfl
def e__law_sums_2 (o : Str → Orc) : SemE :=
    (sCall (o "_law_dot") (sCons (sLc [3, 5] (iS (sVar 0)) (gN 5) sYes (e__law_sums_1 o)) (sCons (sVar 1) sNil)))
@[simp] theorem e__law_sums_2_ap (o : Str → Orc) (ρ : Sr) : e__law_sums_2 o ρ =
    (sCall (o "_law_dot") (sCons (sLc [3, 5] (iS (sVar 0)) (gN 5) sYes (e__law_sums_1 o)) (sCons (sVar 1) sNil))) ρ := rfl
def S__law_sums (o : Str → Orc) : SemS :=
    (sRet (sLc [3, 4] (iRg1 (sCons (sVar 2) sNil)) (gN 4) sYes (e__law_sums_2 o)))
def d__law_sums : DT := ⟨"_law_sums", tp 45, ["rows", "weights", "length", ".0", "k", "row"], ["rows", "weights", "length"], false, S__law_sums⟩
def b__law_put_1 (o : Str → Orc) : SemS :=
    (sExp (sApp 3 (sArgs fLst (sCons (sBin fAdd (sSl (sIxV 4 (sC (.int 0))) oNo (oSome (sVar 1))) (sSl (sIxV 4 (sC (.int 0))) (oSome (sBin fAdd (sVar 1) (sC (.int 1)))) oNo)) (sCons (sBin fSub (sIxV 4 (sC (.int 1))) (sBin fMul (sBin fIx (sIxV 4 (sC (.int 0))) (sVar 1)) (sVar 2))) sNil)))))
@[simp] theorem b__law_put_1_ap (o : Str → Orc) (ρ : Sr) : b__law_put_1 o ρ =
    (sExp (sApp 3 (sArgs fLst (sCons (sBin fAdd (sSl (sIxV 4 (sC (.int 0))) oNo (oSome (sVar 1))) (sSl (sIxV 4 (sC (.int 0))) (oSome (sBin fAdd (sVar 1) (sC (.int 1)))) oNo)) (sCons (sBin fSub (sIxV 4 (sC (.int 1))) (sBin fMul (sBin fIx (sIxV 4 (sC (.int 0))) (sVar 1)) (sVar 2))) sNil))))) ρ := rfl
def S__law_put (o : Str → Orc) : SemS :=
    (sSeq (sAsg 3 (sArgs fLst sNil))
    (sSeq (sFor (iS (sIxV 0 (sC (.int 0)))) (gN 4) (b__law_put_1 o))
    (sSeq (sAsg 5 (sArgs fList (sCons (sIxV 0 (sC (.int 2))) sNil)))
    (sSeq (sAsgG (gSbV 5 (sBin fIx (sIxV 0 (sC (.int 1))) (sVar 1))) (sVar 2))
    (sRet (sArgs fLst (sCons (sVar 3) (sCons (sBin fAdd (sSl (sIxV 0 (sC (.int 1))) oNo (oSome (sVar 1))) (sSl (sIxV 0 (sC (.int 1))) (oSome (sBin fAdd (sVar 1) (sC (.int 1)))) oNo)) (sCons (sVar 5) (sCons (sArgs fLst sNil) sNil))))))))))
def d__law_put : DT := ⟨"_law_put", tp 46, ["state", "place", "number", "rows", "pair", "numbers"], ["state", "place", "number"], false, S__law_put⟩
def e__law_capped_1 (o : Str → Orc) : SemE :=
    (sCall (o "_law_put") (sCons (sVar 0) (sCons (sVar 1) (sCons (sVar 8) sNil))))
@[simp] theorem e__law_capped_1_ap (o : Str → Orc) (ρ : Sr) : e__law_capped_1 o ρ =
    (sCall (o "_law_put") (sCons (sVar 0) (sCons (sVar 1) (sCons (sVar 8) sNil)))) ρ := rfl
def e__law_capped_2 (o : Str → Orc) : SemE :=
    (sIxV 9 (sC (.int 1)))
@[simp] theorem e__law_capped_2_ap (o : Str → Orc) (ρ : Sr) : e__law_capped_2 o ρ =
    (sIxV 9 (sC (.int 1))) ρ := rfl
def S__law_capped (o : Str → Orc) : SemS :=
    (sSeq (sAsg 3 (sIxV 0 (sC (.int 0))))
    (sSeq (sAsg 4 (sArgs fLen (sCons (sIxV 0 (sC (.int 1))) sNil)))
    (sSeq (sIfS (sOr (sAsT (sBin fNe (sLenV 2) (sC (.int 2)))) (sOr (sAsT (sBin fNe (sIxV 2 (sC (.int 0))) (sC (.str "cap")))) (sNot (sTru (sCall (o "_law_ints") (sCons (sIxV 2 (sC (.int 1))) (sCons (sLenV 3) (sCons (sC (.int 0)) sNil)))))))) (sRet (sC .none)) sNx)
    (sSeq (sAsg 5 (sCall (o "_law_sums") (sCons (sVar 3) (sCons (sIxV 2 (sC (.int 1))) (sCons (sVar 4) sNil)))))
    (sSeq (sIfS (sOr (sAsT (sBin fLt (sArgs fMin1 (sCons (sVar 5) sNil)) (sC (.int 0)))) (sAsT (sBin fLt (sIxV 5 (sVar 1)) (sC (.int 1))))) (sRet (sC .none)) sNx)
    (sSeq (sAsg 6 (sBin fDiv (sCall (o "_law_dot") (sCons (sLc [7, 9] (iS (sVar 3)) (gN 9) sYes (e__law_capped_2 o)) (sCons (sIxV 2 (sC (.int 1))) sNil))) (sIxV 5 (sVar 1))))
    (sSeq (sIfS (sAsT (sBin fNe (sCall (o "cap_bound") (sCons (sVar 3) (sCons (sIxV 2 (sC (.int 1))) (sCons (sVar 1) sNil)))) (sVar 6))) (sRet (sC .none)) sNx)
    (sRet (sLc [7, 8] (iRg1 (sCons (sArgs fMin2 (sCons (sC (.int 200)) (sCons (sBin fAdd (sVar 6) (sC (.int 1))) sNil))) sNil)) (gN 8) sYes (e__law_capped_1 o))))))))))
def d__law_capped : DT := ⟨"_law_capped", tp 47, ["state", "place", "told", "rows", "length", "sums", "bound", ".0", "number", "pair"], ["state", "place", "told"], false, S__law_capped⟩
def e__law_rested_1 (o : Str → Orc) : SemE :=
    (sArgs fLst (sCons (sVar 2) (sCons (sIxV 0 (sC (.int 1))) (sCons (sIxV 0 (sC (.int 2))) (sCons (sBin fAdd (sIxV 0 (sC (.int 3))) (sArgs fLst (sCons (sArgs fLst (sCons (sVar 1) (sCons (sVar 7) sNil))) sNil))) sNil)))))
@[simp] theorem e__law_rested_1_ap (o : Str → Orc) (ρ : Sr) : e__law_rested_1 o ρ =
    (sArgs fLst (sCons (sVar 2) (sCons (sIxV 0 (sC (.int 1))) (sCons (sIxV 0 (sC (.int 2))) (sCons (sBin fAdd (sIxV 0 (sC (.int 3))) (sArgs fLst (sCons (sArgs fLst (sCons (sVar 1) (sCons (sVar 7) sNil))) sNil))) sNil))))) ρ := rfl
def e__law_rested_2 (o : Str → Orc) : SemE :=
    (sIxV 8 (sC (.int 1)))
@[simp] theorem e__law_rested_2_ap (o : Str → Orc) (ρ : Sr) : e__law_rested_2 o ρ =
    (sIxV 8 (sC (.int 1))) ρ := rfl
def S__law_rested (o : Str → Orc) : SemS :=
    (sSeq (sAsg 2 (sIxV 0 (sC (.int 0))))
    (sSeq (sAsg 3 (sArgs fLen (sCons (sIxV 0 (sC (.int 1))) sNil)))
    (sSeq (sAsg 4 (sCall (o "loose_or_tight") (sCons (sVar 2) (sCons (sVar 3) (sCons (sVar 1) sNil)))))
    (sSeq (sIfS (sOr (sAsT (sBin fNe (sLenV 4) (sC (.int 2)))) (sOr (sAsT (sBin fNe (sIxV 4 (sC (.int 0))) (sC (.str "tight")))) (sOr (sNot (sTru (sCall (o "_law_ints") (sCons (sIxV 4 (sC (.int 1))) (sCons (sLenV 2) (sCons (sC (.int 0)) sNil)))))) (sAsT (sBin fLt (sBin fIx (sIxV 4 (sC (.int 1))) (sVar 1)) (sC (.int 1))))))) (sRet (sC .none)) sNx)
    (sSeq (sIfS (sTru (sArgs fAny (sCons (sCall (o "_law_sums") (sCons (sVar 2) (sCons (sIxV 4 (sC (.int 1))) (sCons (sVar 3) sNil)))) sNil))) (sRet (sC .none)) sNx)
    (sSeq (sAsg 5 (sBin fDiv (sCall (o "_law_dot") (sCons (sLc [6, 8] (iS (sVar 2)) (gN 8) sYes (e__law_rested_2 o)) (sCons (sIxV 4 (sC (.int 1))) sNil))) (sBin fIx (sIxV 4 (sC (.int 1))) (sVar 1))))
    (sSeq (sIfS (sAsT (sBin fNe (sCall (o "rest_bound") (sCons (sVar 2) (sCons (sIxV 4 (sC (.int 1))) (sCons (sVar 1) sNil)))) (sVar 5))) (sRet (sC .none)) sNx)
    (sRet (sLc [6, 7] (iRg1 (sCons (sArgs fMin2 (sCons (sC (.int 200)) (sCons (sBin fAdd (sVar 5) (sC (.int 1))) sNil))) sNil)) (gN 7) sYes (e__law_rested_1 o))))))))))
def d__law_rested : DT := ⟨"_law_rested", tp 48, ["state", "which", "rows", "length", "told", "bound", ".0", "rest", "pair"], ["state", "which"], false, S__law_rested⟩
def e__law_ended_1 (o : Str → Orc) : SemE :=
    (sBin fSub (sBin fIx (sIxV 1 (sIxV 10 (sC (.int 0)))) (sC (.int 1))) (sIxV 10 (sC (.int 1))))
@[simp] theorem e__law_ended_1_ap (o : Str → Orc) (ρ : Sr) : e__law_ended_1 o ρ =
    (sBin fSub (sBin fIx (sIxV 1 (sIxV 10 (sC (.int 0)))) (sC (.int 1))) (sIxV 10 (sC (.int 1)))) ρ := rfl
def e__law_ended_2 (o : Str → Orc) : SemE :=
    (sBin fMod (sArgs fInt (sCons (sVar 11) sNil)) (sIxV 3 (sC (.int 2))))
@[simp] theorem e__law_ended_2_ap (o : Str → Orc) (ρ : Sr) : e__law_ended_2 o ρ =
    (sBin fMod (sArgs fInt (sCons (sVar 11) sNil)) (sIxV 3 (sC (.int 2)))) ρ := rfl
def e__law_ended_3 (o : Str → Orc) : SemE :=
    (sIxV 1 (sIxV 10 (sC (.int 0))))
@[simp] theorem e__law_ended_3_ap (o : Str → Orc) (ρ : Sr) : e__law_ended_3 o ρ =
    (sIxV 1 (sIxV 10 (sC (.int 0)))) ρ := rfl
def b__law_ended_4 (o : Str → Orc) : SemS :=
    (sAsgG (gSbV 5 (sBin fIx (sIxV 0 (sC (.int 1))) (sVar 6))) (sBin fAdd (sBin fIx (sIxV 3 (sC (.int 1))) (sVar 6)) (sBin fMul (sVar 4) (sBin fIx (sIxV 3 (sC (.int 2))) (sVar 6)))))
@[simp] theorem b__law_ended_4_ap (o : Str → Orc) (ρ : Sr) : b__law_ended_4 o ρ =
    (sAsgG (gSbV 5 (sBin fIx (sIxV 0 (sC (.int 1))) (sVar 6))) (sBin fAdd (sBin fIx (sIxV 3 (sC (.int 1))) (sVar 6)) (sBin fMul (sVar 4) (sBin fIx (sIxV 3 (sC (.int 2))) (sVar 6))))) ρ := rfl
def S__law_ended (o : Str → Orc) : SemS :=
    (sSeq (sAsg 1 (sIxV 0 (sC (.int 0))))
    (sSeq (sAsg 2 (sArgs fLen (sCons (sIxV 0 (sC (.int 1))) sNil)))
    (sSeq (sAsg 3 (sCall (o "lifted") (sCons (sVar 1) (sCons (sVar 2) (sCons (sIxV 0 (sC (.int 3))) sNil)))))
    (sSeq (sIfS (sOr (sAsT (sBin fNe (sLenV 3) (sC (.int 3)))) (sNot (sTru (sCall (o "_law_ints") (sCons (sIxV 3 (sC (.int 1))) (sCons (sBin fIx (sArgs fLst (sCons (sArgs fLen (sCons (sIxV 0 (sC (.int 3))) sNil)) (sCons (sVar 2) sNil))) (sArgs fInt (sCons (sBin fEq (sIxV 3 (sC (.int 0))) (sC (.str "numbers"))) sNil))) (sCons (sC .none) sNil))))))) (sRet (sC .none)) sNx)
    (sSeq (sIfS (sAsT (sBin fEq (sIxV 3 (sC (.int 0))) (sC (.str "numbers")))) (sSeq (sIfS (sNot (sTru (sCall (o "_law_ints") (sCons (sIxV 3 (sC (.int 2))) (sCons (sVar 2) (sCons (sC (.int 1)) sNil)))))) (sRet (sC .none)) sNx)
    (sSeq (sAsg 4 (sCall (o "lift_from") (sCons (sVar 1) (sCons (sIxV 3 (sC (.int 1))) (sCons (sIxV 3 (sC (.int 2))) (sCons (sC (.int 0)) sNil))))))
    (sSeq (sAsg 5 (sArgs fList (sCons (sIxV 0 (sC (.int 2))) sNil)))
    (sSeq (sFor (iRg1 (sCons (sVar 2) sNil)) (gN 6) (b__law_ended_4 o))
    (sRet (sArgs fLst (sCons (sArgs fLst (sCons (sArgs fLst sNil) (sCons (sArgs fLst sNil) (sCons (sVar 5) (sCons (sArgs fLst sNil) sNil))))) sNil))))))) sNx)
    (sSeq (sAsg 7 (sLc [9, 10] (iS (sIxV 0 (sC (.int 3)))) (gN 10) sYes (e__law_ended_3 o)))
    (sSeq (sIfS (sNot (sTru (sCall (o "_law_ints") (sCons (sSl (sVar 3) (oSome (sC (.int 2))) oNo) (sCons (sC (.int 1)) (sCons (sC (.int 2)) sNil)))))) (sRet (sC .none)) sNx)
    (sSeq (sIfS (sTru (sArgs fAny (sCons (sLc [9, 11] (iS (sCall (o "_law_sums") (sCons (sVar 7) (sCons (sIxV 3 (sC (.int 1))) (sCons (sVar 2) sNil))))) (gN 11) sYes (e__law_ended_2 o)) sNil))) (sRet (sC .none)) sNx)
    (sSeq (sAsg 8 (sCall (o "_law_dot") (sCons (sLc [9, 10] (iS (sIxV 0 (sC (.int 3)))) (gN 10) sYes (e__law_ended_1 o)) (sCons (sIxV 3 (sC (.int 1))) sNil))))
    (sSeq (sIfS (sAsT (sBin fEq (sBin fMod (sArgs fInt (sCons (sVar 8) sNil)) (sIxV 3 (sC (.int 2)))) (sC (.int 0)))) (sRet (sC .none)) sNx)
    (sRet (sArgs fLst sNil))))))))))))
def d__law_ended : DT := ⟨"_law_ended", tp 49, ["state", "rows", "length", "told", "many", "numbers", "k", "parts", "right", ".0", "pair", "total"], ["state"], false, S__law_ended⟩
def b__law_turn_1 (o : Str → Orc) : SemS :=
    (sIfS (sAsT (sCmpV fNotIn 6 (sVar 5))) (sRet (sCall (o "_law_rested") (sCons (sVar 0) (sCons (sVar 6) sNil)))) sNx)
@[simp] theorem b__law_turn_1_ap (o : Str → Orc) (ρ : Sr) : b__law_turn_1 o ρ =
    (sIfS (sAsT (sCmpV fNotIn 6 (sVar 5))) (sRet (sCall (o "_law_rested") (sCons (sVar 0) (sCons (sVar 6) sNil)))) sNx) ρ := rfl
def e__law_turn_2 (o : Str → Orc) : SemE :=
    (sIxV 8 (sC (.int 0)))
@[simp] theorem e__law_turn_2_ap (o : Str → Orc) (ρ : Sr) : e__law_turn_2 o ρ =
    (sIxV 8 (sC (.int 0))) ρ := rfl
def b__law_turn_3 (o : Str → Orc) : SemS :=
    (sSeq (sAsg 4 (sCall (o "grow_or_cap") (sCons (sVar 1) (sCons (sVar 2) (sCons (sVar 3) sNil)))))
    (sIfS (sAsT (sBin fNe (sIxV 4 (sC (.int 0))) (sC (.str "grow")))) (sRet (sCall (o "_law_capped") (sCons (sVar 0) (sCons (sVar 3) (sCons (sVar 4) sNil))))) sNx))
@[simp] theorem b__law_turn_3_ap (o : Str → Orc) (ρ : Sr) : b__law_turn_3 o ρ =
    (sSeq (sAsg 4 (sCall (o "grow_or_cap") (sCons (sVar 1) (sCons (sVar 2) (sCons (sVar 3) sNil)))))
    (sIfS (sAsT (sBin fNe (sIxV 4 (sC (.int 0))) (sC (.str "grow")))) (sRet (sCall (o "_law_capped") (sCons (sVar 0) (sCons (sVar 3) (sCons (sVar 4) sNil))))) sNx)) ρ := rfl
def S__law_turn (o : Str → Orc) : SemS :=
    (sSeq (sAsg 1 (sIxV 0 (sC (.int 0))))
    (sSeq (sAsg 2 (sArgs fLen (sCons (sIxV 0 (sC (.int 1))) sNil)))
    (sSeq (sFor (iRg1 (sCons (sVar 2) sNil)) (gN 3) (b__law_turn_3 o))
    (sSeq (sAsg 5 (sLc [7, 8] (iS (sIxV 0 (sC (.int 3)))) (gN 8) sYes (e__law_turn_2 o)))
    (sSeq (sFor (iS (sCall (o "tight_rows") (sCons (sVar 1) (sCons (sVar 2) sNil)))) (gN 6) (b__law_turn_1 o))
    (sRet (sCall (o "_law_ended") (sCons (sVar 0) sNil))))))))
def d__law_turn : DT := ⟨"_law_turn", tp 50, ["state", "rows", "length", "place", "told", "done", "which", ".0", "pair"], ["state"], false, S__law_turn⟩
def e__law_settled_1 (o : Str → Orc) : SemE :=
    (sBin fGe (sIxV 9 (sC (.int 1))) (sC (.int 0)))
@[simp] theorem e__law_settled_1_ap (o : Str → Orc) (ρ : Sr) : e__law_settled_1 o ρ =
    (sBin fGe (sIxV 9 (sC (.int 1))) (sC (.int 0))) ρ := rfl
def b__law_settled_2 (o : Str → Orc) : SemS :=
    (sExp (sApp 2 (sVar 6)))
@[simp] theorem b__law_settled_2_ap (o : Str → Orc) (ρ : Sr) : b__law_settled_2 o ρ =
    (sExp (sApp 2 (sVar 6))) ρ := rfl
def b__law_settled_3 (o : Str → Orc) : SemS :=
    (sSeq (sIfS (sAsT (sCmpV fEq 2 (sArgs fLst sNil))) (sRet (sArgs fLst (sCons (sC (.str "none")) (sCons (sArgs fLst sNil) sNil)))) sNx)
    (sSeq (sAsg 4 (sPop 2))
    (sIfS (sAsT (sBin fEq (sIxV 4 (sC (.int 1))) (sArgs fLst sNil))) (sIfS (sTru (sArgs fAll (sCons (sLc [7, 9] (iS (sIxV 4 (sC (.int 0)))) (gN 9) sYes (e__law_settled_1 o)) sNil))) (sRet (sArgs fLst (sCons (sC (.str "found")) (sCons (sIxV 4 (sC (.int 2))) sNil)))) sNx) (sSeq (sAsg 5 (sC .none))
    (sSeq (sAsg 5 (sCall (o "_law_turn") (sCons (sVar 4) sNil)))
    (sSeq (sIfS (sAsT (sCmpV fIsN 5 (sC .none))) (sRet (sArgs fLst (sCons (sC (.str "wrong")) (sCons (sArgs fLst sNil) sNil)))) sNx)
    (sFor (iS (sVar 5)) (gN 6) (b__law_settled_2 o))))))))
@[simp] theorem b__law_settled_3_ap (o : Str → Orc) (ρ : Sr) : b__law_settled_3 o ρ =
    (sSeq (sIfS (sAsT (sCmpV fEq 2 (sArgs fLst sNil))) (sRet (sArgs fLst (sCons (sC (.str "none")) (sCons (sArgs fLst sNil) sNil)))) sNx)
    (sSeq (sAsg 4 (sPop 2))
    (sIfS (sAsT (sBin fEq (sIxV 4 (sC (.int 1))) (sArgs fLst sNil))) (sIfS (sTru (sArgs fAll (sCons (sLc [7, 9] (iS (sIxV 4 (sC (.int 0)))) (gN 9) sYes (e__law_settled_1 o)) sNil))) (sRet (sArgs fLst (sCons (sC (.str "found")) (sCons (sIxV 4 (sC (.int 2))) sNil)))) sNx) (sSeq (sAsg 5 (sC .none))
    (sSeq (sAsg 5 (sCall (o "_law_turn") (sCons (sVar 4) sNil)))
    (sSeq (sIfS (sAsT (sCmpV fIsN 5 (sC .none))) (sRet (sArgs fLst (sCons (sC (.str "wrong")) (sCons (sArgs fLst sNil) sNil)))) sNx)
    (sFor (iS (sVar 5)) (gN 6) (b__law_settled_2 o)))))))) ρ := rfl
def e__law_settled_4 (o : Str → Orc) : SemE :=
    (sC (.int 0))
@[simp] theorem e__law_settled_4_ap (o : Str → Orc) (ρ : Sr) : e__law_settled_4 o ρ =
    (sC (.int 0)) ρ := rfl
def e__law_settled_5 (o : Str → Orc) : SemE :=
    (sVar 8)
@[simp] theorem e__law_settled_5_ap (o : Str → Orc) (ρ : Sr) : e__law_settled_5 o ρ =
    (sVar 8) ρ := rfl
def S__law_settled (o : Str → Orc) : SemS :=
    (sSeq (sAsg 2 (sArgs fLst (sCons (sArgs fLst (sCons (sVar 0) (sCons (sLc [7, 8] (iRg1 (sCons (sVar 1) sNil)) (gN 8) sYes (e__law_settled_5 o)) (sCons (sLc [7, 8] (iRg1 (sCons (sVar 1) sNil)) (gN 8) sYes (e__law_settled_4 o)) (sCons (sArgs fLst sNil) sNil))))) sNil)))
    (sSeq (sFor (iRg1 (sCons (sC (.int 80)) sNil)) (gN 3) (b__law_settled_3 o))
    (sRet (sArgs fLst (sCons (sC (.str "late")) (sCons (sArgs fLst sNil) sNil))))))
def d__law_settled : DT := ⟨"_law_settled", tp 51, ["rows", "length", "work", "turn", "state", "more", "child", ".0", "k", "pair"], ["rows", "length"], false, S__law_settled⟩
def e__law_kept_1 (o : Str → Orc) : SemE :=
    (sBin fLe (sCall (o "_law_dot") (sCons (sIxV 8 (sC (.int 0))) (sCons (sVar 7) sNil))) (sIxV 8 (sC (.int 1))))
@[simp] theorem e__law_kept_1_ap (o : Str → Orc) (ρ : Sr) : e__law_kept_1 o ρ =
    (sBin fLe (sCall (o "_law_dot") (sCons (sIxV 8 (sC (.int 0))) (sCons (sVar 7) sNil))) (sIxV 8 (sC (.int 1)))) ρ := rfl
def t__law_kept_2 (o : Str → Orc) : SemT :=
    (sTru (sArgs fAll (sCons (sLc [6, 8] (iS (sVar 0)) (gN 8) sYes (e__law_kept_1 o)) sNil)))
@[simp] theorem t__law_kept_2_ap (o : Str → Orc) (ρ : Sr) : t__law_kept_2 o ρ =
    (sTru (sArgs fAll (sCons (sLc [6, 8] (iS (sVar 0)) (gN 8) sYes (e__law_kept_1 o)) sNil))) ρ := rfl
def e__law_kept_3 (o : Str → Orc) : SemE :=
    (sVar 7)
@[simp] theorem e__law_kept_3_ap (o : Str → Orc) (ρ : Sr) : e__law_kept_3 o ρ =
    (sVar 7) ρ := rfl
def b__law_kept_4 (o : Str → Orc) : SemS :=
    (sExp (sApp 4 (sBin fAdd (sIxV 2 (sBin fDiv (sVar 5) (sC (.int 4)))) (sArgs fLst (sCons (sBin fMod (sArgs fInt (sCons (sVar 5) sNil)) (sC (.int 4))) sNil)))))
@[simp] theorem b__law_kept_4_ap (o : Str → Orc) (ρ : Sr) : b__law_kept_4 o ρ =
    (sExp (sApp 4 (sBin fAdd (sIxV 2 (sBin fDiv (sVar 5) (sC (.int 4)))) (sArgs fLst (sCons (sBin fMod (sArgs fInt (sCons (sVar 5) sNil)) (sC (.int 4))) sNil))))) ρ := rfl
def b__law_kept_5 (o : Str → Orc) : SemS :=
    (sSeq (sAsg 4 (sArgs fLst sNil))
    (sSeq (sFor (iRg1 (sCons (sBin fMul (sC (.int 4)) (sLenV 2)) sNil)) (gN 5) (b__law_kept_4 o))
    (sAsg 2 (sVar 4))))
@[simp] theorem b__law_kept_5_ap (o : Str → Orc) (ρ : Sr) : b__law_kept_5 o ρ =
    (sSeq (sAsg 4 (sArgs fLst sNil))
    (sSeq (sFor (iRg1 (sCons (sBin fMul (sC (.int 4)) (sLenV 2)) sNil)) (gN 5) (b__law_kept_4 o))
    (sAsg 2 (sVar 4)))) ρ := rfl
def S__law_kept (o : Str → Orc) : SemS :=
    (sSeq (sAsg 2 (sArgs fLst (sCons (sArgs fLst sNil) sNil)))
    (sSeq (sFor (iRg1 (sCons (sVar 1) sNil)) (gN 3) (b__law_kept_5 o))
    (sRet (sLc [6, 7] (iS (sVar 2)) (gN 7) (t__law_kept_2 o) (e__law_kept_3 o)))))
def d__law_kept : DT := ⟨"_law_kept", tp 52, ["rows", "length", "found", "turn", "longer", "at", ".0", "numbers", "pair"], ["rows", "length"], false, S__law_kept⟩
def e_law_1 (o : Str → Orc) : SemE :=
    (sBin fLe (sCall (o "_law_dot") (sCons (sIxV 7 (sC (.int 0))) (sCons (sIxV 5 (sC (.int 1))) sNil))) (sIxV 7 (sC (.int 1))))
@[simp] theorem e_law_1_ap (o : Str → Orc) (ρ : Sr) : e_law_1 o ρ =
    (sBin fLe (sCall (o "_law_dot") (sCons (sIxV 7 (sC (.int 0))) (sCons (sIxV 5 (sC (.int 1))) sNil))) (sIxV 7 (sC (.int 1)))) ρ := rfl
def e_law_2 (o : Str → Orc) : SemE :=
    (sArgs fLst (sCons (sArgs fList (sCons (sIxV 7 (sC (.int 0))) sNil)) (sCons (sIxV 7 (sC (.int 1))) sNil)))
@[simp] theorem e_law_2_ap (o : Str → Orc) (ρ : Sr) : e_law_2 o ρ =
    (sArgs fLst (sCons (sArgs fList (sCons (sIxV 7 (sC (.int 0))) sNil)) (sCons (sIxV 7 (sC (.int 1))) sNil))) ρ := rfl
def S_law (o : Str → Orc) : SemS :=
    (sSeq (sAsg 1 (sCallN (o "_law_drawn") (sCallV (o "_law_pool") 0 sNil) sNil))
    (sSeq (sAsg 2 (sIxV 1 (sC (.int 0))))
    (sSeq (sAsg 3 (sIxV 1 (sC (.int 1))))
    (sSeq (sAsg 4 (sLc [6, 7] (iS (sVar 2)) (gN 7) sYes (e_law_2 o)))
    (sSeq (sAsg 5 (sCall (o "_law_settled") (sCons (sVar 2) (sCons (sVar 3) sNil))))
    (sSeq (sIfS (sOr (sAsT (sBin fEq (sIxV 5 (sC (.int 0))) (sC (.str "wrong")))) (sAsT (sCmpV fNe 2 (sVar 4)))) (sRet (sC (.bool false))) sNx)
    (sSeq (sIfS (sAsT (sBin fEq (sIxV 5 (sC (.int 0))) (sC (.str "none")))) (sRet (sBin fEq (sCall (o "_law_kept") (sCons (sVar 4) (sCons (sVar 3) sNil))) (sArgs fLst sNil))) sNx)
    (sSeq (sIfS (sAsT (sBin fEq (sIxV 5 (sC (.int 0))) (sC (.str "found")))) (sSeq (sIfS (sAsT (sBin fLt (sArgs fMin1 (sCons (sIxV 5 (sC (.int 1))) sNil)) (sC (.int 0)))) (sRet (sC (.bool false))) sNx)
    (sRet (sArgs fAll (sCons (sLc [6, 7] (iS (sVar 4)) (gN 7) sYes (e_law_1 o)) sNil)))) sNx)
    (sRet (sC (.bool true)))))))))))
def d_law : DT := ⟨"law", tp 53, ["script", "drawn", "rows", "length", "before", "told", ".0", "pair"], ["script"], true, S_law⟩
def tb : List DT := [d_whole_from, d_sum_length, d_sum_place, d_sum_rows, d_lessened, d_row_at, d_mixed, d_grow_turn, d_grow_weights, d_grow_numbers, d_grow_towards, d_grow_unit, d_grow_sum, d_grow_or_cap, d_all_growing, d_cap_bound, d_rest_side, d_rest_parts, d_loose_or_tight, d_rest_bound, d_tight_rows, d_whole_clear, d_whole_stair, d_whole_readers, d_whole, d_lift_by, d_lifted, d_lift_from, d__law_pool, d__law_mixed, d__law_draw, d__law_dot, d__law_number, d__law_drawn, d__law_ints, d__law_sums, d__law_put, d__law_capped, d__law_rested, d__law_ended, d__law_turn, d__law_settled, d__law_kept, d_law]
theorem ok_whole_from : DOk tb d_whole_from := ⟨⟨by kernel_rfl, by kernel_rfl, by kernel_rfl, by decide +kernel, by kernel_rfl, by decide +kernel, by decide +kernel⟩, fun o => by kernel_rfl⟩
theorem ok_sum_length : DOk tb d_sum_length := ⟨⟨by kernel_rfl, by kernel_rfl, by kernel_rfl, by decide +kernel, by kernel_rfl, by decide +kernel, by decide +kernel⟩, fun o => by kernel_rfl⟩
theorem ok_sum_place : DOk tb d_sum_place := ⟨⟨by kernel_rfl, by kernel_rfl, by kernel_rfl, by decide +kernel, by kernel_rfl, by decide +kernel, by decide +kernel⟩, fun o => by kernel_rfl⟩
theorem ok_sum_rows : DOk tb d_sum_rows := ⟨⟨by kernel_rfl, by kernel_rfl, by kernel_rfl, by decide +kernel, by kernel_rfl, by decide +kernel, by decide +kernel⟩, fun o => by kernel_rfl⟩
theorem ok_lessened : DOk tb d_lessened := ⟨⟨by kernel_rfl, by kernel_rfl, by kernel_rfl, by decide +kernel, by kernel_rfl, by decide +kernel, by decide +kernel⟩, fun o => by kernel_rfl⟩
theorem ok_row_at : DOk tb d_row_at := ⟨⟨by kernel_rfl, by kernel_rfl, by kernel_rfl, by decide +kernel, by kernel_rfl, by decide +kernel, by decide +kernel⟩, fun o => by kernel_rfl⟩
theorem ok_mixed : DOk tb d_mixed := ⟨⟨by kernel_rfl, by kernel_rfl, by kernel_rfl, by decide +kernel, by kernel_rfl, by decide +kernel, by decide +kernel⟩, fun o => by kernel_rfl⟩
theorem ok_grow_turn : DOk tb d_grow_turn := ⟨⟨by kernel_rfl, by kernel_rfl, by kernel_rfl, by decide +kernel, by kernel_rfl, by decide +kernel, by decide +kernel⟩, fun o => by kernel_rfl⟩
theorem ok_grow_weights : DOk tb d_grow_weights := ⟨⟨by kernel_rfl, by kernel_rfl, by kernel_rfl, by decide +kernel, by kernel_rfl, by decide +kernel, by decide +kernel⟩, fun o => by kernel_rfl⟩
theorem ok_grow_numbers : DOk tb d_grow_numbers := ⟨⟨by kernel_rfl, by kernel_rfl, by kernel_rfl, by decide +kernel, by kernel_rfl, by decide +kernel, by decide +kernel⟩, fun o => by kernel_rfl⟩
theorem ok_grow_towards : DOk tb d_grow_towards := ⟨⟨by kernel_rfl, by kernel_rfl, by kernel_rfl, by decide +kernel, by kernel_rfl, by decide +kernel, by decide +kernel⟩, fun o => by kernel_rfl⟩
theorem ok_grow_unit : DOk tb d_grow_unit := ⟨⟨by kernel_rfl, by kernel_rfl, by kernel_rfl, by decide +kernel, by kernel_rfl, by decide +kernel, by decide +kernel⟩, fun o => by kernel_rfl⟩
theorem ok_grow_sum : DOk tb d_grow_sum := ⟨⟨by kernel_rfl, by kernel_rfl, by kernel_rfl, by decide +kernel, by kernel_rfl, by decide +kernel, by decide +kernel⟩, fun o => by kernel_rfl⟩
theorem ok_grow_or_cap : DOk tb d_grow_or_cap := ⟨⟨by kernel_rfl, by kernel_rfl, by kernel_rfl, by decide +kernel, by kernel_rfl, by decide +kernel, by decide +kernel⟩, fun o => by kernel_rfl⟩
theorem ok_all_growing : DOk tb d_all_growing := ⟨⟨by kernel_rfl, by kernel_rfl, by kernel_rfl, by decide +kernel, by kernel_rfl, by decide +kernel, by decide +kernel⟩, fun o => by kernel_rfl⟩
theorem ok_cap_bound : DOk tb d_cap_bound := ⟨⟨by kernel_rfl, by kernel_rfl, by kernel_rfl, by decide +kernel, by kernel_rfl, by decide +kernel, by decide +kernel⟩, fun o => by kernel_rfl⟩
theorem ok_rest_side : DOk tb d_rest_side := ⟨⟨by kernel_rfl, by kernel_rfl, by kernel_rfl, by decide +kernel, by kernel_rfl, by decide +kernel, by decide +kernel⟩, fun o => by kernel_rfl⟩
theorem ok_rest_parts : DOk tb d_rest_parts := ⟨⟨by kernel_rfl, by kernel_rfl, by kernel_rfl, by decide +kernel, by kernel_rfl, by decide +kernel, by decide +kernel⟩, fun o => by kernel_rfl⟩
theorem ok_loose_or_tight : DOk tb d_loose_or_tight := ⟨⟨by kernel_rfl, by kernel_rfl, by kernel_rfl, by decide +kernel, by kernel_rfl, by decide +kernel, by decide +kernel⟩, fun o => by kernel_rfl⟩
theorem ok_rest_bound : DOk tb d_rest_bound := ⟨⟨by kernel_rfl, by kernel_rfl, by kernel_rfl, by decide +kernel, by kernel_rfl, by decide +kernel, by decide +kernel⟩, fun o => by kernel_rfl⟩
theorem ok_tight_rows : DOk tb d_tight_rows := ⟨⟨by kernel_rfl, by kernel_rfl, by kernel_rfl, by decide +kernel, by kernel_rfl, by decide +kernel, by decide +kernel⟩, fun o => by kernel_rfl⟩
theorem ok_whole_clear : DOk tb d_whole_clear := ⟨⟨by kernel_rfl, by kernel_rfl, by kernel_rfl, by decide +kernel, by kernel_rfl, by decide +kernel, by decide +kernel⟩, fun o => by kernel_rfl⟩
theorem ok_whole_stair : DOk tb d_whole_stair := ⟨⟨by kernel_rfl, by kernel_rfl, by kernel_rfl, by decide +kernel, by kernel_rfl, by decide +kernel, by decide +kernel⟩, fun o => by kernel_rfl⟩
theorem ok_whole_readers : DOk tb d_whole_readers := ⟨⟨by kernel_rfl, by kernel_rfl, by kernel_rfl, by decide +kernel, by kernel_rfl, by decide +kernel, by decide +kernel⟩, fun o => by kernel_rfl⟩
theorem ok_whole : DOk tb d_whole := ⟨⟨by kernel_rfl, by kernel_rfl, by kernel_rfl, by decide +kernel, by kernel_rfl, by decide +kernel, by decide +kernel⟩, fun o => by kernel_rfl⟩
theorem ok_lift_by : DOk tb d_lift_by := ⟨⟨by kernel_rfl, by kernel_rfl, by kernel_rfl, by decide +kernel, by kernel_rfl, by decide +kernel, by decide +kernel⟩, fun o => by kernel_rfl⟩
theorem ok_lifted : DOk tb d_lifted := ⟨⟨by kernel_rfl, by kernel_rfl, by kernel_rfl, by decide +kernel, by kernel_rfl, by decide +kernel, by decide +kernel⟩, fun o => by kernel_rfl⟩
theorem ok_lift_from : DOk tb d_lift_from := ⟨⟨by kernel_rfl, by kernel_rfl, by kernel_rfl, by decide +kernel, by kernel_rfl, by decide +kernel, by decide +kernel⟩, fun o => by kernel_rfl⟩
theorem ok__law_pool : DOk tb d__law_pool := ⟨⟨by kernel_rfl, by kernel_rfl, by kernel_rfl, by decide +kernel, by kernel_rfl, by decide +kernel, by decide +kernel⟩, fun o => by kernel_rfl⟩
theorem ok__law_mixed : DOk tb d__law_mixed := ⟨⟨by kernel_rfl, by kernel_rfl, by kernel_rfl, by decide +kernel, by kernel_rfl, by decide +kernel, by decide +kernel⟩, fun o => by kernel_rfl⟩
theorem ok__law_draw : DOk tb d__law_draw := ⟨⟨by kernel_rfl, by kernel_rfl, by kernel_rfl, by decide +kernel, by kernel_rfl, by decide +kernel, by decide +kernel⟩, fun o => by kernel_rfl⟩
theorem ok__law_dot : DOk tb d__law_dot := ⟨⟨by kernel_rfl, by kernel_rfl, by kernel_rfl, by decide +kernel, by kernel_rfl, by decide +kernel, by decide +kernel⟩, fun o => by kernel_rfl⟩
theorem ok__law_number : DOk tb d__law_number := ⟨⟨by kernel_rfl, by kernel_rfl, by kernel_rfl, by decide +kernel, by kernel_rfl, by decide +kernel, by decide +kernel⟩, fun o => by kernel_rfl⟩
theorem ok__law_drawn : DOk tb d__law_drawn := ⟨⟨by kernel_rfl, by kernel_rfl, by kernel_rfl, by decide +kernel, by kernel_rfl, by decide +kernel, by decide +kernel⟩, fun o => by kernel_rfl⟩
theorem ok__law_ints : DOk tb d__law_ints := ⟨⟨by kernel_rfl, by kernel_rfl, by kernel_rfl, by decide +kernel, by kernel_rfl, by decide +kernel, by decide +kernel⟩, fun o => by kernel_rfl⟩
theorem ok__law_sums : DOk tb d__law_sums := ⟨⟨by kernel_rfl, by kernel_rfl, by kernel_rfl, by decide +kernel, by kernel_rfl, by decide +kernel, by decide +kernel⟩, fun o => by kernel_rfl⟩
theorem ok__law_put : DOk tb d__law_put := ⟨⟨by kernel_rfl, by kernel_rfl, by kernel_rfl, by decide +kernel, by kernel_rfl, by decide +kernel, by decide +kernel⟩, fun o => by kernel_rfl⟩
theorem ok__law_capped : DOk tb d__law_capped := ⟨⟨by kernel_rfl, by kernel_rfl, by kernel_rfl, by decide +kernel, by kernel_rfl, by decide +kernel, by decide +kernel⟩, fun o => by kernel_rfl⟩
theorem ok__law_rested : DOk tb d__law_rested := ⟨⟨by kernel_rfl, by kernel_rfl, by kernel_rfl, by decide +kernel, by kernel_rfl, by decide +kernel, by decide +kernel⟩, fun o => by kernel_rfl⟩
theorem ok__law_ended : DOk tb d__law_ended := ⟨⟨by kernel_rfl, by kernel_rfl, by kernel_rfl, by decide +kernel, by kernel_rfl, by decide +kernel, by decide +kernel⟩, fun o => by kernel_rfl⟩
theorem ok__law_turn : DOk tb d__law_turn := ⟨⟨by kernel_rfl, by kernel_rfl, by kernel_rfl, by decide +kernel, by kernel_rfl, by decide +kernel, by decide +kernel⟩, fun o => by kernel_rfl⟩
theorem ok__law_settled : DOk tb d__law_settled := ⟨⟨by kernel_rfl, by kernel_rfl, by kernel_rfl, by decide +kernel, by kernel_rfl, by decide +kernel, by decide +kernel⟩, fun o => by kernel_rfl⟩
theorem ok__law_kept : DOk tb d__law_kept := ⟨⟨by kernel_rfl, by kernel_rfl, by kernel_rfl, by decide +kernel, by kernel_rfl, by decide +kernel, by decide +kernel⟩, fun o => by kernel_rfl⟩
theorem ok_law : DOk tb d_law := ⟨⟨by kernel_rfl, by kernel_rfl, by kernel_rfl, by decide +kernel, by kernel_rfl, by decide +kernel, by decide +kernel⟩, fun o => by kernel_rfl⟩
theorem ao_whole_from : argsOk d_whole_from := fun _ _ _ _ _ _ _ _ _ _ us hl => match us, hl with | [_, _], _ => rfl
theorem ao_sum_length : argsOk d_sum_length := fun _ _ _ _ _ _ _ _ _ _ us hl => match us, hl with | [_, _, _], _ => rfl
theorem ao_sum_place : argsOk d_sum_place := fun _ _ _ _ _ _ _ _ _ _ us hl => match us, hl with | [_, _], _ => rfl
theorem ao_sum_rows : argsOk d_sum_rows := fun _ _ _ _ _ _ _ _ _ _ us hl => match us, hl with | [_, _], _ => rfl
theorem ao_lessened : argsOk d_lessened := fun _ _ _ _ _ _ _ _ _ _ us hl => match us, hl with | [_], _ => rfl
theorem ao_row_at : argsOk d_row_at := fun _ _ _ _ _ _ _ _ _ _ us hl => match us, hl with | [_, _], _ => rfl
theorem ao_mixed : argsOk d_mixed := fun _ _ _ _ _ _ _ _ _ _ us hl => match us, hl with | [_, _], _ => rfl
theorem ao_grow_turn : argsOk d_grow_turn := fun _ _ _ _ _ _ _ _ _ _ us hl => match us, hl with | [_, _, _, _], _ => rfl
theorem ao_grow_weights : argsOk d_grow_weights := fun _ _ _ _ _ _ _ _ _ _ us hl => match us, hl with | [_, _, _, _], _ => rfl
theorem ao_grow_numbers : argsOk d_grow_numbers := fun _ _ _ _ _ _ _ _ _ _ us hl => match us, hl with | [_, _, _, _, _], _ => rfl
theorem ao_grow_towards : argsOk d_grow_towards := fun _ _ _ _ _ _ _ _ _ _ us hl => match us, hl with | [_, _, _], _ => rfl
theorem ao_grow_unit : argsOk d_grow_unit := fun _ _ _ _ _ _ _ _ _ _ us hl => match us, hl with | [_, _], _ => rfl
theorem ao_grow_sum : argsOk d_grow_sum := fun _ _ _ _ _ _ _ _ _ _ us hl => match us, hl with | [_, _], _ => rfl
theorem ao_grow_or_cap : argsOk d_grow_or_cap := fun _ _ _ _ _ _ _ _ _ _ us hl => match us, hl with | [_, _, _], _ => rfl
theorem ao_all_growing : argsOk d_all_growing := fun _ _ _ _ _ _ _ _ _ _ us hl => match us, hl with | [_, _], _ => rfl
theorem ao_cap_bound : argsOk d_cap_bound := fun _ _ _ _ _ _ _ _ _ _ us hl => match us, hl with | [_, _, _], _ => rfl
theorem ao_rest_side : argsOk d_rest_side := fun _ _ _ _ _ _ _ _ _ _ us hl => match us, hl with | [_, _], _ => rfl
theorem ao_rest_parts : argsOk d_rest_parts := fun _ _ _ _ _ _ _ _ _ _ us hl => match us, hl with | [_, _], _ => rfl
theorem ao_loose_or_tight : argsOk d_loose_or_tight := fun _ _ _ _ _ _ _ _ _ _ us hl => match us, hl with | [_, _, _], _ => rfl
theorem ao_rest_bound : argsOk d_rest_bound := fun _ _ _ _ _ _ _ _ _ _ us hl => match us, hl with | [_, _, _], _ => rfl
theorem ao_tight_rows : argsOk d_tight_rows := fun _ _ _ _ _ _ _ _ _ _ us hl => match us, hl with | [_, _], _ => rfl
theorem ao_whole_clear : argsOk d_whole_clear := fun _ _ _ _ _ _ _ _ _ _ us hl => match us, hl with | [_, _, _], _ => rfl
theorem ao_whole_stair : argsOk d_whole_stair := fun _ _ _ _ _ _ _ _ _ _ us hl => match us, hl with | [_, _], _ => rfl
theorem ao_whole_readers : argsOk d_whole_readers := fun _ _ _ _ _ _ _ _ _ _ us hl => match us, hl with | [_, _], _ => rfl
theorem ao_whole : argsOk d_whole := fun _ _ _ _ _ _ _ _ _ _ us hl => match us, hl with | [_, _], _ => rfl
theorem ao_lift_by : argsOk d_lift_by := fun _ _ _ _ _ _ _ _ _ _ us hl => match us, hl with | [_, _, _, _], _ => rfl
theorem ao_lifted : argsOk d_lifted := fun _ _ _ _ _ _ _ _ _ _ us hl => match us, hl with | [_, _, _], _ => rfl
theorem ao_lift_from : argsOk d_lift_from := fun _ _ _ _ _ _ _ _ _ _ us hl => match us, hl with | [_, _, _, _], _ => rfl
theorem ao__law_pool : argsOk d__law_pool := fun _ _ _ _ _ _ _ _ _ _ us hl => match us, hl with | [_], _ => rfl
theorem ao__law_mixed : argsOk d__law_mixed := fun _ _ _ _ _ _ _ _ _ _ us hl => match us, hl with | [_, _], _ => rfl
theorem ao__law_draw : argsOk d__law_draw := fun _ _ _ _ _ _ _ _ _ _ us hl => match us, hl with | [_, _], _ => rfl
theorem ao__law_dot : argsOk d__law_dot := fun _ _ _ _ _ _ _ _ _ _ us hl => match us, hl with | [_, _], _ => rfl
theorem ao__law_number : argsOk d__law_number := fun _ _ _ _ _ _ _ _ _ _ us hl => match us, hl with | [_, _], _ => rfl
theorem ao__law_drawn : argsOk d__law_drawn := fun _ _ _ _ _ _ _ _ _ _ us hl => match us, hl with | [_], _ => rfl
theorem ao__law_ints : argsOk d__law_ints := fun _ _ _ _ _ _ _ _ _ _ us hl => match us, hl with | [_, _, _], _ => rfl
theorem ao__law_sums : argsOk d__law_sums := fun _ _ _ _ _ _ _ _ _ _ us hl => match us, hl with | [_, _, _], _ => rfl
theorem ao__law_put : argsOk d__law_put := fun _ _ _ _ _ _ _ _ _ _ us hl => match us, hl with | [_, _, _], _ => rfl
theorem ao__law_capped : argsOk d__law_capped := fun _ _ _ _ _ _ _ _ _ _ us hl => match us, hl with | [_, _, _], _ => rfl
theorem ao__law_rested : argsOk d__law_rested := fun _ _ _ _ _ _ _ _ _ _ us hl => match us, hl with | [_, _], _ => rfl
theorem ao__law_ended : argsOk d__law_ended := fun _ _ _ _ _ _ _ _ _ _ us hl => match us, hl with | [_], _ => rfl
theorem ao__law_turn : argsOk d__law_turn := fun _ _ _ _ _ _ _ _ _ _ us hl => match us, hl with | [_], _ => rfl
theorem ao__law_settled : argsOk d__law_settled := fun _ _ _ _ _ _ _ _ _ _ us hl => match us, hl with | [_, _], _ => rfl
theorem ao__law_kept : argsOk d__law_kept := fun _ _ _ _ _ _ _ _ _ _ us hl => match us, hl with | [_, _], _ => rfl
theorem ao_law : argsOk d_law := fun _ _ _ _ _ _ _ _ _ _ us hl => match us, hl with | [_], _ => rfl
theorem oks : ∀ d ∈ tb, DOk tb d := (List.forall_mem_cons.mpr ⟨ok_whole_from,
    (List.forall_mem_cons.mpr ⟨ok_sum_length,
    (List.forall_mem_cons.mpr ⟨ok_sum_place,
    (List.forall_mem_cons.mpr ⟨ok_sum_rows,
    (List.forall_mem_cons.mpr ⟨ok_lessened,
    (List.forall_mem_cons.mpr ⟨ok_row_at,
    (List.forall_mem_cons.mpr ⟨ok_mixed,
    (List.forall_mem_cons.mpr ⟨ok_grow_turn,
    (List.forall_mem_cons.mpr ⟨ok_grow_weights,
    (List.forall_mem_cons.mpr ⟨ok_grow_numbers,
    (List.forall_mem_cons.mpr ⟨ok_grow_towards,
    (List.forall_mem_cons.mpr ⟨ok_grow_unit,
    (List.forall_mem_cons.mpr ⟨ok_grow_sum,
    (List.forall_mem_cons.mpr ⟨ok_grow_or_cap,
    (List.forall_mem_cons.mpr ⟨ok_all_growing,
    (List.forall_mem_cons.mpr ⟨ok_cap_bound,
    (List.forall_mem_cons.mpr ⟨ok_rest_side,
    (List.forall_mem_cons.mpr ⟨ok_rest_parts,
    (List.forall_mem_cons.mpr ⟨ok_loose_or_tight,
    (List.forall_mem_cons.mpr ⟨ok_rest_bound,
    (List.forall_mem_cons.mpr ⟨ok_tight_rows,
    (List.forall_mem_cons.mpr ⟨ok_whole_clear,
    (List.forall_mem_cons.mpr ⟨ok_whole_stair,
    (List.forall_mem_cons.mpr ⟨ok_whole_readers,
    (List.forall_mem_cons.mpr ⟨ok_whole,
    (List.forall_mem_cons.mpr ⟨ok_lift_by,
    (List.forall_mem_cons.mpr ⟨ok_lifted,
    (List.forall_mem_cons.mpr ⟨ok_lift_from,
    (List.forall_mem_cons.mpr ⟨ok__law_pool,
    (List.forall_mem_cons.mpr ⟨ok__law_mixed,
    (List.forall_mem_cons.mpr ⟨ok__law_draw,
    (List.forall_mem_cons.mpr ⟨ok__law_dot,
    (List.forall_mem_cons.mpr ⟨ok__law_number,
    (List.forall_mem_cons.mpr ⟨ok__law_drawn,
    (List.forall_mem_cons.mpr ⟨ok__law_ints,
    (List.forall_mem_cons.mpr ⟨ok__law_sums,
    (List.forall_mem_cons.mpr ⟨ok__law_put,
    (List.forall_mem_cons.mpr ⟨ok__law_capped,
    (List.forall_mem_cons.mpr ⟨ok__law_rested,
    (List.forall_mem_cons.mpr ⟨ok__law_ended,
    (List.forall_mem_cons.mpr ⟨ok__law_turn,
    (List.forall_mem_cons.mpr ⟨ok__law_settled,
    (List.forall_mem_cons.mpr ⟨ok__law_kept,
    (List.forall_mem_cons.mpr ⟨ok_law, (by simp)⟩)⟩)⟩)⟩)⟩)⟩)⟩)⟩)⟩)⟩)⟩)⟩)⟩)⟩)⟩)⟩)⟩)⟩)⟩)⟩)⟩)⟩)⟩)⟩)⟩)⟩)⟩)⟩)⟩)⟩)⟩)⟩)⟩)⟩)⟩)⟩)⟩)⟩)⟩)⟩)⟩)⟩)⟩)⟩)
theorem aos : ∀ d ∈ tb, argsOk d := (List.forall_mem_cons.mpr ⟨ao_whole_from,
    (List.forall_mem_cons.mpr ⟨ao_sum_length,
    (List.forall_mem_cons.mpr ⟨ao_sum_place,
    (List.forall_mem_cons.mpr ⟨ao_sum_rows,
    (List.forall_mem_cons.mpr ⟨ao_lessened,
    (List.forall_mem_cons.mpr ⟨ao_row_at,
    (List.forall_mem_cons.mpr ⟨ao_mixed,
    (List.forall_mem_cons.mpr ⟨ao_grow_turn,
    (List.forall_mem_cons.mpr ⟨ao_grow_weights,
    (List.forall_mem_cons.mpr ⟨ao_grow_numbers,
    (List.forall_mem_cons.mpr ⟨ao_grow_towards,
    (List.forall_mem_cons.mpr ⟨ao_grow_unit,
    (List.forall_mem_cons.mpr ⟨ao_grow_sum,
    (List.forall_mem_cons.mpr ⟨ao_grow_or_cap,
    (List.forall_mem_cons.mpr ⟨ao_all_growing,
    (List.forall_mem_cons.mpr ⟨ao_cap_bound,
    (List.forall_mem_cons.mpr ⟨ao_rest_side,
    (List.forall_mem_cons.mpr ⟨ao_rest_parts,
    (List.forall_mem_cons.mpr ⟨ao_loose_or_tight,
    (List.forall_mem_cons.mpr ⟨ao_rest_bound,
    (List.forall_mem_cons.mpr ⟨ao_tight_rows,
    (List.forall_mem_cons.mpr ⟨ao_whole_clear,
    (List.forall_mem_cons.mpr ⟨ao_whole_stair,
    (List.forall_mem_cons.mpr ⟨ao_whole_readers,
    (List.forall_mem_cons.mpr ⟨ao_whole,
    (List.forall_mem_cons.mpr ⟨ao_lift_by,
    (List.forall_mem_cons.mpr ⟨ao_lifted,
    (List.forall_mem_cons.mpr ⟨ao_lift_from,
    (List.forall_mem_cons.mpr ⟨ao__law_pool,
    (List.forall_mem_cons.mpr ⟨ao__law_mixed,
    (List.forall_mem_cons.mpr ⟨ao__law_draw,
    (List.forall_mem_cons.mpr ⟨ao__law_dot,
    (List.forall_mem_cons.mpr ⟨ao__law_number,
    (List.forall_mem_cons.mpr ⟨ao__law_drawn,
    (List.forall_mem_cons.mpr ⟨ao__law_ints,
    (List.forall_mem_cons.mpr ⟨ao__law_sums,
    (List.forall_mem_cons.mpr ⟨ao__law_put,
    (List.forall_mem_cons.mpr ⟨ao__law_capped,
    (List.forall_mem_cons.mpr ⟨ao__law_rested,
    (List.forall_mem_cons.mpr ⟨ao__law_ended,
    (List.forall_mem_cons.mpr ⟨ao__law_turn,
    (List.forall_mem_cons.mpr ⟨ao__law_settled,
    (List.forall_mem_cons.mpr ⟨ao__law_kept,
    (List.forall_mem_cons.mpr ⟨ao_law, (by simp)⟩)⟩)⟩)⟩)⟩)⟩)⟩)⟩)⟩)⟩)⟩)⟩)⟩)⟩)⟩)⟩)⟩)⟩)⟩)⟩)⟩)⟩)⟩)⟩)⟩)⟩)⟩)⟩)⟩)⟩)⟩)⟩)⟩)⟩)⟩)⟩)⟩)⟩)⟩)⟩)⟩)⟩)⟩)⟩)
def loose : List Str := (["__name__", "Refused", "BadTable", "whole_from", "sum_length", "sum_place", "sum_rows", "lessened", "row_at", "mixed", "grow_turn", "grow_weights", "grow_numbers", "grow_towards", "grow_unit", "grow_sum", "grow_or_cap", "all_growing", "cap_bound", "rest_side"] : List Str) ++ (["rest_parts", "loose_or_tight", "rest_bound", "tight_rows", "whole_clear", "whole_stair", "whole_readers", "whole", "lift_by", "lifted", "lift_from", "_law_pool", "_law_mixed", "_law_draw", "_law_dot", "_law_number", "_law_drawn", "_law_ints", "_law_sums", "_law_put"] : List Str) ++ (["_law_capped", "_law_rested", "_law_ended", "_law_turn", "_law_settled", "_law_kept"] : List Str)
theorem fi_whole_from (n : Nat) : evf tb (n + 1) "whole_from" = runB d_whole_from (evf tb n) := by
  show (match findT tb "whole_from" with | some d => runB d (evf tb n) | none => fun _ _ => none) = _
  have e : findT tb "whole_from" = some d_whole_from := by kernel_rfl
  rw [e]
theorem run_whole_from (o : Str → Orc) (x0 x1 : D) : runB d_whole_from o none [x0, x1] = endN (S_whole_from o [some (.va x0), some (.va x1)]) := rfl
theorem fi_sum_length (n : Nat) : evf tb (n + 1) "sum_length" = runB d_sum_length (evf tb n) := by
  show (match findT tb "sum_length" with | some d => runB d (evf tb n) | none => fun _ _ => none) = _
  have e : findT tb "sum_length" = some d_sum_length := by kernel_rfl
  rw [e]
theorem run_sum_length (o : Str → Orc) (x0 x1 x2 : D) : runB d_sum_length o none [x0, x1, x2] = endN (S_sum_length o [some (.va x0), some (.va x1), some (.va x2)]) := rfl
theorem fi_sum_place (n : Nat) : evf tb (n + 1) "sum_place" = runB d_sum_place (evf tb n) := by
  show (match findT tb "sum_place" with | some d => runB d (evf tb n) | none => fun _ _ => none) = _
  have e : findT tb "sum_place" = some d_sum_place := by kernel_rfl
  rw [e]
theorem run_sum_place (o : Str → Orc) (x0 x1 : D) : runB d_sum_place o none [x0, x1] = endN (S_sum_place o [some (.va x0), some (.va x1)]) := rfl
theorem fi_sum_rows (n : Nat) : evf tb (n + 1) "sum_rows" = runB d_sum_rows (evf tb n) := by
  show (match findT tb "sum_rows" with | some d => runB d (evf tb n) | none => fun _ _ => none) = _
  have e : findT tb "sum_rows" = some d_sum_rows := by kernel_rfl
  rw [e]
theorem run_sum_rows (o : Str → Orc) (x0 x1 : D) : runB d_sum_rows o none [x0, x1] = endN (S_sum_rows o [some (.va x0), some (.va x1), none, none, none]) := rfl
theorem fi_lessened (n : Nat) : evf tb (n + 1) "lessened" = runB d_lessened (evf tb n) := by
  show (match findT tb "lessened" with | some d => runB d (evf tb n) | none => fun _ _ => none) = _
  have e : findT tb "lessened" = some d_lessened := by kernel_rfl
  rw [e]
theorem run_lessened (o : Str → Orc) (x0 : D) : runB d_lessened o none [x0] = endN (S_lessened o [some (.va x0), none, none, none]) := rfl
theorem fi_row_at (n : Nat) : evf tb (n + 1) "row_at" = runB d_row_at (evf tb n) := by
  show (match findT tb "row_at" with | some d => runB d (evf tb n) | none => fun _ _ => none) = _
  have e : findT tb "row_at" = some d_row_at := by kernel_rfl
  rw [e]
theorem run_row_at (o : Str → Orc) (x0 x1 : D) : runB d_row_at o none [x0, x1] = endN (S_row_at o [some (.va x0), some (.va x1), none, none, none]) := rfl
theorem fi_mixed (n : Nat) : evf tb (n + 1) "mixed" = runB d_mixed (evf tb n) := by
  show (match findT tb "mixed" with | some d => runB d (evf tb n) | none => fun _ _ => none) = _
  have e : findT tb "mixed" = some d_mixed := by kernel_rfl
  rw [e]
theorem run_mixed (o : Str → Orc) (x0 x1 : D) : runB d_mixed o none [x0, x1] = endN (S_mixed o [some (.va x0), some (.va x1), none, none, none, none, none, none, none, none, none, none]) := rfl
theorem fi_grow_turn (n : Nat) : evf tb (n + 1) "grow_turn" = runB d_grow_turn (evf tb n) := by
  show (match findT tb "grow_turn" with | some d => runB d (evf tb n) | none => fun _ _ => none) = _
  have e : findT tb "grow_turn" = some d_grow_turn := by kernel_rfl
  rw [e]
theorem run_grow_turn (o : Str → Orc) (x0 x1 x2 x3 : D) : runB d_grow_turn o none [x0, x1, x2, x3] = endN (S_grow_turn o [some (.va x0), some (.va x1), some (.va x2), some (.va x3), none, none, none, none, none, none, none, none]) := rfl
theorem fi_grow_weights (n : Nat) : evf tb (n + 1) "grow_weights" = runB d_grow_weights (evf tb n) := by
  show (match findT tb "grow_weights" with | some d => runB d (evf tb n) | none => fun _ _ => none) = _
  have e : findT tb "grow_weights" = some d_grow_weights := by kernel_rfl
  rw [e]
theorem run_grow_weights (o : Str → Orc) (x0 x1 x2 x3 : D) : runB d_grow_weights o none [x0, x1, x2, x3] = endN (S_grow_weights o [some (.va x0), some (.va x1), some (.va x2), some (.va x3), none, none, none]) := rfl
theorem fi_grow_numbers (n : Nat) : evf tb (n + 1) "grow_numbers" = runB d_grow_numbers (evf tb n) := by
  show (match findT tb "grow_numbers" with | some d => runB d (evf tb n) | none => fun _ _ => none) = _
  have e : findT tb "grow_numbers" = some d_grow_numbers := by kernel_rfl
  rw [e]
theorem run_grow_numbers (o : Str → Orc) (x0 x1 x2 x3 x4 : D) : runB d_grow_numbers o none [x0, x1, x2, x3, x4] = endN (S_grow_numbers o [some (.va x0), some (.va x1), some (.va x2), some (.va x3), some (.va x4), none, none, none, none, none]) := rfl
theorem fi_grow_towards (n : Nat) : evf tb (n + 1) "grow_towards" = runB d_grow_towards (evf tb n) := by
  show (match findT tb "grow_towards" with | some d => runB d (evf tb n) | none => fun _ _ => none) = _
  have e : findT tb "grow_towards" = some d_grow_towards := by kernel_rfl
  rw [e]
theorem run_grow_towards (o : Str → Orc) (x0 x1 x2 : D) : runB d_grow_towards o none [x0, x1, x2] = endN (S_grow_towards o [some (.va x0), some (.va x1), some (.va x2), none, none, none, none, none, none, none, none, none, none, none, none, none, none, none]) := rfl
theorem fi_grow_unit (n : Nat) : evf tb (n + 1) "grow_unit" = runB d_grow_unit (evf tb n) := by
  show (match findT tb "grow_unit" with | some d => runB d (evf tb n) | none => fun _ _ => none) = _
  have e : findT tb "grow_unit" = some d_grow_unit := by kernel_rfl
  rw [e]
theorem run_grow_unit (o : Str → Orc) (x0 x1 : D) : runB d_grow_unit o none [x0, x1] = endN (S_grow_unit o [some (.va x0), some (.va x1), none, none]) := rfl
theorem fi_grow_sum (n : Nat) : evf tb (n + 1) "grow_sum" = runB d_grow_sum (evf tb n) := by
  show (match findT tb "grow_sum" with | some d => runB d (evf tb n) | none => fun _ _ => none) = _
  have e : findT tb "grow_sum" = some d_grow_sum := by kernel_rfl
  rw [e]
theorem run_grow_sum (o : Str → Orc) (x0 x1 : D) : runB d_grow_sum o none [x0, x1] = endN (S_grow_sum o [some (.va x0), some (.va x1), none, none, none, none, none, none, none, none, none]) := rfl
theorem fi_grow_or_cap (n : Nat) : evf tb (n + 1) "grow_or_cap" = runB d_grow_or_cap (evf tb n) := by
  show (match findT tb "grow_or_cap" with | some d => runB d (evf tb n) | none => fun _ _ => none) = _
  have e : findT tb "grow_or_cap" = some d_grow_or_cap := by kernel_rfl
  rw [e]
theorem run_grow_or_cap (o : Str → Orc) (x0 x1 x2 : D) : runB d_grow_or_cap o none [x0, x1, x2] = endN (S_grow_or_cap o [some (.va x0), some (.va x1), some (.va x2), none, none, none, none, none]) := rfl
theorem fi_all_growing (n : Nat) : evf tb (n + 1) "all_growing" = runB d_all_growing (evf tb n) := by
  show (match findT tb "all_growing" with | some d => runB d (evf tb n) | none => fun _ _ => none) = _
  have e : findT tb "all_growing" = some d_all_growing := by kernel_rfl
  rw [e]
theorem run_all_growing (o : Str → Orc) (x0 x1 : D) : runB d_all_growing o none [x0, x1] = endN (S_all_growing o [some (.va x0), some (.va x1), none]) := rfl
theorem fi_cap_bound (n : Nat) : evf tb (n + 1) "cap_bound" = runB d_cap_bound (evf tb n) := by
  show (match findT tb "cap_bound" with | some d => runB d (evf tb n) | none => fun _ _ => none) = _
  have e : findT tb "cap_bound" = some d_cap_bound := by kernel_rfl
  rw [e]
theorem run_cap_bound (o : Str → Orc) (x0 x1 x2 : D) : runB d_cap_bound o none [x0, x1, x2] = endN (S_cap_bound o [some (.va x0), some (.va x1), some (.va x2), none, none]) := rfl
theorem fi_rest_side (n : Nat) : evf tb (n + 1) "rest_side" = runB d_rest_side (evf tb n) := by
  show (match findT tb "rest_side" with | some d => runB d (evf tb n) | none => fun _ _ => none) = _
  have e : findT tb "rest_side" = some d_rest_side := by kernel_rfl
  rw [e]
theorem run_rest_side (o : Str → Orc) (x0 x1 : D) : runB d_rest_side o none [x0, x1] = endN (S_rest_side o [some (.va x0), some (.va x1), none, none, none, none, none, none, none]) := rfl
theorem fi_rest_parts (n : Nat) : evf tb (n + 1) "rest_parts" = runB d_rest_parts (evf tb n) := by
  show (match findT tb "rest_parts" with | some d => runB d (evf tb n) | none => fun _ _ => none) = _
  have e : findT tb "rest_parts" = some d_rest_parts := by kernel_rfl
  rw [e]
theorem run_rest_parts (o : Str → Orc) (x0 x1 : D) : runB d_rest_parts o none [x0, x1] = endN (S_rest_parts o [some (.va x0), some (.va x1), none, none, none, none, none, none, none]) := rfl
theorem fi_loose_or_tight (n : Nat) : evf tb (n + 1) "loose_or_tight" = runB d_loose_or_tight (evf tb n) := by
  show (match findT tb "loose_or_tight" with | some d => runB d (evf tb n) | none => fun _ _ => none) = _
  have e : findT tb "loose_or_tight" = some d_loose_or_tight := by kernel_rfl
  rw [e]
theorem run_loose_or_tight (o : Str → Orc) (x0 x1 x2 : D) : runB d_loose_or_tight o none [x0, x1, x2] = endN (S_loose_or_tight o [some (.va x0), some (.va x1), some (.va x2), none]) := rfl
theorem fi_rest_bound (n : Nat) : evf tb (n + 1) "rest_bound" = runB d_rest_bound (evf tb n) := by
  show (match findT tb "rest_bound" with | some d => runB d (evf tb n) | none => fun _ _ => none) = _
  have e : findT tb "rest_bound" = some d_rest_bound := by kernel_rfl
  rw [e]
theorem run_rest_bound (o : Str → Orc) (x0 x1 x2 : D) : runB d_rest_bound o none [x0, x1, x2] = endN (S_rest_bound o [some (.va x0), some (.va x1), some (.va x2), none, none, none, none]) := rfl
theorem fi_tight_rows (n : Nat) : evf tb (n + 1) "tight_rows" = runB d_tight_rows (evf tb n) := by
  show (match findT tb "tight_rows" with | some d => runB d (evf tb n) | none => fun _ _ => none) = _
  have e : findT tb "tight_rows" = some d_tight_rows := by kernel_rfl
  rw [e]
theorem run_tight_rows (o : Str → Orc) (x0 x1 : D) : runB d_tight_rows o none [x0, x1] = endN (S_tight_rows o [some (.va x0), some (.va x1)]) := rfl
theorem fi_whole_clear (n : Nat) : evf tb (n + 1) "whole_clear" = runB d_whole_clear (evf tb n) := by
  show (match findT tb "whole_clear" with | some d => runB d (evf tb n) | none => fun _ _ => none) = _
  have e : findT tb "whole_clear" = some d_whole_clear := by kernel_rfl
  rw [e]
theorem run_whole_clear_ow (o : Str → Orc) (xs : List D) (x1 x2 : D) : runB d_whole_clear o (some (.ow xs)) [x1, x2] = endO (S_whole_clear o [some (.ow xs), some (.va x1), some (.va x2), none, none, none, none, none, none, none, none]) := rfl
theorem run_whole_clear_sc (o : Str → Orc) (xs : List D) (x1 x2 : D) : runB d_whole_clear o (some (.sc xs)) [x1, x2] = endN (S_whole_clear o [some (.sc xs), some (.va x1), some (.va x2), none, none, none, none, none, none, none, none]) := rfl
theorem fi_whole_stair (n : Nat) : evf tb (n + 1) "whole_stair" = runB d_whole_stair (evf tb n) := by
  show (match findT tb "whole_stair" with | some d => runB d (evf tb n) | none => fun _ _ => none) = _
  have e : findT tb "whole_stair" = some d_whole_stair := by kernel_rfl
  rw [e]
theorem run_whole_stair (o : Str → Orc) (x0 x1 : D) : runB d_whole_stair o none [x0, x1] = endN (S_whole_stair o [some (.va x0), some (.va x1), none, none, none, none, none, none, none, none, none]) := rfl
theorem fi_whole_readers (n : Nat) : evf tb (n + 1) "whole_readers" = runB d_whole_readers (evf tb n) := by
  show (match findT tb "whole_readers" with | some d => runB d (evf tb n) | none => fun _ _ => none) = _
  have e : findT tb "whole_readers" = some d_whole_readers := by kernel_rfl
  rw [e]
theorem run_whole_readers (o : Str → Orc) (x0 x1 : D) : runB d_whole_readers o none [x0, x1] = endN (S_whole_readers o [some (.va x0), some (.va x1), none, none, none, none, none, none, none, none, none, none]) := rfl
theorem fi_whole (n : Nat) : evf tb (n + 1) "whole" = runB d_whole (evf tb n) := by
  show (match findT tb "whole" with | some d => runB d (evf tb n) | none => fun _ _ => none) = _
  have e : findT tb "whole" = some d_whole := by kernel_rfl
  rw [e]
theorem run_whole (o : Str → Orc) (x0 x1 : D) : runB d_whole o none [x0, x1] = endN (S_whole o [some (.va x0), some (.va x1), none, none, none, none, none, none, none, none, none, none, none, none, none, none, none, none]) := rfl
theorem fi_lift_by (n : Nat) : evf tb (n + 1) "lift_by" = runB d_lift_by (evf tb n) := by
  show (match findT tb "lift_by" with | some d => runB d (evf tb n) | none => fun _ _ => none) = _
  have e : findT tb "lift_by" = some d_lift_by := by kernel_rfl
  rw [e]
theorem run_lift_by (o : Str → Orc) (x0 x1 x2 x3 : D) : runB d_lift_by o none [x0, x1, x2, x3] = endN (S_lift_by o [some (.va x0), some (.va x1), some (.va x2), some (.va x3), none, none, none, none]) := rfl
theorem fi_lifted (n : Nat) : evf tb (n + 1) "lifted" = runB d_lifted (evf tb n) := by
  show (match findT tb "lifted" with | some d => runB d (evf tb n) | none => fun _ _ => none) = _
  have e : findT tb "lifted" = some d_lifted := by kernel_rfl
  rw [e]
theorem run_lifted (o : Str → Orc) (x0 x1 x2 : D) : runB d_lifted o none [x0, x1, x2] = endN (S_lifted o [some (.va x0), some (.va x1), some (.va x2), none, none, none, none, none, none, none]) := rfl
theorem fi_lift_from (n : Nat) : evf tb (n + 1) "lift_from" = runB d_lift_from (evf tb n) := by
  show (match findT tb "lift_from" with | some d => runB d (evf tb n) | none => fun _ _ => none) = _
  have e : findT tb "lift_from" = some d_lift_from := by kernel_rfl
  rw [e]
theorem run_lift_from (o : Str → Orc) (x0 x1 x2 x3 : D) : runB d_lift_from o none [x0, x1, x2, x3] = endN (S_lift_from o [some (.va x0), some (.va x1), some (.va x2), some (.va x3), none, none, none, none, none, none, none, none, none]) := rfl
theorem fi__law_pool (n : Nat) : evf tb (n + 1) "_law_pool" = runB d__law_pool (evf tb n) := by
  show (match findT tb "_law_pool" with | some d => runB d (evf tb n) | none => fun _ _ => none) = _
  have e : findT tb "_law_pool" = some d__law_pool := by kernel_rfl
  rw [e]
theorem run__law_pool_ow (o : Str → Orc) (xs : List D)  : runB d__law_pool o (some (.ow xs)) [] = endO (S__law_pool o [some (.ow xs)]) := rfl
theorem run__law_pool_sc (o : Str → Orc) (xs : List D)  : runB d__law_pool o (some (.sc xs)) [] = endN (S__law_pool o [some (.sc xs)]) := rfl
theorem fi__law_mixed (n : Nat) : evf tb (n + 1) "_law_mixed" = runB d__law_mixed (evf tb n) := by
  show (match findT tb "_law_mixed" with | some d => runB d (evf tb n) | none => fun _ _ => none) = _
  have e : findT tb "_law_mixed" = some d__law_mixed := by kernel_rfl
  rw [e]
theorem run__law_mixed (o : Str → Orc) (x0 x1 : D) : runB d__law_mixed o none [x0, x1] = endN (S__law_mixed o [some (.va x0), some (.va x1)]) := rfl
theorem fi__law_draw (n : Nat) : evf tb (n + 1) "_law_draw" = runB d__law_draw (evf tb n) := by
  show (match findT tb "_law_draw" with | some d => runB d (evf tb n) | none => fun _ _ => none) = _
  have e : findT tb "_law_draw" = some d__law_draw := by kernel_rfl
  rw [e]
theorem run__law_draw_ow (o : Str → Orc) (xs : List D) (x1 : D) : runB d__law_draw o (some (.ow xs)) [x1] = endO (S__law_draw o [some (.ow xs), some (.va x1), none, none]) := rfl
theorem run__law_draw_sc (o : Str → Orc) (xs : List D) (x1 : D) : runB d__law_draw o (some (.sc xs)) [x1] = endN (S__law_draw o [some (.sc xs), some (.va x1), none, none]) := rfl
theorem fi__law_dot (n : Nat) : evf tb (n + 1) "_law_dot" = runB d__law_dot (evf tb n) := by
  show (match findT tb "_law_dot" with | some d => runB d (evf tb n) | none => fun _ _ => none) = _
  have e : findT tb "_law_dot" = some d__law_dot := by kernel_rfl
  rw [e]
theorem run__law_dot (o : Str → Orc) (x0 x1 : D) : runB d__law_dot o none [x0, x1] = endN (S__law_dot o [some (.va x0), some (.va x1), none, none]) := rfl
theorem fi__law_number (n : Nat) : evf tb (n + 1) "_law_number" = runB d__law_number (evf tb n) := by
  show (match findT tb "_law_number" with | some d => runB d (evf tb n) | none => fun _ _ => none) = _
  have e : findT tb "_law_number" = some d__law_number := by kernel_rfl
  rw [e]
theorem run__law_number_ow (o : Str → Orc) (xs : List D) (x1 : D) : runB d__law_number o (some (.ow xs)) [x1] = endO (S__law_number o [some (.ow xs), some (.va x1), none]) := rfl
theorem run__law_number_sc (o : Str → Orc) (xs : List D) (x1 : D) : runB d__law_number o (some (.sc xs)) [x1] = endN (S__law_number o [some (.sc xs), some (.va x1), none]) := rfl
theorem fi__law_drawn (n : Nat) : evf tb (n + 1) "_law_drawn" = runB d__law_drawn (evf tb n) := by
  show (match findT tb "_law_drawn" with | some d => runB d (evf tb n) | none => fun _ _ => none) = _
  have e : findT tb "_law_drawn" = some d__law_drawn := by kernel_rfl
  rw [e]
theorem run__law_drawn_ow (o : Str → Orc) (xs : List D)  : runB d__law_drawn o (some (.ow xs)) [] = endO (S__law_drawn o [some (.ow xs), none, none, none, none, none, none, none, none, none, none, none, none]) := rfl
theorem run__law_drawn_sc (o : Str → Orc) (xs : List D)  : runB d__law_drawn o (some (.sc xs)) [] = endN (S__law_drawn o [some (.sc xs), none, none, none, none, none, none, none, none, none, none, none, none]) := rfl
theorem fi__law_ints (n : Nat) : evf tb (n + 1) "_law_ints" = runB d__law_ints (evf tb n) := by
  show (match findT tb "_law_ints" with | some d => runB d (evf tb n) | none => fun _ _ => none) = _
  have e : findT tb "_law_ints" = some d__law_ints := by kernel_rfl
  rw [e]
theorem run__law_ints (o : Str → Orc) (x0 x1 x2 : D) : runB d__law_ints o none [x0, x1, x2] = endN (S__law_ints o [some (.va x0), some (.va x1), some (.va x2), none]) := rfl
theorem fi__law_sums (n : Nat) : evf tb (n + 1) "_law_sums" = runB d__law_sums (evf tb n) := by
  show (match findT tb "_law_sums" with | some d => runB d (evf tb n) | none => fun _ _ => none) = _
  have e : findT tb "_law_sums" = some d__law_sums := by kernel_rfl
  rw [e]
theorem run__law_sums (o : Str → Orc) (x0 x1 x2 : D) : runB d__law_sums o none [x0, x1, x2] = endN (S__law_sums o [some (.va x0), some (.va x1), some (.va x2), none, none, none]) := rfl
theorem fi__law_put (n : Nat) : evf tb (n + 1) "_law_put" = runB d__law_put (evf tb n) := by
  show (match findT tb "_law_put" with | some d => runB d (evf tb n) | none => fun _ _ => none) = _
  have e : findT tb "_law_put" = some d__law_put := by kernel_rfl
  rw [e]
theorem run__law_put (o : Str → Orc) (x0 x1 x2 : D) : runB d__law_put o none [x0, x1, x2] = endN (S__law_put o [some (.va x0), some (.va x1), some (.va x2), none, none, none]) := rfl
theorem fi__law_capped (n : Nat) : evf tb (n + 1) "_law_capped" = runB d__law_capped (evf tb n) := by
  show (match findT tb "_law_capped" with | some d => runB d (evf tb n) | none => fun _ _ => none) = _
  have e : findT tb "_law_capped" = some d__law_capped := by kernel_rfl
  rw [e]
theorem run__law_capped (o : Str → Orc) (x0 x1 x2 : D) : runB d__law_capped o none [x0, x1, x2] = endN (S__law_capped o [some (.va x0), some (.va x1), some (.va x2), none, none, none, none, none, none, none]) := rfl
theorem fi__law_rested (n : Nat) : evf tb (n + 1) "_law_rested" = runB d__law_rested (evf tb n) := by
  show (match findT tb "_law_rested" with | some d => runB d (evf tb n) | none => fun _ _ => none) = _
  have e : findT tb "_law_rested" = some d__law_rested := by kernel_rfl
  rw [e]
theorem run__law_rested (o : Str → Orc) (x0 x1 : D) : runB d__law_rested o none [x0, x1] = endN (S__law_rested o [some (.va x0), some (.va x1), none, none, none, none, none, none, none]) := rfl
theorem fi__law_ended (n : Nat) : evf tb (n + 1) "_law_ended" = runB d__law_ended (evf tb n) := by
  show (match findT tb "_law_ended" with | some d => runB d (evf tb n) | none => fun _ _ => none) = _
  have e : findT tb "_law_ended" = some d__law_ended := by kernel_rfl
  rw [e]
theorem run__law_ended (o : Str → Orc) (x0 : D) : runB d__law_ended o none [x0] = endN (S__law_ended o [some (.va x0), none, none, none, none, none, none, none, none, none, none, none]) := rfl
theorem fi__law_turn (n : Nat) : evf tb (n + 1) "_law_turn" = runB d__law_turn (evf tb n) := by
  show (match findT tb "_law_turn" with | some d => runB d (evf tb n) | none => fun _ _ => none) = _
  have e : findT tb "_law_turn" = some d__law_turn := by kernel_rfl
  rw [e]
theorem run__law_turn (o : Str → Orc) (x0 : D) : runB d__law_turn o none [x0] = endN (S__law_turn o [some (.va x0), none, none, none, none, none, none, none, none]) := rfl
theorem fi__law_settled (n : Nat) : evf tb (n + 1) "_law_settled" = runB d__law_settled (evf tb n) := by
  show (match findT tb "_law_settled" with | some d => runB d (evf tb n) | none => fun _ _ => none) = _
  have e : findT tb "_law_settled" = some d__law_settled := by kernel_rfl
  rw [e]
theorem run__law_settled (o : Str → Orc) (x0 x1 : D) : runB d__law_settled o none [x0, x1] = endN (S__law_settled o [some (.va x0), some (.va x1), none, none, none, none, none, none, none, none]) := rfl
theorem fi__law_kept (n : Nat) : evf tb (n + 1) "_law_kept" = runB d__law_kept (evf tb n) := by
  show (match findT tb "_law_kept" with | some d => runB d (evf tb n) | none => fun _ _ => none) = _
  have e : findT tb "_law_kept" = some d__law_kept := by kernel_rfl
  rw [e]
theorem run__law_kept (o : Str → Orc) (x0 x1 : D) : runB d__law_kept o none [x0, x1] = endN (S__law_kept o [some (.va x0), some (.va x1), none, none, none, none, none, none, none]) := rfl
theorem fi_law (n : Nat) : evf tb (n + 1) "law" = runB d_law (evf tb n) := by
  show (match findT tb "law" with | some d => runB d (evf tb n) | none => fun _ _ => none) = _
  have e : findT tb "law" = some d_law := by kernel_rfl
  rw [e]
theorem run_law_ow (o : Str → Orc) (xs : List D)  : runB d_law o (some (.ow xs)) [] = endO (S_law o [some (.ow xs), none, none, none, none, none, none, none]) := rfl
theorem run_law_sc (o : Str → Orc) (xs : List D)  : runB d_law o (some (.sc xs)) [] = endN (S_law o [some (.sc xs), none, none, none, none, none, none, none]) := rfl
end K36

set_option Elab.async false
set_option linter.all false
set_option maxRecDepth 100000
set_option maxHeartbeats 4000000
set_option autoImplicit false
set_option exponentiation.threshold 300
/-! Law k36: what the defs give, 1. -/
namespace K36
open PySem PySem.Spec PyProof.Rows L2 Pv
abbrev Row := List Int × Int
def iL (xs : List Int) : List D := xs.map .int
abbrev eL (xs : List Int) : D := .list (iL xs)
abbrev eT (xs : List Int) : D := .tuple (iL xs)
abbrev rL (r : Row) : D := .list [eL r.1, .int r.2]
abbrev rT (r : Row) : D := .tuple [eT r.1, .int r.2]
def rTs (rs : List Row) : List D := rs.map rT
def rLs (rs : List Row) : List D := rs.map rL
def pL (ps : List (Int × Int)) : List D := ps.map Pv.pairD
@[simp] theorem iL_len (xs : List Int) : (iL xs).length = xs.length := by simp [iL]
@[simp] theorem rTs_len (xs : List Row) : (rTs xs).length = xs.length := by simp [rTs]
@[simp] theorem rLs_len (xs : List Row) : (rLs xs).length = xs.length := by simp [rLs]
@[simp] theorem pL_len (xs : List (Int × Int)) : (pL xs).length = xs.length := by simp [pL]
@[simp] theorem iL_nil : iL [] = [] := rfl
@[simp] theorem rTs_nil : rTs [] = [] := rfl
@[simp] theorem rLs_nil : rLs [] = [] := rfl
@[simp] theorem pL_nil : pL [] = [] := rfl
theorem iL_cons (x : Int) (xs : List Int) : iL (x :: xs) = .int x :: iL xs := rfl
theorem rTs_cons (x : Row) (xs : List Row) : rTs (x :: xs) = rT x :: rTs xs := rfl
theorem rLs_cons (x : Row) (xs : List Row) : rLs (x :: xs) = rL x :: rLs xs := rfl
theorem pL_cons (x : Int × Int) (xs : List (Int × Int)) : pL (x :: xs) = Pv.pairD x :: pL xs := rfl
theorem iL_app (xs ys : List Int) : iL (xs ++ ys) = iL xs ++ iL ys := by simp [iL]
theorem rTs_app (xs ys : List Row) : rTs (xs ++ ys) = rTs xs ++ rTs ys := by simp [rTs]
theorem rLs_app (xs ys : List Row) : rLs (xs ++ ys) = rLs xs ++ rLs ys := by simp [rLs]
@[simp] theorem iL_ints (xs : List Int) : intsOf (iL xs) = some xs := intsOf_map xs
@[simp] theorem iL_sum (xs : List Int) : fSum [.list (iL xs)] = some (.va (.int xs.sum)) := fSum_i xs
@[simp] theorem iL_get (xs : List Int) (i : Nat) : (iL xs)[i]? = (xs[i]?).map PyData.int := by simp [iL]
theorem iL_at (xs : List Int) (i : Int) : atI (iL xs) i = (atI xs i).map PyData.int := by
  unfold atI
  rw [iL_len]
  cases ixN xs.length i with
  | none => rfl
  | some j => simp
@[simp] theorem iL_min (x : Int) (xs : List Int) : fMin1 [.list (iL (x :: xs))] = some (.va (.int (xs.foldl min x))) := by
  show (match intsOf (iL (x :: xs)) with
    | some (n :: ns) => some (Rs.va (.int (ns.foldl min n)))
    | some [] => none
    | none => _) = _
  rw [iL_ints]
@[simp] theorem iL_minT (x : Int) (xs : List Int) : fMin1 [.tuple (iL (x :: xs))] = some (.va (.int (xs.foldl min x))) := by
  show (match intsOf (iL (x :: xs)) with
    | some (n :: ns) => some (Rs.va (.int (ns.foldl min n)))
    | _ => none) = _
  rw [iL_ints]
theorem zipD_ints : ∀ xs ys : List Int, zipD (iL xs) (iL ys) = pL (xs.zip ys)
  | [], ys => by simp [zipD]
  | x :: xs, [] => by simp [zipD]
  | x :: xs, y :: ys => by simp [zipD, iL_cons, pL_cons, zipD_ints xs ys, Pv.pairD]
def SeqD (d : D) (xs : List Int) : Prop := d = eL xs ∨ d = eT xs
theorem SeqD.len {d : D} {xs : List Int} (h : SeqD d xs) : lenD d = some (.va (.int xs.length)) := by
  rcases h with rfl | rfl <;> simp
theorem SeqD.seq {d : D} {xs : List Int} (h : SeqD d xs) : seqOf d = some (iL xs) := by
  rcases h with rfl | rfl <;> simp
theorem SeqD.lst {d : D} {xs : List Int} (h : SeqD d xs) : fList [d] = some (.nw (iL xs)) := by
  rcases h with rfl | rfl <;> simp
theorem SeqD.tup {d : D} {xs : List Int} (h : SeqD d xs) : fTuple [d] = some (.va (eT xs)) := by
  rcases h with rfl | rfl <;> simp
theorem SeqD.L (xs : List Int) : SeqD (eL xs) xs := .inl rfl
theorem SeqD.T (xs : List Int) : SeqD (eT xs) xs := .inr rfl
/-- rows as a list of pairs, lists or tuples -/
inductive RowsD : List D → List Row → Prop
  | nil : RowsD [] []
  | cons {d : D} {ds : List D} {c : D} {r : Row} {rs : List Row} : SeqD c r.1 → (d = .list [c, .int r.2] ∨ d = .tuple [c, .int r.2]) → RowsD ds rs → RowsD (d :: ds) (r :: rs)
theorem RowsD.len {ds : List D} {rs : List Row} (h : RowsD ds rs) : ds.length = rs.length := by
  induction h with
  | nil => rfl
  | cons _ _ _ ih => simp [ih]
theorem RowsD.L : ∀ rs : List Row, RowsD (rLs rs) rs
  | [] => .nil
  | r :: rs => .cons (.L _) (.inl rfl) (RowsD.L rs)
theorem RowsD.T : ∀ rs : List Row, RowsD (rTs rs) rs
  | [] => .nil
  | r :: rs => .cons (.T _) (.inr rfl) (RowsD.T rs)

/-! ### sizes -/
def sm (z : Int) : Prop := z.natAbs < 2 ^ 9000
def SmL (xs : List Int) : Prop := ∀ x ∈ xs, sm x
theorem log_sm {n : Nat} (h : n < 2 ^ 9000) : n.log2 < 9000 := by
  by_cases h0 : n = 0
  · subst h0
    rw [Nat.log2_zero]
    omega
  · exact (Nat.log2_lt h0).mpr h
theorem mulOk_sm {a b : Int} (ha : sm a) (hb : sm b) : mulOk a b = true := by
  have h1 := log_sm ha
  have h2 := log_sm hb
  unfold mulOk
  rw [decide_eq_true_eq]
  omega
theorem divOk_sm {b : Int} (hb : sm b) (h : b ≠ 0) : divOk b = true := by
  unfold divOk
  rw [decide_eq_true_eq]
  exact ⟨h, log_sm hb⟩
theorem fMul_sm {a b : Int} (ha : sm a) (hb : sm b) : fMul (.int a) (.int b) = some (.va (.int (a * b))) := by
  show (if mulOk a b = true then some (Rs.va (.int (a * b))) else none) = _
  rw [if_pos (mulOk_sm ha hb)]
theorem fMul_l (xs : List D) (k : Int) : fMul (.list xs) (.int k) = (if k.natAbs < 2 ^ 62 ∧ xs.length * k.toNat ≤ 100000 then some (Rs.nw (List.replicate k.toNat xs).flatten) else none) := rfl
theorem rep_1 (d : D) {L : Nat} (h : L ≤ 100000) : fMul (.list [d]) (.int L) = some (.nw (List.replicate L d)) := by
  have c1 : (L : Int).natAbs < 2 ^ 62 := by omega
  have c3 : [d].length * (L : Int).toNat ≤ 100000 := by rw [Int.toNat_natCast, List.length_singleton, Nat.one_mul]; exact h
  rw [fMul_l, if_pos ⟨c1, c3⟩, Int.toNat_natCast, List.flatten_replicate_singleton]
theorem fDiv_sm {a b : Int} (hb : sm b) (h : b ≠ 0) : fDiv (.int a) (.int b) = some (.va (.int (a.fdiv b))) := by
  show (if divOk b = true then some (Rs.va (.int (a.fdiv b))) else none) = _
  rw [if_pos (divOk_sm hb h)]
theorem fMod_nz {a b : Int} (h : b ≠ 0) : fMod (.int a) (.int b) = some (.va (.int (a.fmod b))) := by
  show (if b ≠ 0 then some (Rs.va (.int (a.fmod b))) else none) = _
  rw [if_pos h]
theorem pow_9000 : (2 : Nat) ^ 64 < 2 ^ 9000 := Nat.pow_lt_pow_right (by decide) (by decide)
theorem sm_64 {z : Int} (h : z.natAbs < 2 ^ 64) : sm z := Nat.lt_trans h pow_9000
theorem sm_0 : sm 0 := sm_64 (by decide)
theorem sm_1 : sm 1 := sm_64 (by decide)

/-! ### comprehensions of ints -/
theorem lcI {own : List Nat} {g : SemG} {te : SemE} {ρ : Sr} (f : Int → Int) (xs : List Int) (hl : xs.length ≤ 100000)
    (h : ∀ x ∈ xs, lcOne own g te (.int x) ρ = some (.int (f x), ρ)) : lcL own g sYes te (iL xs) ρ [] = some (iL (xs.map f), ρ) := by
  have := lc_one PyData.int (fun x => .int (f x)) xs [] (by simpa using hl) h
  rw [iL, this, iL, List.map_map]
  rfl
theorem lcP {own : List Nat} {g : SemG} {te : SemE} {ρ : Sr} (f : Int × Int → Int) (xs : List (Int × Int)) (hl : xs.length ≤ 100000)
    (h : ∀ a b, (a, b) ∈ xs → lcOne own g te (.tuple [.int a, .int b]) ρ = some (.int (f (a, b)), ρ)) : lcL own g sYes te (pL xs) ρ [] = some (iL (xs.map f), ρ) := by
  have := lc_one Pv.pairD (fun x => .int (f x)) xs [] (by simpa using hl) fun x hx => h x.1 x.2 hx
  rw [pL, this, iL, List.map_map]
  rfl

/-! ### the small ones -/
theorem ev_whole_from {n : Nat} (hn : 1 ≤ n) (x l : Int) : evf tb n "whole_from" none [.int x, .int l] = some (.va (.bool (decide (l ≤ x))), none) := by
  obtain ⟨n, rfl⟩ : ∃ m, n = m + 1 := ⟨n - 1, by omega⟩
  rw [fi_whole_from, run_whole_from]
  simp [S_whole_from]
theorem ev_sum_length {n : Nat} (hn : 1 ≤ n) {d : D} {xs : List Int} (h : SeqD d xs) {k : Nat} (hk : xs.length = k) (what : D) : evf tb n "sum_length" none [d, .int k, what] = some (.va .none, none) := by
  obtain ⟨n, rfl⟩ : ∃ m, n = m + 1 := ⟨n - 1, by omega⟩
  rw [fi_sum_length, run_sum_length]
  simp [S_sum_length, h.len, hk]
theorem ev_sum_place {n : Nat} (hn : 2 ≤ n) {p k : Nat} (h : p < k) : evf tb n "sum_place" none [.int p, .int k] = some (.va .none, none) := by
  obtain ⟨n, rfl⟩ : ∃ m, n = m + 1 := ⟨n - 1, by omega⟩
  rw [fi_sum_place, run_sum_place]
  have h1 := ev_whole_from (n := n) (by omega) p 0
  have h2 : ¬ k ≤ p := by omega
  simp [S_sum_place, h1, h2]
theorem loop_sum_rows {n : Nat} (hn : 1 ≤ n) (L : Nat) (R : D) {ds : List D} {rs : List Row} (h : RowsD ds rs) (hL : ∀ r ∈ rs, r.1.length = L) : ∀ (acc : List D) (o3 o4 : Option Sl), acc.length + rs.length < 100000 →
    ∃ o3' o4', forL (gT (gsCons (gN 3) (gsCons (gN 4) gsNil))) (b_sum_rows_1 (evf tb n)) ds [some (.va R), some (.va (.int L)), some (.ow acc), o3, o4] = some (.nx, [some (.va R), some (.va (.int L)), some (.ow (acc ++ rTs rs)), o3', o4']) := by
  induction h with
  | nil => intro acc o3 o4 _; exact ⟨o3, o4, by simp⟩
  | @cons d ds c r rs hc hd _ ih =>
    intro acc o3 o4 hl
    obtain ⟨o3', o4', e⟩ := ih (fun r hr => hL r (List.mem_cons_of_mem _ hr)) (acc ++ [rT r]) (some (.va c)) (some (.va (.int r.2))) (by simp at hl ⊢; omega)
    refine ⟨o3', o4', ?_⟩
    rw [forL_cons]
    have h1 := ev_sum_length hn hc (hL r List.mem_cons_self) (.str "a row")
    have hl2 : acc.length < 100000 := by simp at hl; omega
    rcases hd with rfl | rfl <;> simp [h1, hc.tup, hl2] <;> simpa [rTs_cons] using e
theorem ev_sum_rows {n : Nat} (hn : 2 ≤ n) (L : Nat) {ds : List D} {rs : List Row} (h : RowsD ds rs) (hL : ∀ r ∈ rs, r.1.length = L) (hR : rs.length < 100000) : evf tb n "sum_rows" none [.list ds, .int L] = some (.va (.list (rTs rs)), none) := by
  obtain ⟨n, rfl⟩ : ∃ m, n = m + 1 := ⟨n - 1, by omega⟩
  rw [fi_sum_rows, run_sum_rows]
  obtain ⟨o3, o4, e⟩ := loop_sum_rows (n := n) (by omega) L (.list ds) h hL [] none none (by simpa using hR)
  simp [S_sum_rows, e]

/-! ### lessened -/
def gcdL (xs : List Int) : Nat := xs.foldl (fun d x => Nat.gcd d x.natAbs) 0
def lessen (xs : List Int) : List Int := if gcdL xs < 2 then xs else xs.map fun x => x.fdiv (gcdL xs : Nat)
theorem gcd_lt {k : Nat} : ∀ {xs : List Int} {d : Nat}, (∀ x ∈ xs, x.natAbs < k) → d < k → xs.foldl (fun d x => Nat.gcd d x.natAbs) d < k
  | [], d, _, h => h
  | x :: xs, d, hx, h => by
    rw [List.foldl_cons]
    refine gcd_lt (fun y hy => hx y (List.mem_cons_of_mem _ hy)) ?_
    by_cases h0 : d = 0
    · subst h0
      rw [Nat.gcd_zero_left]
      exact hx x List.mem_cons_self
    · exact Nat.lt_of_le_of_lt (Nat.gcd_le_left _ (by omega)) h
theorem loop_lessened (o : Str → Orc) (R : D) (o3 : Option Sl) : ∀ (xs : List Int) (d : Nat) (o2 : Option Sl),
    ∃ o2', forL (gN 2) (b_lessened_2 o) (iL xs) [some (.va R), some (.va (.int (d : Nat))), o2, o3] = some (.nx, [some (.va R), some (.va (.int ((xs.foldl (fun d x => Nat.gcd d x.natAbs) d : Nat) : Int))), o2', o3])
  | [], d, o2 => ⟨o2, by simp⟩
  | x :: xs, d, o2 => by
    obtain ⟨o2', e⟩ := loop_lessened o R o3 xs (Nat.gcd d x.natAbs) (some (.va (.int x)))
    refine ⟨o2', ?_⟩
    rw [iL_cons, forL_cons]
    simp
    simpa using e
theorem ev_lessened {n : Nat} (hn : 1 ≤ n) {d : D} {xs : List Int} (h : SeqD d xs) (hs : SmL xs) (hl : xs.length ≤ 100000) : evf tb n "lessened" none [d] = some (.nw (iL (lessen xs)), none) := by
  obtain ⟨n, rfl⟩ : ∃ m, n = m + 1 := ⟨n - 1, by omega⟩
  rw [fi_lessened, run_lessened]
  obtain ⟨o2, e⟩ := loop_lessened (evf tb n) d none xs 0 none
  have hg : gcdL xs < 2 ^ 9000 := gcd_lt hs (by exact Nat.pow_pos (by decide))
  have e' : forL (gN 2) (b_lessened_2 (evf tb n)) (iL xs) [some (.va d), some (.va (.int 0)), none, none] = some (.nx, [some (.va d), some (.va (.int (gcdL xs : Nat))), o2, none]) := e
  unfold lessen
  by_cases h2 : gcdL xs < 2
  · rw [if_pos h2]
    have h3 : ((gcdL xs : Nat) : Int) < 2 := by omega
    rcases h with rfl | rfl <;> simp [S_lessened, e', h3]
  · rw [if_neg h2]
    have h3 : ¬ ((gcdL xs : Nat) : Int) < 2 := by omega
    have lc := lcI (own := [3, 2]) (g := gN 2) (te := e_lessened_1 (evf tb n)) (ρ := [some (.va d), some (.va (.int (gcdL xs : Nat))), none, none]) (fun x => x.fdiv (gcdL xs : Nat)) xs hl fun x hx => by
      simp [lcOne, fDiv_sm (a := x) (show sm ((gcdL xs : Nat) : Int) from hg) (by omega)]
    simp [S_lessened, e', h3, h.seq, lc]

/-! ### row_at -/
def dot (as bs : List Int) : Int := ((as.zip bs).map fun p => p.1 * p.2).sum
theorem ev_row_at {n : Nat} (hn : 2 ≤ n) {d1 d2 : D} {as bs : List Int} (h1 : SeqD d1 as) (h2 : SeqD d2 bs) (hl : as.length = bs.length) (hN : as.length ≤ 100000) (s1 : SmL as) (s2 : SmL bs) : evf tb n "row_at" none [d1, d2] = some (.va (.int (dot as bs)), none) := by
  obtain ⟨n, rfl⟩ : ∃ m, n = m + 1 := ⟨n - 1, by omega⟩
  rw [fi_row_at, run_row_at]
  have e1 := ev_sum_length (n := n) (by omega) h2 hl.symm (.str "the row of numbers")
  have lc := lcP (own := [2, 3, 4]) (g := gT (gsCons (gN 3) (gsCons (gN 4) gsNil))) (te := e_row_at_1 (evf tb n)) (ρ := [some (.va d1), some (.va d2), none, none, none]) (fun p => p.1 * p.2) (as.zip bs) (by rw [List.length_zip]; omega) fun a b hx => by
    have := List.of_mem_zip hx
    simp [lcOne, fMul_sm (s1 a this.1) (s2 b this.2)]
  simp [S_row_at, h1.len, e1, h1.seq, h2.seq, zipD_ints, lc, dot]

/-! ### mixed -/
def mixStep (p : List Int × Int) (q : Row × Int) : List Int × Int := ((p.1.zip q.1.1).map fun x => x.1 + q.2 * x.2, p.2 + q.2 * q.1.2)
def mix (L : Nat) (rs : List Row) (ws : List Int) : List Int × Int := (rs.zip ws).foldl mixStep (List.replicate L 0, 0)
def qL (qs : List (Row × Int)) : List D := qs.map fun q => .tuple [rT q.1, .int q.2]
@[simp] theorem qL_nil : qL [] = [] := rfl
theorem qL_cons (q : Row × Int) (qs : List (Row × Int)) : qL (q :: qs) = .tuple [rT q.1, .int q.2] :: qL qs := rfl
theorem zipD_rows : ∀ (rs : List Row) (ws : List Int), zipD (rTs rs) (iL ws) = qL (rs.zip ws)
  | [], ys => by simp [zipD]
  | x :: xs, [] => by simp [zipD]
  | x :: xs, y :: ys => by simp [zipD, rTs_cons, iL_cons, qL_cons, zipD_rows xs ys]
theorem loop_mixed (o : Str → Orc) (L : Nat) (a0 a1 a2 a3 : Option Sl) : ∀ (qs : List (Row × Int)) (p : List Int × Int) (o6 o7 o8 o9 o10 o11 : Option Sl) (sl : Sl), (∀ q ∈ qs, SmL q.1.1 ∧ sm q.1.2 ∧ sm q.2 ∧ q.1.1.length = L) → p.1.length = L → L ≤ 100000 → (sl = .ow (iL p.1) ∨ sl = .va (eL p.1)) →
    ∃ (o6' o7' o8' o9' o10' o11' : Option Sl) (sl' : Sl), (sl' = .ow (iL (qs.foldl mixStep p).1) ∨ sl' = .va (eL (qs.foldl mixStep p).1)) ∧ forL (gT (gsCons (gT (gsCons (gN 6) (gsCons (gN 7) gsNil))) (gsCons (gN 8) gsNil))) (b_mixed_2 o) (qL qs)
      [a0, a1, a2, a3, some sl, some (.va (.int p.2)), o6, o7, o8, o9, o10, o11] =
      some (.nx, [a0, a1, a2, a3, some sl', some (.va (.int (qs.foldl mixStep p).2)), o6', o7', o8', o9', o10', o11'])
  | [], p, o6, o7, o8, o9, o10, o11, sl, _, _, _, hs => ⟨o6, o7, o8, o9, o10, o11, sl, hs, by simp⟩
  | ((cs, r), w) :: qs, p, o6, o7, o8, o9, o10, o11, sl, hq, hp, hL, hs => by
    obtain ⟨h1, h2, h3, h4⟩ := hq _ List.mem_cons_self
    dsimp only at h1 h2 h3 h4
    obtain ⟨o6', o7', o8', o9', o10', o11', sl', hs', e⟩ := loop_mixed o L a0 a1 a2 a3 qs (mixStep p ((cs, r), w)) (some (.va (eT cs))) (some (.va (.int r))) (some (.va (.int w))) o9 o10 o11 (.ow (iL (mixStep p ((cs, r), w)).1)) (fun q hm => hq q (List.mem_cons_of_mem _ hm)) (by simp [mixStep, hp]; omega) hL (.inl rfl)
    refine ⟨o6', o7', o8', o9', o10', o11', sl', hs', ?_⟩
    have lc := lcP (own := [9, 10, 11]) (g := gT (gsCons (gN 10) (gsCons (gN 11) gsNil))) (te := e_mixed_1 o) (ρ := [a0, a1, a2, a3, some (.va (eL p.1)), some (.va (.int p.2)), some (.va (eT cs)), some (.va (.int r)), some (.va (.int w)), none, none, none])
      (fun x => x.1 + w * x.2) (p.1.zip cs) (by rw [List.length_zip]; omega) fun a b hx => by
        have := List.of_mem_zip hx
        simp [lcOne, fMul_sm h3 (h1 b this.2)]
    rw [qL_cons, forL_cons]
    rcases hs with rfl | rfl <;> simp [zipD_ints, fMul_sm h3 h2, lc] <;> exact e
theorem ev_mixed {n : Nat} (hn : 3 ≤ n) {ds : List D} {rs : List Row} {dw : D} {ws : List Int} (h : RowsD ds rs) (L : Nat) (hL : ∀ r ∈ rs, r.1.length = L) (h0 : rs = [] → L = 0) (hw : SeqD dw ws) (hl : ws.length = rs.length) (hR : rs.length < 100000) (hLn : L ≤ 100000)
    (s1 : ∀ r ∈ rs, SmL r.1 ∧ sm r.2) (s2 : SmL ws) : evf tb n "mixed" none [.list ds, dw] = some (.va (.tuple [eT (mix L rs ws).1, .int (mix L rs ws).2]), none) := by
  obtain ⟨n, rfl⟩ : ∃ m, n = m + 1 := ⟨n - 1, by omega⟩
  rw [fi_mixed, run_mixed]
  have e1 := ev_sum_rows (n := n) (by omega) L h hL hR
  have e2 := ev_sum_length (n := n) (by omega) hw hl (.str "the row of weights")
  have e3 : fMul (.list [.int 0]) (.int L) = some (.nw (iL (List.replicate L (0 : Int)))) := by
    rw [rep_1 (.int 0) hLn, iL, List.map_replicate]
  have e4 : (sIf (sAsT (sBin fGt (sLenV 0) (sC (.int 0)))) (sArgs fLen (sCons (sBin fIx (sIxV 0 (sC (.int 0))) (sC (.int 0))) sNil)) (sC (.int 0))) [some (Sl.va (.list ds)), some (Sl.va dw), none, none, none, none, none, none, none, none, none, none] = some (.va (.int L), [some (Sl.va (.list ds)), some (Sl.va dw), none, none, none, none, none, none, none, none, none, none]) := by
    cases h with
    | nil => simp [h0 rfl]
    | @cons d ds c r rs hc hd _ =>
      have hcl := hL r List.mem_cons_self
      have : fLen [c] = some (.va (.int r.1.length)) := hc.len
      have hp : (0 : Int) < (ds.length : Int) + 1 := by omega
      rcases hd with rfl | rfl <;> simp [this, hcl, hp]
  obtain ⟨o6', o7', o8', o9', o10', o11', sl', hs', e5⟩ := loop_mixed (evf tb n) L (some (.va (.list ds))) (some (.va dw)) (some (.va (.int L))) (some (.va (.list (rTs rs)))) (rs.zip ws) (List.replicate L 0, 0) none none none none none none (.ow (iL (List.replicate L 0)))
    (fun q hq => by
      obtain ⟨a, b⟩ := q
      have := List.of_mem_zip hq
      exact ⟨(s1 a this.1).1, (s1 a this.1).2, s2 b this.2, hL a this.1⟩) (by simp) hLn (.inl rfl)
  unfold S_mixed
  rw [sSeq_ap, sAsg_ap, e4]
  simp [e1, e2, e3, hw.seq, zipD_rows, e5]
  rcases hs' with rfl | rfl <;> simp [mix]
end K36

set_option Elab.async false
set_option linter.all false
set_option maxRecDepth 100000
set_option maxHeartbeats 4000000
set_option autoImplicit false
set_option exponentiation.threshold 300
/-! Law k36: what the defs give, 2: grow. -/
namespace K36
open PySem PySem.Spec PyProof.Rows L2 Pv
abbrev Mat := List (List Int)
def mL (T : Mat) : List D := T.map fun r => eL r
def mT (T : Mat) : List D := T.map fun r => eT r
@[simp] theorem mL_len (T : Mat) : (mL T).length = T.length := by simp [mL]
@[simp] theorem mT_len (T : Mat) : (mT T).length = T.length := by simp [mT]
@[simp] theorem mL_nil : mL [] = [] := rfl
@[simp] theorem mT_nil : mT [] = [] := rfl
theorem mL_cons (r : List Int) (T : Mat) : mL (r :: T) = eL r :: mL T := rfl
theorem mT_cons (r : List Int) (T : Mat) : mT (r :: T) = eT r :: mT T := rfl
theorem mL_app (S T : Mat) : mL (S ++ T) = mL S ++ mL T := by simp [mL]
def nL (xs : List Nat) : List D := iL (xs.map fun (n : Nat) => (n : Int))
@[simp] theorem nL_len (xs : List Nat) : (nL xs).length = xs.length := by simp [nL]
theorem ixN_nat {n c : Nat} (h : c < n) : ixN n (c : Int) = some c := by
  unfold ixN
  rw [if_pos (by omega), if_pos (by omega), Int.toNat_natCast]
theorem getD_eq {α : Type} {xs : List α} {c : Nat} {d : α} (h : c < xs.length) : xs[c]? = some (xs.getD c d) := by
  rw [List.getD_eq_getElem?_getD, List.getElem?_eq_getElem h]
  rfl
def ig (xs : List Int) (c : Nat) : Int := xs.getD c 0
def ng (xs : List Nat) (c : Nat) : Nat := xs.getD c 0
def rg (T : Mat) (k : Nat) : List Int := T.getD k []
theorem getD_mem {α : Type} {xs : List α} {c : Nat} {d : α} (h : c < xs.length) : xs.getD c d ∈ xs := List.mem_of_getElem? (getD_eq h)
theorem iL_atN {xs : List Int} {c : Nat} (h : c < xs.length) : atI (iL xs) (c : Int) = some (.int (ig xs c)) := by
  rw [Pv.atI_nat, iL_get, getD_eq (d := 0) h]
  rfl
theorem nL_atN {xs : List Nat} {c : Nat} (h : c < xs.length) : atI (nL xs) (c : Int) = some (.int (ng xs c : Nat)) := by
  unfold nL
  rw [Pv.atI_nat, iL_get, List.getElem?_map, getD_eq (d := 0) h]
  rfl
theorem mL_atN {T : Mat} {c : Nat} (h : c < T.length) : atI (mL T) (c : Int) = some (eL (rg T c)) := by
  unfold mL
  rw [Pv.atI_nat, List.getElem?_map, getD_eq (d := []) h]
  rfl
theorem iL_set (xs : List Int) (c : Nat) (v : Int) : (iL xs).set c (.int v) = iL (xs.set c v) := by
  unfold iL
  rw [List.map_set]
theorem nL_set (xs : List Nat) (c v : Nat) : (nL xs).set c (.int (v : Nat)) = nL (xs.set c v) := by
  unfold nL
  rw [iL_set, List.map_set]
def g2 (T : Mat) (k c : Nat) : Int := ig (rg T k) c
theorem ig_mem {xs : List Int} {c : Nat} (h : c < xs.length) : ig xs c ∈ xs := getD_mem h
theorem rg_mem {T : Mat} {c : Nat} (h : c < T.length) : rg T c ∈ T := getD_mem h

/-! ### grow_turn -/
def turnRow (prow : List Int) (at_ c : Nat) (d : Int) (k : Nat) (row : List Int) : List Int :=
  if k = at_ then row.set c d else ((row.zip prow).map fun x => (x.1 * ig prow c - ig row c * x.2).fdiv d).set c (-(ig row c))
def turnGo (prow : List Int) (at_ c : Nat) (d : Int) : Nat → Mat → Mat
  | _, [] => []
  | k, row :: r => turnRow prow at_ c d k row :: turnGo prow at_ c d (k + 1) r
def gturn (T : Mat) (at_ c : Nat) (d : Int) : Mat := turnGo (rg T at_) at_ c d 0 T
theorem turn_len (prow : List Int) (at_ c : Nat) (d : Int) : ∀ (k : Nat) (T : Mat), (turnGo prow at_ c d k T).length = T.length
  | _, [] => rfl
  | k, r :: T => by simp [turnGo, turn_len prow at_ c d (k + 1) T]
theorem loop_grow_turn (o : Str → Orc) (T : Mat) (at_ c L : Nat) (d : Int) (hat : at_ < T.length) (hd : d ≠ 0) (sd : sm d) (hc : c < L) (hL : L ≤ 1000) (hT : ∀ r ∈ T, r.length = L ∧ SmL r) : ∀ (k : Nat) (S : Mat) (acc : Mat) (o6 o7 o8 o9 o10 o11 : Option Sl), (∀ r ∈ S, r.length = L ∧ SmL r) → acc.length + S.length ≤ 1000 →
    ∃ (o6' o7' o8' o9' o10' o11' : Option Sl), forL (gT (gsCons (gN 6) (gsCons (gN 7) gsNil))) (b_grow_turn_2 o) (enumD k (mL S))
      [some (.va (.list (mL T))), some (.va (.int at_)), some (.va (.int c)), some (.va (.int d)), some (.va (.int (g2 T at_ c))), some (.ow (mL acc)), o6, o7, o8, o9, o10, o11] =
      some (.nx, [some (.va (.list (mL T))), some (.va (.int at_)), some (.va (.int c)), some (.va (.int d)), some (.va (.int (g2 T at_ c))), some (.ow (mL (acc ++ turnGo (rg T at_) at_ c d k S))), o6', o7', o8', o9', o10', o11'])
  | k, [], acc, o6, o7, o8, o9, o10, o11, _, _ => ⟨o6, o7, o8, o9, o10, o11, by simp [enumD, turnGo]⟩
  | k, row :: S, acc, o6, o7, o8, o9, o10, o11, hS, hl => by
    obtain ⟨h1, h2⟩ := hS row List.mem_cons_self
    have hl1 : acc.length < 100000 := by simp at hl; omega
    have pl : (rg T at_).length = L ∧ SmL (rg T at_) := hT _ (rg_mem hat)
    have ih := fun o8 o9 o10 o11 => loop_grow_turn o T at_ c L d hat hd sd hc hL hT (k + 1) S (acc ++ [turnRow (rg T at_) at_ c d k row]) (some (.va (.int (k : Nat)))) (some (.va (eL row))) o8 o9 o10 o11 (fun r hr => hS r (List.mem_cons_of_mem _ hr)) (by simp at hl ⊢; omega)
    rw [mL_cons]
    unfold enumD
    by_cases hk : k = at_
    · obtain ⟨o6', o7', o8', o9', o10', o11', e⟩ := ih (some (.va (eL (row.set c d)))) o9 o10 o11
      refine ⟨o6', o7', o8', o9', o10', o11', ?_⟩
      rw [forL_cons]
      subst hk
      simp [ixN_nat (show c < row.length by omega), iL_set, hl1]
      simpa [turnGo, turnRow, mL_app, mL_cons] using e
    · obtain ⟨o6', o7', o8', o9', o10', o11', e⟩ := ih (some (.va (eL (turnRow (rg T at_) at_ c d k row)))) o9 o10 o11
      refine ⟨o6', o7', o8', o9', o10', o11', ?_⟩
      rw [forL_cons]
      have hkc : ¬ ((k : Int) = (at_ : Int)) := by omega
      have gs : sm (g2 T at_ c) := pl.2 _ (ig_mem (by omega))
      have gr : sm (ig row c) := h2 _ (ig_mem (by omega))
      have lc := lcP (own := [9, 10, 11]) (g := gT (gsCons (gN 10) (gsCons (gN 11) gsNil))) (te := e_grow_turn_1 o) (ρ := [some (.va (.list (mL T))), some (.va (.int at_)), some (.va (.int c)), some (.va (.int d)), some (.va (.int (g2 T at_ c))), some (.ow (mL acc)), some (.va (.int (k : Nat))), some (.va (eL row)), o8, none, none, none])
        (fun x => (x.1 * g2 T at_ c - ig row c * x.2).fdiv d) (row.zip (rg T at_)) (by rw [List.length_zip]; omega) fun a b hx => by
          have := List.of_mem_zip hx
          simp [lcOne, fMul_sm (h2 a this.1) gs, iL_atN (show c < row.length by omega), fMul_sm gr (pl.2 b this.2), fDiv_sm sd hd]
      simp [hkc, mL_atN hat, zipD_ints, lc, iL_atN (show c < row.length by omega), ixN_nat (show c < min row.length (rg T at_).length by rw [h1, pl.1]; omega), iL_set, hl1]
      simpa [turnGo, turnRow, hk, mL_app, mL_cons, g2] using e
theorem ev_grow_turn {n : Nat} (hn : 1 ≤ n) (T : Mat) (at_ c L : Nat) (d : Int) (hat : at_ < T.length) (hd : d ≠ 0) (sd : sm d) (hc : c < L) (hL : L ≤ 1000) (hT : ∀ r ∈ T, r.length = L ∧ SmL r) (hl : T.length ≤ 1000) :
    evf tb n "grow_turn" none [.list (mL T), .int at_, .int c, .int d] = some (.va (.list (mL (gturn T at_ c d))), none) := by
  obtain ⟨n, rfl⟩ : ∃ m, n = m + 1 := ⟨n - 1, by omega⟩
  rw [fi_grow_turn, run_grow_turn]
  obtain ⟨o6, o7, o8, o9, o10, o11, e⟩ := loop_grow_turn (evf tb n) T at_ c L d hat hd sd hc hL hT 0 T [] none none none none none none hT (by simpa using hl)
  have pl : (rg T at_).length = L := (hT _ (rg_mem hat)).1
  simp only [mL_nil] at e
  simp [S_grow_turn, mL_atN hat, iL_atN (show c < (rg T at_).length by omega), fLst_0]
  change forL _ _ _ _ = _ at e
  rw [show ig (rg T at_) c = g2 T at_ c from rfl, e]
  simp [gturn]
end K36

set_option Elab.async false
set_option linter.all false
set_option maxRecDepth 100000
set_option maxHeartbeats 4000000
set_option autoImplicit false
set_option exponentiation.threshold 300
/-! Law k36: what the defs give, 3: grow_weights, grow_numbers, grow_unit. -/
namespace K36
open PySem PySem.Spec PyProof.Rows L2 Pv
theorem nL_cons (x : Nat) (xs : List Nat) : nL (x :: xs) = .int (x : Nat) :: nL xs := rfl
@[simp] theorem nL_nil : nL [] = [] := rfl
theorem rgD0 (n : Nat) : rgD 0 n = nL (List.range n) := by
  unfold rgD nL iL
  rw [List.map_map]
  refine List.map_congr_left fun i _ => ?_
  simp
theorem lcN {own : List Nat} {g : SemG} {te : SemE} {ρ : Sr} (f : Nat → Int) (xs : List Nat) (hl : xs.length ≤ 100000)
    (h : ∀ x ∈ xs, lcOne own g te (.int (x : Nat)) ρ = some (.int (f x), ρ)) : lcL own g sYes te (nL xs) ρ [] = some (iL (xs.map f), ρ) := by
  have := lc_one (fun (x : Nat) => PyData.int (x : Nat)) (fun x => .int (f x)) xs [] (by simpa using hl) h
  have e : nL xs = xs.map (fun (x : Nat) => PyData.int (x : Nat)) := by unfold nL iL; rw [List.map_map]; rfl
  rw [e, this, iL, List.map_map]
  rfl
theorem lcN_D {own : List Nat} {g : SemG} {te : SemE} {ρ : Sr} (f : Nat → D) (xs : List Nat) (hl : xs.length ≤ 100000)
    (h : ∀ x ∈ xs, lcOne own g te (.int (x : Nat)) ρ = some (f x, ρ)) : lcL own g sYes te (nL xs) ρ [] = some (xs.map f, ρ) := by
  have := lc_one (fun (x : Nat) => PyData.int (x : Nat)) f xs [] (by simpa using hl) h
  have e : nL xs = xs.map (fun (x : Nat) => PyData.int (x : Nat)) := by unfold nL iL; rw [List.map_map]; rfl
  rw [e, this]
  simp
theorem lcN_F {own : List Nat} {g : SemG} {tt : SemT} {te : SemE} {ρ : Sr} (f : Nat → D) (p : Nat → Bool) (xs : List Nat) (hl : xs.length ≤ 100000)
    (h : ∀ x ∈ xs, lcTwo own g tt te (.int (x : Nat)) ρ = some (if p x = true then some (f x) else none, ρ)) : lcL own g tt te (nL xs) ρ [] = some ((xs.filter p).map f, ρ) := by
  have := lc_two (fun (x : Nat) => PyData.int (x : Nat)) f p xs [] (by simpa using hl) h
  have e : nL xs = xs.map (fun (x : Nat) => PyData.int (x : Nat)) := by unfold nL iL; rw [List.map_map]; rfl
  rw [e, this]
  simp
@[simp] theorem min_pairs (p : Int × Int) (ps : List (Int × Int)) : fMin1 [.list (pL (p :: ps))] = some (.va (.tuple [.int (minP p ps).1, .int (minP p ps).2])) := by
  show (match intsOf (pL (p :: ps)) with
    | some (n :: ns) => some (Rs.va (.int (ns.foldl min n)))
    | some [] => none
    | none => (match pairsOf (pL (p :: ps)) with
      | some (p :: ps) => some (Rs.va (Pv.pairD (minP p ps)))
      | _ => none)) = _
  rw [show pairsOf (pL (p :: ps)) = some (p :: ps) from pairsOf_map (p :: ps)]
  rfl

/-! ### grow_weights -/
def gwGo (last : List Int) (L : Nat) : Nat → List Nat → List Int → List Int
  | _, [], w => w
  | k, a :: r, w => gwGo last L (k + 1) r (if L ≤ a then w.set (a - L) (ig last k) else w)
def gweights (last : List Int) (ac : List Nat) (L m : Nat) : List Int := gwGo last L 0 ac (List.replicate m 0)
theorem loop_grow_weights (o : Str → Orc) (last : List Int) (R : D) (L m : Nat) : ∀ (k : Nat) (ac : List Nat) (w : List Int) (o5 o6 : Option Sl), (∀ a ∈ ac, a < L + m) → w.length = m → k + ac.length ≤ last.length →
    ∃ (o5' o6' : Option Sl), forL (gT (gsCons (gN 5) (gsCons (gN 6) gsNil))) (b_grow_weights_1 o) (enumD k (nL ac)) [some (.va (eL last)), some (.va R), some (.va (.int L)), some (.va (.int m)), some (.ow (iL w)), o5, o6] =
      some (.nx, [some (.va (eL last)), some (.va R), some (.va (.int L)), some (.va (.int m)), some (.ow (iL (gwGo last L k ac w))), o5', o6'])
  | k, [], w, o5, o6, _, _, _ => ⟨o5, o6, by simp [enumD, gwGo]⟩
  | k, a :: ac, w, o5, o6, ha, hw, hk => by
    have hk' : k < last.length := by simp at hk; omega
    have ih := loop_grow_weights o last R L m (k + 1) ac (if L ≤ a then w.set (a - L) (ig last k) else w) (some (.va (.int (k : Nat)))) (some (.va (.int (a : Nat)))) (fun b hb => ha b (List.mem_cons_of_mem _ hb)) (by split <;> simp [hw]) (by simp at hk ⊢; omega)
    obtain ⟨o5', o6', e⟩ := ih
    refine ⟨o5', o6', ?_⟩
    rw [nL_cons]
    unfold enumD
    rw [forL_cons]
    have h1 := ha a List.mem_cons_self
    by_cases h : L ≤ a
    · rw [if_pos h] at e
      have e2 : (a : Int) - (L : Int) = ((a - L : Nat) : Int) := by omega
      simp [h, iL_atN hk', e2, ixN_nat (show a - L < w.length by omega), iL_set]
      simpa [gwGo, h] using e
    · rw [if_neg h] at e
      simp [h]
      simpa [gwGo, h] using e
theorem ev_grow_weights {n : Nat} (hn : 1 ≤ n) (last : List Int) (ac : List Nat) (L m : Nat) (ha : ∀ a ∈ ac, a < L + m) (hl : ac.length ≤ last.length) (hm : m ≤ 1000) :
    evf tb n "grow_weights" none [eL last, .list (nL ac), .int L, .int m] = some (.va (eL (gweights last ac L m)), none) := by
  obtain ⟨n, rfl⟩ : ∃ m, n = m + 1 := ⟨n - 1, by omega⟩
  rw [fi_grow_weights, run_grow_weights]
  obtain ⟨o5, o6, e⟩ := loop_grow_weights (evf tb n) last (.list (nL ac)) L m 0 ac (List.replicate m 0) none none ha (by simp) (by omega)
  have e3 := rep_1 (.int 0) (show m ≤ 100000 by omega)
  rw [show List.replicate m (PyData.int 0) = iL (List.replicate m 0) by simp [iL]] at e3
  simp [S_grow_weights, e3, e, gweights]

/-! ### grow_numbers -/
def npL (ps : List (Nat × Int)) : List D := ps.map fun q => .tuple [.int (q.1 : Nat), .int q.2]
@[simp] theorem npL_nil : npL [] = [] := rfl
@[simp] theorem npL_len (ps : List (Nat × Int)) : (npL ps).length = ps.length := by simp [npL]
theorem npL_cons (q : Nat × Int) (ps : List (Nat × Int)) : npL (q :: ps) = .tuple [.int (q.1 : Nat), .int q.2] :: npL ps := rfl
def nPairs (T : Mat) (p : Nat) : Nat → List Nat → List (Nat × Int)
  | _, [] => []
  | k, a :: r => (a, -(g2 T k p)) :: nPairs T p (k + 1) r
theorem nPairs_len (T : Mat) (p : Nat) : ∀ (k : Nat) (dn : List Nat), (nPairs T p k dn).length = dn.length
  | _, [] => rfl
  | k, a :: r => by simp [nPairs, nPairs_len T p (k + 1) r]
def gnums (L : Nat) (ps : List (Nat × Int)) : List Int := ps.foldl (fun w q => if q.1 < L then w.set q.1 q.2 else w) (List.replicate L 0)
theorem lc_nums (o : Str → Orc) (T : Mat) (p L : Nat) (ρ : Sr) (hρ : ρ[0]? = some (some (.va (.list (mL T))))) (hp : ρ[3]? = some (some (.va (.int p)))) (hl : ρ.length = 10) (h8 : ρ[8]? = some none) (h9 : ρ[9]? = some none) (h6 : ρ[6]? = some none) (hpL : p < L) (hT : ∀ r ∈ T, r.length = L) :
    ∀ (k : Nat) (dn : List Nat) (acc : List D), k + dn.length ≤ T.length → acc.length + dn.length ≤ 100000 →
      lcL [8, 9, 6] (gT (gsCons (gN 9) (gsCons (gN 6) gsNil))) sYes (e_grow_numbers_1 o) (enumD k (nL dn)) ρ acc = some (acc ++ npL (nPairs T p k dn), ρ)
  | k, [], acc, _, _ => by simp [enumD, lcL, nPairs]
  | k, a :: dn, acc, hk, ha => by
    match ρ, hl with
    | [r0, r1, r2, r3, r4, r5, r6, r7, r8, r9], _ =>
      simp at hρ hp h8 h9 h6
      subst hρ hp h8 h9 h6
      have hk' : k < T.length := by simp at hk; omega
      have hr : p < (rg T k).length := by rw [hT _ (rg_mem hk')]; exact hpL
      have ih := lc_nums o T p L (ρ := [some (.va (.list (mL T))), r1, r2, some (.va (.int p)), r4, r5, none, r7, none, none]) rfl rfl rfl rfl rfl rfl hpL hT (k + 1) dn (acc ++ [.tuple [.int (a : Nat), .int (-(g2 T k p))]]) (by simp at hk ⊢; omega) (by simp at ha ⊢; omega)
      have ha' : acc.length < 100000 := by simp at ha; omega
      rw [nL_cons]
      unfold enumD
      rw [lcL]
      simp [mL_atN hk', iL_atN hr, ha']
      simpa [nPairs, npL_cons, g2] using ih
theorem loop_grow_numbers (o : Str → Orc) (L : Nat) (a0 a2 a3 a4 a8 a9 : Option Sl) (ac : List D) (hac : ac.length = L) : ∀ (ps : List (Nat × Int)) (w : List Int) (o6 o7 : Option Sl), w.length = L →
    ∃ (o6' o7' : Option Sl), forL (gT (gsCons (gN 6) (gsCons (gN 7) gsNil))) (b_grow_numbers_2 o) (npL ps) [a0, some (.va (.list ac)), a2, a3, a4, some (.ow (iL w)), o6, o7, a8, a9] =
      some (.nx, [a0, some (.va (.list ac)), a2, a3, a4, some (.ow (iL (ps.foldl (fun w q => if q.1 < L then w.set q.1 q.2 else w) w))), o6', o7', a8, a9])
  | [], w, o6, o7, _ => ⟨o6, o7, by simp⟩
  | (a, v) :: ps, w, o6, o7, hw => by
    have ih := loop_grow_numbers o L a0 a2 a3 a4 a8 a9 ac hac ps (if a < L then w.set a v else w) (some (.va (.int (a : Nat)))) (some (.va (.int v))) (by split <;> simp [hw])
    obtain ⟨o6', o7', e⟩ := ih
    refine ⟨o6', o7', ?_⟩
    rw [npL_cons, forL_cons]
    by_cases h : a < L
    · rw [if_pos h] at e
      simp [hac, h, ixN_nat (show a < w.length by omega), iL_set]
      simpa [h] using e
    · rw [if_neg h] at e
      have h' : ¬ ((a : Int) < (L : Int)) := by omega
      simp [hac, h]
      simpa [h] using e
theorem ev_grow_numbers {n : Nat} (hn : 2 ≤ n) (T : Mat) (ac dn : List Nat) (p L : Nat) (d : Int) (hac : ac.length = L) (hp : p < L) (hT : ∀ r ∈ T, r.length = L) (hd : dn.length ≤ T.length) (hL : L ≤ 1000) (hD : dn.length ≤ 1000)
    (hs : SmL (gnums L ((ng ac p, d) :: nPairs T p 0 dn))) :
    evf tb n "grow_numbers" none [.list (mL T), .list (nL ac), .list (nL dn), .int p, .int d] = some (.nw (iL (lessen (gnums L ((ng ac p, d) :: nPairs T p 0 dn)))), none) := by
  obtain ⟨n, rfl⟩ : ∃ m, n = m + 1 := ⟨n - 1, by omega⟩
  rw [fi_grow_numbers, run_grow_numbers]
  have e3 := rep_1 (.int 0) (show L ≤ 100000 by omega)
  rw [show List.replicate L (PyData.int 0) = iL (List.replicate L 0) by simp [iL]] at e3
  obtain ⟨o6, o7, e⟩ : ∃ (o6 o7 : Option Sl), forL (gT (gsCons (gN 6) (gsCons (gN 7) gsNil))) (b_grow_numbers_2 (evf tb n)) (npL ((ng ac p, d) :: nPairs T p 0 dn)) [some (.va (.list (mL T))), some (.va (.list (nL ac))), some (.va (.list (nL dn))), some (.va (.int p)), some (.va (.int d)), some (.ow (iL (List.replicate L 0))), none, none, none, none] =
      some (.nx, [some (.va (.list (mL T))), some (.va (.list (nL ac))), some (.va (.list (nL dn))), some (.va (.int p)), some (.va (.int d)), some (.ow (iL (gnums L ((ng ac p, d) :: nPairs T p 0 dn)))), o6, o7, none, none]) := loop_grow_numbers (evf tb n) L (some (.va (.list (mL T)))) (some (.va (.list (nL dn)))) (some (.va (.int p))) (some (.va (.int d))) none none (nL ac) (by simp [hac]) ((ng ac p, d) :: nPairs T p 0 dn) (List.replicate L 0) none none (by simp)
  have e4 := lc_nums (evf tb n) T p L [some (.va (.list (mL T))), some (.va (.list (nL ac))), some (.va (.list (nL dn))), some (.va (.int p)), some (.va (.int d)), some (.ow (iL (List.replicate L 0))), none, none, none, none] rfl rfl rfl rfl rfl rfl hp hT 0 dn [] (by omega) (by simp; omega)
  have glen : ∀ (ps : List (Nat × Int)) (w : List Int), (ps.foldl (fun w q => if q.1 < L then w.set q.1 q.2 else w) w).length = w.length := by
    intro ps
    induction ps with
    | nil => intro w; rfl
    | cons q ps ih => intro w; rw [List.foldl_cons, ih]; split <;> simp
  have e5 := ev_lessened (n := n) (by omega) (.L _) hs (by unfold gnums; rw [glen]; simp; omega)
  have hl2 : 1 + (nPairs T p 0 dn).length ≤ 100000 := by rw [nPairs_len]; omega
  have e6 : fAdd (.list [.tuple [.int (ng ac p : Nat), .int d]]) (.list (npL (nPairs T p 0 dn))) = some (.nw (npL ((ng ac p, d) :: nPairs T p 0 dn))) := by
    show (if [PyData.tuple [.int (ng ac p : Nat), .int d]].length + (npL (nPairs T p 0 dn)).length ≤ 100000 then some (Rs.nw (_ ++ _)) else none) = _
    rw [if_pos (by simpa using hl2)]
    rfl
  simp [S_grow_numbers, hac, e3, nL_atN (show p < ac.length by omega), e4, e6]
  rw [e]
  simp [e5]
/-! ### grow_unit -/
def unit (L p : Nat) : List Int := (List.range L).map fun k => if k = p then 1 else 0
theorem ev_grow_unit {n : Nat} (hn : 1 ≤ n) (L p : Nat) (hL : L ≤ 1000) : evf tb n "grow_unit" none [.int L, .int p] = some (.nw (iL (unit L p)), none) := by
  obtain ⟨n, rfl⟩ : ∃ m, n = m + 1 := ⟨n - 1, by omega⟩
  rw [fi_grow_unit, run_grow_unit]
  have h62 : L < 2 ^ 62 := by omega
  have lc := lcN (own := [2, 3]) (g := gN 3) (te := e_grow_unit_1 (evf tb n)) (ρ := [some (.va (.int L)), some (.va (.int p)), none, none]) (fun k => if k = p then 1 else 0) (List.range L) (by simp; omega) fun x _ => by
    by_cases h : x = p
    · simp [lcOne, h]
    · have h' : ¬ ((x : Int) = (p : Int)) := by omega
      simp [lcOne, h, h']
  simp [S_grow_unit, h62, rgD0, lc, unit]
end K36

set_option Elab.async false
set_option linter.all false
set_option maxRecDepth 100000
set_option maxHeartbeats 4000000
set_option autoImplicit false
set_option exponentiation.threshold 300
/-! Law k36: what the defs give, 4: grow_towards. -/
namespace K36
open PySem PySem.Spec PyProof.Rows L2 Pv
structure TS where
  T : Mat
  ac : List Nat
  dn : List Nat
  d : Int
def readyC (L m : Nat) (s : TS) : List Nat := (List.range L).filter fun c => decide (g2 s.T m c < 0)
def stopsK (m : Nat) (s : TS) (c : Nat) : List Nat := (List.range m).filter fun k => decide (0 < g2 s.T k c)
def prA (xs : List Nat) (c : Nat) : Int × Int := ((ng xs c : Nat), (c : Nat))
/-- the place of least name -/
def pick (xs : List Nat) : List Nat → Nat
  | [] => 0
  | c :: r => (minP (prA xs c) (r.map (prA xs))).2.toNat
def nextS (s : TS) (c a : Nat) : TS := ⟨gturn s.T a c s.d, s.ac.set c (ng s.dn a), s.dn.set a (ng s.ac c), g2 s.T a c⟩
/-- what a state must be for a turn to go through -/
structure Shape (L m : Nat) (s : TS) : Prop where
  rows : s.T.length = m + 1
  cols : ∀ r ∈ s.T, r.length = L ∧ SmL r
  ac : s.ac.length = L
  dn : s.dn.length = m
  nm : ∀ a ∈ s.ac, a < L + m
  sd : sm s.d
  nz : s.d ≠ 0
abbrev Res := Bool × List Int × Int
inductive GRun (L m : Nat) : Nat → TS → Res → Prop
  | cap {n : Nat} {s : TS} : Shape L m s → readyC L m s = [] → GRun L m (n + 1) s (false, gweights (rg s.T m) s.ac L m, s.d)
  | grow {n : Nat} {s : TS} : Shape L m s → readyC L m s ≠ [] → stopsK m s (pick s.ac (readyC L m s)) = [] →
      SmL (gnums L ((ng s.ac (pick s.ac (readyC L m s)), s.d) :: nPairs s.T (pick s.ac (readyC L m s)) 0 s.dn)) →
      GRun L m (n + 1) s (true, lessen (gnums L ((ng s.ac (pick s.ac (readyC L m s)), s.d) :: nPairs s.T (pick s.ac (readyC L m s)) 0 s.dn)), 0)
  | step {n : Nat} {s : TS} {r : Res} : Shape L m s → readyC L m s ≠ [] → stopsK m s (pick s.ac (readyC L m s)) ≠ [] →
      GRun L m n (nextS s (pick s.ac (readyC L m s)) (pick s.dn (stopsK m s (pick s.ac (readyC L m s))))) r → GRun L m (n + 1) s r
theorem minP_mem' (ps : List (Int × Int)) (p : Int × Int) : minP p ps ∈ p :: ps := minP_mem ps p
theorem pick_mem {xs cs : List Nat} (h : cs ≠ []) : pick xs cs ∈ cs := by
  cases cs with
  | nil => exact absurd rfl h
  | cons c r =>
    have := minP_mem (r.map (prA xs)) (prA xs c)
    rw [← List.map_cons, List.mem_map] at this
    obtain ⟨x, hx, e⟩ := this
    show (minP (prA xs c) (r.map (prA xs))).2.toNat ∈ _
    rw [← e]
    simpa [prA] using hx
theorem pick_pair (xs : List Nat) (c : Nat) (r : List Nat) : (minP (prA xs c) (r.map (prA xs))).2 = (pick xs (c :: r) : Nat) := by
  have := minP_mem (r.map (prA xs)) (prA xs c)
  rw [← List.map_cons, List.mem_map] at this
  obtain ⟨x, hx, e⟩ := this
  show _ = (((minP (prA xs c) (r.map (prA xs))).2.toNat : Nat) : Int)
  rw [← e]
  simp [prA]
theorem pL_map (xs cs : List Nat) : (cs.map fun c => PyData.tuple [.int (ng xs c : Nat), .int (c : Nat)]) = pL (cs.map (prA xs)) := by
  unfold pL
  rw [List.map_map]
  rfl
def resD (r : Res) : D := .tuple [.bool r.1, eL r.2.1, .int r.2.2]
/-- the slots at a turn's head -/
def stR (R0 R2 : D) (L m : Nat) (s : TS) (o : List (Option Sl)) (sl : Sl) : Sr :=
  [some (.va R0), some (.va (.int L)), some (.va R2), some (.va (.int m)), some sl, some (.ow (nL s.ac)), some (.ow (nL s.dn)), some (.va (.int s.d))] ++ o
section
variable {k : Nat} {R0 R2 : D} {L m : Nat} {s : TS}
theorem ready_eq (hL : L ≤ 100) (sh : Shape L m s) {slx : Sl} (hslx : slx = .ow (mL s.T) ∨ slx = .va (.list (mL s.T))) (o8 o9 o10 o11 o12 o15 o17 : Option Sl) : lcL [13, 16] (gN 16) (t_grow_towards_4 (evf tb k)) (e_grow_towards_5 (evf tb k)) (nL (List.range L)) [some (.va R0), some (.va (.int L)), some (.va R2), some (.va (.int m)), some slx, some (.ow (nL s.ac)), some (.ow (nL s.dn)), some (.va (.int s.d)), o8, o9, o10, o11, o12, none, none, o15, none, o17] [] =
    some (pL ((readyC L m s).map (prA s.ac)), [some (.va R0), some (.va (.int L)), some (.va R2), some (.va (.int m)), some slx, some (.ow (nL s.ac)), some (.ow (nL s.dn)), some (.va (.int s.d)), o8, o9, o10, o11, o12, none, none, o15, none, o17]) := by
  have hmT : m < s.T.length := by rw [sh.rows]; omega
  have last : (rg s.T m).length = L := (sh.cols _ (rg_mem hmT)).1
  rw [← pL_map]
  refine lcN_F (fun c => PyData.tuple [.int (ng s.ac c : Nat), .int (c : Nat)]) (fun c => decide (g2 s.T m c < 0)) (List.range L) (by simp; omega) fun x hx => ?_
  have hx := List.mem_range.mp hx
  by_cases hp : g2 s.T m x < 0
  · rcases hslx with rfl | rfl <;> simp [lcTwo, mL_atN hmT, iL_atN (show x < (rg s.T m).length by omega), nL_atN (show x < s.ac.length by rw [sh.ac]; exact hx), show ig (rg s.T m) x < 0 from hp, hp]
  · rcases hslx with rfl | rfl <;> simp [lcTwo, mL_atN hmT, iL_atN (show x < (rg s.T m).length by omega), show ¬ ig (rg s.T m) x < 0 from hp, hp]
theorem stops_eq (hm : m ≤ 100) (sh : Shape L m s) {slx : Sl} (hslx : slx = .ow (mL s.T) ∨ slx = .va (.list (mL s.T))) {c : Nat} (hc : c < L) (o8 o10 o11 o12 o15 o16 o17 : Option Sl) : lcL [13, 14] (gN 14) (t_grow_towards_2 (evf tb k)) (e_grow_towards_3 (evf tb k)) (nL (List.range m)) [some (.va R0), some (.va (.int L)), some (.va R2), some (.va (.int m)), some slx, some (.ow (nL s.ac)), some (.ow (nL s.dn)), some (.va (.int s.d)), o8, some (.va (.int c)), o10, o11, o12, none, none, o15, o16, o17] [] =
    some (pL ((stopsK m s c).map (prA s.dn)), [some (.va R0), some (.va (.int L)), some (.va R2), some (.va (.int m)), some slx, some (.ow (nL s.ac)), some (.ow (nL s.dn)), some (.va (.int s.d)), o8, some (.va (.int c)), o10, o11, o12, none, none, o15, o16, o17]) := by
  rw [← pL_map]
  refine lcN_F (fun c => PyData.tuple [.int (ng s.dn c : Nat), .int (c : Nat)]) (fun k => decide (0 < g2 s.T k c)) (List.range m) (by simp; omega) fun x hx => ?_
  have hx := List.mem_range.mp hx
  have hxT : x < s.T.length := by rw [sh.rows]; omega
  have row : (rg s.T x).length = L := (sh.cols _ (rg_mem hxT)).1
  by_cases hp : 0 < g2 s.T x c
  · rcases hslx with rfl | rfl <;> simp [lcTwo, mL_atN hxT, iL_atN (show c < (rg s.T x).length by omega), nL_atN (show x < s.dn.length by rw [sh.dn]; exact hx), show 0 < ig (rg s.T x) c from hp, hp]
  · rcases hslx with rfl | rfl <;> simp [lcTwo, mL_atN hxT, iL_atN (show c < (rg s.T x).length by omega), show ¬ 0 < ig (rg s.T x) c from hp, hp]
theorem min_pick (xs cs : List Nat) (h : cs ≠ []) : ∃ z, fMin1 [.list (pL (cs.map (prA xs)))] = some (.va (.tuple [.int z, .int (pick xs cs : Nat)])) := by
  cases cs with
  | nil => exact absurd rfl h
  | cons c r =>
    rw [List.map_cons, min_pairs, pick_pair]
    exact ⟨_, rfl⟩
end
theorem gt_loop {k : Nat} (hk : 3 ≤ k) (R0 R2 : D) (L m : Nat) (hL : L ≤ 100) (hm : m ≤ 100) : ∀ {n : Nat} {s : TS} {r : Res}, GRun L m n s r → ∀ (N : Nat) (sl : Sl) (o8 o9 o10 o11 o12 o15 o17 : Option Sl), n ≤ N → (sl = .ow (mL s.T) ∨ sl = .va (.list (mL s.T))) →
    ∃ ρ', whileL (t_grow_towards_1 (evf tb k)) (b_grow_towards_6 (evf tb k)) N [some (.va R0), some (.va (.int L)), some (.va R2), some (.va (.int m)), some sl, some (.ow (nL s.ac)), some (.ow (nL s.dn)), some (.va (.int s.d)), o8, o9, o10, o11, o12, none, none, o15, none, o17] = some (.rt (.va (resD r)), ρ') := by
  intro n s r h
  have h62 : L < 2 ^ 62 := by omega
  have m62 : m < 2 ^ 62 := by omega
  induction h with
  | @cap n s sh hr =>
    intro N sl o8 o9 o10 o11 o12 o15 o17 hN hsl
    obtain ⟨N, rfl⟩ : ∃ M, N = M + 1 := ⟨N - 1, by omega⟩
    have hmT : m < s.T.length := by rw [sh.rows]; omega
    have last : (rg s.T m).length = L := (sh.cols _ (rg_mem hmT)).1
    have e1 := ev_grow_weights (n := k) (by omega) (rg s.T m) s.ac L m sh.nm (by rw [last, sh.ac]; exact Nat.le_refl _) (by omega)
    rw [whileL_succ]
    have kk := ready_eq (k := k) (R0 := R0) (R2 := R2) hL sh hsl o8 o9 o10 o11 o12 o15 o17
    rw [hr] at kk
    rcases hsl with rfl | rfl <;> simp [h62, rgD0, kk, mL_atN hmT, e1, resD]
  | @grow n s sh hr hs hb =>
    intro N sl o8 o9 o10 o11 o12 o15 o17 hN hsl
    obtain ⟨N, rfl⟩ : ∃ M, N = M + 1 := ⟨N - 1, by omega⟩
    have hc : pick s.ac (readyC L m s) < L := by
      have := pick_mem (xs := s.ac) hr
      exact List.mem_range.mp (List.mem_filter.mp this).1
    have rl : (readyC L m s).length ≠ 0 := fun z => hr (List.length_eq_zero_iff.mp z)
    rw [whileL_succ]
    have k1 := ready_eq (k := k) (R0 := R0) (R2 := R2) hL sh hsl o8 o9 o10 o11 o12 o15 o17
    obtain ⟨z, k2⟩ := min_pick s.ac (readyC L m s) hr
    have k3 := stops_eq (k := k) (R0 := R0) (R2 := R2) hm sh hsl hc (some (.va (.list (pL ((readyC L m s).map (prA s.ac)))))) o10 o11 o12 o15 none o17
    rw [hs] at k3
    have e1 := ev_grow_numbers (n := k) (by omega) s.T s.ac s.dn (pick s.ac (readyC L m s)) L s.d sh.ac hc (fun r hr => (sh.cols r hr).1) (by rw [sh.dn, sh.rows]; omega) (by omega) (by rw [sh.dn]; omega) hb
    rcases hsl with rfl | rfl <;> simp [h62, m62, rgD0, k1, rl, k2, k3, e1, resD]
  | @step n s r sh hr hs _ ih =>
    intro N sl o8 o9 o10 o11 o12 o15 o17 hN hsl
    obtain ⟨N, rfl⟩ : ∃ M, N = M + 1 := ⟨N - 1, by omega⟩
    have hc : pick s.ac (readyC L m s) < L := by
      have := pick_mem (xs := s.ac) hr
      exact List.mem_range.mp (List.mem_filter.mp this).1
    have rl : (readyC L m s).length ≠ 0 := fun z => hr (List.length_eq_zero_iff.mp z)
    have ha : pick s.dn (stopsK m s (pick s.ac (readyC L m s))) < m := by
      have := pick_mem (xs := s.dn) hs
      exact List.mem_range.mp (List.mem_filter.mp this).1
    have sl2 : (stopsK m s (pick s.ac (readyC L m s))).length ≠ 0 := fun z => hs (List.length_eq_zero_iff.mp z)
    rw [whileL_succ]
    have k1 := ready_eq (k := k) (R0 := R0) (R2 := R2) hL sh hsl o8 o9 o10 o11 o12 o15 o17
    obtain ⟨z, k2⟩ := min_pick s.ac (readyC L m s) hr
    have k3 := stops_eq (k := k) (R0 := R0) (R2 := R2) hm sh hsl hc (some (.va (.list (pL ((readyC L m s).map (prA s.ac)))))) o10 o11 o12 o15 none o17
    obtain ⟨y, k4⟩ := min_pick s.dn (stopsK m s (pick s.ac (readyC L m s))) hs
    generalize hcc : pick s.ac (readyC L m s) = c at *
    generalize haa : pick s.dn (stopsK m s c) = a at *
    have haT : a < s.T.length := by rw [sh.rows]; omega
    have row : (rg s.T a).length = L := (sh.cols _ (rg_mem haT)).1
    have e1 := ev_grow_turn (n := k) (by omega) s.T a c L s.d haT sh.nz sh.sd hc (by omega) sh.cols (by rw [sh.rows]; omega)
    obtain ⟨ρ', e⟩ := ih N (.va (.list (mL (gturn s.T a c s.d)))) (some (.va (.list (pL ((readyC L m s).map (prA s.ac)))))) (some (.va (.int c))) (some (.va (.list (pL ((stopsK m s c).map (prA s.dn)))))) (some (.va (.int a))) (some (.va (.int (g2 s.T a c)))) o15 o17 (by omega) (.inr rfl)
    refine ⟨ρ', ?_⟩
    have i1 := nL_atN (xs := s.ac) (c := c) (by rw [sh.ac]; exact hc)
    have i2 := nL_atN (xs := s.dn) (c := a) (by rw [sh.dn]; exact ha)
    have x1 := ixN_nat (n := s.ac.length) (c := c) (by rw [sh.ac]; exact hc)
    have x2 := ixN_nat (n := s.dn.length) (c := a) (by rw [sh.dn]; exact ha)
    rcases hsl with rfl | rfl <;> simp [h62, m62, rgD0, k1, rl, k2, k3, sl2, k4, mL_atN haT, iL_atN (show c < (rg s.T a).length by omega), e1, i1, i2, x1, x2, nL_set] <;> exact e
theorem lcRows {own : List Nat} {g : SemG} {te : SemE} {ρ : Sr} (T : Mat) (enc : List Int → D) (hl : T.length ≤ 100000) (h : ∀ r ∈ T, lcOne own g te (enc r) ρ = some (eL r, ρ)) : lcL own g sYes te (T.map enc) ρ [] = some (mL T, ρ) := by
  have := lc_one enc (fun r => eL r) T [] (by simpa using hl) h
  rw [this]
  rfl
/-- the tableau at the start -/
def start0 (M : Mat) (L : Nat) (g : List Int) : TS := ⟨M ++ [g.map fun a => -a], List.range L, (List.range M.length).map fun k => L + k, 1⟩
theorem ev_grow_towards {n : Nat} (hn : 4 ≤ n) (M : Mat) (L : Nat) {dg : D} {g : List Int} (hg : SeqD dg g) (hL : L ≤ 100) (hM : M.length ≤ 100) (hgl : g.length ≤ 100) {q : Nat} {r : Res} (hq : q ≤ 1000000) (h : GRun L M.length q (start0 M L g) r) :
    evf tb n "grow_towards" none [.list (mT M), .int L, dg] = some (.va (resD r), none) := by
  obtain ⟨n, rfl⟩ : ∃ m, n = m + 1 := ⟨n - 1, by omega⟩
  rw [fi_grow_towards, run_grow_towards]
  have l1 := fun ρ0 => lcRows (own := [13, 15]) (g := gN 15) (te := e_grow_towards_8 (evf tb n)) (ρ := ρ0) M (fun r => eT r) (by omega)
  have l2 := fun ρ0 => lcI (own := [13, 17]) (g := gN 17) (te := e_grow_towards_9 (evf tb n)) (ρ := ρ0) (fun a => -a) g (by omega)
  have l3 := fun ρ0 => lcN (own := [13, 14]) (g := gN 14) (te := e_grow_towards_7 (evf tb n)) (ρ := ρ0) (fun k => ((L + k : Nat) : Int)) (List.range M.length) (by simp; omega)
  have e1 : mT M = M.map fun r => eT r := rfl
  have m62 : M.length < 2 ^ 62 := by omega
  have l1' := l1 [some (.va (.list (mT M))), some (.va (.int L)), some (.va dg), some (.va (.int M.length)), none, none, none, none, none, none, none, none, none, none, none, none, none, none] fun r _ => by simp [lcOne]
  rw [← e1] at l1'
  have l2' := l2 [some (.va (.list (mT M))), some (.va (.int L)), some (.va dg), some (.va (.int M.length)), none, none, none, none, none, none, none, none, none, none, none, none, none, none] fun r _ => by simp [lcOne]
  have l3' := l3 [some (.va (.list (mT M))), some (.va (.int L)), some (.va dg), some (.va (.int M.length)), some (.ow (mL (start0 M L g).T)), some (.ow (nL (start0 M L g).ac)), none, none, none, none, none, none, none, none, none, none, none, none] fun r _ => by simp [lcOne]
  have l4 : iL ((List.range M.length).map fun k => ((L + k : Nat) : Int)) = nL (start0 M L g).dn := by
    unfold nL start0
    rw [List.map_map]
    rfl
  rw [l4] at l3'
  have e2 : fAdd (.list (mL M)) (.list [.list (iL (g.map fun a => -a))]) = some (.nw (mL (start0 M L g).T)) := by
    show (if (mL M).length + [PyData.list (iL (g.map fun a => -a))].length ≤ 100000 then some (Rs.nw (mL M ++ [PyData.list (iL (g.map fun a => -a))])) else none) = _
    rw [if_pos (by simp; omega)]
    simp [start0, mL_app, mL_cons]
  have l100 : L ≤ 100000 := by omega
  obtain ⟨ρ', e⟩ := gt_loop (k := n) (by omega) (.list (mT M)) dg L M.length hL hM h 1000000 (.ow (mL (start0 M L g).T)) none none none none none none none hq (.inl rfl)
  simp [S_grow_towards, l1', hg.seq, l2', e2, l100, rgD0, m62]
  change lcL _ _ _ _ _ _ _ = _ at l3'
  rw [show nL (List.range L) = nL (start0 M L g).ac from rfl, l3']
  simp
  rw [show (1 : Int) = (start0 M L g).d from rfl, e]
  simp
end K36

set_option Elab.async false
set_option linter.all false
set_option maxRecDepth 100000
set_option maxHeartbeats 4000000
set_option autoImplicit false
set_option exponentiation.threshold 300
/-! Law k36: the fraction-free simplex, its invariant. -/
namespace K36
open PySem PySem.Spec PyProof.Rows L2 Pv
structure V3 where
  x : Int
  y : Int
  z : Int
def D3 (a b c : V3) : Int := a.x * (b.y * c.z - b.z * c.y) - a.y * (b.x * c.z - b.z * c.x) + a.z * (b.x * c.y - b.y * c.x)
def vdot (a b : V3) : Int := a.x * b.x + a.y * b.y + a.z * b.z
def vneg (a : V3) : V3 := ⟨-a.x, -a.y, -a.z⟩
def vE : Nat → V3
  | 0 => ⟨1, 0, 0⟩
  | 1 => ⟨0, 1, 0⟩
  | _ => ⟨0, 0, 1⟩
def v3 (xs : List Int) : V3 := ⟨ig xs 0, ig xs 1, ig xs 2⟩
def upd3 (w : Nat → V3) (c : Nat) (f : V3) : Nat → V3 := fun j => if j = c then f else w j
def det (w : Nat → V3) : Int := D3 (w 0) (w 1) (w 2)
theorem lt3 {c : Nat} (h : c < 3) : c = 0 ∨ c = 1 ∨ c = 2 := by omega
theorem plucker (w : Nat → V3) {c j : Nat} (hc : c < 3) (hj : j < 3) (hcj : j ≠ c) (a f : V3) :
    det w * det (upd3 (upd3 w c a) j f) = det (upd3 w j f) * det (upd3 w c a) - det (upd3 w c f) * det (upd3 w j a) := by
  rcases lt3 hc with rfl | rfl | rfl <;> rcases lt3 hj with rfl | rfl | rfl <;> first | exact absurd rfl hcj | (simp [det, upd3]; unfold D3; grind)
theorem det_same (w : Nat → V3) {c j : Nat} (hc : c < 3) (hj : j < 3) (hcj : j ≠ c) : det (upd3 w c (w j)) = 0 := by
  rcases lt3 hc with rfl | rfl | rfl <;> rcases lt3 hj with rfl | rfl | rfl <;> first | exact absurd rfl hcj | (simp [det, upd3]; unfold D3; grind)
theorem det_eq (w : Nat → V3) {c j : Nat} (hc : c < 3) (hj : j < 3) (hcj : j ≠ c) (h : w c = w j) : det w = 0 := by
  have e : w = upd3 w c (w j) := by
    funext i
    unfold upd3
    split
    · rename_i z
      rw [z, h]
    · rfl
  rw [e]
  exact det_same w hc hj hcj
theorem det_self (w : Nat → V3) (c : Nat) : upd3 w c (w c) = w := by
  funext i
  unfold upd3
  split
  · rename_i z
    rw [z]
  · rfl
theorem upd_twice (w : Nat → V3) (c : Nat) (a b : V3) : upd3 (upd3 w c a) c b = upd3 w c b := by
  funext i
  unfold upd3
  split <;> rfl
theorem det_swap (w : Nat → V3) {c j : Nat} (hc : c < 3) (hj : j < 3) (hcj : j ≠ c) (a : V3) : det (upd3 (upd3 w c a) j (w c)) = - det (upd3 w j a) := by
  rcases lt3 hc with rfl | rfl | rfl <;> rcases lt3 hj with rfl | rfl | rfl <;> first | exact absurd rfl hcj | (simp [det, upd3]; unfold D3; grind)
theorem cramer (w : Nat → V3) (f h : V3) : det w * vdot f h = det (upd3 w 0 f) * vdot (w 0) h + det (upd3 w 1 f) * vdot (w 1) h + det (upd3 w 2 f) * vdot (w 2) h := by
  simp [det, upd3]
  unfold D3 vdot
  grind
/-- a vector on which each f gives the determinant with f at place c -/
def crs (w : Nat → V3) (c : Nat) : V3 := match c with
  | 0 => ⟨(w 1).y * (w 2).z - (w 1).z * (w 2).y, (w 1).z * (w 2).x - (w 1).x * (w 2).z, (w 1).x * (w 2).y - (w 1).y * (w 2).x⟩
  | 1 => ⟨(w 2).y * (w 0).z - (w 2).z * (w 0).y, (w 2).z * (w 0).x - (w 2).x * (w 0).z, (w 2).x * (w 0).y - (w 2).y * (w 0).x⟩
  | _ => ⟨(w 0).y * (w 1).z - (w 0).z * (w 1).y, (w 0).z * (w 1).x - (w 0).x * (w 1).z, (w 0).x * (w 1).y - (w 0).y * (w 1).x⟩
theorem crs_dot (w : Nat → V3) {c : Nat} (hc : c < 3) (f : V3) : vdot f (crs w c) = det (upd3 w c f) := by
  rcases lt3 hc with rfl | rfl | rfl <;> (simp [det, upd3, crs]; unfold D3 vdot; grind)
/-- entries at most 4 -/
def small (v : V3) : Prop := -4 ≤ v.x ∧ v.x ≤ 4 ∧ -4 ≤ v.y ∧ v.y ≤ 4 ∧ -4 ≤ v.z ∧ v.z ≤ 4
theorem mul_bd {a b : Int} {p q : Int} (h1 : -p ≤ a) (h2 : a ≤ p) (h3 : -q ≤ b) (h4 : b ≤ q) : -(p * q) ≤ a * b ∧ a * b ≤ p * q := by
  have hp : 0 ≤ p := by omega
  have hq : 0 ≤ q := by omega
  constructor
  · have i1 : 0 ≤ (p + a) * (q + b) := Int.mul_nonneg (by omega) (by omega)
    have i2 : 0 ≤ (p - a) * (q - b) := Int.mul_nonneg (by omega) (by omega)
    have e : (p + a) * (q + b) + (p - a) * (q - b) = 2 * (p * q) + 2 * (a * b) := by grind
    omega
  · have i1 : 0 ≤ (p + a) * (q - b) := Int.mul_nonneg (by omega) (by omega)
    have i2 : 0 ≤ (p - a) * (q + b) := Int.mul_nonneg (by omega) (by omega)
    have e : (p + a) * (q - b) + (p - a) * (q + b) = 2 * (p * q) - 2 * (a * b) := by grind
    omega
theorem D3_bd {a b c : V3} (ha : small a) (hb : small b) (hc : small c) : -384 ≤ D3 a b c ∧ D3 a b c ≤ 384 := by
  obtain ⟨a1, a2, a3, a4, a5, a6⟩ := ha
  obtain ⟨b1, b2, b3, b4, b5, b6⟩ := hb
  obtain ⟨c1, c2, c3, c4, c5, c6⟩ := hc
  have m1 := mul_bd b3 b4 c5 c6
  have m2 := mul_bd b5 b6 c3 c4
  have m3 := mul_bd b1 b2 c5 c6
  have m4 := mul_bd b5 b6 c1 c2
  have m5 := mul_bd b1 b2 c3 c4
  have m6 := mul_bd b3 b4 c1 c2
  have k1 := mul_bd (p := 4) (q := 32) a1 a2 (b := b.y * c.z - b.z * c.y) (by omega) (by omega)
  have k2 := mul_bd (p := 4) (q := 32) a3 a4 (b := b.x * c.z - b.z * c.x) (by omega) (by omega)
  have k3 := mul_bd (p := 4) (q := 32) a5 a6 (b := b.x * c.y - b.y * c.x) (by omega) (by omega)
  unfold D3
  omega
end K36

set_option Elab.async false
set_option linter.all false
set_option maxRecDepth 100000
set_option maxHeartbeats 4000000
set_option autoImplicit false
set_option exponentiation.threshold 300
/-! Law k36: the simplex's invariant over a turn. -/
namespace K36
open PySem PySem.Spec PyProof.Rows L2 Pv
section
variable (M : Mat) (L m : Nat) (g : List Int)
def vec (n : Nat) : V3 := if n < L then vE n else vneg (v3 (rg M (n - L)))
def nmf (s : TS) (p : Nat) : Nat := if p < L then ng s.ac p else ng s.dn (p - L)
def wv (s : TS) (j : Nat) : V3 := if j < L then vec M L (ng s.ac j) else vE j
def fv (s : TS) (k : Nat) : V3 := if k < m then vec M L (ng s.dn k) else v3 g
structure TInv (s : TS) (σ : Int) : Prop where
  sg : σ = 1 ∨ σ = -1
  dp : 0 < s.d
  dd : s.d = σ * det (wv M L s)
  tt : ∀ k c, k ≤ m → c < L → g2 s.T k c = -(σ * det (upd3 (wv M L s) c (fv M L m g s k)))
  rows : s.T.length = m + 1
  cols : ∀ r ∈ s.T, r.length = L
  acl : s.ac.length = L
  dnl : s.dn.length = m
  inj : ∀ p q, p < L + m → q < L + m → nmf L s p = nmf L s q → p = q
  sur : ∀ n, n < L + m → ∃ p, p < L + m ∧ nmf L s p = n
  rng : ∀ p, p < L + m → nmf L s p < L + m
end
theorem ig_get {xs : List Int} {c : Nat} (h : c < xs.length) : ig xs c = xs[c] := by
  unfold ig
  rw [List.getD_eq_getElem?_getD, List.getElem?_eq_getElem h]
  rfl
theorem ng_get {xs : List Nat} {c : Nat} (h : c < xs.length) : ng xs c = xs[c] := by
  unfold ng
  rw [List.getD_eq_getElem?_getD, List.getElem?_eq_getElem h]
  rfl
theorem rg_get {xs : Mat} {c : Nat} (h : c < xs.length) : rg xs c = xs[c] := by
  unfold rg
  rw [List.getD_eq_getElem?_getD, List.getElem?_eq_getElem h]
  rfl
theorem ig_out {xs : List Int} {c : Nat} (h : xs.length ≤ c) : ig xs c = 0 := by
  unfold ig
  rw [List.getD_eq_getElem?_getD, List.getElem?_eq_none h]
  rfl
theorem ig_set (xs : List Int) (c j : Nat) (v : Int) (h : c < xs.length) : ig (xs.set c v) j = if j = c then v else ig xs j := by
  unfold ig
  rw [List.getD_eq_getElem?_getD, List.getD_eq_getElem?_getD]
  by_cases e : j = c
  · subst e
    rw [List.getElem?_set_self h, if_pos rfl]
    rfl
  · rw [List.getElem?_set_ne (Ne.symm e), if_neg e]
theorem ng_set (xs : List Nat) (c j : Nat) (v : Nat) (h : c < xs.length) : ng (xs.set c v) j = if j = c then v else ng xs j := by
  unfold ng
  rw [List.getD_eq_getElem?_getD, List.getD_eq_getElem?_getD]
  by_cases e : j = c
  · subst e
    rw [List.getElem?_set_self h, if_pos rfl]
    rfl
  · rw [List.getElem?_set_ne (Ne.symm e), if_neg e]
theorem turnGo_get (prow : List Int) (a c : Nat) (d : Int) : ∀ (S : Mat) (k i : Nat), i < S.length → rg (turnGo prow a c d k S) i = turnRow prow a c d (k + i) (rg S i)
  | [], k, i, h => by simp at h
  | r :: S, k, 0, h => rfl
  | r :: S, k, i + 1, h => by
    have := turnGo_get prow a c d S (k + 1) i (by simpa using h)
    show rg (turnGo prow a c d (k + 1) S) i = turnRow prow a c d (k + (i + 1)) (rg S i)
    rw [this, show k + 1 + i = k + (i + 1) by omega]
theorem turnRow_ig {prow row : List Int} {a c : Nat} {d : Int} {k L : Nat} (h1 : prow.length = L) (h2 : row.length = L) (hc : c < L) {j : Nat} (hj : j < L) :
    ig (turnRow prow a c d k row) j = if k = a then (if j = c then d else ig row j) else if j = c then -(ig row c) else (ig row j * ig prow c - ig row c * ig prow j).fdiv d := by
  unfold turnRow
  by_cases hk : k = a
  · rw [if_pos hk, if_pos hk, ig_set _ _ _ _ (by omega)]
  · rw [if_neg hk, if_neg hk, ig_set _ _ _ _ (by simp [h1, h2]; omega)]
    by_cases e : j = c
    · rw [if_pos e, if_pos e]
    · rw [if_neg e, if_neg e, ig_get (by simp [h1, h2]; omega)]
      simp only [List.getElem_map, List.getElem_zip]
      rw [ig_get (show j < row.length by omega), ig_get (show j < prow.length by omega)]
theorem turnRow_len {prow row : List Int} {a c : Nat} {d : Int} {k L : Nat} (h1 : prow.length = L) (h2 : row.length = L) : (turnRow prow a c d k row).length = L := by
  unfold turnRow
  split
  · simp [h2]
  · simp [h1, h2]
theorem turn_mem {prow : List Int} {a c : Nat} {d : Int} : ∀ {S : Mat} {k : Nat} {r : List Int}, r ∈ turnGo prow a c d k S → ∃ k' row, row ∈ S ∧ r = turnRow prow a c d k' row
  | [], k, r, h => by simp [turnGo] at h
  | x :: S, k, r, h => by
    simp only [turnGo, List.mem_cons] at h
    rcases h with h | h
    · exact ⟨k, x, List.mem_cons_self, h⟩
    · obtain ⟨k', row, h1, h2⟩ := turn_mem h
      exact ⟨k', row, List.mem_cons_of_mem _ h1, h2⟩
section
variable {M : Mat} {L m : Nat} {g : List Int} {s : TS} {σ : Int}
theorem TInv.nmA (I : TInv M L m g s σ) {c : Nat} (h : c < L) : nmf L s c = ng s.ac c := if_pos h
theorem TInv.nmD (I : TInv M L m g s σ) {a : Nat} : nmf L s (L + a) = ng s.dn a := by
  unfold nmf
  rw [if_neg (by omega), Nat.add_sub_cancel_left]
theorem sg_sq (h : σ = 1 ∨ σ = -1) : σ * σ = 1 := by rcases h with rfl | rfl <;> rfl
theorem TInv.step (hL : L ≤ 3) (I : TInv M L m g s σ) {a c : Nat} (ha : a < m) (hc : c < L) (hp : 0 < g2 s.T a c) : TInv M L m g (nextS s c a) (-σ) := by
  have haT : a < s.T.length := by rw [I.rows]; omega
  have ral : (rg s.T a).length = L := I.cols _ (rg_mem haT)
  have fa : fv M L m g s a = vec M L (ng s.dn a) := if_pos ha
  have ew : wv M L (nextS s c a) = upd3 (wv M L s) c (fv M L m g s a) := by
    funext j
    show (if j < L then vec M L (ng (s.ac.set c (ng s.dn a)) j) else vE j) = if j = c then fv M L m g s a else if j < L then vec M L (ng s.ac j) else vE j
    rw [ng_set _ _ _ _ (by rw [I.acl]; exact hc)]
    by_cases e : j = c
    · subst e
      rw [if_pos hc, if_pos rfl, if_pos rfl, fa]
    · rw [if_neg e, if_neg e]
  have wc : wv M L s c = vec M L (ng s.ac c) := if_pos hc
  have ta := I.tt a c (by omega) hc
  have nm : ∀ p, p < L + m → nmf L (nextS s c a) p = nmf L s (if p = c then L + a else if p = L + a then c else p) := fun p hp => by
    unfold nmf
    show (if p < L then ng (s.ac.set c (ng s.dn a)) p else ng (s.dn.set a (ng s.ac c)) (p - L)) = _
    rw [ng_set _ _ _ _ (by rw [I.acl]; exact hc), ng_set _ _ _ _ (by rw [I.dnl]; exact ha)]
    by_cases e : p = c
    · subst e
      rw [if_pos hc, if_pos rfl, if_pos rfl, if_neg (by omega), Nat.add_sub_cancel_left]
    · rw [if_neg e, if_neg e]
      by_cases e2 : p = L + a
      · subst e2
        rw [if_neg (by omega), if_pos (by omega), if_pos rfl, if_pos hc]
      · rw [if_neg e2]
        by_cases e3 : p < L
        · rw [if_pos e3, if_pos e3]
        · rw [if_neg e3, if_neg e3, if_neg (by omega)]
  refine ⟨I.sg.elim (fun h => .inr (by rw [h])) fun h => .inl (by rw [h]; rfl), hp, ?_, ?_, ?_, ?_, ?_, ?_, ?_, ?_, ?_⟩
  · show g2 s.T a c = _
    rw [ew, ta]
    grind
  · intro k j hk hj
    have hkT : k < s.T.length := by rw [I.rows]; omega
    have rkl : (rg s.T k).length = L := I.cols _ (rg_mem hkT)
    have e1 : g2 (nextS s c a).T k j = ig (turnRow (rg s.T a) a c s.d k (rg s.T k)) j := by
      show ig (rg (turnGo (rg s.T a) a c s.d 0 s.T) k) j = _
      rw [turnGo_get _ _ _ _ _ _ _ hkT, Nat.zero_add]
    rw [e1, turnRow_ig ral rkl hc hj, ew]
    have fk : fv M L m g (nextS s c a) k = if k = a then wv M L s c else fv M L m g s k := by
      show (if k < m then vec M L (ng (s.dn.set a (ng s.ac c)) k) else v3 g) = _
      rw [ng_set _ _ _ _ (by rw [I.dnl]; exact ha)]
      by_cases e : k = a
      · subst e
        rw [if_pos ha, if_pos rfl, if_pos rfl, wc]
      · rw [if_neg e, if_neg e]
        rfl
    rw [fk]
    by_cases e : k = a
    · rw [if_pos e, if_pos e]
      subst e
      by_cases e2 : j = c
      · rw [if_pos e2]
        subst e2
        rw [upd_twice, det_self]
        have := I.dd
        grind
      · rw [if_neg e2, det_swap _ (by omega) (by omega) e2]
        have := I.tt k j hk hj
        change ig (rg s.T k) j = _ at this
        rw [this]
        grind
    · rw [if_neg e, if_neg e]
      by_cases e2 : j = c
      · rw [if_pos e2]
        subst e2
        rw [upd_twice]
        have := I.tt k j hk hj
        change ig (rg s.T k) j = _ at this
        rw [this]
        grind
      · rw [if_neg e2]
        have t1 := I.tt k j hk hj
        have t2 := I.tt k c hk hc
        have t3 := I.tt a j (by omega) hj
        change ig (rg s.T k) j = _ at t1
        change ig (rg s.T k) c = _ at t2
        change ig (rg s.T a) j = _ at t3
        change ig (rg s.T a) c = _ at ta
        have pl := plucker (wv M L s) (c := c) (j := j) (by omega) (by omega) e2 (fv M L m g s a) (fv M L m g s k)
        have sq := sg_sq I.sg
        have key : ig (rg s.T k) j * ig (rg s.T a) c - ig (rg s.T k) c * ig (rg s.T a) j = s.d * (σ * det (upd3 (upd3 (wv M L s) c (fv M L m g s a)) j (fv M L m g s k))) := by
          rw [t1, t2, t3, ta, I.dd]
          grind
        rw [key, Int.mul_fdiv_cancel_left _ (by have := I.dp; omega)]
        grind
  · show (turnGo _ _ _ _ _ _).length = _
    rw [turn_len, I.rows]
  · intro r hr
    obtain ⟨k', row, h1, h2⟩ := turn_mem hr
    rw [h2]
    exact turnRow_len ral (I.cols _ h1)
  · show (s.ac.set _ _).length = _
    rw [List.length_set, I.acl]
  · show (s.dn.set _ _).length = _
    rw [List.length_set, I.dnl]
  · intro p q h1 h2 h3
    rw [nm p h1, nm q h2] at h3
    have := I.inj _ _ (by split; omega; split <;> omega) (by split; omega; split <;> omega) h3
    split at this <;> split at this <;> (try split at this) <;> (try split at this) <;> omega
  · intro n hn
    obtain ⟨p, h1, h2⟩ := I.sur n hn
    by_cases e : p = c
    · exact ⟨L + a, by omega, by rw [nm _ (by omega), if_neg (by omega), if_pos rfl, ← e]; exact h2⟩
    · by_cases e2 : p = L + a
      · exact ⟨c, by omega, by rw [nm _ (by omega), if_pos rfl, ← e2]; exact h2⟩
      · exact ⟨p, h1, by rw [nm _ h1, if_neg e, if_neg e2]; exact h2⟩
  · intro p h1
    rw [nm p h1]
    exact I.rng _ (by split; omega; split <;> omega)
end
end K36

set_option Elab.async false
set_option linter.all false
set_option maxRecDepth 100000
set_option maxHeartbeats 4000000
set_option autoImplicit false
set_option exponentiation.threshold 300
/-! Law k36: the simplex ends (Bland). -/
namespace K36
open PySem PySem.Spec PyProof.Rows L2 Pv
/-! ### the least name -/
theorem minP_le : ∀ (ps : List (Int × Int)) (p : Int × Int), (minP p ps).1 ≤ p.1 ∧ ∀ q ∈ ps, (minP p ps).1 ≤ q.1
  | [], p => ⟨Int.le_refl _, fun q h => by cases h⟩
  | y :: ps, p => by
    have e : minP p (y :: ps) = minP (if ltP y p = true then y else p) ps := rfl
    rw [e]
    obtain ⟨h1, h2⟩ := minP_le ps (if ltP y p = true then y else p)
    by_cases h : ltP y p = true
    · rw [if_pos h] at h1 h2 ⊢
      have hy : y.1 ≤ p.1 := by
        unfold ltP at h
        simp at h
        omega
      refine ⟨by omega, fun q hq => ?_⟩
      rcases List.mem_cons.mp hq with rfl | hq
      · exact h1
      · exact h2 q hq
    · rw [if_neg h] at h1 h2 ⊢
      have hy : p.1 ≤ y.1 := by
        unfold ltP at h
        simp at h
        omega
      refine ⟨h1, fun q hq => ?_⟩
      rcases List.mem_cons.mp hq with rfl | hq
      · omega
      · exact h2 q hq
theorem pick_le {xs cs : List Nat} {c : Nat} (h : c ∈ cs) : ng xs (pick xs cs) ≤ ng xs c := by
  cases cs with
  | nil => cases h
  | cons x r =>
    have h1 := minP_mem (r.map (prA xs)) (prA xs x)
    rw [← List.map_cons, List.mem_map] at h1
    obtain ⟨y, hy, e⟩ := h1
    have hp : pick xs (x :: r) = y := by
      show (minP (prA xs x) (r.map (prA xs))).2.toNat = y
      rw [← e]
      simp [prA]
    rw [hp]
    obtain ⟨l1, l2⟩ := minP_le (r.map (prA xs)) (prA xs x)
    rw [← e] at l1 l2
    rcases List.mem_cons.mp h with rfl | h
    · simp [prA] at l1
      omega
    · have := l2 (prA xs c) (List.mem_map_of_mem h)
      simp [prA] at this
      omega
section
variable {M : Mat} {L m : Nat} {g : List Int} {s : TS} {σ : Int}
/-! ### the direction of a state -/
theorem val_ac (hL : L ≤ 3) (I : TInv M L m g s σ) {c j : Nat} (hc : c < L) (hj : j < L) : σ * det (upd3 (wv M L s) c (vec M L (ng s.ac j))) = if j = c then s.d else 0 := by
  have wj : wv M L s j = vec M L (ng s.ac j) := if_pos hj
  rw [← wj]
  by_cases e : j = c
  · subst e
    rw [det_self, if_pos rfl, ← I.dd]
  · rw [if_neg e, det_same _ (by omega) (by omega) e, Int.mul_zero]
theorem val_pad (hL : L ≤ 3) {c j : Nat} (hc : c < L) (hj : L ≤ j) (hj3 : j < 3) : det (upd3 (wv M L s) c (vE j)) = 0 := by
  have wj : wv M L s j = vE j := if_neg (by omega)
  rw [← wj]
  exact det_same _ (by omega) hj3 (by omega)
theorem val_dn (I : TInv M L m g s σ) {c k : Nat} (hc : c < L) (hk : k < m) : σ * det (upd3 (wv M L s) c (vec M L (ng s.dn k))) = -(g2 s.T k c) := by
  have := I.tt k c (by omega) hc
  rw [show fv M L m g s k = vec M L (ng s.dn k) from if_pos hk] at this
  omega
theorem val_g (I : TInv M L m g s σ) {c : Nat} (hc : c < L) : σ * det (upd3 (wv M L s) c (v3 g)) = -(g2 s.T m c) := by
  have := I.tt m c (by omega) hc
  rw [show fv M L m g s m = v3 g from if_neg (by omega)] at this
  omega
theorem TInv.acI (I : TInv M L m g s σ) {i j : Nat} (hi : i < L) (hj : j < L) (h : ng s.ac i = ng s.ac j) : i = j :=
  I.inj i j (by omega) (by omega) (by rw [I.nmA hi, I.nmA hj, h])
theorem TInv.dnI (I : TInv M L m g s σ) {i j : Nat} (hi : i < m) (hj : j < m) (h : ng s.dn i = ng s.dn j) : i = j := by
  have := I.inj (L + i) (L + j) (by omega) (by omega) (by rw [I.nmD, I.nmD, h])
  omega
theorem TInv.apart (I : TInv M L m g s σ) {i j : Nat} (hi : i < L) (hj : j < m) : ng s.ac i ≠ ng s.dn j := fun h => by
  have := I.inj i (L + j) (by omega) (by omega) (by rw [I.nmA hi, I.nmD, h])
  omega
theorem TInv.either (I : TInv M L m g s σ) {n : Nat} (hn : n < L + m) : (∃ c, c < L ∧ ng s.ac c = n) ∨ ∃ k, k < m ∧ ng s.dn k = n := by
  obtain ⟨p, h1, h2⟩ := I.sur n hn
  by_cases h : p < L
  · exact .inl ⟨p, h, by rw [← I.nmA h]; exact h2⟩
  · refine .inr ⟨p - L, by omega, ?_⟩
    rw [← h2, show p = L + (p - L) by omega, I.nmD]
    congr 1
    omega
theorem bland (hL : L ≤ 3) {E F : TS} {σE σF : Int} (IE : TInv M L m g E σE) (IF : TInv M L m g F σF) {cE cF aF t : Nat} (hcE : cE < L) (hcF : cF < L) (haF : aF < m) (t1 : ng E.ac cE = t) (t2 : ng F.dn aF = t)
    (e1 : g2 E.T m cE < 0) (e2 : ∀ c, c < L → g2 E.T m c < 0 → t ≤ ng E.ac c) (f1 : g2 F.T m cF < 0) (f2 : 0 < g2 F.T aF cF) (f3 : ∀ k, k < m → 0 < g2 F.T k cF → t ≤ ng F.dn k) (f4 : ng F.ac cF < t)
    (st : ∀ n, t < n → (∃ c, c < L ∧ ng E.ac c = n) → ∃ c, c < L ∧ ng F.ac c = n) : False := by
  have cr := cramer (wv M L E) (v3 g) (crs (wv M L F) cF)
  rw [crs_dot _ (by omega), crs_dot _ (by omega), crs_dot _ (by omega), crs_dot _ (by omega)] at cr
  have vg := val_g IF hcF
  have sE := sg_sq IE.sg
  -- each term is at least zero
  have term : ∀ j, j < 3 → (σE * det (upd3 (wv M L E) j (v3 g))) * (σF * det (upd3 (wv M L F) cF (wv M L E j))) ≤ 0 := fun j hj => by
    by_cases hjL : j < L
    · rw [val_g IE hjL, show wv M L E j = vec M L (ng E.ac j) from if_pos hjL]
      have hn : ng E.ac j < L + m := by rw [← IE.nmA hjL]; exact IE.rng j (by omega)
      have nn : ∀ a b : Int, 0 ≤ a → 0 ≤ b → -a * b ≤ 0 := fun a b h1 h2 => by
        have := Int.mul_nonneg h1 h2
        rw [Int.neg_mul]
        omega
      have np : ∀ a b : Int, a ≤ 0 → b ≤ 0 → -a * b ≤ 0 := fun a b h1 h2 => by
        have := Int.mul_nonneg (show 0 ≤ -a by omega) (show 0 ≤ -b by omega)
        rw [Int.mul_neg] at this
        omega
      rcases Nat.lt_trichotomy (ng E.ac j) t with h | h | h
      · -- a smaller name
        have z1 : 0 ≤ g2 E.T m j := by
          rcases Int.lt_or_le (g2 E.T m j) 0 with z | z
          · have := e2 j hjL z
            omega
          · exact z
        refine nn _ _ z1 ?_
        rcases IF.either hn with ⟨c, h1, h2⟩ | ⟨k, h1, h2⟩
        · rw [← h2, val_ac hL IF hcF h1]
          split
          · exact Int.le_of_lt IF.dp
          · exact Int.le_refl _
        · rw [← h2, val_dn IF hcF h1]
          rcases Int.lt_or_le 0 (g2 F.T k cF) with z | z
          · have := f3 k h1 z
            omega
          · omega
      · have ej : j = cE := IE.acI hjL hcE (by rw [h, t1])
        subst ej
        refine np _ _ (by omega) ?_
        rw [h, ← t2, val_dn IF hcF haF]
        omega
      · obtain ⟨c, h1, h2⟩ := st _ h ⟨j, hjL, rfl⟩
        rw [← h2, val_ac hL IF hcF h1]
        by_cases z : c = cF
        · subst z
          omega
        · rw [if_neg z, Int.mul_zero]
          exact Int.le_refl _
    · rw [show wv M L E j = vE j from if_neg hjL, val_pad hL hcF (by omega) hj, Int.mul_zero, Int.mul_zero]
      exact Int.le_refl _
  have h0 := term 0 (by omega)
  have h1 := term 1 (by omega)
  have h2 := term 2 (by omega)
  have key : E.d * (σF * det (upd3 (wv M L F) cF (v3 g))) = (σE * det (upd3 (wv M L E) 0 (v3 g))) * (σF * det (upd3 (wv M L F) cF (wv M L E 0))) + (σE * det (upd3 (wv M L E) 1 (v3 g))) * (σF * det (upd3 (wv M L F) cF (wv M L E 1))) + (σE * det (upd3 (wv M L E) 2 (v3 g))) * (σF * det (upd3 (wv M L F) cF (wv M L E 2))) := by
    rw [IE.dd]
    grind
  have pos : 0 < E.d * (σF * det (upd3 (wv M L F) cF (v3 g))) := Int.mul_pos IE.dp (by omega)
  omega
end
end K36

set_option Elab.async false
set_option linter.all false
set_option maxRecDepth 100000
set_option maxHeartbeats 4000000
set_option autoImplicit false
set_option exponentiation.threshold 300
/-! Law k36: the simplex ends within 2^(names) turns. -/
namespace K36
open PySem PySem.Spec PyProof.Rows L2 Pv
section
variable (L m : Nat)
def cOf (s : TS) : Nat := pick s.ac (readyC L m s)
def aOf (s : TS) : Nat := pick s.dn (stopsK m s (cOf L m s))
def nx (s : TS) : TS := nextS s (cOf L m s) (aOf L m s)
def it (s : TS) : Nat → TS
  | 0 => s
  | i + 1 => nx L m (it s i)
structure Live (s : TS) : Prop where
  r : readyC L m s ≠ []
  t : stopsK m s (cOf L m s) ≠ []
def enN (s : TS) : Nat := ng s.ac (cOf L m s)
def lvN (s : TS) : Nat := ng s.dn (aOf L m s)
def inA (s : TS) (n : Nat) : Prop := ∃ c, c < L ∧ ng s.ac c = n
end
section
variable {M : Mat} {L m : Nat} {g : List Int} {s : TS} {σ : Int}
theorem Live.c (h : Live L m s) : cOf L m s < L ∧ g2 s.T m (cOf L m s) < 0 := by
  have := pick_mem (xs := s.ac) h.r
  have h2 := List.mem_filter.mp this
  exact ⟨List.mem_range.mp h2.1, of_decide_eq_true h2.2⟩
theorem Live.cmin (h : Live L m s) {c : Nat} (hc : c < L) (hn : g2 s.T m c < 0) : enN L m s ≤ ng s.ac c :=
  pick_le (List.mem_filter.mpr ⟨List.mem_range.mpr hc, decide_eq_true hn⟩)
theorem Live.a (h : Live L m s) : aOf L m s < m ∧ 0 < g2 s.T (aOf L m s) (cOf L m s) := by
  have := pick_mem (xs := s.dn) h.t
  have h2 := List.mem_filter.mp this
  exact ⟨List.mem_range.mp h2.1, of_decide_eq_true h2.2⟩
theorem Live.amin (h : Live L m s) {k : Nat} (hk : k < m) (hn : 0 < g2 s.T k (cOf L m s)) : lvN L m s ≤ ng s.dn k :=
  pick_le (List.mem_filter.mpr ⟨List.mem_range.mpr hk, decide_eq_true hn⟩)
theorem Live.inv (hL : L ≤ 3) (h : Live L m s) (I : TInv M L m g s σ) : TInv M L m g (nx L m s) (-σ) := I.step hL h.a.1 h.c.1 h.a.2
theorem inA_nx (h : Live L m s) (I : TInv M L m g s σ) (n : Nat) : inA L (nx L m s) n ↔ n = lvN L m s ∨ (inA L s n ∧ n ≠ enN L m s) := by
  have hc := h.c.1
  have ha := h.a.1
  have e : ∀ j, ng (nx L m s).ac j = if j = cOf L m s then lvN L m s else ng s.ac j := fun j => ng_set _ _ _ _ (by rw [I.acl]; exact hc)
  constructor
  · rintro ⟨j, h1, h2⟩
    rw [e] at h2
    by_cases z : j = cOf L m s
    · rw [if_pos z] at h2
      exact .inl h2.symm
    · rw [if_neg z] at h2
      refine .inr ⟨⟨j, h1, h2⟩, fun w => z ?_⟩
      exact I.acI h1 hc (by rw [h2, w]; rfl)
  · rintro (w | ⟨⟨j, h1, h2⟩, w⟩)
    · exact ⟨_, hc, by rw [e, if_pos rfl, w]⟩
    · refine ⟨j, h1, ?_⟩
      rw [e, if_neg fun z => w (by rw [← h2, z]; rfl)]
      exact h2
theorem en_ne_lv (h : Live L m s) (I : TInv M L m g s σ) : enN L m s ≠ lvN L m s := I.apart h.c.1 h.a.1
theorem en_inA (h : Live L m s) : inA L s (enN L m s) := ⟨_, h.c.1, rfl⟩
theorem lv_inA (h : Live L m s) (I : TInv M L m g s σ) : ¬ inA L s (lvN L m s) := fun ⟨j, h1, h2⟩ => I.apart h1 h.a.1 h2
theorem en_lt (h : Live L m s) (I : TInv M L m g s σ) : enN L m s < L + m := by
  have := I.rng (cOf L m s) (by have := h.c.1; omega)
  rw [I.nmA h.c.1] at this
  exact this
theorem lv_lt (h : Live L m s) (I : TInv M L m g s σ) : lvN L m s < L + m := by
  have := I.rng (L + aOf L m s) (by have := h.a.1; omega)
  rw [I.nmD] at this
  exact this
/-- a run over which every turn goes through -/
structure Run (M : Mat) (L m : Nat) (g : List Int) (s : TS) (i0 i1 : Nat) (t : Nat) : Prop where
  le : i0 ≤ i1
  live : ∀ i, i0 ≤ i → i < i1 → Live L m (it L m s i)
  inv : ∀ i, i0 ≤ i → i ≤ i1 → ∃ σ, TInv M L m g (it L m s i) σ
  mv : ∀ i, i0 ≤ i → i < i1 → enN L m (it L m s i) < t ∧ lvN L m (it L m s i) < t
theorem Run.sub {i0 i1 t : Nat} (R : Run M L m g s i0 i1 t) {j0 j1 : Nat} (h1 : i0 ≤ j0) (h2 : j0 ≤ j1) (h3 : j1 ≤ i1) : Run M L m g s j0 j1 t :=
  ⟨h2, fun i a b => R.live i (by omega) (by omega), fun i a b => R.inv i (by omega) (by omega), fun i a b => R.mv i (by omega) (by omega)⟩
/-- names that do not move keep their side -/
theorem Run.keep {i0 i1 t : Nat} (R : Run M L m g s i0 i1 t) {n : Nat} : ∀ (k : Nat), i0 + k ≤ i1 → (∀ i, i0 ≤ i → i < i0 + k → n ≠ enN L m (it L m s i) ∧ n ≠ lvN L m (it L m s i)) → (inA L (it L m s (i0 + k)) n ↔ inA L (it L m s i0) n)
  | 0, _, _ => Iff.rfl
  | k + 1, h, hn => by
    obtain ⟨σ, I⟩ := R.inv (i0 + k) (by omega) (by omega)
    have ih := R.keep k (by omega) fun i a b => hn i a (by omega)
    obtain ⟨n1, n2⟩ := hn (i0 + k) (by omega) (by omega)
    rw [← ih, show i0 + (k + 1) = (i0 + k) + 1 by omega]
    show inA L (nx L m (it L m s (i0 + k))) n ↔ _
    rw [inA_nx (R.live _ (by omega) (by omega)) I]
    constructor
    · rintro (w | w)
      · exact absurd w n2
      · exact w.1
    · intro w
      exact .inr ⟨w, n1⟩
theorem least {P : Nat → Prop} {i0 i1 : Nat} (h : ∃ i, i0 ≤ i ∧ i < i1 ∧ P i) : ∃ j, i0 ≤ j ∧ j < i1 ∧ P j ∧ ∀ i, i0 ≤ i → i < j → ¬ P i := by
  obtain ⟨i, h1, h2, h3⟩ := h
  induction i using Nat.strongRecOn with
  | _ i ih =>
    by_cases z : ∃ k, i0 ≤ k ∧ k < i ∧ P k
    · obtain ⟨k, a, b, c⟩ := z
      exact ih k b a (by omega) c
    · exact ⟨i, h1, h2, h3, fun k a b c => z ⟨k, a, b, c⟩⟩
theorem Run.short (hL : L ≤ 3) : ∀ (t : Nat) {i0 i1 : Nat}, Run M L m g s i0 i1 t → i1 - i0 < 2 ^ t
  | 0, i0, i1, R => by
    rcases Nat.lt_or_ge i0 i1 with h | h
    · have := (R.mv i0 (Nat.le_refl _) h).1
      omega
    · rw [Nat.pow_zero]
      omega
  | t + 1, i0, i1, R => by
    have p2 : 2 ^ (t + 1) = 2 ^ t + 2 ^ t := by rw [Nat.pow_succ]; omega
    by_cases ex : ∃ i, i0 ≤ i ∧ i < i1 ∧ (enN L m (it L m s i) = t ∨ lvN L m (it L m s i) = t)
    · obtain ⟨j, j1, j2, j3, j4⟩ := least ex
      have A : j - i0 < 2 ^ t := Run.short hL t ⟨j1, fun i a b => R.live i a (by omega), fun i a b => R.inv i a (by omega), fun i a b => by
        have h1 := R.mv i a (by omega)
        have h2 := j4 i a b
        omega⟩
      have B : i1 - (j + 1) < 2 ^ t := by
        refine Run.short hL t ⟨by omega, fun i a b => R.live i (by omega) b, fun i a b => R.inv i (by omega) b, fun i a b => ?_⟩
        have h1 := R.mv i (by omega) b
        by_cases z : ∃ k, j + 1 ≤ k ∧ k < i1 ∧ (enN L m (it L m s k) = t ∨ lvN L m (it L m s k) = t)
        · exfalso
          obtain ⟨q, q1, q2, q3, q4⟩ := least z
          obtain ⟨σj, Ij⟩ := R.inv j j1 (by omega)
          obtain ⟨σq, Iq⟩ := R.inv q (by omega) (by omega)
          have Lj := R.live j j1 j2
          have Lq := R.live q (by omega) q2
          have mj := R.mv j j1 j2
          have mq := R.mv q (by omega) q2
          -- names above t keep their side from j to q
          have up : ∀ n, t < n → (inA L (it L m s q) n ↔ inA L (it L m s j) n) := fun n hn => by
            have R' := R.sub (j0 := j) (j1 := q) j1 (by omega) (by omega)
            have := R'.keep (n := n) (q - j) (by omega) fun i a b => by
              have := R'.mv i a (by omega)
              omega
            rw [show j + (q - j) = q by omega] at this
            exact this
          -- t keeps its side from j + 1 to q
          have tk : inA L (it L m s q) t ↔ inA L (it L m s (j + 1)) t := by
            have R' := R.sub (j0 := j + 1) (j1 := q) (by omega) (by omega) (by omega)
            have := R'.keep (n := t) (q - (j + 1)) (by omega) fun i a b => by
              have := q4 i a (by omega)
              omega
            rw [show j + 1 + (q - (j + 1)) = q by omega] at this
            exact this
          have t1 : inA L (it L m s (j + 1)) t ↔ t = lvN L m (it L m s j) ∨ (inA L (it L m s j) t ∧ t ≠ enN L m (it L m s j)) := inA_nx Lj Ij t
          rcases j3 with j3 | j3
          · -- t left the across side at j
            have ne := en_ne_lv Lj Ij
            have nt : ¬ inA L (it L m s q) t := fun w => by
              rcases t1.mp (tk.mp w) with w | w
              · exact ne (by rw [j3, w])
              · exact w.2 j3.symm
            have lq : lvN L m (it L m s q) = t := by
              rcases q3 with q3 | q3
              · exact absurd (q3 ▸ en_inA Lq) nt
              · exact q3
            have en_q : enN L m (it L m s q) < t := by
              rcases Nat.lt_or_ge (enN L m (it L m s q)) t with w | w
              · exact w
              · exfalso
                have : enN L m (it L m s q) = t := by omega
                exact nt (this ▸ en_inA Lq)
            exact bland hL Ij Iq Lj.c.1 Lq.c.1 Lq.a.1 j3 lq Lj.c.2 (fun c hc hn => j3 ▸ Lj.cmin hc hn) Lq.c.2 Lq.a.2 (fun k hk hn => lq ▸ Lq.amin hk hn) en_q fun n hn w => (up n hn).mpr w
          · -- t came to the across side at j
            have it1 : inA L (it L m s q) t := tk.mpr (t1.mpr (.inl j3.symm))
            have eq : enN L m (it L m s q) = t := by
              rcases q3 with q3 | q3
              · exact q3
              · exact absurd it1 (q3 ▸ lv_inA Lq Iq)
            have en_j : enN L m (it L m s j) < t := by
              have := en_ne_lv Lj Ij
              omega
            exact bland hL Iq Ij Lq.c.1 Lj.c.1 Lj.a.1 eq j3 Lq.c.2 (fun c hc hn => eq ▸ Lq.cmin hc hn) Lj.c.2 Lj.a.2 (fun k hk hn => j3 ▸ Lj.amin hk hn) en_j fun n hn w => (up n hn).mp w
        · have h2 : ¬ (enN L m (it L m s i) = t ∨ lvN L m (it L m s i) = t) := fun w => z ⟨i, a, b, w⟩
          omega
      omega
    · have : i1 - i0 < 2 ^ t := Run.short hL t ⟨R.le, R.live, R.inv, fun i a b => by
        have h1 := R.mv i a b
        have h2 : ¬ (enN L m (it L m s i) = t ∨ lvN L m (it L m s i) = t) := fun w => ex ⟨i, a, b, w⟩
        omega⟩
      omega
theorem ends (hL : L ≤ 3) (I : TInv M L m g s σ) : ∃ i, i < 2 ^ (L + m) ∧ (∀ j, j < i → Live L m (it L m s j)) ∧ (∀ j, j ≤ i → ∃ τ, TInv M L m g (it L m s j) τ) ∧ ¬ Live L m (it L m s i) := by
  have inv : ∀ i, (∀ j, j < i → Live L m (it L m s j)) → ∃ τ, TInv M L m g (it L m s i) τ := by
    intro i
    induction i with
    | zero => exact fun _ => ⟨σ, I⟩
    | succ i ih =>
      intro h
      obtain ⟨τ, J⟩ := ih fun j hj => h j (by omega)
      exact ⟨_, (h i (by omega)).inv hL J⟩
  by_cases z : ∃ i, 0 ≤ i ∧ i < 2 ^ (L + m) ∧ ¬ Live L m (it L m s i)
  · obtain ⟨i, h1, h2, h3, h4⟩ := least z
    have lv : ∀ j, j < i → Live L m (it L m s j) := fun j hj => Classical.byContradiction fun w => h4 j (by omega) hj w
    exact ⟨i, h2, lv, fun j hj => inv j fun k hk => lv k (by omega), h3⟩
  · exfalso
    have lv : ∀ j, j < 2 ^ (L + m) → Live L m (it L m s j) := fun j hj => Classical.byContradiction fun w => z ⟨j, by omega, hj, w⟩
    have R : Run M L m g s 0 (2 ^ (L + m)) (L + m) := ⟨Nat.zero_le _, fun i _ h => lv i h, fun i _ h => inv i fun j hj => lv j (by omega), fun i _ h => by
      obtain ⟨τ, J⟩ := inv i fun j hj => lv j (by omega)
      exact ⟨en_lt (lv i h) J, lv_lt (lv i h) J⟩⟩
    have := R.short hL
    omega
end
end K36

set_option Elab.async false
set_option linter.all false
set_option maxRecDepth 100000
set_option maxHeartbeats 4000000
set_option autoImplicit false
set_option exponentiation.threshold 300
/-! Law k36: sums, lessened rows, the start of the simplex. -/
namespace K36
open PySem PySem.Spec PyProof.Rows L2 Pv
/-! ### sums -/
theorem dot_nil (ys : List Int) : dot [] ys = 0 := by simp [dot]
theorem dot_nil' (xs : List Int) : dot xs [] = 0 := by simp [dot]
theorem dot_cons (x y : Int) (xs ys : List Int) : dot (x :: xs) (y :: ys) = x * y + dot xs ys := by simp [dot]
theorem dot_comm : ∀ (xs ys : List Int), dot xs ys = dot ys xs
  | [], ys => by rw [dot_nil, dot_nil']
  | x :: xs, [] => by rw [dot_nil, dot_nil']
  | x :: xs, y :: ys => by rw [dot_cons, dot_cons, dot_comm xs ys, Int.mul_comm]
theorem dot_map_mul (k : Int) : ∀ (xs ys : List Int), dot xs (ys.map (k * ·)) = k * dot xs ys
  | [], ys => by rw [dot_nil, dot_nil, Int.mul_zero]
  | x :: xs, [] => by rw [List.map_nil, dot_nil', Int.mul_zero]
  | x :: xs, y :: ys => by rw [List.map_cons, dot_cons, dot_cons, dot_map_mul k xs ys]; grind
theorem dot_set : ∀ (w X : List Int) (j : Nat) (v : Int), w.length = X.length → j < w.length → dot (w.set j v) X = dot w X + (v - ig w j) * ig X j
  | [], X, j, v, _, h => by simp at h
  | a :: w, [], j, v, h, _ => by simp at h
  | a :: w, x :: X, 0, v, _, _ => by
    rw [List.set_cons_zero, dot_cons, dot_cons]
    show _ = _ + (v - a) * x
    grind
  | a :: w, x :: X, j + 1, v, h, hj => by
    rw [List.set_cons_succ, dot_cons, dot_cons, dot_set w X j v (by simpa using h) (by simpa using hj)]
    show _ = _ + (v - ig w j) * ig X j
    grind
theorem dot_zero : ∀ (n : Nat) (X : List Int), dot (List.replicate n 0) X = 0
  | 0, X => by rw [List.replicate_zero, dot_nil]
  | n + 1, [] => dot_nil' _
  | n + 1, x :: X => by rw [List.replicate_succ, dot_cons, dot_zero n X]; omega
theorem dot_v3 : ∀ {xs ys : List Int}, xs.length = ys.length → xs.length ≤ 3 → dot xs ys = vdot (v3 xs) (v3 ys)
  | [], [], _, _ => by simp [dot, vdot, v3, ig]
  | [a], [x], _, _ => by simp [dot, vdot, v3, ig]
  | [a, b], [x, y], _, _ => by simp [dot, vdot, v3, ig]
  | [a, b, c], [x, y, z], _, _ => by simp [dot, vdot, v3, ig]; omega
  | a :: b :: c :: d :: r, _, _, h => by simp at h
  | [], _ :: _, h, _ => by simp at h
  | [_], [], h, _ => by simp at h
  | [_], _ :: _ :: _, h, _ => by simp at h
  | [_, _], [], h, _ => by simp at h
  | [_, _], [_], h, _ => by simp at h
  | [_, _], _ :: _ :: _ :: _, h, _ => by simp at h
  | [_, _, _], [], h, _ => by simp at h
  | [_, _, _], [_], h, _ => by simp at h
  | [_, _, _], [_, _], h, _ => by simp at h
  | [_, _, _], _ :: _ :: _ :: _ :: _, h, _ => by simp at h
/-! ### lessened -/
theorem gcd_dvd : ∀ (xs : List Int) (d : Nat), (xs.foldl (fun d x => Nat.gcd d x.natAbs) d) ∣ d ∧ ∀ x ∈ xs, ((xs.foldl (fun d x => Nat.gcd d x.natAbs) d : Nat) : Int) ∣ x
  | [], d => ⟨Nat.dvd_refl d, fun x h => by cases h⟩
  | y :: xs, d => by
    obtain ⟨h1, h2⟩ := gcd_dvd xs (Nat.gcd d y.natAbs)
    rw [List.foldl_cons]
    refine ⟨Nat.dvd_trans h1 (Nat.gcd_dvd_left _ _), fun x hx => ?_⟩
    rcases List.mem_cons.mp hx with rfl | hx
    · have : xs.foldl (fun d x => Nat.gcd d x.natAbs) (Nat.gcd d x.natAbs) ∣ x.natAbs := Nat.dvd_trans h1 (Nat.gcd_dvd_right _ _)
      exact Int.ofNat_dvd_left.mpr this
    · exact h2 x hx
theorem lessen_spec (xs : List Int) : ∃ k : Int, 0 < k ∧ xs = (lessen xs).map (k * ·) := by
  unfold lessen
  by_cases h : gcdL xs < 2
  · rw [if_pos h]
    exact ⟨1, by omega, by simp⟩
  · rw [if_neg h]
    refine ⟨(gcdL xs : Nat), by omega, ?_⟩
    rw [List.map_map]
    have : ∀ x ∈ xs, ((fun x => ((gcdL xs : Nat) : Int) * x) ∘ fun x => x.fdiv (gcdL xs : Nat)) x = x := fun x hx => by
      obtain ⟨q, hq⟩ := (gcd_dvd xs 0).2 x hx
      show ((gcdL xs : Nat) : Int) * (x.fdiv (gcdL xs : Nat)) = x
      change x = ((gcdL xs : Nat) : Int) * q at hq
      rw [hq, Int.mul_fdiv_cancel_left _ (by omega)]
    symm
    calc xs.map _ = xs.map id := List.map_congr_left this
      _ = xs := List.map_id xs
theorem lessen_len (xs : List Int) : (lessen xs).length = xs.length := by
  unfold lessen
  split <;> simp
theorem ig_map_mul (k : Int) (xs : List Int) (i : Nat) : ig (xs.map (k * ·)) i = k * ig xs i := by
  unfold ig
  rw [List.getD_eq_getElem?_getD, List.getD_eq_getElem?_getD, List.getElem?_map]
  cases xs[i]? with
  | none => simp
  | some x => rfl
theorem natAbs_mul_le {k x b : Int} (hk : 0 < k) (h1 : -b ≤ k * x) (h2 : k * x ≤ b) : -b ≤ x ∧ x ≤ b := by
  rcases Int.lt_or_le x 0 with h | h
  · have : k * x ≤ 1 * x := Int.mul_le_mul_of_nonpos_right (by omega) (by omega)
    omega
  · have : 1 * x ≤ k * x := Int.mul_le_mul_of_nonneg_right (by omega) h
    omega
/-! ### the start -/
structure SmallIn (M : Mat) (L m : Nat) (g : List Int) : Prop where
  hL : L ≤ 3
  hm : m ≤ 4
  ml : M.length = m
  rl : ∀ r ∈ M, r.length = L
  rb : ∀ r ∈ M, ∀ x ∈ r, -4 ≤ x ∧ x ≤ 4
  gl : g.length = L
  gb : ∀ x ∈ g, -4 ≤ x ∧ x ≤ 4
theorem ig_bd {xs : List Int} {b : Int} (hb : 0 ≤ b) (h : ∀ x ∈ xs, -b ≤ x ∧ x ≤ b) (i : Nat) : -b ≤ ig xs i ∧ ig xs i ≤ b := by
  by_cases hi : i < xs.length
  · exact h _ (ig_mem hi)
  · rw [ig_out (by omega)]
    omega
theorem small_v3 {xs : List Int} (h : ∀ x ∈ xs, -4 ≤ x ∧ x ≤ 4) : small (v3 xs) :=
  ⟨(ig_bd (by omega) h 0).1, (ig_bd (by omega) h 0).2, (ig_bd (by omega) h 1).1, (ig_bd (by omega) h 1).2, (ig_bd (by omega) h 2).1, (ig_bd (by omega) h 2).2⟩
theorem small_vE (j : Nat) : small (vE j) := by
  unfold vE
  split <;> (unfold small; simp)
theorem small_neg {a : V3} (h : small a) : small (vneg a) := by
  unfold small vneg at *
  simp only
  omega
section
variable {M : Mat} {L m : Nat} {g : List Int} {s : TS} {σ : Int}
theorem SmallIn.vec (S : SmallIn M L m g) {n : Nat} (hn : n < L + m) : small (vec M L n) := by
  unfold K36.vec
  split
  · exact small_vE n
  · exact small_neg (small_v3 (S.rb _ (rg_mem (by rw [S.ml]; omega))))
theorem SmallIn.wv (S : SmallIn M L m g) (I : TInv M L m g s σ) (j : Nat) : small (wv M L s j) := by
  unfold K36.wv
  split
  · rename_i h
    refine S.vec ?_
    rw [← I.nmA h]
    exact I.rng j (by omega)
  · exact small_vE j
theorem SmallIn.fv (S : SmallIn M L m g) (I : TInv M L m g s σ) (k : Nat) : small (fv M L m g s k) := by
  unfold K36.fv
  split
  · rename_i h
    refine S.vec ?_
    rw [← I.nmD]
    exact I.rng _ (by omega)
  · exact small_v3 S.gb
theorem det_bd {w : Nat → V3} (h : ∀ j, small (w j)) : -384 ≤ det w ∧ det w ≤ 384 := D3_bd (h 0) (h 1) (h 2)
theorem small_upd {w : Nat → V3} (h : ∀ j, small (w j)) {c : Nat} {f : V3} (hf : small f) : ∀ j, small (upd3 w c f j) := fun j => by
  unfold upd3
  split
  · exact hf
  · exact h j
theorem sg_bd {σ x : Int} (h : σ = 1 ∨ σ = -1) (hx : -384 ≤ x ∧ x ≤ 384) : -384 ≤ σ * x ∧ σ * x ≤ 384 := by
  rcases h with rfl | rfl <;> omega
theorem T_bd (S : SmallIn M L m g) (I : TInv M L m g s σ) {k c : Nat} (hk : k ≤ m) (hc : c < L) : -384 ≤ g2 s.T k c ∧ g2 s.T k c ≤ 384 := by
  rw [I.tt k c hk hc]
  have := sg_bd I.sg (det_bd (small_upd (S.wv I) (c := c) (S.fv I k)))
  omega
theorem d_bd (S : SmallIn M L m g) (I : TInv M L m g s σ) : s.d ≤ 384 := by
  rw [I.dd]
  exact (sg_bd I.sg (det_bd (S.wv I))).2
theorem sm_384 {z : Int} (h : -384 ≤ z ∧ z ≤ 384) : sm z := sm_64 (by omega)
theorem shape_of (S : SmallIn M L m g) (I : TInv M L m g s σ) : Shape L m s where
  rows := I.rows
  cols := fun r hr => by
    refine ⟨I.cols r hr, fun x hx => ?_⟩
    obtain ⟨k, hk, e⟩ := List.mem_iff_getElem.mp hr
    obtain ⟨c, hc, e2⟩ := List.mem_iff_getElem.mp hx
    have hl := I.cols r hr
    have := T_bd S I (k := k) (c := c) (by have := I.rows; omega) (by omega)
    unfold g2 at this
    rw [rg_get hk, e, ig_get hc, e2] at this
    exact sm_384 this
  ac := I.acl
  dn := I.dnl
  nm := fun a ha => by
    obtain ⟨c, hc, e⟩ := List.mem_iff_getElem.mp ha
    have hc' : c < L := by rw [← I.acl]; exact hc
    have := I.rng c (by omega)
    rw [I.nmA hc', ng_get hc, e] at this
    exact this
  sd := sm_384 ⟨by have := I.dp; omega, d_bd S I⟩
  nz := by have := I.dp; omega
theorem det_vE {c : Nat} (hc : c < 3) (f : V3) : det (upd3 vE c f) = vdot f (vE c) := by
  rcases lt3 hc with rfl | rfl | rfl <;> (simp [det, upd3, vE, D3, vdot])
theorem vdot_v3 {c : Nat} (hc : c < 3) (xs : List Int) : vdot (v3 xs) (vE c) = ig xs c := by
  rcases lt3 hc with rfl | rfl | rfl <;> simp [vdot, v3, vE]
theorem vdot_neg (a b : V3) : vdot (vneg a) b = - vdot a b := by
  unfold vdot vneg
  grind
theorem start_inv (S : SmallIn M L m g) : TInv M L m g (start0 M L g) 1 := by
  have acN : ∀ c, c < L → ng (start0 M L g).ac c = c := fun c hc => by
    show ng (List.range L) c = c
    rw [ng_get (by simpa using hc)]
    simp
  have dnN : ∀ k, k < m → ng (start0 M L g).dn k = L + k := fun k hk => by
    show ng ((List.range M.length).map fun k => L + k) k = L + k
    rw [ng_get (by simp [S.ml]; exact hk)]
    simp
  have wE : wv M L (start0 M L g) = vE := by
    funext j
    unfold wv
    split
    · rename_i h
      rw [acN j h]
      exact if_pos h
    · rfl
  have nm : ∀ p, p < L + m → nmf L (start0 M L g) p = p := fun p hp => by
    unfold nmf
    split
    · rename_i h
      exact acN p h
    · rw [dnN _ (by omega)]
      omega
  refine ⟨.inl rfl, by show (0 : Int) < 1; omega, ?_, ?_, ?_, ?_, ?_, ?_, ?_, ?_, ?_⟩
  · rw [wE]
    rfl
  · intro k c hk hc
    have hL := S.hL
    rw [wE, det_vE (by omega), Int.one_mul]
    show ig (rg (M ++ [g.map fun a => -a]) k) c = _
    by_cases h : k < m
    · have e : rg (M ++ [g.map fun a => -a]) k = rg M k := by
        unfold rg
        rw [List.getD_eq_getElem?_getD, List.getD_eq_getElem?_getD, List.getElem?_append_left (by rw [S.ml]; exact h)]
      rw [e, show fv M L m g (start0 M L g) k = vec M L (ng (start0 M L g).dn k) from if_pos h, dnN k h, show vec M L (L + k) = vneg (v3 (rg M (L + k - L))) from if_neg (by omega), vdot_neg, vdot_v3 (by omega), Nat.add_sub_cancel_left]
      omega
    · have hk' : k = m := by omega
      subst hk'
      have e : rg (M ++ [g.map fun a => -a]) k = g.map fun a => -a := by
        unfold rg
        rw [List.getD_eq_getElem?_getD, List.getElem?_append_right (by rw [S.ml]; exact Nat.le_refl _), S.ml]
        simp
      rw [e, show fv M L k g (start0 M L g) k = v3 g from if_neg (by omega), vdot_v3 (by omega), ig_get (by simp [S.gl]; exact hc), ig_get (by rw [S.gl]; exact hc)]
      simp
  · show (M ++ [_]).length = _
    simp [S.ml]
  · intro r hr
    change r ∈ M ++ [g.map fun a => -a] at hr
    rcases List.mem_append.mp hr with h | h
    · exact S.rl r h
    · rw [List.mem_singleton.mp h]
      simp [S.gl]
  · show (List.range L).length = L
    simp
  · show ((List.range M.length).map _).length = m
    simp [S.ml]
  · intro p q h1 h2 h3
    rw [nm p h1, nm q h2] at h3
    exact h3
  · intro n hn
    exact ⟨n, hn, nm n hn⟩
  · intro p hp
    rw [nm p hp]
    exact hp
end
end K36

set_option Elab.async false
set_option linter.all false
set_option maxRecDepth 100000
set_option maxHeartbeats 4000000
set_option autoImplicit false
set_option exponentiation.threshold 300
/-! Law k36: what grow_towards says. -/
namespace K36
open PySem PySem.Spec PyProof.Rows L2 Pv
/-- place i of each row -/
def colL (M : Mat) (i : Nat) : List Int := M.map fun r => ig r i
theorem colL_ig {M : Mat} {i k : Nat} (h : k < M.length) : ig (colL M i) k = ig (rg M k) i := by
  unfold colL
  rw [ig_get (by simpa using h), List.getElem_map, rg_get h]
/-- what a result says -/
structure CapOk (M : Mat) (L m : Nat) (g : List Int) (y : List Int) (d : Int) : Prop where
  len : y.length = m
  pos : ∀ x ∈ y, 0 ≤ x ∧ x ≤ 384
  dp : 0 < d
  db : d ≤ 384
  ge : ∀ i, i < L → d * ig g i ≤ dot y (colL M i)
structure DirOk (M : Mat) (L : Nat) (g : List Int) (h : List Int) : Prop where
  len : h.length = L
  pos : ∀ x ∈ h, 0 ≤ x ∧ x ≤ 384
  le : ∀ r ∈ M, dot r h ≤ 0
  gt : 0 < dot g h
/-! ### the weights -/
def gwSum (last X : List Int) (L : Nat) : Nat → List Nat → Int
  | _, [] => 0
  | k, a :: r => (if L ≤ a then ig last k * ig X (a - L) else 0) + gwSum last X L (k + 1) r
theorem gw_dot (last X : List Int) (L m : Nat) (hX : X.length = m) : ∀ (ac : List Nat) (k : Nat) (w : List Int), w.length = m → ac.Nodup → (∀ a ∈ ac, a < L + m) → (∀ a ∈ ac, L ≤ a → ig w (a - L) = 0) → dot (gwGo last L k ac w) X = dot w X + gwSum last X L k ac
  | [], k, w, _, _, _, _ => by simp [gwGo, gwSum]
  | a :: ac, k, w, hw, nd, hb, hz => by
    have nd' := List.nodup_cons.mp nd
    unfold gwGo gwSum
    have hb' := fun b hb1 => hb b (List.mem_cons_of_mem _ hb1)
    by_cases h : L ≤ a
    · rw [if_pos h, if_pos h]
      have ha := hb a List.mem_cons_self
      rw [gw_dot last X L m hX ac (k + 1) (w.set (a - L) (ig last k)) (by simp [hw]) nd'.2 hb' fun b hb1 hb2 => by
        rw [ig_set _ _ _ _ (by omega), if_neg fun z => nd'.1 (by rw [show a = b by omega]; exact hb1)]
        exact hz b (List.mem_cons_of_mem _ hb1) hb2]
      rw [dot_set w X _ _ (by omega) (by omega), hz a List.mem_cons_self h]
      grind
    · rw [if_neg h, if_neg h]
      rw [gw_dot last X L m hX ac (k + 1) w hw nd'.2 hb' fun b hb1 hb2 => hz b (List.mem_cons_of_mem _ hb1) hb2]
      grind
theorem set_mem {α : Type} {l : List α} {i : Nat} {v x : α} (h : x ∈ l.set i v) : x ∈ l ∨ x = v := List.mem_or_eq_of_mem_set h
theorem gw_all (last : List Int) (L : Nat) (P : Int → Prop) : ∀ (ac : List Nat) (k : Nat) (w : List Int), (∀ j, k ≤ j → j < k + ac.length → P (ig last j)) → (∀ x ∈ w, P x) → ∀ x ∈ gwGo last L k ac w, P x
  | [], k, w, _, h => h
  | a :: ac, k, w, hl, h => by
    unfold gwGo
    refine gw_all last L P ac (k + 1) _ (fun j h1 h2 => hl j (by omega) (by simp only [List.length_cons]; omega)) ?_
    split
    · intro x hx
      rcases set_mem hx with hx | rfl
      · exact h x hx
      · exact hl k (Nat.le_refl _) (by simp only [List.length_cons]; omega)
    · exact h
theorem gw_len (last : List Int) (L : Nat) : ∀ (ac : List Nat) (k : Nat) (w : List Int), (gwGo last L k ac w).length = w.length
  | [], k, w => rfl
  | a :: ac, k, w => by
    unfold gwGo
    rw [gw_len last L ac (k + 1)]
    split <;> simp
/-! ### the direction's numbers -/
theorem fold_len (L : Nat) : ∀ (ps : List (Nat × Int)) (w : List Int), (ps.foldl (fun w q => if q.1 < L then w.set q.1 q.2 else w) w).length = w.length
  | [], w => rfl
  | q :: ps, w => by
    rw [List.foldl_cons, fold_len L ps]
    split <;> simp
theorem fold_val (L : Nat) (F : Nat → Int) : ∀ (ps : List (Nat × Int)) (w : List Int), (∀ q ∈ ps, q.1 < L → q.2 = F q.1) → w.length = L → (∀ i, i < L → ig w i = F i ∨ ∃ q ∈ ps, q.1 = i) → ∀ i, i < L → ig (ps.foldl (fun w q => if q.1 < L then w.set q.1 q.2 else w) w) i = F i
  | [], w, _, _, h, i, hi => (h i hi).elim id fun ⟨q, hq, _⟩ => by cases hq
  | (n, v) :: ps, w, hv, hw, h, i, hi => by
    rw [List.foldl_cons]
    refine fold_val L F ps _ (fun q hq => hv q (List.mem_cons_of_mem _ hq)) (by split <;> simp [hw]) (fun j hj => ?_) i hi
    by_cases hn : n < L
    · rw [if_pos hn, ig_set _ _ _ _ (by omega)]
      by_cases e : j = n
      · rw [if_pos e]
        left
        rw [e]
        exact hv (n, v) List.mem_cons_self hn
      · rw [if_neg e]
        rcases h j hj with z | ⟨q, hq, hq2⟩
        · exact .inl z
        · rcases List.mem_cons.mp hq with rfl | hq
          · exact absurd hq2.symm e
          · exact .inr ⟨q, hq, hq2⟩
    · rw [if_neg hn]
      rcases h j hj with z | ⟨q, hq, hq2⟩
      · exact .inl z
      · rcases List.mem_cons.mp hq with rfl | hq
        · exact absurd (show n < L by rw [show n = j from hq2]; exact hj) hn
        · exact .inr ⟨q, hq, hq2⟩
theorem nPairs_mem {T : Mat} {p : Nat} : ∀ {dn : List Nat} {k : Nat} {q : Nat × Int}, q ∈ nPairs T p k dn → ∃ i, i < dn.length ∧ q.1 = ng dn i ∧ q.2 = -(g2 T (k + i) p)
  | [], k, q, h => by simp [nPairs] at h
  | a :: dn, k, q, h => by
    simp only [nPairs, List.mem_cons] at h
    rcases h with rfl | h
    · exact ⟨0, by simp, rfl, rfl⟩
    · obtain ⟨i, h1, h2, h3⟩ := nPairs_mem h
      exact ⟨i + 1, by simp; exact h1, h2, by rw [h3, show k + 1 + i = k + (i + 1) by omega]⟩
theorem nPairs_has {T : Mat} {p : Nat} : ∀ {dn : List Nat} {k i : Nat}, i < dn.length → (ng dn i, -(g2 T (k + i) p)) ∈ nPairs T p k dn
  | [], k, i, h => by simp at h
  | a :: dn, k, 0, h => by
    simp only [nPairs]
    exact List.mem_cons_self
  | a :: dn, k, i + 1, h => by
    simp only [nPairs]
    have := nPairs_has (T := T) (p := p) (dn := dn) (k := k + 1) (i := i) (by simpa using h)
    rw [show k + 1 + i = k + (i + 1) by omega] at this
    exact List.mem_cons_of_mem _ this
section
variable {M : Mat} {L m : Nat} {g : List Int} {s : TS} {σ : Int}
/-- the direction in place p -/
theorem dir_val (S : SmallIn M L m g) (I : TInv M L m g s σ) {p : Nat} (hp : p < L) : ∀ i, i < L → ig (gnums L ((ng s.ac p, s.d) :: nPairs s.T p 0 s.dn)) i = σ * det (upd3 (wv M L s) p (vE i)) := by
  have hL := S.hL
  have vn : ∀ n, n < L → vec M L n = vE n := fun n h => if_pos h
  refine fold_val L (fun i => σ * det (upd3 (wv M L s) p (vE i))) _ _ (fun q hq hqL => ?_) (by simp) fun i hi => ?_
  · rcases List.mem_cons.mp hq with rfl | hq
    · show s.d = _
      dsimp only at hqL ⊢
      rw [← vn _ hqL, val_ac hL I hp hp, if_pos rfl]
    · obtain ⟨k, h1, h2, h3⟩ := nPairs_mem hq
      rw [h3, Nat.zero_add, h2]
      rw [h2] at hqL
      rw [← vn _ hqL, val_dn I hp (by rw [← I.dnl]; exact h1)]
  · rcases I.either (n := i) (by omega) with ⟨c, h1, h2⟩ | ⟨k, h1, h2⟩
    · by_cases e : c = p
      · right
        exact ⟨_, List.mem_cons_self, by rw [← e]; exact h2⟩
      · left
        rw [← vn i hi, ← h2, val_ac hL I hp h1, if_neg e]
        unfold ig
        rw [List.getD_eq_getElem?_getD, List.getElem?_replicate]
        split <;> rfl
    · right
      exact ⟨_, List.mem_cons_of_mem _ (nPairs_has (k := 0) (by rw [I.dnl]; exact h1)), h2⟩
theorem dir_ok (S : SmallIn M L m g) (I : TInv M L m g s σ) {p : Nat} (hp : p < L) (hn : g2 s.T m p < 0) (hs : ∀ k, k < m → g2 s.T k p ≤ 0) : DirOk M L g (gnums L ((ng s.ac p, s.d) :: nPairs s.T p 0 s.dn)) := by
  have hL := S.hL
  have hv := dir_val S I hp
  have len : (gnums L ((ng s.ac p, s.d) :: nPairs s.T p 0 s.dn)).length = L := by
    unfold gnums
    rw [fold_len]
    simp
  -- as a vector
  have comp : ∀ i, i < 3 → ig (gnums L ((ng s.ac p, s.d) :: nPairs s.T p 0 s.dn)) i = σ * vdot (vE i) (crs (wv M L s) p) := fun i hi => by
    rw [crs_dot _ (by omega)]
    by_cases h : i < L
    · exact hv i h
    · rw [ig_out (by rw [len]; omega), val_pad hL hp (by omega) hi, Int.mul_zero]
  have vd : ∀ f : V3, vdot f (v3 (gnums L ((ng s.ac p, s.d) :: nPairs s.T p 0 s.dn))) = σ * det (upd3 (wv M L s) p f) := fun f => by
    rw [← crs_dot _ (by omega)]
    have c0 := comp 0 (by omega)
    have c1 := comp 1 (by omega)
    have c2 := comp 2 (by omega)
    unfold vdot v3
    simp only
    rw [c0, c1, c2]
    unfold vdot vE
    simp only
    grind
  have nonneg : ∀ n, n < L + m → 0 ≤ σ * det (upd3 (wv M L s) p (vec M L n)) := fun n hn => by
    rcases I.either hn with ⟨c, h1, h2⟩ | ⟨k, h1, h2⟩
    · rw [← h2, val_ac hL I hp h1]
      split
      · exact Int.le_of_lt I.dp
      · exact Int.le_refl _
    · rw [← h2, val_dn I hp h1]
      have := hs k h1
      omega
  refine ⟨len, fun x hx => ?_, fun r hr => ?_, ?_⟩
  · obtain ⟨i, hi, e⟩ := List.mem_iff_getElem.mp hx
    have hi' : i < L := by rw [← len]; exact hi
    have := hv i hi'
    rw [ig_get hi, e] at this
    have n0 := nonneg i (by omega)
    rw [show vec M L i = vE i from if_pos hi'] at n0
    have bd := sg_bd I.sg (det_bd (small_upd (S.wv I) (c := p) (small_vE i)))
    omega
  · obtain ⟨k, hk, e⟩ := List.mem_iff_getElem.mp hr
    rw [dot_v3 (by rw [S.rl r hr, len]) (by rw [S.rl r hr]; exact hL)]
    have n0 := nonneg (L + k) (by rw [← S.ml]; omega)
    rw [show vec M L (L + k) = vneg (v3 (rg M (L + k - L))) from if_neg (by omega), Nat.add_sub_cancel_left, rg_get hk, e, ← vd, vdot_neg] at n0
    omega
  · rw [dot_v3 (by rw [S.gl, len]) (by rw [S.gl]; exact hL), vd, val_g I hp]
    omega
theorem cap_ok (S : SmallIn M L m g) (I : TInv M L m g s σ) (hr : ∀ c, c < L → 0 ≤ g2 s.T m c) : CapOk M L m g (gweights (rg s.T m) s.ac L m) s.d := by
  have hL := S.hL
  have len : (gweights (rg s.T m) s.ac L m).length = m := by
    unfold gweights
    rw [gw_len]
    simp
  refine ⟨len, ?_, I.dp, d_bd S I, fun i hi => ?_⟩
  · refine gw_all (rg s.T m) L (fun x => 0 ≤ x ∧ x ≤ 384) s.ac 0 _ (fun j _ h2 => ?_) fun x hx => ?_
    · have hj : j < L := by rw [I.acl] at h2; omega
      exact ⟨hr j hj, (T_bd S I (Nat.le_refl _) hj).2⟩
    · rw [List.eq_of_mem_replicate hx]
      omega
  · have nd : s.ac.Nodup := by
      rw [List.nodup_iff_pairwise_ne, List.pairwise_iff_getElem]
      intro i j h1 h2 h3 h4
      have := I.acI (i := i) (j := j) (by rw [← I.acl]; exact h1) (by rw [← I.acl]; exact h2) (by rw [ng_get h1, ng_get h2, h4])
      omega
    have nmb := (shape_of S I).nm
    have hd : dot (gweights (rg s.T m) s.ac L m) (colL M i) = gwSum (rg s.T m) (colL M i) L 0 s.ac := by
      unfold gweights
      rw [gw_dot (rg s.T m) (colL M i) L m (by simp [colL, S.ml]) s.ac 0 _ (by simp) nd nmb fun a _ _ => by
        unfold ig
        rw [List.getD_eq_getElem?_getD, List.getElem?_replicate]
        split <;> rfl]
      rw [dot_zero]
      omega
    rw [hd]
    -- each name's part
    have part : ∀ j, j < L → g2 s.T m j * (-(vdot (wv M L s j) (vE i))) ≤ (if L ≤ ng s.ac j then ig (rg s.T m) j * ig (colL M i) (ng s.ac j - L) else 0) := fun j hj => by
      have hn : ng s.ac j < L + m := by rw [← I.nmA hj]; exact I.rng j (by omega)
      rw [show wv M L s j = vec M L (ng s.ac j) from if_pos hj]
      by_cases h : L ≤ ng s.ac j
      · rw [if_pos h, show vec M L (ng s.ac j) = vneg (v3 (rg M (ng s.ac j - L))) from if_neg (by omega), vdot_neg, vdot_v3 (by omega), colL_ig (by rw [S.ml]; omega), Int.neg_neg]
        exact Int.le_refl _
      · rw [if_neg h, show vec M L (ng s.ac j) = vE (ng s.ac j) from if_pos (by omega)]
        have z : 0 ≤ vdot (vE (ng s.ac j)) (vE i) := by
          rcases lt3 (show ng s.ac j < 3 by omega) with e | e | e <;> rcases lt3 (show i < 3 by omega) with e2 | e2 | e2 <;> rw [e, e2] <;> simp [vdot, vE]
        have := Int.mul_nonneg (hr j hj) z
        rw [Int.mul_neg]
        omega
    have pad : ∀ j, L ≤ j → j < 3 → vdot (wv M L s j) (vE i) = 0 := fun j h1 h2 => by
      rw [show wv M L s j = vE j from if_neg (by omega)]
      rcases lt3 h2 with e | e | e <;> rcases lt3 (show i < 3 by omega) with e2 | e2 | e2 <;> rw [e, e2] <;> first | (exfalso; omega) | simp [vdot, vE]
    have cr := cramer (wv M L s) (v3 g) (vE i)
    rw [vdot_v3 (by omega)] at cr
    have term : ∀ j, j < L → σ * det (upd3 (wv M L s) j (v3 g)) = -(g2 s.T m j) := fun j hj => val_g I hj
    have eqd : s.d * ig g i = (σ * det (upd3 (wv M L s) 0 (v3 g))) * vdot (wv M L s 0) (vE i) + (σ * det (upd3 (wv M L s) 1 (v3 g))) * vdot (wv M L s 1) (vE i) + (σ * det (upd3 (wv M L s) 2 (v3 g))) * vdot (wv M L s 2) (vE i) := by
      rw [I.dd]
      grind
    rw [eqd]
    have al := I.acl
    match hac : s.ac, al with
    | [], al =>
      have : L = 0 := by simpa using al.symm
      omega
    | [a], al =>
      have e : L = 1 := by simpa using al.symm
      have p0 : g2 s.T m 0 * (-(vdot (wv M L s 0) (vE i))) ≤ (if L ≤ a then ig (rg s.T m) 0 * ig (colL M i) (a - L) else 0) := by
        have := part 0 (by omega)
        rw [hac] at this
        exact this
      rw [term 0 (by omega), pad 1 (by omega) (by omega), pad 2 (by omega) (by omega)]
      simp only [gwSum]
      rw [Int.mul_neg] at p0
      simp only [Int.neg_mul, Int.mul_zero]
      generalize g2 s.T m 0 * vdot (wv M L s 0) (vE i) = y0 at p0 ⊢
      generalize hz0 : (if L ≤ a then ig (rg s.T m) 0 * ig (colL M i) (a - L) else 0) = z0 at p0
      omega
    | [a, b], al =>
      have e : L = 2 := by simpa using al.symm
      have p0 : g2 s.T m 0 * (-(vdot (wv M L s 0) (vE i))) ≤ (if L ≤ a then ig (rg s.T m) 0 * ig (colL M i) (a - L) else 0) := by
        have := part 0 (by omega)
        rw [hac] at this
        exact this
      have p1 : g2 s.T m 1 * (-(vdot (wv M L s 1) (vE i))) ≤ (if L ≤ b then ig (rg s.T m) 1 * ig (colL M i) (b - L) else 0) := by
        have := part 1 (by omega)
        rw [hac] at this
        exact this
      rw [term 0 (by omega), term 1 (by omega), pad 2 (by omega) (by omega)]
      simp only [gwSum]
      rw [Int.mul_neg] at p0
      rw [Int.mul_neg] at p1
      simp only [Int.neg_mul, Int.mul_zero]
      generalize g2 s.T m 0 * vdot (wv M L s 0) (vE i) = y0 at p0 ⊢
      generalize hz0 : (if L ≤ a then ig (rg s.T m) 0 * ig (colL M i) (a - L) else 0) = z0 at p0
      generalize g2 s.T m 1 * vdot (wv M L s 1) (vE i) = y1 at p1 ⊢
      generalize hz1 : (if L ≤ b then ig (rg s.T m) 1 * ig (colL M i) (b - L) else 0) = z1 at p1
      omega
    | [a, b, c], al =>
      have e : L = 3 := by simpa using al.symm
      have p0 : g2 s.T m 0 * (-(vdot (wv M L s 0) (vE i))) ≤ (if L ≤ a then ig (rg s.T m) 0 * ig (colL M i) (a - L) else 0) := by
        have := part 0 (by omega)
        rw [hac] at this
        exact this
      have p1 : g2 s.T m 1 * (-(vdot (wv M L s 1) (vE i))) ≤ (if L ≤ b then ig (rg s.T m) 1 * ig (colL M i) (b - L) else 0) := by
        have := part 1 (by omega)
        rw [hac] at this
        exact this
      have p2 : g2 s.T m 2 * (-(vdot (wv M L s 2) (vE i))) ≤ (if L ≤ c then ig (rg s.T m) 2 * ig (colL M i) (c - L) else 0) := by
        have := part 2 (by omega)
        rw [hac] at this
        exact this
      rw [term 0 (by omega), term 1 (by omega), term 2 (by omega)]
      simp only [gwSum]
      rw [Int.mul_neg] at p0
      rw [Int.mul_neg] at p1
      rw [Int.mul_neg] at p2
      simp only [Int.neg_mul, Int.mul_zero]
      generalize g2 s.T m 0 * vdot (wv M L s 0) (vE i) = y0 at p0 ⊢
      generalize hz0 : (if L ≤ a then ig (rg s.T m) 0 * ig (colL M i) (a - L) else 0) = z0 at p0
      generalize g2 s.T m 1 * vdot (wv M L s 1) (vE i) = y1 at p1 ⊢
      generalize hz1 : (if L ≤ b then ig (rg s.T m) 1 * ig (colL M i) (b - L) else 0) = z1 at p1
      generalize g2 s.T m 2 * vdot (wv M L s 2) (vE i) = y2 at p2 ⊢
      generalize hz2 : (if L ≤ c then ig (rg s.T m) 2 * ig (colL M i) (c - L) else 0) = z2 at p2
      omega
    | _ :: _ :: _ :: _ :: _, al =>
      simp at al
      omega
end
end K36

set_option Elab.async false
set_option linter.all false
set_option maxRecDepth 100000
set_option maxHeartbeats 4000000
set_option autoImplicit false
set_option exponentiation.threshold 300
/-! Law k36: grow_towards, evaluated and right. -/
namespace K36
open PySem PySem.Spec PyProof.Rows L2 Pv
/-- each number of the second row k times that of the first -/
theorem DirOk.lessen {M : Mat} {L : Nat} {g h : List Int} (D : DirOk M L g h) : DirOk M L g (lessen h) := by
  obtain ⟨k, hk, e⟩ := lessen_spec h
  have l := D.len
  have p := D.pos
  have le := D.le
  have gt := D.gt
  rw [e] at l p le gt
  refine ⟨by simpa using l, fun x hx => ?_, fun r hr => ?_, ?_⟩
  · have := p (k * x) (List.mem_map.mpr ⟨x, hx, rfl⟩)
    have b := natAbs_mul_le (b := 384) hk (by omega) this.2
    refine ⟨?_, b.2⟩
    rcases Int.lt_or_le x 0 with z | z
    · have := Int.mul_neg_of_pos_of_neg hk z
      omega
    · exact z
  · have := le r hr
    rw [dot_map_mul] at this
    rcases Int.lt_or_le 0 (dot r (K36.lessen h)) with z | z
    · have := Int.mul_pos hk z
      omega
    · exact z
  · rw [dot_map_mul] at gt
    rcases Int.lt_or_le 0 (dot g (K36.lessen h)) with z | z
    · exact z
    · exfalso
      have := Int.mul_nonpos_of_nonneg_of_nonpos (Int.le_of_lt hk) z
      omega
/-- a result: right, and what grow_towards gives -/
structure GtOk (M : Mat) (L : Nat) (g : List Int) (r : Res) : Prop where
  ev : ∀ (n : Nat) (dg : D), 4 ≤ n → SeqD dg g → evf tb n "grow_towards" none [.list (mT M), .int L, dg] = some (.va (resD r), none)
  ok : (r.1 = false ∧ CapOk M L M.length g r.2.1 r.2.2) ∨ (r.1 = true ∧ DirOk M L g r.2.1 ∧ r.2.2 = 0)
section
variable {M : Mat} {L m : Nat} {g : List Int} {s : TS} {σ : Int}
theorem not_ready (h : readyC L m s = []) : ∀ c, c < L → 0 ≤ g2 s.T m c := fun c hc => by
  rcases Int.lt_or_le (g2 s.T m c) 0 with z | z
  · have : c ∈ readyC L m s := List.mem_filter.mpr ⟨List.mem_range.mpr hc, decide_eq_true z⟩
    rw [h] at this
    cases this
  · exact z
theorem no_stop {c : Nat} (h : stopsK m s c = []) : ∀ k, k < m → g2 s.T k c ≤ 0 := fun k hk => by
  rcases Int.lt_or_le 0 (g2 s.T k c) with z | z
  · have : k ∈ stopsK m s c := List.mem_filter.mpr ⟨List.mem_range.mpr hk, decide_eq_true z⟩
    rw [h] at this
    cases this
  · exact z
theorem end_run (S : SmallIn M L m g) (I : TInv M L m g s σ) (h : ¬ Live L m s) : ∃ r, GRun L m 1 s r ∧ ((r.1 = false ∧ CapOk M L m g r.2.1 r.2.2) ∨ (r.1 = true ∧ DirOk M L g r.2.1 ∧ r.2.2 = 0)) := by
  have sh := shape_of S I
  by_cases hr : readyC L m s = []
  · exact ⟨_, .cap sh hr, .inl ⟨rfl, cap_ok S I (not_ready hr)⟩⟩
  · have hs : stopsK m s (cOf L m s) = [] := Classical.byContradiction fun z => h ⟨hr, z⟩
    have hc := pick_mem (xs := s.ac) hr
    have h2 := List.mem_filter.mp hc
    have hcL : cOf L m s < L := List.mem_range.mp h2.1
    have hneg : g2 s.T m (cOf L m s) < 0 := of_decide_eq_true h2.2
    have D := dir_ok S I hcL hneg (no_stop hs)
    refine ⟨_, .grow sh hr hs (fun x hx => ?_), .inr ⟨rfl, D.lessen, rfl⟩⟩
    have := D.pos x hx
    exact sm_384 ⟨by omega, this.2⟩
theorem run_back {r : Res} {i : Nat} (sh : ∀ j, j ≤ i → Shape L m (it L m s j)) (lv : ∀ j, j < i → Live L m (it L m s j)) (e : GRun L m 1 (it L m s i) r) : ∀ k, k ≤ i → GRun L m (k + 1) (it L m s (i - k)) r
  | 0, _ => e
  | k + 1, h => by
    have ih := run_back sh lv e k (by omega)
    have L1 := lv (i - (k + 1)) (by omega)
    refine .step (sh _ (by omega)) L1.r L1.t ?_
    rw [show i - k = (i - (k + 1)) + 1 by omega] at ih
    exact ih
theorem gt_ex (S : SmallIn M L m g) : ∃ r, GtOk M L g r := by
  have ml := S.ml
  have hL := S.hL
  have hm := S.hm
  obtain ⟨i, h1, h2, h3, h4⟩ := ends (s := start0 M L g) hL (start_inv S)
  obtain ⟨σ, I⟩ := h3 i (Nat.le_refl _)
  obtain ⟨r, e, ok⟩ := end_run S I h4
  have run := run_back (s := start0 M L g) (fun j hj => by obtain ⟨τ, J⟩ := h3 j hj; exact shape_of S J) h2 e i (Nat.le_refl _)
  rw [Nat.sub_self] at run
  subst ml
  have pw : 2 ^ (L + M.length) ≤ 2 ^ 7 := Nat.pow_le_pow_right (by omega) (by omega)
  refine ⟨r, fun n dg hn hg => ev_grow_towards hn M L hg (by omega) (by omega) (by rw [S.gl]; omega) (q := i + 1) (by omega) run, ok⟩
end
end K36

set_option Elab.async false
set_option linter.all false
set_option maxRecDepth 100000
set_option maxHeartbeats 4000000
set_option autoImplicit false
set_option exponentiation.threshold 300
/-! Law k36: grow_or_cap, all_growing, cap_bound. -/
namespace K36
open PySem PySem.Spec PyProof.Rows L2 Pv
abbrev mat (rs : List Row) : Mat := rs.map (·.1)
/-- rows that the law hands in -/
structure GoodRows (rs : List Row) (L : Nat) : Prop where
  hL : L ≤ 3
  hm : rs.length ≤ 4
  rl : ∀ r ∈ rs, r.1.length = L
  rb : ∀ r ∈ rs, ∀ x ∈ r.1, -4 ≤ x ∧ x ≤ 4
  bb : ∀ r ∈ rs, -1000000 ≤ r.2 ∧ r.2 ≤ 1000000
theorem GoodRows.sm {rs : List Row} {L : Nat} (G : GoodRows rs L) : ∀ r ∈ rs, SmL r.1 ∧ sm r.2 := fun r hr =>
  ⟨fun x hx => sm_64 (by have := G.rb r hr x hx; omega), sm_64 (by have := G.bb r hr; omega)⟩
theorem unit_len (L p : Nat) : (unit L p).length = L := by simp [unit]
theorem unit_bd (L p : Nat) : ∀ x ∈ unit L p, -4 ≤ x ∧ x ≤ 4 := fun x hx => by
  unfold unit at hx
  obtain ⟨k, _, e⟩ := List.mem_map.mp hx
  split at e <;> omega
theorem unit_ig {L p i : Nat} (hi : i < L) : ig (unit L p) i = if i = p then 1 else 0 := by
  rw [ig_get (by rw [unit_len]; exact hi)]
  simp [unit]
theorem GoodRows.small {rs : List Row} {L : Nat} (G : GoodRows rs L) {g : List Int} (gl : g.length = L) (gb : ∀ x ∈ g, -4 ≤ x ∧ x ≤ 4) : SmallIn (mat rs) L rs.length g where
  hL := G.hL
  hm := G.hm
  ml := by simp
  rl := fun r hr => by
    obtain ⟨q, hq, e⟩ := List.mem_map.mp hr
    rw [← e]
    exact G.rl q hq
  rb := fun r hr => by
    obtain ⟨q, hq, e⟩ := List.mem_map.mp hr
    rw [← e]
    exact G.rb q hq
  gl := gl
  gb := gb
theorem lc_mat {own : List Nat} {g : SemG} {te : SemE} {ρ : Sr} (rs : List Row) (hl : rs.length ≤ 100000) (h : ∀ r ∈ rs, lcOne own g te (rT r) ρ = some (eT r.1, ρ)) : lcL own g sYes te (rTs rs) ρ [] = some (mT (mat rs), ρ) := by
  have := lc_one rT (fun r => eT r.1) rs [] (by simpa using hl) h
  rw [rTs, this]
  unfold mT
  rw [List.map_map]
  rfl
/-! ### grow_or_cap -/
theorem ev_grow_or_cap {n : Nat} (hn : 5 ≤ n) {ds : List D} {rs : List Row} {L p : Nat} (h : RowsD ds rs) (G : GoodRows rs L) (hp : p < L) {r : Res} (hr : GtOk (mat rs) L (unit L p) r) :
    evf tb n "grow_or_cap" none [.list ds, .int L, .int p] = some (.va (if r.1 = true then .tuple [.str "grow", eT r.2.1] else .tuple [.str "cap", eT (lessen r.2.1)]), none) := by
  obtain ⟨n, rfl⟩ : ∃ m, n = m + 1 := ⟨n - 1, by omega⟩
  have hL := G.hL
  have hm := G.hm
  rw [fi_grow_or_cap, run_grow_or_cap]
  have e1 := ev_sum_rows (n := n) (by omega) L h G.rl (by omega)
  have e2 := ev_sum_place (n := n) (by omega) hp
  have e3 := ev_grow_unit (n := n) (by omega) L p (by omega)
  have e4 := hr.ev n (eL (unit L p)) (by omega) (.L _)
  have lc := lc_mat (own := [5, 6, 7]) (g := gT (gsCons (gN 6) (gsCons (gN 7) gsNil))) (te := e_grow_or_cap_1 (evf tb n)) (ρ := [some (.va (.list ds)), some (.va (.int L)), some (.va (.int p)), some (.va (.list (rTs rs))), none, none, none, none]) rs (by omega) fun r _ => by simp [lcOne]
  rcases hr.ok with ⟨z, C⟩ | ⟨z, C, _⟩
  · have e5 := ev_lessened (n := n) (by omega) (.L r.2.1) (fun x hx => sm_64 (by have := C.pos x hx; omega)) (by have := C.len; simp at this; omega)
    simp [S_grow_or_cap, e1, e2, e3, lc, e4, resD, z, e5]
  · simp [S_grow_or_cap, e1, e2, e3, lc, e4, resD, z]
/-! ### all_growing -/
def addL (xs ys : List Int) : List Int := (xs.zip ys).map fun p => p.1 + p.2
def sumGo (r : Nat → Res) : List Nat → List Int → List Int
  | [], s => s
  | p :: ps, s => sumGo r ps (if ig s p = 0 then addL s (r p).2.1 else s)
theorem addL_len {xs ys : List Int} {L : Nat} (h1 : xs.length = L) (h2 : ys.length = L) : (addL xs ys).length = L := by simp [addL, h1, h2]
theorem addL_ig {xs ys : List Int} {L i : Nat} (h1 : xs.length = L) (h2 : ys.length = L) (hi : i < L) : ig (addL xs ys) i = ig xs i + ig ys i := by
  unfold addL
  rw [ig_get (by simp [h1, h2]; exact hi), List.getElem_map, List.getElem_zip, ig_get (by omega), ig_get (by omega)]
theorem dot_add : ∀ (r xs ys : List Int), xs.length = ys.length → dot r (addL xs ys) = dot r xs + dot r ys
  | [], xs, ys, _ => by rw [dot_nil, dot_nil, dot_nil]; rfl
  | a :: r, [], [], _ => by rw [show addL [] [] = [] from rfl, dot_nil']; rfl
  | a :: r, [], _ :: _, h => by simp at h
  | a :: r, _ :: _, [], h => by simp at h
  | a :: r, x :: xs, y :: ys, h => by
    have ih := dot_add r xs ys (by simpa using h)
    show dot (a :: r) ((x + y) :: addL xs ys) = _
    rw [dot_cons, dot_cons, dot_cons, ih]
    grind
theorem loop_grow_sum {n : Nat} (hn : 4 ≤ n) {rs : List Row} {L : Nat} (G : GoodRows rs L) (R0 : D) {r : Nat → Res} (hr : ∀ p, p < L → GtOk (mat rs) L (unit L p) (r p) ∧ (r p).1 = true) : ∀ (ps : List Nat) (s : List Int) (sl : Sl) (o4 o5 o9 o10 : Option Sl), (∀ p ∈ ps, p < L) → s.length = L → (sl = .ow (mT (mat rs)) ∨ sl = .va (.list (mT (mat rs)))) →
    ∃ (sl' : Sl) (o4' o5' o9' o10' : Option Sl), forL (gN 4) (b_grow_sum_2 (evf tb n)) (nL ps) [some (.va R0), some (.va (.int L)), some sl, some (.ow (iL s)), o4, o5, none, none, none, o9, o10] =
      some (.nx, [some (.va R0), some (.va (.int L)), some sl', some (.ow (iL (sumGo r ps s))), o4', o5', none, none, none, o9', o10'])
  | [], s, sl, o4, o5, o9, o10, _, _, _ => ⟨sl, o4, o5, o9, o10, by simp [sumGo]⟩
  | p :: ps, s, sl, o4, o5, o9, o10, hp, hs, hsl => by
    have hpL := hp p List.mem_cons_self
    have hL := G.hL
    obtain ⟨h1, h2⟩ := hr p hpL
    have dl : (r p).2.1.length = L := by
      rcases h1.ok with ⟨z, _⟩ | ⟨_, C, _⟩
      · rw [h2] at z
        cases z
      · exact C.len
    have e3 := ev_grow_unit (n := n) (by omega) L p (by omega)
    have e4 := h1.ev n (eL (unit L p)) hn (.L _)
    rw [nL_cons, forL_cons]
    by_cases hz : ig s p = 0
    · obtain ⟨sl', o4', o5', o9', o10', e⟩ := loop_grow_sum hn G R0 hr ps (addL s (r p).2.1) (.va (.list (mT (mat rs)))) (some (.va (.int (p : Nat)))) (some (.va (resD (r p)))) o9 o10 (fun q hq => hp q (List.mem_cons_of_mem _ hq)) (addL_len hs dl) (.inr rfl)
      refine ⟨sl', o4', o5', o9', o10', ?_⟩
      have lc := lcP (own := [6, 9, 10]) (g := gT (gsCons (gN 9) (gsCons (gN 10) gsNil))) (te := e_grow_sum_1 (evf tb n)) (ρ := [some (.va R0), some (.va (.int L)), some (.va (.list (mT (mat rs)))), some (.va (eL s)), some (.va (.int (p : Nat))), some (.va (resD (r p))), none, none, none, none, none]) (fun x => x.1 + x.2) (s.zip (r p).2.1) (by rw [List.length_zip]; omega) fun a b _ => by simp [lcOne]
      have f1 : fIx (resD (r p)) (.int 0) = some (.va (.bool true)) := by simp [resD, h2]
      have f2 : fIx (resD (r p)) (.int 1) = some (.va (eL (r p).2.1)) := by simp [resD]
      rcases hsl with rfl | rfl <;> simp [iL_atN (show p < s.length by omega), hz, e3, e4, f1, f2, zipD_ints, lc] <;> simpa [sumGo, hz, addL] using e
    · obtain ⟨sl', o4', o5', o9', o10', e⟩ := loop_grow_sum hn G R0 hr ps s sl (some (.va (.int (p : Nat)))) o5 o9 o10 (fun q hq => hp q (List.mem_cons_of_mem _ hq)) hs hsl
      refine ⟨sl', o4', o5', o9', o10', ?_⟩
      simp [iL_atN (show p < s.length by omega), hz]
      simpa [sumGo, hz] using e
/-- a row of numbers that grows everywhere -/
structure Growing (M : Mat) (L : Nat) (B : Int) (h : List Int) : Prop where
  len : h.length = L
  pos : ∀ x ∈ h, 1 ≤ x ∧ x ≤ B
  le : ∀ r ∈ M, dot r h ≤ 0
/-- a row on the way there -/
structure Half (M : Mat) (L : Nat) (B : Int) (h : List Int) : Prop where
  len : h.length = L
  pos : ∀ x ∈ h, 0 ≤ x ∧ x ≤ B
  le : ∀ r ∈ M, dot r h ≤ 0
theorem Half.ig {M : Mat} {L : Nat} {B : Int} {h : List Int} (H : Half M L B h) {i : Nat} (hi : i < L) : 0 ≤ ig h i ∧ ig h i ≤ B := H.pos _ (ig_mem (by rw [H.len]; exact hi))
theorem all_ig {L : Nat} {h : List Int} {P : Int → Prop} (hl : h.length = L) (hp : ∀ i, i < L → P (ig h i)) : ∀ x ∈ h, P x := fun x hx => by
  obtain ⟨i, hi, e⟩ := List.mem_iff_getElem.mp hx
  have := hp i (by omega)
  rw [ig_get hi, e] at this
  exact this
theorem Half.add {M : Mat} {L : Nat} {B : Int} {g s d : List Int} (H : Half M L B s) (D : DirOk M L g d) : Half M L (B + 384) (addL s d) where
  len := addL_len H.len D.len
  pos := all_ig (addL_len H.len D.len) fun i hi => by
    rw [addL_ig H.len D.len hi]
    have h1 := H.ig hi
    have h2 := D.pos _ (ig_mem (c := i) (xs := d) (by rw [D.len]; exact hi))
    omega
  le := fun r hr => by
    rw [dot_add r s d (by rw [H.len, D.len])]
    have h1 := H.le r hr
    have h2 := D.le r hr
    omega
theorem Half.more {M : Mat} {L : Nat} {B C : Int} {s : List Int} (H : Half M L B s) (h : B ≤ C) : Half M L C s := ⟨H.len, fun x hx => by have := H.pos x hx; omega, H.le⟩
theorem dot_unit {L p : Nat} (hL : L ≤ 3) (hp : p < L) {h : List Int} (hl : h.length = L) : dot (unit L p) h = K36.ig h p := by
  rw [dot_comm, dot_v3 (by rw [hl, unit_len]) (by omega)]
  have e : v3 (unit L p) = vE p := by
    have : L = 1 ∨ L = 2 ∨ L = 3 := by omega
    rcases this with rfl | rfl | rfl
    · have : p = 0 := by omega
      subst this
      rfl
    · have : p = 0 ∨ p = 1 := by omega
      rcases this with rfl | rfl <;> rfl
    · rcases lt3 hp with rfl | rfl | rfl <;> rfl
  rw [e, vdot_v3 (by omega)]
theorem sumGo_ok {rs : List Row} {L : Nat} (G : GoodRows rs L) {r : Nat → Res} (hr : ∀ p, p < L → GtOk (mat rs) L (unit L p) (r p) ∧ (r p).1 = true) : ∀ (ps : List Nat) (s : List Int) (B : Int), (∀ p ∈ ps, p < L) → Half (mat rs) L B s →
    Half (mat rs) L (B + 384 * ps.length) (sumGo r ps s) ∧ (∀ i, i < L → 0 < ig s i → 0 < ig (sumGo r ps s) i) ∧ ∀ p ∈ ps, 0 < ig (sumGo r ps s) p
  | [], s, B, _, H => ⟨by simpa [sumGo] using H, fun i _ h => h, fun p h => by cases h⟩
  | p :: ps, s, B, hp, H => by
    have hpL := hp p List.mem_cons_self
    obtain ⟨h1, h2⟩ := hr p hpL
    have D : DirOk (mat rs) L (unit L p) (r p).2.1 := by
      rcases h1.ok with ⟨z, _⟩ | ⟨_, C, _⟩
      · rw [h2] at z
        cases z
      · exact C
    have dp : 0 < ig (r p).2.1 p := by
      have := D.gt
      rw [dot_unit G.hL hpL D.len] at this
      exact this
    have dn : ∀ i, i < L → 0 ≤ ig (r p).2.1 i := fun i hi => (D.pos _ (ig_mem (by rw [D.len]; exact hi))).1
    have bl : B + 384 * ((p :: ps).length : Int) = (B + 384) + 384 * (ps.length : Int) := by
      rw [List.length_cons]
      push_cast
      omega
    rw [bl]
    unfold sumGo
    by_cases hz : ig s p = 0
    · rw [if_pos hz]
      obtain ⟨k1, k2, k3⟩ := sumGo_ok G hr ps (addL s (r p).2.1) (B + 384) (fun q hq => hp q (List.mem_cons_of_mem _ hq)) (H.add D)
      refine ⟨k1, fun i hi h => k2 i hi ?_, fun q hq => ?_⟩
      · rw [addL_ig H.len D.len hi]
        have := dn i hi
        omega
      · rcases List.mem_cons.mp hq with rfl | hq
        · refine k2 _ hpL ?_
          rw [addL_ig H.len D.len hpL]
          omega
        · exact k3 q hq
    · rw [if_neg hz]
      obtain ⟨k1, k2, k3⟩ := sumGo_ok G hr ps s (B + 384) (fun q hq => hp q (List.mem_cons_of_mem _ hq)) (H.more (by omega))
      refine ⟨k1, k2, fun q hq => ?_⟩
      rcases List.mem_cons.mp hq with rfl | hq
      · refine k2 _ hpL ?_
        have := H.ig hpL
        omega
      · exact k3 q hq
theorem lessen_pos {B : Int} (hB : 0 ≤ B) {h : List Int} (hp : ∀ x ∈ h, 1 ≤ x ∧ x ≤ B) : ∀ x ∈ lessen h, 1 ≤ x ∧ x ≤ B := fun x hx => by
  obtain ⟨k, hk, e⟩ := lessen_spec h
  have h1 := hp (k * x) (by rw [e]; exact List.mem_map.mpr ⟨x, hx, rfl⟩)
  have h2 := natAbs_mul_le (b := B) hk (by omega) h1.2
  refine ⟨?_, h2.2⟩
  rcases Int.lt_or_le 0 x with z | z
  · exact z
  · have := Int.mul_nonpos_of_nonneg_of_nonpos (Int.le_of_lt hk) z
    omega
theorem lessen_le (r : List Int) {h : List Int} (hd : dot r h ≤ 0) : dot r (lessen h) ≤ 0 := by
  obtain ⟨k, hk, e⟩ := lessen_spec h
  rw [e, dot_map_mul] at hd
  rcases Int.lt_or_le 0 (dot r (lessen h)) with z | z
  · have := Int.mul_pos hk z
    omega
  · exact z
theorem lessen_lt (r : List Int) {h : List Int} (hd : dot r h < 0) : dot r (lessen h) < 0 := by
  obtain ⟨k, hk, e⟩ := lessen_spec h
  rw [e, dot_map_mul] at hd
  rcases Int.lt_or_le (dot r (lessen h)) 0 with z | z
  · exact z
  · have := Int.mul_nonneg (Int.le_of_lt hk) z
    omega
theorem Growing.lessen {M : Mat} {L : Nat} {B : Int} (hB : 0 ≤ B) {h : List Int} (H : Growing M L B h) : Growing M L B (lessen h) :=
  ⟨by rw [lessen_len, H.len], lessen_pos hB H.pos, fun r hr => lessen_le r (H.le r hr)⟩
/-- what all_growing gives where each place grows -/
theorem ag_ex {rs : List Row} {L : Nat} (G : GoodRows rs L) {r : Nat → Res} (hr : ∀ p, p < L → GtOk (mat rs) L (unit L p) (r p) ∧ (r p).1 = true) :
    ∃ h, Growing (mat rs) L 1152 h ∧ ∀ (n : Nat) (ds : List D), 6 ≤ n → RowsD ds rs → evf tb n "all_growing" none [.list ds, .int L] = some (.va (eT h), none) := by
  have hL := G.hL
  have hm := G.hm
  have H0 : Half (mat rs) L 0 (List.replicate L 0) := ⟨by simp, fun x hx => by rw [List.eq_of_mem_replicate hx]; omega, fun r _ => by rw [dot_comm, dot_zero]; omega⟩
  obtain ⟨k1, -, k3⟩ := sumGo_ok G hr (List.range L) (List.replicate L 0) 0 (fun p hp => List.mem_range.mp hp) H0
  have H : Growing (mat rs) L 1152 (sumGo r (List.range L) (List.replicate L 0)) := ⟨k1.len, all_ig k1.len fun i hi => by
    have h1 := k3 i (List.mem_range.mpr hi)
    have h2 := k1.ig hi
    rw [List.length_range] at h2
    omega, k1.le⟩
  refine ⟨_, H.lessen (by omega), fun n ds hn hd => ?_⟩
  obtain ⟨n, rfl⟩ : ∃ m, n = m + 1 := ⟨n - 1, by omega⟩
  obtain ⟨n, rfl⟩ : ∃ m, n = m + 1 := ⟨n - 1, by omega⟩
  have e0 : evf tb (n + 1) "grow_sum" none [.list (rTs rs), .int L] = some (.nw (iL (lessen (sumGo r (List.range L) (List.replicate L 0)))), none) := by
    rw [fi_grow_sum, run_grow_sum]
    have lc := lc_mat (own := [6, 7, 8]) (g := gT (gsCons (gN 7) (gsCons (gN 8) gsNil))) (te := e_grow_sum_3 (evf tb n)) (ρ := [some (.va (.list (rTs rs))), some (.va (.int L)), none, none, none, none, none, none, none, none, none]) rs (by omega) fun r _ => by simp [lcOne]
    have e3 := rep_1 (.int 0) (show L ≤ 100000 by omega)
    rw [show List.replicate L (PyData.int 0) = iL (List.replicate L 0) by simp [iL]] at e3
    have h62 : L < 2 ^ 62 := by omega
    obtain ⟨sl, o4, o5, o9, o10, e⟩ := loop_grow_sum (n := n) (by omega) G (.list (rTs rs)) hr (List.range L) (List.replicate L 0) (.ow (mT (mat rs))) none none none none (fun p hp => List.mem_range.mp hp) (by simp) (.inl rfl)
    have e5 := ev_lessened (n := n) (by omega) (.L (sumGo r (List.range L) (List.replicate L 0))) (fun x hx => sm_64 (by have := H.pos x hx; omega)) (by rw [H.len]; omega)
    simp [S_grow_sum, lc, e3, h62, rgD0, e, e5]
  rw [fi_all_growing, run_all_growing]
  have e1 := ev_sum_rows (n := n + 1) (by omega) L hd G.rl (by omega)
  have nz : (lessen (sumGo r (List.range L) (List.replicate L 0))).any (· == 0) = false := by
    rw [List.any_eq_false]
    intro x hx
    have := (H.lessen (by omega)).pos x hx
    simp
    omega
  have e2 : fIn (.int 0) (.list (iL (lessen (sumGo r (List.range L) (List.replicate L 0))))) = some (.va (.bool false)) := by
    show Option.map _ (Option.map _ (intsOf (iL _))) = _
    rw [iL_ints]
    simp only [Option.map_some]
    rw [nz]
  simp [S_all_growing, e1, e0, e2]
end K36

set_option Elab.async false
set_option linter.all false
set_option maxRecDepth 100000
set_option maxHeartbeats 4000000
set_option autoImplicit false
set_option exponentiation.threshold 300
/-! Law k36: mixed rows; cap_bound, rests. -/
namespace K36
open PySem PySem.Spec PyProof.Rows L2 Pv
/-! ### mixed rows -/
theorem mixStep_len {L : Nat} {p : List Int × Int} {q : Row × Int} (h1 : p.1.length = L) (h2 : q.1.1.length = L) : (mixStep p q).1.length = L := by simp [mixStep, h1, h2]
theorem mixStep_ig {L i : Nat} {p : List Int × Int} {q : Row × Int} (h1 : p.1.length = L) (h2 : q.1.1.length = L) (hi : i < L) : ig (mixStep p q).1 i = ig p.1 i + q.2 * ig q.1.1 i := by
  unfold mixStep
  rw [ig_get (by simp [h1, h2]; exact hi)]
  simp only [List.getElem_map, List.getElem_zip]
  rw [ig_get (show i < p.1.length by omega), ig_get (show i < q.1.1.length by omega)]
theorem mix_go {L : Nat} : ∀ (rs : List Row) (ws : List Int) (p : List Int × Int), ws.length = rs.length → (∀ r ∈ rs, r.1.length = L) → p.1.length = L →
    ((rs.zip ws).foldl mixStep p).1.length = L ∧ (∀ i, i < L → ig ((rs.zip ws).foldl mixStep p).1 i = ig p.1 i + dot ws (colL (mat rs) i)) ∧ ((rs.zip ws).foldl mixStep p).2 = p.2 + dot ws (rs.map (·.2))
  | [], ws, p, h, _, hp => by
    have : ws = [] := List.length_eq_zero_iff.mp (by simpa using h)
    subst this
    exact ⟨hp, fun i _ => by simp [dot], by simp [dot]⟩
  | r :: rs, [], p, h, _, _ => by simp at h
  | r :: rs, w :: ws, p, h, hr, hp => by
    have rl := hr r List.mem_cons_self
    obtain ⟨h1, h2, h3⟩ := mix_go rs ws (mixStep p (r, w)) (by simpa using h) (fun q hq => hr q (List.mem_cons_of_mem _ hq)) (mixStep_len hp rl)
    rw [List.zip_cons_cons, List.foldl_cons]
    refine ⟨h1, fun i hi => ?_, ?_⟩
    · rw [h2 i hi, mixStep_ig hp rl hi]
      show _ = ig p.1 i + dot (w :: ws) (ig r.1 i :: colL (mat rs) i)
      rw [dot_cons]
      show ig p.1 i + w * ig r.1 i + _ = _
      omega
    · rw [h3]
      show p.2 + w * r.2 + _ = p.2 + dot (w :: ws) (r.2 :: rs.map (·.2))
      rw [dot_cons]
      omega
theorem mix_ok {L : Nat} {rs : List Row} {ws : List Int} (h : ws.length = rs.length) (hr : ∀ r ∈ rs, r.1.length = L) : (mix L rs ws).1.length = L ∧ (∀ i, i < L → ig (mix L rs ws).1 i = dot ws (colL (mat rs) i)) ∧ (mix L rs ws).2 = dot ws (rs.map (·.2)) := by
  obtain ⟨h1, h2, h3⟩ := mix_go (L := L) rs ws (List.replicate L 0, 0) h hr (by simp)
  refine ⟨h1, fun i hi => ?_, ?_⟩
  · show ig ((rs.zip ws).foldl mixStep (List.replicate L 0, 0)).1 i = _
    rw [h2 i hi]
    have : ig (List.replicate L 0) i = 0 := by
      unfold ig
      rw [List.getD_eq_getElem?_getD, List.getElem?_replicate]
      split <;> rfl
    rw [this]
    omega
  · show ((rs.zip ws).foldl mixStep (List.replicate L 0, 0)).2 = _
    rw [h3]
    omega
/-- sums exchanged: over the places, over the rows -/
theorem exch {L : Nat} (hL : L ≤ 3) {h : List Int} (hl : h.length = L) : ∀ (rs : List Row) (ws : List Int), (∀ r ∈ rs, r.1.length = L) → dot ((List.range L).map fun i => dot ws (colL (mat rs) i)) h = dot ws (rs.map fun r => dot r.1 h)
  | [], ws, _ => by
    rw [List.map_nil, dot_nil']
    have : (List.range L).map (fun i => dot ws (colL (mat []) i)) = List.replicate L 0 := by
      rw [show (fun i => dot ws (colL (mat []) i)) = fun _ => (0 : Int) from funext fun i => dot_nil' ws, List.map_const', List.length_range]
    rw [this, dot_zero]
  | r :: rs, [], _ => by
    rw [dot_nil]
    have : (List.range L).map (fun i => dot [] (colL (mat (r :: rs)) i)) = List.replicate L 0 := by
      rw [show (fun i => dot [] (colL (mat (r :: rs)) i)) = fun _ => (0 : Int) from funext fun i => dot_nil _, List.map_const', List.length_range]
    rw [this, dot_zero]
  | r :: rs, w :: ws, hr => by
    have rl := hr r List.mem_cons_self
    have ih := exch hL hl rs ws fun q hq => hr q (List.mem_cons_of_mem _ hq)
    rw [List.map_cons, dot_cons, ← ih]
    have e : ∀ i, dot (w :: ws) (colL (mat (r :: rs)) i) = w * ig r.1 i + dot ws (colL (mat rs) i) := fun i => dot_cons w (ig r.1 i) ws _
    simp only [e]
    rw [dot_v3 (by simp [hl]) (by simp; omega), dot_v3 (xs := r.1) (by rw [rl, hl]) (by omega), dot_v3 (xs := (List.range L).map fun i => dot ws (colL (mat rs) i)) (by simp [hl]) (by simp; omega)]
    have c : ∀ i, ig ((List.range L).map fun i => w * ig r.1 i + dot ws (colL (mat rs) i)) i = w * ig r.1 i + ig ((List.range L).map fun i => dot ws (colL (mat rs) i)) i := fun i => by
      by_cases hi : i < L
      · rw [ig_get (by simpa using hi), ig_get (xs := (List.range L).map fun i => dot ws (colL (mat rs) i)) (by simpa using hi)]
        simp
      · rw [ig_out (by simpa using hi), ig_out (xs := r.1) (by omega), ig_out (by simpa using hi)]
        omega
    unfold v3 vdot
    simp only [c]
    grind
theorem dot_nonneg : ∀ {xs ys : List Int}, (∀ x ∈ xs, 0 ≤ x) → (∀ y ∈ ys, 0 ≤ y) → 0 ≤ dot xs ys
  | [], ys, _, _ => by rw [dot_nil]; omega
  | x :: xs, [], _, _ => by rw [dot_nil']; omega
  | x :: xs, y :: ys, h1, h2 => by
    rw [dot_cons]
    have := Int.mul_nonneg (h1 x List.mem_cons_self) (h2 y List.mem_cons_self)
    have := dot_nonneg (fun z hz => h1 z (List.mem_cons_of_mem _ hz)) (fun z hz => h2 z (List.mem_cons_of_mem _ hz))
    omega
theorem dot_nonpos : ∀ {xs ys : List Int}, (∀ x ∈ xs, 0 ≤ x) → (∀ y ∈ ys, y ≤ 0) → dot xs ys ≤ 0
  | [], ys, _, _ => by rw [dot_nil]; omega
  | x :: xs, [], _, _ => by rw [dot_nil']; omega
  | x :: xs, y :: ys, h1, h2 => by
    rw [dot_cons]
    have := Int.mul_nonpos_of_nonneg_of_nonpos (h1 x List.mem_cons_self) (h2 y List.mem_cons_self)
    have := dot_nonpos (fun z hz => h1 z (List.mem_cons_of_mem _ hz)) (fun z hz => h2 z (List.mem_cons_of_mem _ hz))
    omega
/-- nonpositive parts, a sum that is not negative: each part with a weight is 0 -/
theorem dot_tight : ∀ {xs ys : List Int}, (∀ x ∈ xs, 0 ≤ x) → (∀ y ∈ ys, y ≤ 0) → 0 ≤ dot xs ys → ∀ i, i < xs.length → i < ys.length → 0 < ig xs i → ig ys i = 0
  | [], ys, _, _, _, i, h, _, _ => by simp at h
  | x :: xs, [], _, _, _, i, _, h, _ => by simp at h
  | x :: xs, y :: ys, h1, h2, h3, i, hi, hj, hp => by
    rw [dot_cons] at h3
    have a1 := h1 x List.mem_cons_self
    have a2 := h2 y List.mem_cons_self
    have m := Int.mul_nonpos_of_nonneg_of_nonpos a1 a2
    have r := dot_nonpos (fun z hz => h1 z (List.mem_cons_of_mem _ hz)) (fun z hz => h2 z (List.mem_cons_of_mem _ hz))
    cases i with
    | zero =>
      change 0 < x at hp
      show y = 0
      rcases Int.lt_or_le y 0 with z | z
      · have := Int.mul_neg_of_pos_of_neg hp z
        omega
      · omega
    | succ i =>
      exact dot_tight (fun z hz => h1 z (List.mem_cons_of_mem _ hz)) (fun z hz => h2 z (List.mem_cons_of_mem _ hz)) (by omega) i (by simpa using hi) (by simpa using hj) hp
/-! ### the weights of a tight row -/
def negL (g : List Int) : List Int := g.map fun a => -a
def rowG (rs : List Row) (k : Nat) : Row := rs.getD k ([], 0)
theorem rowG_mem {rs : List Row} {k : Nat} (h : k < rs.length) : rowG rs k ∈ rs := getD_mem h
theorem rTs_at {rs : List Row} {k : Nat} (h : k < rs.length) : atI (rTs rs) (k : Int) = some (rT (rowG rs k)) := by
  unfold rTs
  rw [Pv.atI_nat, List.getElem?_map, getD_eq (d := (([], 0) : Row)) h]
  rfl
def tw (r : Res) (k : Nat) : List Int := r.2.1.set k (ig r.2.1 k + r.2.2)
theorem negL_bd {g : List Int} (h : ∀ x ∈ g, -4 ≤ x ∧ x ≤ 4) : ∀ x ∈ negL g, -4 ≤ x ∧ x ≤ 4 := fun x hx => by
  obtain ⟨y, hy, e⟩ := List.mem_map.mp hx
  have := h y hy
  omega
theorem ev_rest_side {n : Nat} (hn : 5 ≤ n) {rs : List Row} {L k : Nat} (G : GoodRows rs L) (hk : k < rs.length) {r : Res} (hr : GtOk (mat rs) L (negL (rowG rs k).1) r) :
    evf tb n "rest_side" none [.list (rTs rs), .int k] = some (.va (if r.1 = true then .tuple [.str "loose", eT r.2.1] else .tuple [.str "tight", eT (lessen (tw r k))]), none) := by
  obtain ⟨n, rfl⟩ : ∃ m, n = m + 1 := ⟨n - 1, by omega⟩
  have hL := G.hL
  have hm := G.hm
  have rl := G.rl _ (rowG_mem hk)
  rw [fi_rest_side, run_rest_side]
  have lc := lc_mat (own := [5, 6, 7]) (g := gT (gsCons (gN 6) (gsCons (gN 7) gsNil))) (te := e_rest_side_2 (evf tb n)) (ρ := [some (.va (.list (rTs rs))), some (.va (.int k)), some (.va (eT (rowG rs k).1)), none, none, none, none, none, none]) rs (by omega) fun r _ => by simp [lcOne]
  have lc2 := lcI (own := [5, 8]) (g := gN 8) (te := e_rest_side_1 (evf tb n)) (ρ := [some (.va (.list (rTs rs))), some (.va (.int k)), some (.va (eT (rowG rs k).1)), none, none, none, none, none, none]) (fun a => -a) (rowG rs k).1 (by omega) fun r _ => by simp [lcOne]
  have e4 := hr.ev n (eL (negL (rowG rs k).1)) (by omega) (.L _)
  unfold negL at e4
  rcases hr.ok with ⟨z, C⟩ | ⟨z, C, _⟩
  · have yl : r.2.1.length = rs.length := by have := C.len; simpa using this
    have sw : SmL (tw r k) := fun x hx => by
      unfold tw at hx
      rcases set_mem hx with hx | rfl
      · have := C.pos x hx
        exact sm_64 (by omega)
      · have := C.pos _ (ig_mem (c := k) (xs := r.2.1) (by omega))
        have := C.dp
        have := C.db
        exact sm_64 (by omega)
    have e5 := ev_lessened (n := n) (by omega) (.L (tw r k)) sw (by simp [tw, yl]; omega)
    unfold tw at e5
    simp [S_rest_side, rTs_at hk, lc, rl, lc2, e4, resD, z, iL_atN (show k < r.2.1.length by omega), ixN_nat (show k < r.2.1.length by omega), iL_set, e5, tw]
  · simp [S_rest_side, rTs_at hk, lc, rl, lc2, e4, resD, z]
end K36

set_option Elab.async false
set_option linter.all false
set_option maxRecDepth 100000
set_option maxHeartbeats 4000000
set_option autoImplicit false
set_option exponentiation.threshold 300
/-! Law k36: rest_parts, tight_rows, loose_or_tight, rest_bound, cap_bound. -/
namespace K36
open PySem PySem.Spec PyProof.Rows L2 Pv
theorem map_range_ig {L : Nat} (f : Nat → Int) {i : Nat} (hi : i < L) : ig ((List.range L).map f) i = f i := by
  rw [ig_get (by simpa using hi)]
  simp
/-- what holds of sums taken by weights -/
theorem wsum_le {rs : List Row} {L : Nat} (G : GoodRows rs L) {y h : List Int} (hy : ∀ x ∈ y, 0 ≤ x) (hl : h.length = L) (hd : ∀ r ∈ mat rs, dot r h ≤ 0) : dot ((List.range L).map fun i => dot y (colL (mat rs) i)) h ≤ 0 := by
  rw [exch G.hL hl rs y G.rl]
  refine dot_nonpos hy fun z hz => ?_
  obtain ⟨r, hr, e⟩ := List.mem_map.mp hz
  rw [← e]
  exact hd r.1 (List.mem_map.mpr ⟨r, hr, rfl⟩)
theorem tight_zero {rs : List Row} {L k : Nat} (G : GoodRows rs L) (hk : k < rs.length) {y : List Int} {d : Int} (C : CapOk (mat rs) L rs.length (negL (rowG rs k).1) y d) {h : List Int} (hl : h.length = L) (hp : ∀ x ∈ h, 0 ≤ x) (hd : ∀ r ∈ mat rs, dot r h ≤ 0) : dot (rowG rs k).1 h = 0 := by
  have rl := G.rl _ (rowG_mem hk)
  have le := hd (rowG rs k).1 (List.mem_map.mpr ⟨_, rowG_mem hk, rfl⟩)
  have w := wsum_le G (fun x hx => (C.pos x hx).1) hl hd
  have nn : 0 ≤ dot ((List.range L).map fun i => dot y (colL (mat rs) i) + d * ig (rowG rs k).1 i) h := by
    refine dot_nonneg (fun x hx => ?_) hp
    obtain ⟨i, hi, e⟩ := List.mem_map.mp hx
    have hi := List.mem_range.mp hi
    have := C.ge i hi
    have e2 : ig (negL (rowG rs k).1) i = -(ig (rowG rs k).1 i) := by
      rw [ig_get (by simp [negL, rl]; exact hi), ig_get (by rw [rl]; exact hi)]
      simp [negL]
    rw [e2, Int.mul_neg] at this
    omega
  have e : dot ((List.range L).map fun i => dot y (colL (mat rs) i) + d * ig (rowG rs k).1 i) h = dot ((List.range L).map fun i => dot y (colL (mat rs) i)) h + d * dot (rowG rs k).1 h := by
    have hL := G.hL
    rw [dot_v3 (by simp [hl]) (by simp; omega), dot_v3 (xs := (List.range L).map fun i => dot y (colL (mat rs) i)) (by simp [hl]) (by simp; omega), dot_v3 (xs := (rowG rs k).1) (by rw [rl, hl]) (by omega)]
    have c : ∀ i, ig ((List.range L).map fun i => dot y (colL (mat rs) i) + d * ig (rowG rs k).1 i) i = ig ((List.range L).map fun i => dot y (colL (mat rs) i)) i + d * ig (rowG rs k).1 i := fun i => by
      by_cases hi : i < L
      · rw [map_range_ig _ hi, map_range_ig _ hi]
      · rw [ig_out (by simpa using hi), ig_out (by simpa using hi), ig_out (xs := (rowG rs k).1) (by omega)]
        omega
    unfold v3 vdot
    simp only [c]
    grind
  rcases Int.lt_or_le (dot (rowG rs k).1 h) 0 with z | z
  · have := Int.mul_neg_of_pos_of_neg C.dp z
    omega
  · omega
/-- weights that show row k tight -/
structure TightOk (rs : List Row) (L k : Nat) (w : List Int) : Prop where
  len : w.length = rs.length
  pos : ∀ x ∈ w, 0 ≤ x ∧ x ≤ 768
  at_ : 1 ≤ ig w k
  sum : ∀ i, i < L → dot w (colL (mat rs) i) = 0
theorem zero_of_dot : ∀ {xs h : List Int}, (∀ x ∈ xs, 0 ≤ x) → (∀ y ∈ h, 1 ≤ y) → xs.length = h.length → dot xs h ≤ 0 → ∀ x ∈ xs, x = 0
  | [], _, _, _, _, _, x, hx => by cases hx
  | a :: xs, [], _, _, hl, _, x, hx => by simp at hl
  | a :: xs, b :: h, h1, h2, hl, hd, x, hx => by
    rw [dot_cons] at hd
    have a1 := h1 a List.mem_cons_self
    have b1 := h2 b List.mem_cons_self
    have m : a * 1 ≤ a * b := Int.mul_le_mul_of_nonneg_left b1 a1
    have r := dot_nonneg (fun z hz => h1 z (List.mem_cons_of_mem _ hz)) (fun z hz => Int.le_trans (by omega) (h2 z (List.mem_cons_of_mem _ hz)))
    rcases List.mem_cons.mp hx with rfl | hx
    · omega
    · exact zero_of_dot (fun z hz => h1 z (List.mem_cons_of_mem _ hz)) (fun z hz => h2 z (List.mem_cons_of_mem _ hz)) (by simpa using hl) (by omega) x hx
theorem tw_ok {rs : List Row} {L k : Nat} (G : GoodRows rs L) (hk : k < rs.length) {r : Res} (C : CapOk (mat rs) L rs.length (negL (rowG rs k).1) r.2.1 r.2.2) {B : Int} {h : List Int} (H : Growing (mat rs) L B h) : TightOk rs L k (lessen (tw r k)) := by
  have rl := G.rl _ (rowG_mem hk)
  have yl := C.len
  have p : ∀ x ∈ tw r k, 0 ≤ x ∧ x ≤ 768 := fun x hx => by
    unfold tw at hx
    rcases set_mem hx with hx | rfl
    · have := C.pos x hx
      omega
    · have := C.pos _ (ig_mem (c := k) (xs := r.2.1) (by omega))
      have := C.dp
      have := C.db
      omega
  have tl : (tw r k).length = rs.length := by simp [tw, yl]
  have sum : ∀ i, i < L → dot (tw r k) (colL (mat rs) i) = dot r.2.1 (colL (mat rs) i) + r.2.2 * ig (rowG rs k).1 i := fun i hi => by
    unfold tw
    rw [dot_set _ _ _ _ (by simp [colL, yl]) (by omega), colL_ig (by simpa using hk)]
    have : rg (mat rs) k = (rowG rs k).1 := by
      unfold rg rowG
      rw [List.getD_eq_getElem?_getD, List.getD_eq_getElem?_getD, List.getElem?_map, List.getElem?_eq_getElem hk]
      rfl
    rw [this]
    grind
  have z := zero_of_dot (xs := (List.range L).map fun i => dot (tw r k) (colL (mat rs) i)) (h := h) (fun x hx => by
    obtain ⟨i, hi, e⟩ := List.mem_map.mp hx
    have hi := List.mem_range.mp hi
    rw [← e, sum i hi]
    have := C.ge i hi
    have e2 : ig (negL (rowG rs k).1) i = -(ig (rowG rs k).1 i) := by
      rw [ig_get (by simp [negL, rl]; exact hi), ig_get (by rw [rl]; exact hi)]
      simp [negL]
    rw [e2, Int.mul_neg] at this
    omega) (fun y hy => (H.pos y hy).1) (by simp [H.len]) (wsum_le G (fun x hx => (p x hx).1) H.len H.le)
  have z0 : ∀ i, i < L → dot (tw r k) (colL (mat rs) i) = 0 := fun i hi => z _ (List.mem_map.mpr ⟨i, List.mem_range.mpr hi, rfl⟩)
  have at0 : 1 ≤ ig (tw r k) k := by
    unfold tw
    rw [ig_set _ _ _ _ (by omega), if_pos rfl]
    have := C.pos _ (ig_mem (c := k) (xs := r.2.1) (by omega))
    have := C.dp
    omega
  obtain ⟨c, hc, e⟩ := lessen_spec (tw r k)
  have pos' : ∀ x ∈ lessen (tw r k), 0 ≤ x ∧ x ≤ 768 := fun x hx => by
    have h1 := p (c * x) (by rw [e]; exact List.mem_map.mpr ⟨x, hx, rfl⟩)
    have h2 := natAbs_mul_le (b := 768) hc (by omega) h1.2
    refine ⟨?_, h2.2⟩
    rcases Int.lt_or_le x 0 with w | w
    · have := Int.mul_neg_of_pos_of_neg hc w
      omega
    · exact w
  refine ⟨by rw [lessen_len, tl], pos', ?_, fun i hi => ?_⟩
  · rw [e, ig_map_mul] at at0
    rcases Int.lt_or_le 0 (ig (lessen (tw r k)) k) with w | w
    · exact w
    · have := Int.mul_nonpos_of_nonneg_of_nonpos (Int.le_of_lt hc) w
      omega
  · have := z0 i hi
    rw [e, dot_comm, dot_map_mul, dot_comm] at this
    rcases Int.mul_eq_zero.mp this with w | w
    · omega
    · exact w
/-! ### rest_parts -/
def rpStep (r : Nat → Res) (rs : List Row) (p : List Int × List Nat) (k : Nat) : List Int × List Nat :=
  if dot (rowG rs k).1 p.1 = 0 then (if (r k).1 = true then (addL p.1 (r k).2.1, p.2) else (p.1, p.2 ++ [k])) else p
theorem ne_lt : decide ((("tight" : Str)) = "loose") = false := by decide
theorem loop_rest_parts {n : Nat} (hn : 5 ≤ n) {rs : List Row} {L : Nat} (G : GoodRows rs L) {r : Nat → Res} (hr : ∀ k, k < rs.length → GtOk (mat rs) L (negL (rowG rs k).1) (r k)) : ∀ (ks : List Nat) (h : List Int) (t : List Nat) (B : Int) (o4 o5 : Option Sl), (∀ k ∈ ks, k < rs.length) → h.length = L → (∀ x ∈ h, 0 ≤ x ∧ x ≤ B) → B + 384 * ks.length ≤ 100000 → t.length + ks.length ≤ 1000 →
    ∃ (o4' o5' : Option Sl), forL (gN 4) (b_rest_parts_2 (evf tb n)) (nL ks) [some (.va (.list (rTs rs))), some (.va (.int L)), some (.va (eT h)), some (.ow (nL t)), o4, o5, none, none, none] =
      some (.nx, [some (.va (.list (rTs rs))), some (.va (.int L)), some (.va (eT (ks.foldl (rpStep r rs) (h, t)).1)), some (.ow (nL (ks.foldl (rpStep r rs) (h, t)).2)), o4', o5', none, none, none])
  | [], h, t, B, o4, o5, _, _, _, _, _ => ⟨o4, o5, by simp⟩
  | k :: ks, h, t, B, o4, o5, hk, hl, hb, hB, ht => by
    have kk := hk k List.mem_cons_self
    have hk' := fun q (hq : q ∈ ks) => hk q (List.mem_cons_of_mem _ hq)
    have rl := G.rl _ (rowG_mem kk)
    have hL := G.hL
    have hlen : ((k :: ks).length : Int) = ks.length + 1 := by simp
    have e1 := ev_row_at (n := n) (by omega) (.T (rowG rs k).1) (.T h) (by rw [rl, hl]) (by omega) (G.sm _ (rowG_mem kk)).1 (fun x hx => sm_64 (by have := hb x hx; omega))
    have e2 := ev_rest_side (n := n) hn G kk (hr k kk)
    have tl : t.length < 100000 := by simp at ht; omega
    rw [nL_cons, forL_cons, List.foldl_cons]
    by_cases hz : dot (rowG rs k).1 h = 0
    · rcases (hr k kk).ok with ⟨z, C⟩ | ⟨z, C, _⟩
      · have st : rpStep r rs (h, t) k = (h, t ++ [k]) := by
          unfold rpStep
          rw [if_pos hz, if_neg (by rw [z]; decide)]
        rw [st]
        obtain ⟨o4', o5', e⟩ := loop_rest_parts hn G hr ks h (t ++ [k]) B (some (.va (.int (k : Nat)))) (some (.va (.tuple [.str "tight", eT (lessen (tw (r k) k))]))) hk' hl hb (by omega) (by simp at ht ⊢; omega)
        refine ⟨o4', o5', ?_⟩
        rw [z] at e2
        have na : nL t ++ [PyData.int (k : Nat)] = nL (t ++ [k]) := by simp [nL, iL]
        simp [rTs_at kk, e1, hz, e2, ne_lt, tl, na]
        exact e
      · have st : rpStep r rs (h, t) k = (addL h (r k).2.1, t) := by
          unfold rpStep
          rw [if_pos hz, if_pos z]
        rw [st]
        have dl := C.len
        obtain ⟨o4', o5', e⟩ := loop_rest_parts hn G hr ks (addL h (r k).2.1) t (B + 384) (some (.va (.int (k : Nat)))) (some (.va (.tuple [.str "loose", eT (r k).2.1]))) hk' (addL_len hl dl) (all_ig (addL_len hl dl) fun i hi => by
          rw [addL_ig hl dl hi]
          have h1 := hb _ (ig_mem (c := i) (xs := h) (by omega))
          have h2 := C.pos _ (ig_mem (c := i) (xs := (r k).2.1) (by omega))
          omega) (by omega) (by simp at ht ⊢; omega)
        refine ⟨o4', o5', ?_⟩
        rw [z] at e2
        have lc := lcP (own := [6, 7, 8]) (g := gT (gsCons (gN 7) (gsCons (gN 8) gsNil))) (te := e_rest_parts_1 (evf tb n)) (ρ := [some (.va (.list (rTs rs))), some (.va (.int L)), some (.va (eT h)), some (.ow (nL t)), some (.va (.int (k : Nat))), some (.va (.tuple [.str "loose", eT (r k).2.1])), none, none, none]) (fun x => x.1 + x.2) (h.zip (r k).2.1) (by rw [List.length_zip]; omega) fun a b _ => by simp [lcOne]
        simp [rTs_at kk, e1, hz, e2, zipD_ints, lc]
        exact e
    · have st : rpStep r rs (h, t) k = (h, t) := by
        unfold rpStep
        rw [if_neg hz]
      rw [st]
      obtain ⟨o4', o5', e⟩ := loop_rest_parts hn G hr ks h t B (some (.va (.int (k : Nat)))) o5 hk' hl hb (by omega) (by simp at ht ⊢; omega)
      refine ⟨o4', o5', ?_⟩
      simp [rTs_at kk, e1, hz]
      exact e
end K36

set_option Elab.async false
set_option linter.all false
set_option maxRecDepth 100000
set_option maxHeartbeats 4000000
set_option autoImplicit false
set_option exponentiation.threshold 300
/-! Law k36: rest_parts, tight_rows, loose_or_tight, rest_bound, cap_bound. -/
namespace K36
open PySem PySem.Spec PyProof.Rows L2 Pv
theorem dot_neg : ∀ (g h : List Int), dot (negL g) h = - dot g h
  | [], h => by rw [show negL [] = [] from rfl, dot_nil]; rfl
  | a :: g, [] => by rw [dot_nil', dot_nil']; rfl
  | a :: g, x :: h => by
    show dot (-a :: negL g) (x :: h) = _
    rw [dot_cons, dot_cons, dot_neg g h]
    grind
def tightK (r : Nat → Res) (ks : List Nat) : List Nat := ks.filter fun k => !(r k).1
theorem Growing.more {M : Mat} {L : Nat} {B C : Int} {s : List Int} (H : Growing M L B s) (h : B ≤ C) : Growing M L C s := ⟨H.len, fun x hx => by have := H.pos x hx; omega, H.le⟩
theorem Growing.add {M : Mat} {L : Nat} {B : Int} {g s d : List Int} (H : Growing M L B s) (D : DirOk M L g d) : Growing M L (B + 384) (addL s d) where
  len := addL_len H.len D.len
  pos := all_ig (addL_len H.len D.len) fun i hi => by
    rw [addL_ig H.len D.len hi]
    have h1 := H.pos _ (ig_mem (c := i) (xs := s) (by rw [H.len]; exact hi))
    have h2 := D.pos _ (ig_mem (c := i) (xs := d) (by rw [D.len]; exact hi))
    omega
  le := fun r hr => by
    rw [dot_add r s d (by rw [H.len, D.len])]
    have h1 := H.le r hr
    have h2 := D.le r hr
    omega
theorem rp_ok {rs : List Row} {L : Nat} (G : GoodRows rs L) {r : Nat → Res} (hr : ∀ k, k < rs.length → GtOk (mat rs) L (negL (rowG rs k).1) (r k)) : ∀ (ks : List Nat) (h : List Int) (t : List Nat) (B : Int), (∀ k ∈ ks, k < rs.length) → Growing (mat rs) L B h →
    Growing (mat rs) L (B + 384 * ks.length) (ks.foldl (rpStep r rs) (h, t)).1 ∧ (ks.foldl (rpStep r rs) (h, t)).2 = t ++ tightK r ks ∧ (∀ q ∈ mat rs, dot q h < 0 → dot q (ks.foldl (rpStep r rs) (h, t)).1 < 0) ∧ ∀ k ∈ ks, (r k).1 = true → dot (rowG rs k).1 (ks.foldl (rpStep r rs) (h, t)).1 < 0
  | [], h, t, B, _, H => ⟨by simpa using H, by simp [tightK], fun q _ z => z, fun k hk => by cases hk⟩
  | k :: ks, h, t, B, hk, H => by
    have kk := hk k List.mem_cons_self
    have hk' := fun q (hq : q ∈ ks) => hk q (List.mem_cons_of_mem _ hq)
    have km : (rowG rs k).1 ∈ mat rs := List.mem_map.mpr ⟨_, rowG_mem kk, rfl⟩
    have bl : B + 384 * ((k :: ks).length : Int) = (B + 384) + 384 * (ks.length : Int) := by
      rw [List.length_cons]
      push_cast
      omega
    rw [List.foldl_cons, bl]
    rcases (hr k kk).ok with ⟨z, C⟩ | ⟨z, D, _⟩
    · have hz := tight_zero G kk (by simpa using C) H.len (fun x hx => by have := H.pos x hx; omega) H.le
      have st : rpStep r rs (h, t) k = (h, t ++ [k]) := by
        unfold rpStep
        rw [if_pos hz, if_neg (by rw [z]; decide)]
      rw [st]
      obtain ⟨k1, k2, k3, k4⟩ := rp_ok G hr ks h (t ++ [k]) (B + 384) hk' (H.more (by omega))
      refine ⟨k1, ?_, k3, fun q hq w => ?_⟩
      · rw [k2]
        simp [tightK, z]
      · rcases List.mem_cons.mp hq with rfl | hq
        · rw [z] at w
          cases w
        · exact k4 q hq w
    · by_cases hz : dot (rowG rs k).1 h = 0
      · have st : rpStep r rs (h, t) k = (addL h (r k).2.1, t) := by
          unfold rpStep
          rw [if_pos hz, if_pos z]
        rw [st]
        obtain ⟨k1, k2, k3, k4⟩ := rp_ok G hr ks (addL h (r k).2.1) t (B + 384) hk' (H.add D)
        have now : dot (rowG rs k).1 (addL h (r k).2.1) < 0 := by
          rw [dot_add _ _ _ (by rw [H.len, D.len]), hz]
          have := D.gt
          rw [dot_neg] at this
          omega
        refine ⟨k1, ?_, fun q hq w => k3 q hq ?_, fun q hq w => ?_⟩
        · rw [k2]
          simp [tightK, z]
        · rw [dot_add _ _ _ (by rw [H.len, D.len])]
          have := D.le q hq
          omega
        · rcases List.mem_cons.mp hq with rfl | hq
          · exact k3 _ km now
          · exact k4 q hq w
      · have st : rpStep r rs (h, t) k = (h, t) := by
          unfold rpStep
          rw [if_neg hz]
        rw [st]
        obtain ⟨k1, k2, k3, k4⟩ := rp_ok G hr ks h t (B + 384) hk' (H.more (by omega))
        have now : dot (rowG rs k).1 h < 0 := by
          have := H.le _ km
          omega
        refine ⟨k1, ?_, k3, fun q hq w => ?_⟩
        · rw [k2]
          simp [tightK, z]
        · rcases List.mem_cons.mp hq with rfl | hq
          · exact k3 _ km now
          · exact k4 q hq w
/-- the results for a state of rows: each place grows; each row's side -/
structure Sides (rs : List Row) (L : Nat) (g r : Nat → Res) : Prop where
  G : GoodRows rs L
  gr : ∀ p, p < L → GtOk (mat rs) L (unit L p) (g p) ∧ (g p).1 = true
  rs_ : ∀ k, k < rs.length → GtOk (mat rs) L (negL (rowG rs k).1) (r k)
theorem rp_ex {rs : List Row} {L : Nat} {g r : Nat → Res} (S : Sides rs L g r) : ∃ h, Growing (mat rs) L 5000 h ∧ (∀ k, k < rs.length → (r k).1 = true → dot (rowG rs k).1 h < 0) ∧
    ∀ n, 7 ≤ n → evf tb n "rest_parts" none [.list (rTs rs), .int L] = some (.va (.tuple [eT h, .list (nL (tightK r (List.range rs.length)))]), none) := by
  have hm := S.G.hm
  have hL := S.G.hL
  obtain ⟨h0, H0, ev0⟩ := ag_ex S.G S.gr
  obtain ⟨k1, k2, -, k4⟩ := rp_ok S.G S.rs_ (List.range rs.length) h0 [] 1152 (fun k hk => List.mem_range.mp hk) H0
  rw [List.length_range] at k1
  have H1 := k1.more (C := 5000) (by omega)
  refine ⟨_, H1.lessen (by omega), fun k hk z => lessen_lt _ (k4 k (List.mem_range.mpr hk) z), fun n hn => ?_⟩
  obtain ⟨n, rfl⟩ : ∃ m, n = m + 1 := ⟨n - 1, by omega⟩
  rw [fi_rest_parts, run_rest_parts]
  have e0 := ev0 n (rTs rs) (by omega) (.T rs)
  obtain ⟨o4, o5, e⟩ := loop_rest_parts (n := n) (by omega) S.G S.rs_ (List.range rs.length) h0 [] 1152 none none (fun k hk => List.mem_range.mp hk) H0.len (fun x hx => by have := H0.pos x hx; omega) (by rw [List.length_range]; omega) (by simp; omega)
  have e5 := ev_lessened (n := n) (by omega) (.T ((List.range rs.length).foldl (rpStep r rs) (h0, [])).1) (fun x hx => sm_64 (by have := H1.pos x hx; omega)) (by rw [H1.len]; omega)
  rw [k2, List.nil_append] at e
  have m62 : rs.length < 2 ^ 62 := by omega
  have nl0 : nL [] = [] := rfl
  rw [nl0] at e
  simp [S_rest_parts, e0, m62, rgD0, e, e5]
theorem ev_tight_rows {rs : List Row} {L : Nat} {g r : Nat → Res} (S : Sides rs L g r) {n : Nat} (hn : 8 ≤ n) {ds : List D} (hd : RowsD ds rs) : evf tb n "tight_rows" none [.list ds, .int L] = some (.va (.tuple (nL (tightK r (List.range rs.length)))), none) := by
  obtain ⟨h, -, -, ev⟩ := rp_ex S
  obtain ⟨n, rfl⟩ : ∃ m, n = m + 1 := ⟨n - 1, by omega⟩
  rw [fi_tight_rows, run_tight_rows]
  have hm := S.G.hm
  have e1 := ev_sum_rows (n := n) (by omega) L hd S.G.rl (by omega)
  have e2 := ev n (by omega)
  simp [S_tight_rows, e1, e2]
theorem ev_loose_or_tight {rs : List Row} {L k : Nat} {g r : Nat → Res} (S : Sides rs L g r) (hk : k < rs.length) {n : Nat} (hn : 7 ≤ n) {ds : List D} (hd : RowsD ds rs) :
    evf tb n "loose_or_tight" none [.list ds, .int L, .int k] = some (.va (if (r k).1 = true then .tuple [.str "loose", eT (r k).2.1] else .tuple [.str "tight", eT (lessen (tw (r k) k))]), none) := by
  obtain ⟨h0, H0, ev0⟩ := ag_ex S.G S.gr
  obtain ⟨n, rfl⟩ : ∃ m, n = m + 1 := ⟨n - 1, by omega⟩
  rw [fi_loose_or_tight, run_loose_or_tight]
  have hm := S.G.hm
  have e1 := ev_sum_rows (n := n) (by omega) L hd S.G.rl (by omega)
  have e0 := ev0 n (rTs rs) (by omega) (.T rs)
  have e2 := ev_sum_place (n := n) (by omega) hk
  have e3 := ev_rest_side (n := n) (by omega) S.G hk (S.rs_ k hk)
  simp [S_loose_or_tight, e1, e0, e2, e3]
/-! ### bounds -/
theorem foldl_min_nn : ∀ (xs : List Int) (x : Int), 0 ≤ x → (∀ y ∈ xs, 0 ≤ y) → 0 ≤ xs.foldl min x
  | [], x, h, _ => h
  | y :: xs, x, h, hy => by
    rw [List.foldl_cons]
    refine foldl_min_nn xs _ ?_ fun z hz => hy z (List.mem_cons_of_mem _ hz)
    have := hy y List.mem_cons_self
    omega
theorem min_nn {xs : List Int} (h0 : xs ≠ []) (h : ∀ x ∈ xs, 0 ≤ x) : ∃ z, fMin1 [.list (iL xs)] = some (.va (.int z)) ∧ fMin1 [.tuple (iL xs)] = some (.va (.int z)) ∧ ¬ z < 0 := by
  cases xs with
  | nil => exact absurd rfl h0
  | cons x xs =>
    refine ⟨xs.foldl min x, iL_min x xs, iL_minT x xs, ?_⟩
    have := foldl_min_nn xs x (h x List.mem_cons_self) fun y hy => h y (List.mem_cons_of_mem _ hy)
    omega
def bL (xs : List Bool) : List D := xs.map .bool
theorem lcB {own : List Nat} {g : SemG} {te : SemE} {ρ : Sr} (f : Int → Bool) (xs : List Int) (hl : xs.length ≤ 100000)
    (h : ∀ x ∈ xs, lcOne own g te (.int x) ρ = some (.bool (f x), ρ)) : lcL own g sYes te (iL xs) ρ [] = some (bL (xs.map f), ρ) := by
  have := lc_one PyData.int (fun x => .bool (f x)) xs [] (by simpa using hl) h
  rw [iL, this, bL, List.map_map]
  rfl
theorem fAll_b (bs : List Bool) : fAll [.list (bL bs)] = some (.va (.bool (bs.all id))) := by
  show Option.map _ (boolsOf (bs.map .bool)) = _
  rw [boolsOf_map]
  rfl
theorem sm_dot {w c : List Int} {p q : Int} (hq : 0 ≤ q) (h1 : ∀ x ∈ w, -p ≤ x ∧ x ≤ p) (h2 : ∀ x ∈ c, -q ≤ x ∧ x ≤ q) : -(p * q * w.length) ≤ dot w c ∧ dot w c ≤ p * q * w.length := by
  induction w generalizing c with
  | nil => rw [dot_nil]; simp
  | cons x w ih =>
    cases c with
    | nil =>
      rw [dot_nil']
      have hp := h1 x List.mem_cons_self
      have := Int.mul_nonneg (Int.mul_nonneg (show 0 ≤ p by omega) hq) (show (0 : Int) ≤ ((x :: w).length : Int) by omega)
      omega
    | cons y c =>
      have a := h1 x List.mem_cons_self
      have b := h2 y List.mem_cons_self
      have m := mul_bd a.1 a.2 b.1 b.2
      have r := ih (c := c) (fun z hz => h1 z (List.mem_cons_of_mem _ hz)) (fun z hz => h2 z (List.mem_cons_of_mem _ hz))
      rw [dot_cons, List.length_cons]
      push_cast
      rw [Int.mul_add, Int.mul_one]
      omega
theorem ev_rest_bound {rs : List Row} {L k : Nat} (G : GoodRows rs L) (hk : k < rs.length) {w : List Int} (T : TightOk rs L k w) {n : Nat} (hn : 4 ≤ n) {ds : List D} (hd : RowsD ds rs) :
    evf tb n "rest_bound" none [.list ds, eT w, .int k] = some (.va (.int ((dot w (rs.map (·.2))).fdiv (ig w k))), none) := by
  obtain ⟨n, rfl⟩ : ∃ m, n = m + 1 := ⟨n - 1, by omega⟩
  rw [fi_rest_bound, run_rest_bound]
  have hm := G.hm
  have hL := G.hL
  obtain ⟨m1, m2, m3⟩ := mix_ok (L := L) T.len G.rl
  have e1 := ev_mixed (n := n) (by omega) hd L G.rl (fun z => by rw [z] at hk; simp at hk) (.T w) T.len (by omega) (by omega) G.sm (fun x hx => sm_64 (by have := T.pos x hx; omega))
  have kw : k < w.length := by rw [T.len]; exact hk
  have e2 := ev_sum_place (n := n) (by omega) kw
  obtain ⟨z, -, f2, f3⟩ := min_nn (xs := w) (by intro z; rw [z] at kw; simp at kw) fun x hx => (T.pos x hx).1
  have at1 := T.at_
  have a768 := T.pos _ (ig_mem kw)
  have nlt : ¬ ig w k < 1 := by omega
  have z0 : ∀ x ∈ (mix L rs w).1, x = 0 := all_ig m1 fun i hi => by rw [m2 i hi, T.sum i hi]
  have lc := lcB (own := [5, 6]) (g := gN 6) (te := e_rest_bound_1 (evf tb n)) (ρ := [some (.va (.list ds)), some (.va (eT w)), some (.va (.int k)), some (.va (eT (mix L rs w).1)), some (.va (.int (mix L rs w).2)), none, none]) (fun x => decide (x = 0)) (mix L rs w).1 (by omega) fun x _ => by simp [lcOne]
  have al : ((mix L rs w).1.map fun x => decide (x = 0)).all id = true := by
    rw [List.all_eq_true]
    intro b hb
    obtain ⟨x, hx, e⟩ := List.mem_map.mp hb
    rw [← e]
    simpa using z0 x hx
  have f4 := fAll_b ((mix L rs w).1.map fun x => decide (x = 0))
  rw [al] at f4
  rw [m3] at e1 lc
  simp [S_rest_bound, e1, e2, f2, f3, iL_atN kw, nlt, lc, f4, fDiv_sm (show sm (ig w k) from sm_64 (by omega)) (show ig w k ≠ 0 by omega)]
/-- weights that cap place p -/
structure CapW (rs : List Row) (L p : Nat) (w : List Int) : Prop where
  len : w.length = rs.length
  pos : ∀ x ∈ w, 0 ≤ x ∧ x ≤ 384
  sum : ∀ i, i < L → 0 ≤ dot w (colL (mat rs) i)
  at_ : 1 ≤ dot w (colL (mat rs) p)
theorem capW_of {rs : List Row} {L p : Nat} (G : GoodRows rs L) (hp : p < L) {y : List Int} {d : Int} (C : CapOk (mat rs) L rs.length (unit L p) y d) : CapW rs L p (lessen y) ∧ rs ≠ [] := by
  have g0 : ∀ i, i < L → 0 ≤ dot y (colL (mat rs) i) := fun i hi => by
    have := C.ge i hi
    rw [unit_ig hi] at this
    have := C.dp
    split at * <;> omega
  have g1 : 1 ≤ dot y (colL (mat rs) p) := by
    have := C.ge p hp
    rw [unit_ig hp, if_pos rfl] at this
    have := C.dp
    omega
  obtain ⟨c, hc, e⟩ := lessen_spec y
  have pos' : ∀ x ∈ lessen y, 0 ≤ x ∧ x ≤ 384 := fun x hx => by
    have h1 := C.pos (c * x) (by rw [e]; exact List.mem_map.mpr ⟨x, hx, rfl⟩)
    have h2 := natAbs_mul_le (b := 384) hc (by omega) h1.2
    refine ⟨?_, h2.2⟩
    rcases Int.lt_or_le x 0 with w | w
    · have := Int.mul_neg_of_pos_of_neg hc w
      omega
    · exact w
  have ed : ∀ i, dot y (colL (mat rs) i) = c * dot (lessen y) (colL (mat rs) i) := fun i => by
    have : dot y (colL (mat rs) i) = dot ((lessen y).map (c * ·)) (colL (mat rs) i) := by rw [← e]
    rw [this, dot_comm, dot_map_mul, dot_comm]
  refine ⟨⟨by rw [lessen_len, C.len], pos', fun i hi => ?_, ?_⟩, fun z => ?_⟩
  · have := g0 i hi
    rw [ed] at this
    rcases Int.lt_or_le (dot (lessen y) (colL (mat rs) i)) 0 with w | w
    · have := Int.mul_neg_of_pos_of_neg hc w
      omega
    · exact w
  · rw [ed] at g1
    rcases Int.lt_or_le 0 (dot (lessen y) (colL (mat rs) p)) with w | w
    · exact w
    · have := Int.mul_nonpos_of_nonneg_of_nonpos (Int.le_of_lt hc) w
      omega
  · rw [z] at g1
    simp only [mat, List.map_nil, colL, dot_nil'] at g1
    omega
theorem col_bd {rs : List Row} {L : Nat} (G : GoodRows rs L) (i : Nat) : ∀ x ∈ colL (mat rs) i, -4 ≤ x ∧ x ≤ 4 := fun x hx => by
  obtain ⟨r, hr, e⟩ := List.mem_map.mp hx
  obtain ⟨q, hq, e2⟩ := List.mem_map.mp hr
  rw [← e]
  exact ig_bd (by omega) (by rw [← e2]; exact G.rb q hq) i
theorem ev_cap_bound {rs : List Row} {L p : Nat} (G : GoodRows rs L) (h0 : rs ≠ []) (hp : p < L) {w : List Int} (T : CapW rs L p w) {n : Nat} (hn : 4 ≤ n) {ds : List D} (hd : RowsD ds rs) :
    evf tb n "cap_bound" none [.list ds, eT w, .int p] = some (.va (.int ((dot w (rs.map (·.2))).fdiv (dot w (colL (mat rs) p)))), none) := by
  obtain ⟨n, rfl⟩ : ∃ m, n = m + 1 := ⟨n - 1, by omega⟩
  rw [fi_cap_bound, run_cap_bound]
  have hm := G.hm
  have hL := G.hL
  obtain ⟨m1, m2, m3⟩ := mix_ok (L := L) T.len G.rl
  have e1 := ev_mixed (n := n) (by omega) hd L G.rl (fun z => absurd z h0) (.T w) T.len (by omega) (by omega) G.sm (fun x hx => sm_64 (by have := T.pos x hx; omega))
  have pl : p < (mix L rs w).1.length := by rw [m1]; exact hp
  have e2 := ev_sum_place (n := n) (by omega) pl
  have nn : ∀ x ∈ w ++ (mix L rs w).1, 0 ≤ x := fun x hx => by
    rcases List.mem_append.mp hx with hx | hx
    · exact (T.pos x hx).1
    · exact all_ig (P := fun x => 0 ≤ x) m1 (fun i hi => by rw [m2 i hi]; exact T.sum i hi) x hx
  obtain ⟨z, f1, -, f3⟩ := min_nn (xs := w ++ (mix L rs w).1) (by intro z; have := congrArg List.length z; rw [List.length_append, List.length_nil] at this; omega) nn
  have wl := T.len
  have f0 : fAdd (.list (iL w)) (.list (iL (mix L rs w).1)) = some (.nw (iL (w ++ (mix L rs w).1))) := by
    rw [iL_app]
    show (if (iL w).length + (iL (mix L rs w).1).length ≤ 100000 then some (Rs.nw _) else none) = _
    rw [if_pos (by simp; omega)]
  have ip : ig (mix L rs w).1 p = dot w (colL (mat rs) p) := m2 p hp
  have at1 := T.at_
  have nlt : ¬ dot w (colL (mat rs) p) < 1 := by omega
  have bd := (sm_dot (p := 384) (q := 4) (by omega) (fun x hx => by have := T.pos x hx; omega) (col_bd G p)).2
  rw [wl] at bd
  have bd2 : dot w (colL (mat rs) p) ≤ 384 * 4 * 4 := by omega
  rw [m3] at e1
  simp [S_cap_bound, e1, e2, f0, f1, f3, iL_atN pl, ip, nlt, fDiv_sm (show sm (dot w (colL (mat rs) p)) from sm_64 (by omega)) (show dot w (colL (mat rs) p) ≠ 0 by omega)]
end K36

set_option Elab.async false
set_option linter.all false
set_option maxRecDepth 100000
set_option maxHeartbeats 4000000
set_option autoImplicit false
set_option exponentiation.threshold 300
/-! Law k36: whole_clear. -/
namespace K36
open PySem PySem.Spec PyProof.Rows L2 Pv
def subL (a : List Int) (q : Int) (b : List Int) : List Int := (a.zip b).map fun x => x.1 - q * x.2
def liveC (C : Mat) (free : List Nat) (k : Nat) : List Nat := free.filter fun j => decide (g2 C j k ≠ 0)
def absL (C : Mat) (k : Nat) : List Nat := C.map fun c => (ig c k).natAbs
def passStep (C : Mat) (k l j : Nat) : Mat := if j = l then C else C.set j (subL (rg C j) ((g2 C j k).fdiv (g2 C l k)) (rg C l))
def pass (C : Mat) (k l : Nat) (live : List Nat) : Mat := live.foldl (fun C j => passStep C k l j) C
def leastC (C : Mat) (free : List Nat) (k : Nat) : Nat := pick (absL C k) (liveC C free k)
theorem abs_ng {C : Mat} {k j : Nat} (h : j < C.length) : ng (absL C k) j = (g2 C j k).natAbs := by
  rw [ng_get (by simpa [absL] using h)]
  simp only [absL, List.getElem_map]
  unfold g2
  rw [rg_get h]
theorem mL_set (C : Mat) (j : Nat) (c : List Int) : (mL C).set j (eL c) = mL (C.set j c) := by
  unfold mL
  rw [List.map_set]
theorem abs_int (i : Int) : (if i < 0 then -i else i) = ((i.natAbs : Nat) : Int) := by split <;> omega
/-- columns of one length, all small -/
structure ColOk (C : Mat) (W L : Nat) : Prop where
  len : C.length = L
  col : ∀ c ∈ C, c.length = W ∧ SmL c
theorem ColOk.at_ {C : Mat} {W L j : Nat} (h : ColOk C W L) (hj : j < L) : (rg C j).length = W ∧ SmL (rg C j) := h.col _ (rg_mem (by rw [h.len]; exact hj))
theorem ColOk.g2 {C : Mat} {W L j k : Nat} (h : ColOk C W L) (hj : j < L) (hk : k < W) : sm (g2 C j k) := (h.at_ hj).2 _ (ig_mem (by rw [(h.at_ hj).1]; exact hk))
/-- a pass goes through: each state on the way is small -/
inductive PassOk (W L k l : Nat) : Mat → List Nat → Prop
  | nil {C : Mat} : ColOk C W L → PassOk W L k l C []
  | cons {C : Mat} {j : Nat} {js : List Nat} : ColOk C W L → j < L → g2 C l k ≠ 0 → sm ((g2 C j k).fdiv (g2 C l k)) → PassOk W L k l (passStep C k l j) js → PassOk W L k l C (j :: js)
theorem loop_pass (o : Str → Orc) {W L k l : Nat} (hl : l < L) (hk : k < W) (hW : W ≤ 100) (a1 a4 a5 : Option Sl) : ∀ {js : List Nat} {C : Mat}, PassOk W L k l C js → ∀ (o3 o7 o8 o9 o10 : Option Sl), ∃ (o3' o7' o8' o9' o10' : Option Sl),
    forL (gN 3) (b_whole_clear_3 o) (nL js) [some (.ow (mL C)), a1, some (.va (.int k)), o3, a4, a5, some (.va (.int l)), o7, o8, o9, o10] =
      some (.nx, [some (.ow (mL (pass C k l js))), a1, some (.va (.int k)), o3', a4, a5, some (.va (.int l)), o7', o8', o9', o10']) := by
  intro js C h
  induction h with
  | nil _ => intro o3 o7 o8 o9 o10; exact ⟨o3, o7, o8, o9, o10, by simp [pass]⟩
  | @cons C j js ok hj hz hq _ ih =>
    intro o3 o7 o8 o9 o10
    have cj := ok.at_ hj
    have cl := ok.at_ hl
    have jC : j < C.length := by rw [ok.len]; exact hj
    have lC : l < C.length := by rw [ok.len]; exact hl
    rw [nL_cons, forL_cons]
    by_cases e : j = l
    · obtain ⟨o3', o7', o8', o9', o10', ev⟩ := ih (some (.va (.int (j : Nat)))) o7 o8 o9 o10
      refine ⟨o3', o7', o8', o9', o10', ?_⟩
      have st : passStep C k l j = C := if_pos e
      rw [st] at ev
      have pe : pass C k l (j :: js) = pass C k l js := by
        show pass (passStep C k l j) k l js = _
        rw [st]
      rw [pe]
      subst e
      simp
      exact ev
    · obtain ⟨o3', o7', o8', o9', o10', ev⟩ := ih (some (.va (.int (j : Nat)))) (some (.va (.int ((g2 C j k).fdiv (g2 C l k))))) o8 o9 o10
      refine ⟨o3', o7', o8', o9', o10', ?_⟩
      have st : passStep C k l j = C.set j (subL (rg C j) ((g2 C j k).fdiv (g2 C l k)) (rg C l)) := if_neg e
      have pe : pass C k l (j :: js) = pass (passStep C k l j) k l js := rfl
      rw [pe]
      rw [st] at ev ⊢
      have ne : ¬ ((j : Int) = (l : Int)) := by omega
      have lc := lcP (own := [8, 9, 10]) (g := gT (gsCons (gN 9) (gsCons (gN 10) gsNil))) (te := e_whole_clear_2 o) (ρ := [some (.ow (mL C)), a1, some (.va (.int k)), some (.va (.int (j : Nat))), a4, a5, some (.va (.int l)), some (.va (.int ((g2 C j k).fdiv (g2 C l k)))), none, none, none]) (fun x => x.1 - ((g2 C j k).fdiv (g2 C l k)) * x.2) ((rg C j).zip (rg C l)) (by rw [List.length_zip]; omega) fun a b hx => by
        have := List.of_mem_zip hx
        simp [lcOne, fMul_sm hq (cl.2 b this.2)]
      have d1 : fDiv (.int (ig (rg C j) k)) (.int (ig (rg C l) k)) = some (.va (.int ((g2 C j k).fdiv (g2 C l k)))) := fDiv_sm (ok.g2 hl hk) hz
      simp [ne, mL_atN jC, mL_atN lC, iL_atN (show k < (rg C j).length by omega), iL_atN (show k < (rg C l).length by omega), d1, zipD_ints, lc, ixN_nat jC, mL_set]
      exact ev
inductive CRun (W L k : Nat) (free : List Nat) : Nat → Mat → Mat → Prop
  | stop {n : Nat} {C : Mat} : ColOk C W L → (liveC C free k).length < 2 → CRun W L k free (n + 1) C C
  | step {n : Nat} {C C' : Mat} : ColOk C W L → 2 ≤ (liveC C free k).length → PassOk W L k (leastC C free k) C (liveC C free k) → CRun W L k free n (pass C k (leastC C free k) (liveC C free k)) C' → CRun W L k free (n + 1) C C'
theorem nL_map (xs : List Nat) : (xs.map fun x => PyData.int (x : Nat)) = nL xs := by
  unfold nL iL
  rw [List.map_map]
  rfl
section
variable {W L k : Nat} {free : List Nat} {C : Mat}
theorem live_eq (o : Str → Orc) (hk : k < W) (ok : ColOk C W L) (hf : ∀ j ∈ free, j < L) (hl : free.length ≤ 100) (a1 o4 o5 o6 o7 o9 o10 : Option Sl) : lcL [8, 3] (gN 3) (t_whole_clear_5 o) (e_whole_clear_6 o) (nL free) [some (.ow (mL C)), a1, some (.va (.int k)), none, o4, o5, o6, o7, none, o9, o10] [] =
    some (nL (liveC C free k), [some (.ow (mL C)), a1, some (.va (.int k)), none, o4, o5, o6, o7, none, o9, o10]) := by
  rw [← nL_map (liveC C free k)]
  refine lcN_F (fun j => PyData.int (j : Nat)) (fun j => decide (g2 C j k ≠ 0)) free (by omega) fun x hx => ?_
  have hx := hf x hx
  have xC : x < C.length := by rw [ok.len]; exact hx
  have cx := ok.at_ hx
  by_cases hz : g2 C x k = 0
  · simp [lcTwo, mL_atN xC, iL_atN (show k < (rg C x).length by omega), show ig (rg C x) k = 0 from hz, hz]
  · simp [lcTwo, mL_atN xC, iL_atN (show k < (rg C x).length by omega), show ¬ ig (rg C x) k = 0 from hz, hz]
theorem sizes_eq (o : Str → Orc) (hk : k < W) (ok : ColOk C W L) {live : List Nat} (hf : ∀ j ∈ live, j < L) (hl : live.length ≤ 100) (a1 o4 o5 o6 o7 o9 o10 : Option Sl) : lcL [8, 3] (gN 3) sYes (e_whole_clear_4 o) (nL live) [some (.ow (mL C)), a1, some (.va (.int k)), none, o4, o5, o6, o7, none, o9, o10] [] =
    some (pL (live.map (prA (absL C k))), [some (.ow (mL C)), a1, some (.va (.int k)), none, o4, o5, o6, o7, none, o9, o10]) := by
  rw [← pL_map]
  refine lcN_D (fun j => PyData.tuple [.int (ng (absL C k) j : Nat), .int (j : Nat)]) live (by omega) fun x hx => ?_
  have hx := hf x hx
  have xC : x < C.length := by rw [ok.len]; exact hx
  have cx := ok.at_ hx
  have e := abs_int (ig (rg C x) k)
  simp [lcOne, mL_atN xC, iL_atN (show k < (rg C x).length by omega), e, abs_ng xC, K36.g2]
theorem wc_loop (o : Str → Orc) (hk : k < W) (hW : W ≤ 100) (hL : L ≤ 100) (hf : ∀ j ∈ free, j < L) (hfl : free.length ≤ 100) : ∀ {n : Nat} {C C' : Mat}, CRun W L k free n C C' → ∀ (N : Nat) (o3 o4 o5 o6 o7 o8 o9 o10 : Option Sl), n ≤ N →
    ∃ ρ', whileL (t_whole_clear_1 o) (b_whole_clear_7 o) N [some (.ow (mL C)), some (.va (.list (nL free))), some (.va (.int k)), o3, o4, o5, o6, o7, o8, o9, o10] = some (.rt (.va (.list (nL (liveC C' free k)))), some (.ow (mL C')) :: ρ') := by
  intro n C C' h
  induction h with
  | @stop n C ok hlt =>
    intro N o3 o4 o5 o6 o7 o8 o9 o10 hN
    obtain ⟨N, rfl⟩ : ∃ M, N = M + 1 := ⟨N - 1, by omega⟩
    have l1 := live_eq o hk ok hf hfl (some (.va (.list (nL free)))) o4 o5 o6 o7 o9 o10
    rw [whileL_succ]
    have hlt' : ((liveC C free k).length : Int) < 2 := by omega
    simp [l1, hlt']
  | @step n C C' ok hge hp _ ih =>
    intro N o3 o4 o5 o6 o7 o8 o9 o10 hN
    obtain ⟨N, rfl⟩ : ∃ M, N = M + 1 := ⟨N - 1, by omega⟩
    have lv : ∀ j ∈ liveC C free k, j < L := fun j hj => hf j (List.mem_filter.mp hj).1
    have ll : (liveC C free k).length ≤ 100 := Nat.le_trans (List.length_filter_le _ _) hfl
    have ne : liveC C free k ≠ [] := by
      intro z
      rw [z] at hge
      simp at hge
    have lst : leastC C free k < L := lv _ (pick_mem ne)
    have l1 := live_eq o hk ok hf hfl (some (.va (.list (nL free)))) o4 o5 o6 o7 o9 o10
    have l2 := sizes_eq o hk ok lv ll (some (.va (.list (nL free)))) (some (.va (.list (nL (liveC C free k))))) o5 o6 o7 o9 o10
    obtain ⟨z, l3⟩ := min_pick (absL C k) (liveC C free k) ne
    obtain ⟨p3, p7, p8, p9, p10, l4⟩ := loop_pass o lst hk hW (some (.va (.list (nL free)))) (some (.va (.list (nL (liveC C free k))))) (some (.va (.list (pL ((liveC C free k).map (prA (absL C k))))))) hp o3 o7 o8 o9 o10
    obtain ⟨ρ', e⟩ := ih N p3 (some (.va (.list (nL (liveC C free k))))) (some (.va (.list (pL ((liveC C free k).map (prA (absL C k))))))) (some (.va (.int (leastC C free k)))) p7 p8 p9 p10 (by omega)
    refine ⟨ρ', ?_⟩
    rw [whileL_succ]
    have hge' : ¬ ((liveC C free k).length : Int) < 2 := by omega
    have lc : pick (absL C k) (liveC C free k) = leastC C free k := rfl
    rw [lc] at l3
    simp [l1, hge', l2, l3, l4]
    exact e
theorem ev_whole_clear {n : Nat} (hn : 1 ≤ n) (hk : k < W) (hW : W ≤ 100) (hL : L ≤ 100) (hf : ∀ j ∈ free, j < L) (hfl : free.length ≤ 100) {q : Nat} (hq : q ≤ 1000000) {C' : Mat} (h : CRun W L k free q C C') :
    evf tb n "whole_clear" (some (.ow (mL C))) [.list (nL free), .int k] = some (.va (.list (nL (liveC C' free k))), some (mL C')) := by
  obtain ⟨n, rfl⟩ : ∃ m, n = m + 1 := ⟨n - 1, by omega⟩
  rw [fi_whole_clear, run_whole_clear_ow]
  obtain ⟨ρ', e⟩ := wc_loop (evf tb n) hk hW hL hf hfl h 1000000 none none none none none none none none hq
  simp [S_whole_clear, e]
end
end K36

set_option Elab.async false
set_option linter.all false
set_option maxRecDepth 100000
set_option maxHeartbeats 4000000
set_option autoImplicit false
set_option exponentiation.threshold 300
/-! Law k36: columns cleared by Euclid. -/
namespace K36
open PySem PySem.Spec PyProof.Rows L2 Pv
theorem subL_len {a b : List Int} {q : Int} {W : Nat} (h1 : a.length = W) (h2 : b.length = W) : (subL a q b).length = W := by simp [subL, h1, h2]
theorem subL_ig {a b : List Int} {q : Int} {W i : Nat} (h1 : a.length = W) (h2 : b.length = W) (hi : i < W) : ig (subL a q b) i = ig a i - q * ig b i := by
  unfold subL
  rw [ig_get (by simp [h1, h2]; exact hi)]
  simp only [List.getElem_map, List.getElem_zip]
  rw [ig_get (show i < a.length by omega), ig_get (show i < b.length by omega)]
theorem subL_dot (q : Int) : ∀ (y a b : List Int), a.length = b.length → dot y (subL a q b) = dot y a - q * dot y b
  | [], a, b, _ => by rw [dot_nil, dot_nil, dot_nil]; simp
  | x :: y, [], [], _ => by rw [show subL [] q [] = [] from rfl, dot_nil']; simp
  | x :: y, [], _ :: _, h => by simp at h
  | x :: y, _ :: _, [], h => by simp at h
  | x :: y, u :: a, v :: b, h => by
    have ih := subL_dot q y a b (by simpa using h)
    show dot (x :: y) ((u - q * v) :: subL a q b) = _
    rw [dot_cons, dot_cons, dot_cons, ih]
    grind
theorem rg_set {C : Mat} {j i : Nat} {c : List Int} (h : j < C.length) : rg (C.set j c) i = if i = j then c else rg C i := by
  unfold rg
  rw [List.getD_eq_getElem?_getD, List.getD_eq_getElem?_getD]
  by_cases e : i = j
  · subst e
    rw [List.getElem?_set_self h, if_pos rfl]
    rfl
  · rw [List.getElem?_set_ne (Ne.symm e), if_neg e]
section
variable {W L k l j : Nat} {C : Mat}
/-- columns of one length -/
structure Cols (C : Mat) (W L : Nat) : Prop where
  len : C.length = L
  col : ∀ i, i < L → (rg C i).length = W
theorem ColOk.cols (h : ColOk C W L) : Cols C W L := ⟨h.len, fun i hi => (h.at_ hi).1⟩
theorem Cols.step (h : Cols C W L) (hj : j < L) (hl : l < L) : Cols (passStep C k l j) W L := by
  unfold passStep
  split
  · exact h
  · refine ⟨by rw [List.length_set]; exact h.len, fun i hi => ?_⟩
    rw [rg_set (by rw [h.len]; exact hj)]
    split
    · exact subL_len (h.col j hj) (h.col l hl)
    · exact h.col i hi
theorem step_rg (h : Cols C W L) (hj : j < L) (hl : l < L) {i : Nat} : rg (passStep C k l j) i = if i = j ∧ j ≠ l then subL (rg C j) ((g2 C j k).fdiv (g2 C l k)) (rg C l) else rg C i := by
  unfold passStep
  by_cases e : j = l
  · rw [if_pos e, if_neg fun z => z.2 e]
  · rw [if_neg e, rg_set (by rw [h.len]; exact hj)]
    by_cases e2 : i = j
    · rw [if_pos e2, if_pos ⟨e2, e⟩]
    · rw [if_neg e2, if_neg fun z => e2 z.1]
/-- a pass, column by column: those of js but l are lessened by l's, the others stand -/
theorem pass_rg (hl : l < L) : ∀ (js : List Nat) {C : Mat}, Cols C W L → js.Nodup → (∀ j ∈ js, j < L) →
    Cols (pass C k l js) W L ∧ ∀ i, rg (pass C k l js) i = if i ∈ js ∧ i ≠ l then subL (rg C i) ((g2 C i k).fdiv (g2 C l k)) (rg C l) else rg C i
  | [], C, h, _, _ => ⟨h, fun i => by simp [pass]⟩
  | j :: js, C, h, nd, hj => by
    have hjL := hj j List.mem_cons_self
    have nd' := List.nodup_cons.mp nd
    have h' := h.step (k := k) hjL hl
    obtain ⟨h1, h2⟩ := pass_rg hl js h' nd'.2 fun i hi => hj i (List.mem_cons_of_mem _ hi)
    refine ⟨h1, fun i => ?_⟩
    show rg (pass (passStep C k l j) k l js) i = _
    have el : rg (passStep C k l j) l = rg C l := by
      rw [step_rg h hjL hl, if_neg fun z => z.2 z.1.symm]
    have gl : g2 (passStep C k l j) l k = g2 C l k := by unfold g2; rw [el]
    rw [h2 i, gl, el]
    by_cases e : i ∈ js
    · have ne : i ≠ j := fun z => nd'.1 (z ▸ e)
      have ei : rg (passStep C k l j) i = rg C i := by rw [step_rg h hjL hl, if_neg fun z => ne z.1]
      have gi : g2 (passStep C k l j) i k = g2 C i k := by unfold g2; rw [ei]
      rw [ei, gi]
      by_cases e2 : i = l
      · rw [if_neg fun z => z.2 e2, if_neg fun z => z.2 e2]
      · rw [if_pos ⟨e, e2⟩, if_pos ⟨List.mem_cons_of_mem _ e, e2⟩]
    · rw [if_neg fun z => e z.1, step_rg h hjL hl]
      by_cases e2 : i = j
      · subst e2
        by_cases e3 : i = l
        · rw [if_neg fun z => z.2 e3, if_neg fun z => z.2 e3]
        · rw [if_pos ⟨rfl, e3⟩, if_pos ⟨List.mem_cons_self, e3⟩]
      · rw [if_neg fun z => e2 z.1, if_neg fun z => by
          rcases List.mem_cons.mp z.1 with w | w
          · exact e2 w
          · exact e w]
end
/-! ### Euclid's quotient -/
theorem fdiv_bd_pos {a b : Int} (h : 0 < b) : (a.fdiv b).natAbs ≤ a.natAbs := by
  have e := Int.mul_fdiv_add_fmod a b
  have r1 := Int.fmod_nonneg_of_pos a h
  have r2 := Int.fmod_lt_of_pos a h
  rcases Int.lt_or_le (a.fdiv b) 0 with z | z
  · have m4 := Int.mul_le_mul_of_nonpos_right (show 1 ≤ b by omega) (show a.fdiv b + 1 ≤ 0 by omega)
    have m3 : b * (a.fdiv b + 1) = b * a.fdiv b + b := by rw [Int.mul_add, Int.mul_one]
    omega
  · have m := Int.mul_le_mul_of_nonneg_right (show 1 ≤ b by omega) z
    omega
theorem fdiv_bd {a b : Int} (hb : b ≠ 0) : (a.fdiv b).natAbs ≤ a.natAbs := by
  rcases Int.lt_or_lt_of_ne hb with h | h
  · have := fdiv_bd_pos (a := -a) (b := -b) (by omega)
    rw [Int.neg_fdiv_neg, Int.natAbs_neg] at this
    exact this
  · exact fdiv_bd_pos h
/-- the rest: smaller than the divisor, of its sign -/
theorem fmod_sz {a b : Int} (hb : b ≠ 0) : (a - a.fdiv b * b).natAbs < b.natAbs ∧ (0 < b → 0 ≤ a - a.fdiv b * b) ∧ (b < 0 → a - a.fdiv b * b ≤ 0) := by
  have e := Int.mul_fdiv_add_fmod a b
  have e2 : a - a.fdiv b * b = a.fmod b := by rw [Int.mul_comm]; omega
  rw [e2]
  rcases Int.lt_or_lt_of_ne hb with h | h
  · have r1 := Int.fmod_nonneg_of_pos (-a) (b := -b) (by omega)
    have r2 := Int.fmod_lt_of_pos (-a) (b := -b) (by omega)
    rw [Int.neg_fmod_neg] at r1 r2
    omega
  · have r1 := Int.fmod_nonneg_of_pos a h
    have r2 := Int.fmod_lt_of_pos a h
    omega
end K36

set_option Elab.async false
set_option linter.all false
set_option maxRecDepth 100000
set_option maxHeartbeats 4000000
set_option autoImplicit false
set_option exponentiation.threshold 300
/-! Law k36: a clearing ends. -/
namespace K36
open PySem PySem.Spec PyProof.Rows L2 Pv
def bnd (C : Mat) (L B : Nat) : Prop := ∀ i, i < L → ∀ x ∈ rg C i, x.natAbs ≤ B
theorem bnd_ig {C : Mat} {L B i k : Nat} (h : bnd C L B) (hi : i < L) : (ig (rg C i) k).natAbs ≤ B := by
  by_cases hk : k < (rg C i).length
  · exact h i hi _ (ig_mem hk)
  · rw [ig_out (by omega)]
    simp
theorem bnd.more {C : Mat} {L A B : Nat} (h : bnd C L A) (hab : A ≤ B) : bnd C L B := fun i hi x hx => Nat.le_trans (h i hi x hx) hab
theorem subL_bd {a b : List Int} {q : Int} {A B Q : Nat} (ha : ∀ x ∈ a, x.natAbs ≤ A) (hb : ∀ x ∈ b, x.natAbs ≤ B) (hq : q.natAbs ≤ Q) : ∀ x ∈ subL a q b, x.natAbs ≤ A + Q * B := fun x hx => by
  obtain ⟨⟨u, v⟩, h1, h2⟩ := List.mem_map.mp hx
  have h3 := List.of_mem_zip h1
  have i1 := ha u h3.1
  have i2 := hb v h3.2
  have i3 : (q * v).natAbs ≤ Q * B := by rw [Int.natAbs_mul]; exact Nat.mul_le_mul hq i2
  rw [← h2]
  show (u - q * v).natAbs ≤ _
  omega
theorem colOk_of {C : Mat} {W L B : Nat} (h : Cols C W L) (hb : bnd C L B) (hB : B < 2 ^ 9000) : ColOk C W L := ⟨h.len, fun c hc => by
  obtain ⟨i, hi, e⟩ := List.mem_iff_getElem.mp hc
  have hi' : i < L := by rw [← h.len]; exact hi
  have e2 : rg C i = c := by rw [rg_get hi, e]
  exact ⟨by rw [← e2]; exact h.col i hi', fun x hx => Nat.lt_of_le_of_lt (hb i hi' x (by rw [e2]; exact hx)) hB⟩⟩
section
variable {W L k : Nat} {free : List Nat}
theorem passOk_of {l B Q : Nat} (hl : l < L) (hB : B + Q * B < 2 ^ 9000) (hQ : Q < 2 ^ 9000) : ∀ (js : List Nat) {C : Mat}, Cols C W L → js.Nodup → (∀ j ∈ js, j < L) → g2 C l k ≠ 0 → bnd C L (B + Q * B) → (∀ i, (i ∈ js ∨ i = l) → ∀ x ∈ rg C i, x.natAbs ≤ B) → (∀ j ∈ js, ((g2 C j k).fdiv (g2 C l k)).natAbs ≤ Q) → PassOk W L k l C js
  | [], C, h, _, _, _, hb, _, _ => .nil (colOk_of h hb hB)
  | j :: js, C, h, nd, hj, hz, hb, hb1, hq => by
    have hjL := hj j List.mem_cons_self
    have nd' := List.nodup_cons.mp nd
    have qj := hq j List.mem_cons_self
    have el : rg (passStep C k l j) l = rg C l := by
      rw [step_rg h hjL hl, if_neg fun z => z.2 z.1.symm]
    have gl : g2 (passStep C k l j) l k = g2 C l k := by unfold g2; rw [el]
    have oth : ∀ i, i ≠ j → rg (passStep C k l j) i = rg C i := fun i hi => by rw [step_rg h hjL hl, if_neg fun z => hi z.1]
    refine .cons (colOk_of h hb hB) hjL hz (Nat.lt_of_le_of_lt qj hQ) (passOk_of hl hB hQ js (h.step hjL hl) nd'.2 (fun i hi => hj i (List.mem_cons_of_mem _ hi)) (by rw [gl]; exact hz) ?_ ?_ ?_)
    · intro i hi x hx
      rw [step_rg h hjL hl] at hx
      split at hx
      · exact subL_bd (hb1 j (.inl List.mem_cons_self)) (hb1 l (.inr rfl)) qj x hx
      · exact hb i hi x hx
    · intro i hi x hx
      by_cases e : i = j
      · rcases hi with hi | hi
        · exact absurd (e ▸ hi) nd'.1
        · subst hi
          rw [el] at hx
          exact hb1 _ (.inr rfl) x hx
      · rw [oth i e] at hx
        exact hb1 i (hi.elim (fun z => .inl (List.mem_cons_of_mem _ z)) .inr) x hx
    · intro i hi
      have ne : i ≠ j := fun z => nd'.1 (z ▸ hi)
      have gi : g2 (passStep C k l j) i k = g2 C i k := by unfold g2; rw [oth i ne]
      rw [gi, gl]
      exact hq i (List.mem_cons_of_mem _ hi)
/-- what a pass does to the values of row k -/
structure PassF (C C' : Mat) (L k l : Nat) (free : List Nat) : Prop where
  lv : g2 C' l k = g2 C l k
  o : ∀ i ∈ liveC C free k, i ≠ l → (g2 C' i k).natAbs < (g2 C l k).natAbs ∧ (0 < g2 C l k → 0 ≤ g2 C' i k) ∧ (g2 C l k < 0 → g2 C' i k ≤ 0)
  z : ∀ i ∈ free, i ∉ liveC C free k → g2 C' i k = 0
theorem live_mem {C : Mat} {j : Nat} : j ∈ liveC C free k ↔ j ∈ free ∧ g2 C j k ≠ 0 := by
  unfold liveC
  rw [List.mem_filter, decide_eq_true_eq]
theorem passF {C : Mat} (h : Cols C W L) (hk : k < W) (nd : free.Nodup) (hf : ∀ j ∈ free, j < L) {l : Nat} (hl : l ∈ liveC C free k) : PassF C (pass C k l (liveC C free k)) L k l free := by
  have hlL := hf l (live_mem.mp hl).1
  have hlz := (live_mem.mp hl).2
  have nl : (liveC C free k).Nodup := nd.filter _
  obtain ⟨-, pr⟩ := pass_rg (k := k) hlL (liveC C free k) h nl fun j hj => hf j (live_mem.mp hj).1
  refine ⟨?_, fun i hi hne => ?_, fun i hi hn => ?_⟩
  · unfold g2
    rw [pr, if_neg fun z => z.2 rfl]
  · have hiL := hf i (live_mem.mp hi).1
    have e : g2 (pass C k l (liveC C free k)) i k = g2 C i k - (g2 C i k).fdiv (g2 C l k) * g2 C l k := by
      show ig (rg _ i) k = _
      rw [pr, if_pos ⟨hi, hne⟩, subL_ig (h.col i hiL) (h.col l hlL) hk]
      rfl
    rw [e]
    exact fmod_sz hlz
  · show ig (rg _ i) k = _
    rw [pr, if_neg fun z => hn z.1]
    have : ¬ g2 C i k ≠ 0 := fun z => hn (live_mem.mpr ⟨hi, z⟩)
    exact Classical.not_not.mp this
def mu (C : Mat) (free : List Nat) (k : Nat) : Nat := if 2 ≤ (liveC C free k).length then (g2 C (leastC C free k) k).natAbs else 0
theorem least_mem {C : Mat} (h : liveC C free k ≠ []) : leastC C free k ∈ liveC C free k := pick_mem h
theorem least_le {C : Mat} (h : Cols C W L) (hf : ∀ j ∈ free, j < L) {i : Nat} (hi : i ∈ liveC C free k) : (g2 C (leastC C free k) k).natAbs ≤ (g2 C i k).natAbs := by
  have h1 := pick_le (xs := absL C k) hi
  have ne : liveC C free k ≠ [] := by
    intro z
    rw [z] at hi
    cases hi
  have l1 := hf _ (live_mem.mp (least_mem ne)).1
  have l2 := hf _ (live_mem.mp hi).1
  have e2 : ng (absL C k) i = (g2 C i k).natAbs := abs_ng (by rw [h.len]; exact l2)
  have e : ng (absL C k) (pick (absL C k) (liveC C free k)) = (g2 C (leastC C free k) k).natAbs := abs_ng (by rw [h.len]; exact l1)
  rw [e, e2] at h1
  exact h1
/-- the measure falls -/
theorem mu_lt {C : Mat} (h : Cols C W L) (hk : k < W) (nd : free.Nodup) (hf : ∀ j ∈ free, j < L) (h2 : 2 ≤ (liveC C free k).length) : mu (pass C k (leastC C free k) (liveC C free k)) free k < mu C free k ∧ liveC (pass C k (leastC C free k) (liveC C free k)) free k ≠ [] := by
  have ne : liveC C free k ≠ [] := by
    intro z
    rw [z] at h2
    simp at h2
  have lm := least_mem ne
  have lz := (live_mem.mp lm).2
  have F := passF h hk nd hf lm
  have hlL := hf _ (live_mem.mp lm).1
  have h' := (pass_rg (k := k) hlL (liveC C free k) h (nd.filter _) fun j hj => hf j (live_mem.mp hj).1).1
  have stay : leastC C free k ∈ liveC (pass C k (leastC C free k) (liveC C free k)) free k := live_mem.mpr ⟨(live_mem.mp lm).1, by rw [F.lv]; exact lz⟩
  refine ⟨?_, fun z => by rw [z] at stay; cases stay⟩
  have m1 : mu C free k = (g2 C (leastC C free k) k).natAbs := if_pos h2
  rw [m1]
  unfold mu
  split
  · rename_i h3
    -- another live one
    have : ∃ i, i ∈ liveC (pass C k (leastC C free k) (liveC C free k)) free k ∧ i ≠ leastC C free k := by
      have nd3 : (liveC (pass C k (leastC C free k) (liveC C free k)) free k).Nodup := nd.filter _
      match hm : liveC (pass C k (leastC C free k) (liveC C free k)) free k, h3, nd3 with
      | a :: b :: r, _, nd3 =>
        by_cases e : a = leastC C free k
        · refine ⟨b, by simp, fun z => ?_⟩
          have := (List.nodup_cons.mp nd3).1
          exact this (by rw [e, ← z]; simp)
        · exact ⟨a, by simp, e⟩
      | [_], h3, _ => simp at h3
      | [], h3, _ => simp at h3
    obtain ⟨i, i1, i2⟩ := this
    have i3 := live_mem.mp i1
    have il : i ∈ liveC C free k := Classical.byContradiction fun z => i3.2 (F.z i i3.1 z)
    have lt := (F.o i il i2).1
    have le := least_le h' hf i1
    omega
  · omega
theorem clear_gen (J : Mat → Prop) (hk : k < W) (nd : free.Nodup) (hf : ∀ j ∈ free, j < L) (hJ : ∀ C, J C → Cols C W L ∧ ColOk C W L ∧ (2 ≤ (liveC C free k).length → PassOk W L k (leastC C free k) C (liveC C free k) ∧ J (pass C k (leastC C free k) (liveC C free k)))) : ∀ (n : Nat) (C : Mat), J C → mu C free k < n →
    ∃ C', CRun W L k free n C C' ∧ J C' ∧ (liveC C' free k).length < 2 ∧ (C' = C ∨ liveC C' free k ≠ [])
  | 0, C, _, h => by omega
  | n + 1, C, j, h => by
    obtain ⟨c1, c2, c3⟩ := hJ C j
    by_cases h2 : 2 ≤ (liveC C free k).length
    · obtain ⟨p1, p2⟩ := c3 h2
      obtain ⟨m1, m2⟩ := mu_lt c1 hk nd hf h2
      obtain ⟨C', r1, r2, r3, r4⟩ := clear_gen J hk nd hf hJ n _ p2 (by omega)
      refine ⟨C', .step c2 h2 p1 r1, r2, r3, .inr ?_⟩
      rcases r4 with e | e
      · rw [e]
        exact m2
      · exact e
    · exact ⟨C, .stop c2 (by omega), j, by omega, .inl rfl⟩
end
end K36

set_option Elab.async false
set_option linter.all false
set_option maxRecDepth 100000
set_option maxHeartbeats 4000000
set_option autoImplicit false
set_option exponentiation.threshold 300
/-! Law k36: how far a clearing grows. -/
namespace K36
open PySem PySem.Spec PyProof.Rows L2 Pv
theorem big_ok {n : Nat} (h : n < 2 ^ 200) : n < 2 ^ 9000 := Nat.lt_of_lt_of_le h (Nat.pow_le_pow_right (by decide) (by decide))
section
variable {W L k : Nat} {free : List Nat}
theorem bnd_pass {C : Mat} {l B Q : Nat} (h : Cols C W L) (hl : l < L) {js : List Nat} (nd : js.Nodup) (hj : ∀ j ∈ js, j < L) (hb : bnd C L B) (hq : ∀ j ∈ js, ((g2 C j k).fdiv (g2 C l k)).natAbs ≤ Q) : bnd (pass C k l js) L (B + Q * B) := fun i hi x hx => by
  rw [(pass_rg (k := k) hl js h nd hj).2] at hx
  split at hx
  · rename_i z
    exact subL_bd (hb i hi) (hb l hl) (hq i z.1) x hx
  · have := hb i hi x hx
    omega
/-- a property that passes keep -/
def Kept (P : Mat → Prop) (W L k : Nat) (free : List Nat) : Prop := ∀ C l js, Cols C W L → l ∈ free → (∀ j ∈ js, j ∈ free) → js.Nodup → P C → P (pass C k l js)
theorem clearA (P : Mat → Prop) (hk : k < W) (nd : free.Nodup) (hf : ∀ j ∈ free, j < L) (hP : Kept P W L k free) {C : Mat} (h : Cols C W L) (hb : bnd C L 4) (hp : P C) :
    ∃ q C', q ≤ 1000000 ∧ CRun W L k free q C C' ∧ Cols C' W L ∧ bnd C' L 2500 ∧ P C' ∧ (liveC C' free k).length < 2 ∧ (C' = C ∨ liveC C' free k ≠ []) := by
  have p4 : ∀ i, 4 * 5 ^ (4 - i) ≤ 2500 := fun i => by
    have : 5 ^ (4 - i) ≤ 5 ^ 4 := Nat.pow_le_pow_right (by omega) (by omega)
    omega
  have muB : ∀ D, Cols D W L → (∀ i ∈ free, (g2 D i k).natAbs ≤ 4) → mu D free k ≤ 4 := fun D _ hv => by
    unfold mu
    split
    · rename_i h2
      have ne : liveC D free k ≠ [] := by
        intro z
        rw [z] at h2
        simp at h2
      exact hv _ (live_mem.mp (least_mem ne)).1
    · omega
  have v0 : ∀ i ∈ free, (g2 C i k).natAbs ≤ 4 := fun i hi => bnd_ig hb (hf i hi)
  obtain ⟨C', r1, ⟨c1, c2, c3, c4⟩, r3, r4⟩ := clear_gen (fun D => Cols D W L ∧ (∀ i ∈ free, (g2 D i k).natAbs ≤ 4) ∧ bnd D L (4 * 5 ^ (4 - mu D free k)) ∧ P D) hk nd hf (fun D ⟨c, hv, b, p⟩ => by
    refine ⟨c, colOk_of c b (big_ok (by have := p4 (mu D free k); omega)), fun h2 => ?_⟩
    have ne : liveC D free k ≠ [] := by
      intro z
      rw [z] at h2
      simp at h2
    have lm := least_mem ne
    have lf := (live_mem.mp lm).1
    have lz := (live_mem.mp lm).2
    have lL := hf _ lf
    have nl : (liveC D free k).Nodup := nd.filter _
    have jl : ∀ j ∈ liveC D free k, j < L := fun j hj => hf j (live_mem.mp hj).1
    have qb : ∀ j ∈ liveC D free k, ((g2 D j k).fdiv (g2 D (leastC D free k) k)).natAbs ≤ 4 := fun j hj => Nat.le_trans (fdiv_bd lz) (hv j (live_mem.mp hj).1)
    have F := passF c hk nd hf lm
    obtain ⟨m1, m2⟩ := mu_lt c hk nd hf h2
    have m4 := muB D c hv
    have p5 := p4 (mu D free k)
    refine ⟨passOk_of (B := 4 * 5 ^ (4 - mu D free k)) (Q := 4) lL (big_ok (by omega)) (big_ok (by omega)) _ c nl jl lz (b.more (by omega)) (fun i hi x hx => ?_) qb, (pass_rg (k := k) lL _ c nl jl).1, fun i hi => ?_, ?_, hP _ _ _ c lf (fun j hj => (live_mem.mp hj).1) nl p⟩
    · exact b i (hi.elim (jl i) fun z => z ▸ lL) x hx
    · by_cases il : i ∈ liveC D free k
      · by_cases e : i = leastC D free k
        · rw [e, F.lv]
          exact hv _ lf
        · have := (F.o i il e).1
          have := hv _ lf
          omega
      · rw [F.z i hi il]
        simp
    · refine (bnd_pass c lL nl jl b qb).more ?_
      have e : 4 * 5 ^ (4 - mu D free k) + 4 * (4 * 5 ^ (4 - mu D free k)) = 4 * 5 ^ (4 - mu D free k + 1) := by
        rw [Nat.pow_succ]
        omega
      rw [e]
      exact Nat.mul_le_mul_left 4 (Nat.pow_le_pow_right (by omega) (by omega))) 5 C ⟨h, v0, hb.more (by have : 1 ≤ 5 ^ (4 - mu C free k) := Nat.pow_pos (by omega); omega), hp⟩ (by have := muB C h v0; omega)
  exact ⟨5, C', by omega, r1, c1, c3.more (p4 _), c4, r3, r4⟩
theorem two_of {xs : List Nat} (hl : xs.length ≤ 2) {i j m : Nat} (hi : i ∈ xs) (hj : j ∈ xs) (hij : i ≠ j) (hm : m ∈ xs) : m = i ∨ m = j := by
  match xs, hl with
  | [], _ => cases hi
  | [a], _ =>
    simp at hi hj
    omega
  | [a, b], _ =>
    simp at hi hj hm
    omega
theorem other_ex {xs : List Nat} (nd : xs.Nodup) (h : 2 ≤ xs.length) (l : Nat) : ∃ o, o ∈ xs ∧ o ≠ l := by
  match xs, h, nd with
  | a :: b :: r, _, nd =>
    by_cases e : a = l
    · exact ⟨b, by simp, fun z => (List.nodup_cons.mp nd).1 (by rw [e, ← z]; simp)⟩
    · exact ⟨a, by simp, e⟩
  | [_], h, _ => simp at h
  | [], h, _ => simp at h
def Phi : Nat := (2500 + 2500 * 2500) * (2500 * 2500 * 2500)
theorem phi_step {M a b r q : Nat} (e : q * b + r = a) (h1 : r < b) (h2 : b ≤ a) (hb : 0 < b) (hM : M * (a * a * b) ≤ Phi) : (M + q * M) * (b * b * r) ≤ Phi ∧ M + q * M ≤ 2 * Phi := by
  have t1 : b + q * b ≤ 2 * a := by omega
  have hq : 1 ≤ q := by
    rcases Nat.eq_zero_or_pos q with z | z
    · rw [z] at e
      omega
    · exact z
  have hqb : b ≤ q * b := Nat.le_mul_of_pos_left b hq
  have t2 : 2 * r ≤ a := by omega
  constructor
  · calc (M + q * M) * (b * b * r) = M * ((b + q * b) * (b * r)) := by grind
      _ ≤ M * (2 * a * (b * r)) := Nat.mul_le_mul_left _ (Nat.mul_le_mul_right _ t1)
      _ = M * (a * b * (2 * r)) := by grind
      _ ≤ M * (a * b * a) := Nat.mul_le_mul_left _ (Nat.mul_le_mul_left _ t2)
      _ = M * (a * a * b) := by grind
      _ ≤ Phi := hM
  · have ha : 1 ≤ a := by omega
    calc M + q * M ≤ (M + q * M) * b := Nat.le_mul_of_pos_right _ hb
      _ = M * (b + q * b) := by grind
      _ ≤ M * (2 * a) := Nat.mul_le_mul_left _ t1
      _ = 2 * (M * a) := by grind
      _ ≤ 2 * (M * (a * a * b)) := Nat.mul_le_mul_left _ (Nat.mul_le_mul_left _ (by
        calc a = a * 1 * 1 := by omega
          _ ≤ a * a * b := Nat.mul_le_mul (Nat.mul_le_mul_left a ha) hb))
      _ ≤ 2 * Phi := Nat.mul_le_mul_left _ hM
/-- two live columns of one sign -/
def S1 (D : Mat) (L k : Nat) (free : List Nat) : Prop := ∃ M, bnd D L M ∧ M ≤ 2 * Phi ∧ ∀ i ∈ liveC D free k, ∀ j ∈ liveC D free k, i ≠ j →
  ((0 < g2 D i k ∧ 0 < g2 D j k) ∨ (g2 D i k < 0 ∧ g2 D j k < 0)) ∧ ((g2 D j k).natAbs ≤ (g2 D i k).natAbs → M * ((g2 D i k).natAbs * (g2 D i k).natAbs * (g2 D j k).natAbs) ≤ Phi)
theorem phi_big : 2 * Phi < 2 ^ 9000 := big_ok (by unfold Phi; decide)
theorem clearB (P : Mat → Prop) (hk : k < W) (nd : free.Nodup) (hf : ∀ j ∈ free, j < L) (h2f : free.length ≤ 2) (hP : Kept P W L k free) {C : Mat} (h : Cols C W L) (hb : bnd C L 2500) (hp : P C) :
    ∃ q C', q ≤ 1000000 ∧ CRun W L k free q C C' ∧ Cols C' W L ∧ bnd C' L (2 * Phi) ∧ P C' ∧ (liveC C' free k).length < 2 ∧ (C' = C ∨ liveC C' free k ≠ []) := by
  have p25 : 2500 ≤ 2 * Phi := by unfold Phi; omega
  have lle : ∀ D, (liveC D free k).length ≤ 2 := fun D => Nat.le_trans (List.length_filter_le _ _) h2f
  have start : ∀ D, (bnd D L 2500 ∨ S1 D L k free) → bnd D L (2 * Phi) := fun D hD => hD.elim (fun b => b.more p25) fun ⟨M, b, m, _⟩ => b.more m
  have mu0 : mu C free k < 2501 := by
    unfold mu
    split
    · rename_i h2
      have ne : liveC C free k ≠ [] := by
        intro z
        rw [z] at h2
        simp at h2
      have := bnd_ig (k := k) hb (hf _ (live_mem.mp (least_mem ne)).1)
      change (g2 C _ k).natAbs ≤ _ at this
      omega
    · omega
  obtain ⟨C', r1, ⟨c1, c4, c3⟩, r3, r4⟩ := clear_gen (fun D => Cols D W L ∧ P D ∧ (bnd D L 2500 ∨ S1 D L k free)) hk nd hf (fun D ⟨c, p, st⟩ => by
    refine ⟨c, colOk_of c (start D st) phi_big, fun h2 => ?_⟩
    have ne : liveC D free k ≠ [] := by
      intro z
      rw [z] at h2
      simp at h2
    have lm := least_mem ne
    have lf := (live_mem.mp lm).1
    have lz := (live_mem.mp lm).2
    have lL := hf _ lf
    have nl : (liveC D free k).Nodup := nd.filter _
    have jl : ∀ j ∈ liveC D free k, j < L := fun j hj => hf j (live_mem.mp hj).1
    have F := passF c hk nd hf lm
    obtain ⟨o, om, ol⟩ := other_ex nl h2 (leastC D free k)
    have oz := (live_mem.mp om).2
    have lo := least_le c hf om
    have Fo := F.o o om ol
    have cp := (pass_rg (k := k) lL _ c nl jl).1
    have pp := hP _ _ _ c lf (fun j hj => (live_mem.mp hj).1) nl p
    -- the live ones behind the pass are l and o
    have lv' : ∀ i ∈ liveC (pass D k (leastC D free k) (liveC D free k)) free k, i = leastC D free k ∨ i = o := fun i hi => by
      have i3 := live_mem.mp hi
      have il : i ∈ liveC D free k := Classical.byContradiction fun z => i3.2 (F.z i i3.1 z)
      exact two_of (lle D) lm om (Ne.symm ol) il
    rcases st with b | ⟨M, b, mM, hS⟩
    · have v25 : ∀ j ∈ liveC D free k, (g2 D j k).natAbs ≤ 2500 := fun j hj => bnd_ig b (jl j hj)
      have qb : ∀ j ∈ liveC D free k, ((g2 D j k).fdiv (g2 D (leastC D free k) k)).natAbs ≤ 2500 := fun j hj => Nat.le_trans (fdiv_bd lz) (v25 j hj)
      refine ⟨passOk_of (B := 2500) (Q := 2500) lL (big_ok (by decide)) (big_ok (by decide)) _ c nl jl lz (b.more (by omega)) (fun i hi x hx => b i (hi.elim (jl i) fun z => z ▸ lL) x hx) qb, cp, pp, .inr ⟨2500 + 2500 * 2500, bnd_pass c lL nl jl b qb, by unfold Phi; omega, fun i hi j hj hij => ?_⟩⟩
      have l25 := v25 _ lm
      rcases lv' i hi with rfl | rfl <;> rcases lv' j hj with rfl | rfl
      · exact absurd rfl hij
      · have jz := (live_mem.mp hj).2
        rw [F.lv]
        refine ⟨by omega, fun _ => ?_⟩
        exact Nat.mul_le_mul_left _ (Nat.mul_le_mul (Nat.mul_le_mul l25 l25) (by omega))
      · have iz := (live_mem.mp hi).2
        rw [F.lv]
        refine ⟨by omega, fun w => ?_⟩
        omega
      · exact absurd rfl hij
    · obtain ⟨sg, ph⟩ := hS o om _ lm ol
      have ph := ph lo
      have eq : ((g2 D o k).fdiv (g2 D (leastC D free k) k)).natAbs * (g2 D (leastC D free k) k).natAbs + (g2 (pass D k (leastC D free k) (liveC D free k)) o k).natAbs = (g2 D o k).natAbs := by
        have e : g2 (pass D k (leastC D free k) (liveC D free k)) o k = g2 D o k - (g2 D o k).fdiv (g2 D (leastC D free k) k) * g2 D (leastC D free k) k := by
          show ig (rg _ o) k = _
          rw [(pass_rg (k := k) lL _ c nl jl).2, if_pos ⟨om, ol⟩, subL_ig (c.col o (jl o om)) (c.col _ lL) hk]
          rfl
        rw [← Int.natAbs_mul]
        omega
      obtain ⟨s1, s2⟩ := phi_step eq Fo.1 lo (by omega) ph
      have q1 : 1 ≤ ((g2 D o k).fdiv (g2 D (leastC D free k) k)).natAbs := by
        rcases Nat.eq_zero_or_pos ((g2 D o k).fdiv (g2 D (leastC D free k) k)).natAbs with z | z
        · rw [z] at eq
          have := Fo.1
          omega
        · exact z
      have qb : ∀ j ∈ liveC D free k, ((g2 D j k).fdiv (g2 D (leastC D free k) k)).natAbs ≤ ((g2 D o k).fdiv (g2 D (leastC D free k) k)).natAbs := fun j hj => by
        rcases two_of (lle D) lm om (Ne.symm ol) hj with rfl | rfl
        · have : (g2 D (leastC D free k) k).fdiv (g2 D (leastC D free k) k) = 1 := Int.fdiv_self lz
          rw [this]
          exact q1
        · exact Nat.le_refl _
      have qM : ((g2 D o k).fdiv (g2 D (leastC D free k) k)).natAbs < 2 ^ 9000 := by
        have := Nat.le_trans (fdiv_bd (a := g2 D o k) lz) (bnd_ig (start D (.inr ⟨M, b, mM, hS⟩)) (jl o om))
        exact Nat.lt_of_le_of_lt this phi_big
      refine ⟨passOk_of (B := M) lL (Nat.lt_of_le_of_lt s2 phi_big) qM _ c nl jl lz (b.more (by omega)) (fun i hi x hx => b i (hi.elim (jl i) fun z => z ▸ lL) x hx) qb, cp, pp, .inr ⟨_, bnd_pass c lL nl jl b qb, s2, fun i hi j hj hij => ?_⟩⟩
      rcases lv' i hi with rfl | rfl <;> rcases lv' j hj with rfl | rfl
      · exact absurd rfl hij
      · have jz := (live_mem.mp hj).2
        rw [F.lv]
        exact ⟨by omega, fun _ => s1⟩
      · have iz := (live_mem.mp hi).2
        rw [F.lv]
        exact ⟨by omega, fun w => by omega⟩
      · exact absurd rfl hij) 2501 C ⟨h, hp, .inl hb⟩ mu0
  exact ⟨2501, C', by omega, r1, c1, start _ c3, c4, r3, r4⟩
end
end K36

set_option Elab.async false
set_option linter.all false
set_option maxRecDepth 100000
set_option maxHeartbeats 4000000
set_option autoImplicit false
set_option exponentiation.threshold 300
/-! Law k36: what a clearing keeps; the stair. -/
namespace K36
open PySem PySem.Spec PyProof.Rows L2 Pv
/-- the columns at the start: the rows' entries, then a unit -/
def col0 (A : Mat) (L j : Nat) : List Int := colL A j ++ unit L j
def C00 (A : Mat) (L : Nat) : Mat := (List.range L).map (col0 A L)
/-- entry r of A's row against a column's tail -/
def relAt (A : Mat) (c : List Int) (r : Nat) : Prop := ig c r = dot (rg A r) (c.drop A.length)
structure Keep (A : Mat) (L : Nat) (C : Mat) : Prop where
  cols : Cols C (A.length + L) L
  rel : ∀ j, j < L → ∀ r, r < A.length → relAt A (rg C j) r
  uni : ∀ (y : List Int) (D : Int), (∀ j, j < L → D ∣ dot y (rg C j)) → ∀ i, i < L → D ∣ dot y (col0 A L i)
theorem drop_subL (a b : List Int) (q : Int) (n : Nat) : (subL a q b).drop n = subL (a.drop n) q (b.drop n) := by
  unfold subL
  rw [← List.map_drop]
  congr 1
  simp [List.zip, List.drop_zipWith]
theorem rel_sub {A : Mat} {W : Nat} {a b : List Int} {q : Int} {r : Nat} (h1 : a.length = W) (h2 : b.length = W) (hr : r < W) (ra : relAt A a r) (rb : relAt A b r) : relAt A (subL a q b) r := by
  unfold relAt at *
  rw [subL_ig h1 h2 hr, drop_subL, subL_dot _ _ _ _ (by simp [h1, h2]), ra, rb]
theorem Keep.pass {A : Mat} {L k l : Nat} {C : Mat} (K : Keep A L C) (hl : l < L) {js : List Nat} (nd : js.Nodup) (hj : ∀ j ∈ js, j < L) : Keep A L (pass C k l js) := by
  obtain ⟨p1, p2⟩ := pass_rg (k := k) hl js K.cols nd hj
  refine ⟨p1, fun j hjL r hr => ?_, fun y D h => K.uni y D fun j hjL => ?_⟩
  · rw [p2]
    split
    · exact rel_sub (K.cols.col j hjL) (K.cols.col l hl) (by omega) (K.rel j hjL r hr) (K.rel l hl r hr)
    · exact K.rel j hjL r hr
  · have hl' := h l hl
    rw [p2, if_neg fun z => z.2 rfl] at hl'
    have hj' := h j hjL
    rw [p2] at hj'
    split at hj'
    · rw [subL_dot _ _ _ _ (by rw [K.cols.col j hjL, K.cols.col l hl])] at hj'
      have := Int.dvd_add hj' (Int.dvd_trans hl' (Int.dvd_mul_left ((g2 C j k).fdiv (g2 C l k)) (dot y (rg C l))))
      rw [show dot y (rg C j) - (g2 C j k).fdiv (g2 C l k) * dot y (rg C l) + (g2 C j k).fdiv (g2 C l k) * dot y (rg C l) = dot y (rg C j) by omega] at this
      exact this
    · exact hj'
/-- the state of the stair ahead of row k: free columns are 0 at the rows done; the others stand -/
structure StairI (A : Mat) (L k : Nat) (free : List Nat) (C C1 : Mat) : Prop where
  keep : Keep A L C
  zero : ∀ j ∈ free, ∀ r, r < k → g2 C j r = 0
  same : ∀ j, j ∉ free → rg C j = rg C1 j
theorem stair_kept {A : Mat} {L k : Nat} {free : List Nat} {C1 : Mat} (hk : k < A.length) (hf : ∀ j ∈ free, j < L) : Kept (StairI A L k free · C1) (A.length + L) L k free := fun C l js c lf jf nd I => by
  have hl := hf l lf
  have hj := fun j hj => hf j (jf j hj)
  obtain ⟨p1, p2⟩ := pass_rg (k := k) hl js c nd hj
  refine ⟨I.keep.pass hl nd hj, fun j hjf r hr => ?_, fun j hjf => ?_⟩
  · show ig (rg _ j) r = 0
    have zj : ig (rg C j) r = 0 := I.zero j hjf r hr
    have zl : ig (rg C l) r = 0 := I.zero l lf r hr
    rw [p2]
    split
    · rw [subL_ig (c.col j (hf j hjf)) (c.col l hl) (by omega), zj, zl]
      omega
    · exact zj
  · rw [p2, if_neg fun z => hjf (jf j z.1)]
    exact I.same j hjf
end K36

set_option Elab.async false
set_option linter.all false
set_option maxRecDepth 100000
set_option maxHeartbeats 4000000
set_option autoImplicit false
set_option exponentiation.threshold 300
/-! Law k36: the stair, row by row. -/
namespace K36
open PySem PySem.Spec PyProof.Rows L2 Pv
theorem nodup_le : ∀ {xs ys : List Nat}, xs.Nodup → (∀ x ∈ xs, x ∈ ys) → xs.length ≤ ys.length
  | [], ys, _, _ => by simp
  | x :: xs, ys, nd, h => by
    have nd' := List.nodup_cons.mp nd
    have hx := h x List.mem_cons_self
    have := nodup_le (xs := xs) (ys := ys.erase x) nd'.2 fun y hy => by
      have ne : y ≠ x := fun z => nd'.1 (by rw [← z]; exact hy)
      exact (List.mem_erase_of_ne ne).mpr (h y (List.mem_cons_of_mem _ hy))
    rw [List.length_erase_of_mem hx] at this
    have : 0 < ys.length := List.length_pos_of_mem hx
    simp only [List.length_cons]
    omega
def Bf (f : Nat) : Nat := if 3 ≤ f then 4 else if f = 2 then 2500 else 2 * Phi
def pg (piv : List (Option Nat)) (i : Nat) : Option Nat := piv.getD i none
structure Stair (A : Mat) (L k : Nat) (C : Mat) (piv : List (Option Nat)) (free : List Nat) : Prop where
  keep : Keep A L C
  nd : free.Nodup
  fl : ∀ j ∈ free, j < L
  pl : piv.length = k
  zero : ∀ j ∈ free, ∀ r, r < k → g2 C j r = 0
  piv_ : ∀ i p, i < k → pg piv i = some p → p < L ∧ p ∉ free ∧ g2 C p i ≠ 0 ∧ ∀ r, r < i → g2 C p r = 0
  dist : ∀ i j p, i < k → j < k → pg piv i = some p → pg piv j = some p → i = j
  cov : ∀ j, j < L → j ∈ free ∨ ∃ i, i < k ∧ pg piv i = some j
  bd : bnd C L (Bf free.length)
theorem pg_app {piv : List (Option Nat)} {x : Option Nat} {i : Nat} : pg (piv ++ [x]) i = if i < piv.length then pg piv i else if i = piv.length then x else none := by
  unfold pg
  rw [List.getD_eq_getElem?_getD, List.getD_eq_getElem?_getD]
  by_cases h : i < piv.length
  · rw [if_pos h, List.getElem?_append_left h]
  · rw [if_neg h, List.getElem?_append_right (by omega)]
    by_cases e : i = piv.length
    · rw [if_pos e, e]
      simp
    · rw [if_neg e, List.getElem?_eq_none (by simp; omega)]
      rfl
def nextFree (free live : List Nat) : List Nat := free.filter fun j => !(live.contains j)
/-- row k is cleared -/
theorem Stair.next {A : Mat} {L k : Nat} {C : Mat} {piv : List (Option Nat)} {free : List Nat} (S : Stair A L k C piv free) (hL : L ≤ 3) (hk : k < A.length) :
    ∃ q C', q ≤ 1000000 ∧ CRun (A.length + L) L k free q C C' ∧ (liveC C' free k).length < 2 ∧ Stair A L (k + 1) C' (piv ++ [(liveC C' free k).head?]) (nextFree free (liveC C' free k)) := by
  have hkW : k < A.length + L := by omega
  have I0 : StairI A L k free C C := ⟨S.keep, S.zero, fun _ _ => rfl⟩
  have kept := stair_kept (C1 := C) hk S.fl
  have f3 : free.length ≤ 3 := by
    have : free.length ≤ (List.range L).length := nodup_le S.nd fun x hx => List.mem_range.mpr (S.fl x hx)
    rw [List.length_range] at this
    omega
  have phi4 : 4 ≤ 2 * Phi ∧ 2500 ≤ 2 * Phi := by unfold Phi; omega
  -- the clearing, with its bound
  have ex : ∃ q C', q ≤ 1000000 ∧ CRun (A.length + L) L k free q C C' ∧ Cols C' (A.length + L) L ∧ StairI A L k free C' C ∧ (liveC C' free k).length < 2 ∧ (C' = C ∨ liveC C' free k ≠ []) ∧ bnd C' L (if free.length = 3 then 2500 else 2 * Phi) := by
    by_cases h3 : free.length = 3
    · have b := S.bd
      rw [show Bf free.length = 4 by unfold Bf; rw [if_pos (by omega)]] at b
      obtain ⟨q, C', h1, h2, h4, h5, h6, h7, h8⟩ := clearA (StairI A L k free · C) hkW S.nd S.fl kept S.keep.cols b I0
      exact ⟨q, C', h1, h2, h4, h6, h7, h8, by rw [if_pos h3]; exact h5⟩
    · by_cases h2' : free.length = 2
      · have b := S.bd
        rw [show Bf free.length = 2500 by unfold Bf; rw [if_neg (by omega), if_pos h2']] at b
        obtain ⟨q, C', h1, h2, h4, h5, h6, h7, h8⟩ := clearB (StairI A L k free · C) hkW S.nd S.fl (by omega) kept S.keep.cols b I0
        exact ⟨q, C', h1, h2, h4, h6, h7, h8, by rw [if_neg h3]; exact h5⟩
      · have b := S.bd
        rw [show Bf free.length = 2 * Phi by unfold Bf; rw [if_neg (by omega), if_neg h2']] at b
        have ll : (liveC C free k).length < 2 := by
          have : (liveC C free k).length ≤ free.length := List.length_filter_le _ _
          omega
        exact ⟨1, C, by omega, .stop (colOk_of S.keep.cols b phi_big) ll, S.keep.cols, I0, ll, .inl rfl, by rw [if_neg h3]; exact b⟩
  obtain ⟨q, C', h1, h2, h4, I, h7, h8, hb⟩ := ex
  refine ⟨q, C', h1, h2, h7, ?_⟩
  have nf : ∀ j, j ∈ nextFree free (liveC C' free k) ↔ j ∈ free ∧ j ∉ liveC C' free k := fun j => by
    unfold nextFree
    rw [List.mem_filter]
    simp
  -- what is live, if any
  have hd : ∀ p, (liveC C' free k).head? = some p ↔ p ∈ liveC C' free k := fun p => by
    match hm : liveC C' free k, h7 with
    | [], _ => simp
    | [a], _ =>
      simp
      exact eq_comm
    | _ :: _ :: _, h7 =>
      simp at h7
      omega
  have old : ∀ j, j ∉ free → ∀ r, g2 C' j r = g2 C j r := fun j hj r => by unfold g2; rw [I.same j hj]
  refine ⟨I.keep, S.nd.filter _, fun j hj => S.fl j ((nf j).mp hj).1, by rw [List.length_append, S.pl]; rfl, fun j hj r hr => ?_, fun i p hi hp => ?_, fun i j p hi hj hp1 hp2 => ?_, fun j hj => ?_, ?_⟩
  · obtain ⟨j1, j2⟩ := (nf j).mp hj
    by_cases e : r = k
    · subst e
      exact Classical.not_not.mp fun z => j2 (live_mem.mpr ⟨j1, z⟩)
    · exact I.zero j j1 r (by omega)
  · rw [pg_app, S.pl] at hp
    by_cases e : i < k
    · rw [if_pos e] at hp
      obtain ⟨a1, a2, a3, a4⟩ := S.piv_ i p e hp
      exact ⟨a1, fun z => a2 ((nf p).mp z).1, by rw [old p a2]; exact a3, fun r hr => by rw [old p a2]; exact a4 r hr⟩
    · have ei : i = k := by omega
      rw [if_neg e, if_pos ei] at hp
      have pm := (hd p).mp hp
      have pf := live_mem.mp pm
      subst ei
      exact ⟨S.fl p pf.1, fun z => ((nf p).mp z).2 pm, pf.2, fun r hr => I.zero p pf.1 r hr⟩
  · rw [pg_app, S.pl] at hp1 hp2
    by_cases e1 : i < k
    · rw [if_pos e1] at hp1
      by_cases e2 : j < k
      · rw [if_pos e2] at hp2
        exact S.dist i j p e1 e2 hp1 hp2
      · rw [if_neg e2, if_pos (show j = k by omega)] at hp2
        exact absurd (live_mem.mp ((hd p).mp hp2)).1 (S.piv_ i p e1 hp1).2.1
    · rw [if_neg e1, if_pos (show i = k by omega)] at hp1
      by_cases e2 : j < k
      · rw [if_pos e2] at hp2
        exact absurd (live_mem.mp ((hd p).mp hp1)).1 (S.piv_ j p e2 hp2).2.1
      · omega
  · rcases S.cov j hj with z | ⟨i, i1, i2⟩
    · by_cases e : j ∈ liveC C' free k
      · exact .inr ⟨k, by omega, by rw [pg_app, S.pl, if_neg (by omega), if_pos rfl]; exact (hd j).mpr e⟩
      · exact .inl ((nf j).mpr ⟨z, e⟩)
    · exact .inr ⟨i, by omega, by rw [pg_app, S.pl, if_pos i1]; exact i2⟩
  · by_cases le : liveC C' free k = []
    · have eC : C' = C := h8.elim id fun z => absurd le z
      have : nextFree free (liveC C' free k) = free := by
        unfold nextFree
        rw [le]
        simp
      rw [this, eC]
      exact S.bd
    · have lt : (nextFree free (liveC C' free k)).length < free.length := by
        obtain ⟨x, hx⟩ := List.exists_mem_of_ne_nil _ le
        have hx' := live_mem.mp hx
        have : (nextFree free (liveC C' free k)).length + 1 ≤ free.length := by
          have sp : (x :: nextFree free (liveC C' free k)).Nodup := List.nodup_cons.mpr ⟨fun z => ((nf x).mp z).2 hx, S.nd.filter _⟩
          exact nodup_le sp fun y hy => by
            rcases List.mem_cons.mp hy with rfl | hy
            · exact hx'.1
            · exact ((nf y).mp hy).1
        omega
      refine hb.more ?_
      unfold Bf
      by_cases h3 : free.length = 3
      · rw [if_pos h3, if_neg (by omega)]
        split <;> omega
      · rw [if_neg h3, if_neg (by omega), if_neg (by omega)]
        exact Nat.le_refl _
end K36

set_option Elab.async false
set_option linter.all false
set_option maxRecDepth 100000
set_option maxHeartbeats 4000000
set_option autoImplicit false
set_option exponentiation.threshold 300
/-! Law k36: whole_stair evaluated. -/
namespace K36
open PySem PySem.Spec PyProof.Rows L2 Pv
def pD : Option Nat → D
  | none => .none
  | some p => .int (p : Nat)
def pvL (piv : List (Option Nat)) : List D := piv.map pD
@[simp] theorem pvL_len (piv : List (Option Nat)) : (pvL piv).length = piv.length := by simp [pvL]
theorem pvL_app (piv : List (Option Nat)) (x : Option Nat) : pvL piv ++ [pD x] = pvL (piv ++ [x]) := by simp [pvL]
theorem notIn_nL (j : Nat) (xs : List Nat) : fNotIn (.int (j : Nat)) (.list (nL xs)) = some (.va (.bool (!(xs.contains j)))) := by
  show Option.map _ (Option.map _ (intsOf (iL _))) = _
  rw [iL_ints]
  simp only [Option.map_some]
  congr 4
  induction xs with
  | nil => rfl
  | cons x xs ih =>
    rw [List.map_cons, List.any_cons, ih, List.contains_cons]
    congr 1
    rw [Bool.eq_iff_iff]
    simp
    omega
theorem stair_loop {A : Mat} {L : Nat} (hL : L ≤ 3) (hA : A.length ≤ 4) : ∀ (t k : Nat) (C : Mat) (piv : List (Option Nat)) (free : List Nat), k + t = A.length → Stair A L k C piv free →
    ∃ C' piv' free', Stair A L A.length C' piv' free' ∧ ∀ (m : Nat) (R0 : D) (o3 o4 o7 : Option Sl), 1 ≤ m → ∃ (o3' o4' o7' : Option Sl),
      forL (gN 4) (b_whole_stair_3 (evf tb m)) (nL (List.range' k t)) [some (.va R0), some (.va (.int L)), some (.ow (mL C)), o3, o4, some (.ow (nL free)), some (.ow (pvL piv)), o7, none, none, none] =
        some (.nx, [some (.va R0), some (.va (.int L)), some (.ow (mL C')), o3', o4', some (.ow (nL free')), some (.ow (pvL piv')), o7', none, none, none])
  | 0, k, C, piv, free, hk, S => by
    have e : k = A.length := by omega
    subst e
    exact ⟨C, piv, free, S, fun m R0 o3 o4 o7 _ => ⟨o3, o4, o7, by simp⟩⟩
  | t + 1, k, C, piv, free, hk, S => by
    obtain ⟨q, C1, h1, h2, h3, S1⟩ := S.next hL (by omega)
    obtain ⟨C', piv', free', S', ev⟩ := stair_loop hL hA t (k + 1) C1 _ _ (by omega) S1
    refine ⟨C', piv', free', S', fun m R0 o3 o4 o7 hm => ?_⟩
    have f3 : free.length ≤ 100 := by
      have := nodup_le S.nd fun x hx => List.mem_range.mpr (S.fl x hx)
      rw [List.length_range] at this
      omega
    have e1 := ev_whole_clear (n := m) hm (W := A.length + L) (L := L) (k := k) (by omega) (by omega) (by omega) S.fl f3 h1 h2
    obtain ⟨o3', o4', o7', e⟩ := ev m R0 o3 (some (.va (.int (k : Nat)))) (some (.va (.list (nL (liveC C1 free k))))) hm
    refine ⟨o3', o4', o7', ?_⟩
    have pl : (pvL piv).length < 100000 := by rw [pvL_len, S.pl]; omega
    have pl2 : piv.length < 100000 := by rw [S.pl]; omega
    have lc := lcN_F (own := [8, 3]) (g := gN 3) (tt := t_whole_stair_1 (evf tb m)) (te := e_whole_stair_2 (evf tb m)) (ρ := [some (.va R0), some (.va (.int L)), some (.ow (mL C1)), none, some (.va (.int (k : Nat))), some (.va (.list (nL free))), some (.ow (pvL (piv ++ [(liveC C1 free k).head?]))), some (.va (.list (nL (liveC C1 free k)))), none, none, none])
      (fun j => .int (j : Nat)) (fun j => !((liveC C1 free k).contains j)) free (by omega) fun x _ => by
        have ni := notIn_nL x (liveC C1 free k)
        cases hc : (liveC C1 free k).contains x <;> rw [hc] at ni <;> simp [lcTwo, ni]
    rw [nL_map] at lc
    have nf : free.filter (fun j => !((liveC C1 free k).contains j)) = nextFree free (liveC C1 free k) := rfl
    rw [nf] at lc
    rw [List.range'_succ, nL_cons, forL_cons]
    match hm2 : liveC C1 free k, h3 with
    | [], _ =>
      rw [hm2] at e1 lc e
      have ap : pvL piv ++ [PyData.none] = pvL (piv ++ [none]) := pvL_app piv none
      simp at lc e
      simp [e1, pl2, ap, lc]
      simpa using e
    | [a], _ =>
      rw [hm2] at e1 lc e
      have ap : pvL piv ++ [PyData.int (a : Nat)] = pvL (piv ++ [some a]) := pvL_app piv (some a)
      have na : nL [a] = [.int (a : Nat)] := rfl
      simp only [List.head?_cons] at lc e
      simp [e1, pl2, na, ap]
      rw [na] at lc e
      rw [lc]
      simpa using e
    | _ :: _ :: _, h3 =>
      simp at h3
      omega
theorem loop_cols (o : Str → Orc) {rs : List Row} {L : Nat} (G : GoodRows rs L) : ∀ (t j : Nat) (acc : Mat) (o3 : Option Sl), j + t = L → acc.length = j →
    ∃ (o3' : Option Sl), forL (gN 3) (b_whole_stair_6 o) (nL (List.range' j t)) [some (.va (.list (rTs rs))), some (.va (.int L)), some (.ow (mL acc)), o3, none, none, none, none, none, none, none] =
      some (.nx, [some (.va (.list (rTs rs))), some (.va (.int L)), some (.ow (mL (acc ++ (List.range' j t).map (col0 (mat rs) L)))), o3', none, none, none, none, none, none, none])
  | 0, j, acc, o3, _, _ => ⟨o3, by simp⟩
  | t + 1, j, acc, o3, hj, ha => by
    have hL := G.hL
    have hm := G.hm
    obtain ⟨o3', e⟩ := loop_cols o G t (j + 1) (acc ++ [col0 (mat rs) L j]) (some (.va (.int (j : Nat)))) (by omega) (by simp [ha])
    refine ⟨o3', ?_⟩
    have l1 := lc_one (own := [8, 9, 10]) (g := gT (gsCons (gN 9) (gsCons (gN 10) gsNil))) (te := e_whole_stair_4 o) (ρ := [some (.va (.list (rTs rs))), some (.va (.int L)), some (.ow (mL acc)), some (.va (.int (j : Nat))), none, none, none, none, none, none, none]) rT (fun r => .int (ig r.1 j)) rs [] (by simp; omega) fun r hr => by
      have := G.rl r hr
      simp [lcOne, iL_atN (show j < r.1.length by omega)]
    have l1' : rs.map (fun r => PyData.int (ig r.1 j)) = iL (colL (mat rs) j) := by
      unfold iL colL
      rw [List.map_map, List.map_map]
      rfl
    rw [l1', List.nil_append, show rs.map rT = rTs rs from rfl] at l1
    have l2 := lcN (own := [8, 4]) (g := gN 4) (te := e_whole_stair_5 o) (ρ := [some (.va (.list (rTs rs))), some (.va (.int L)), some (.ow (mL acc)), some (.va (.int (j : Nat))), none, none, none, none, none, none, none]) (fun k => if k = j then 1 else 0) (List.range L) (by simp; omega) fun x _ => by
      by_cases h : x = j
      · simp [lcOne, h]
      · have h' : ¬ ((x : Int) = (j : Int)) := by omega
        simp [lcOne, h, h']
    rw [show (List.range L).map (fun k => if k = j then (1 : Int) else 0) = unit L j from rfl] at l2
    have l3 : fAdd (.list (iL (colL (mat rs) j))) (.list (iL (unit L j))) = some (.nw (iL (col0 (mat rs) L j))) := by
      unfold col0
      rw [iL_app]
      show (if (iL (colL (mat rs) j)).length + (iL (unit L j)).length ≤ 100000 then some (Rs.nw _) else none) = _
      rw [if_pos (by simp [colL, unit]; omega)]
    have h62 : L < 2 ^ 62 := by omega
    have ac : acc.length < 100000 := by omega
    rw [List.range'_succ, nL_cons, forL_cons]
    simp [l1, h62, rgD0, l2, l3, ac]
    rw [mL_app, mL_cons] at e
    simpa [mL_app, mL_cons] using e
theorem dot_unit' {L p : Nat} (hL : L ≤ 3) (hp : p < L) {h : List Int} (hl : h.length = L) : dot h (unit L p) = ig h p := by
  rw [dot_comm]
  exact dot_unit hL hp hl
theorem C00_rg {A : Mat} {L j : Nat} (hj : j < L) : rg (C00 A L) j = col0 A L j := by
  rw [rg_get (by simpa [C00] using hj)]
  simp [C00]
theorem stair0 {rs : List Row} {L : Nat} (G : GoodRows rs L) : Stair (mat rs) L 0 (C00 (mat rs) L) [] (List.range L) := by
  have hL := G.hL
  have cl : ∀ j, (col0 (mat rs) L j).length = (mat rs).length + L := fun j => by simp [col0, colL, unit]
  refine ⟨⟨⟨by simp [C00], fun j hj => by rw [C00_rg hj, cl]⟩, fun j hj r hr => ?_, fun y D h i hi => by rw [← C00_rg hi]; exact h i hi⟩, List.nodup_range, fun j hj => List.mem_range.mp hj, rfl, fun j _ r hr => by omega, fun i p hi => by omega, fun i j p hi => by omega, fun j hj => .inl (List.mem_range.mpr hj), fun j hj x hx => ?_⟩
  · rw [C00_rg hj]
    unfold relAt
    have hr' : r < rs.length := by simpa using hr
    have d : (col0 (mat rs) L j).drop (mat rs).length = unit L j := by
      unfold col0
      rw [List.drop_append_of_le_length (by simp [colL])]
      simp [colL]
    have rgl : (rg (mat rs) r).length = L := by
      have := rg_mem hr
      obtain ⟨q, hq, e⟩ := List.mem_map.mp this
      rw [← e]
      exact G.rl q hq
    rw [d, dot_unit' hL hj rgl, ← colL_ig (i := j) hr]
    unfold col0 ig
    rw [List.getD_eq_getElem?_getD, List.getD_eq_getElem?_getD, List.getElem?_append_left (by simp [colL]; exact hr')]
  · rw [C00_rg hj] at hx
    have b4 : x.natAbs ≤ 4 := by
      unfold col0 at hx
      rcases List.mem_append.mp hx with hx | hx
      · have := col_bd G j x hx
        omega
      · have := unit_bd L j x hx
        omega
    rw [List.length_range]
    unfold Bf
    split
    · exact b4
    · split
      · omega
      · unfold Phi
        omega
theorem stair_ex {rs : List Row} {L : Nat} (G : GoodRows rs L) : ∃ C piv free, Stair (mat rs) L rs.length C piv free ∧ ∀ n, 2 ≤ n → evf tb n "whole_stair" none [.list (rTs rs), .int L] = some (.va (.tuple [.list (mL C), .list (pvL piv), .list (nL free)]), none) := by
  have hL := G.hL
  have hm := G.hm
  obtain ⟨C, piv, free, S, ev⟩ := stair_loop (A := mat rs) hL (by simpa using hm) rs.length 0 _ _ _ (by simp) (stair0 G)
  refine ⟨C, piv, free, by simpa using S, fun n hn => ?_⟩
  obtain ⟨n, rfl⟩ : ∃ m, n = m + 1 := ⟨n - 1, by omega⟩
  rw [fi_whole_stair, run_whole_stair]
  obtain ⟨p3, l0⟩ := loop_cols (evf tb n) G L 0 [] none (by omega) rfl
  obtain ⟨q3, q4, q7, l1⟩ := ev n (.list (rTs rs)) p3 none none (by omega)
  have h62 : L < 2 ^ 62 := by omega
  have m62 : rs.length < 2 ^ 62 := by omega
  have l100 : L ≤ 100000 := by omega
  have c0 : ([] : Mat) ++ (List.range' 0 L).map (col0 (mat rs) L) = C00 (mat rs) L := by
    unfold C00
    rw [List.range_eq_range']
    rfl
  rw [c0] at l0
  rw [← List.range_eq_range', mL_nil] at l0
  rw [← List.range_eq_range'] at l1
  have pe : pvL [] = [] := rfl
  rw [pe] at l1
  simp [S_whole_stair, h62, rgD0, l0, l100, m62, l1]
end K36

set_option Elab.async false
set_option linter.all false
set_option maxRecDepth 100000
set_option maxHeartbeats 4000000
set_option autoImplicit false
set_option exponentiation.threshold 300
/-! Law k36: readers. -/
namespace K36
open PySem PySem.Spec PyProof.Rows L2 Pv
def cP : Nat := 4 * Phi
/-- one elimination -/
def elim (C : Mat) (k i p : Nat) (fi w : List Int) : List Int :=
  if g2 C p k ≠ 0 then
    (if g2 C p i * ig fi i < 0 then lessen ((w.zip fi).map fun x => x.1 * -(g2 C p i * ig fi i) - -(ig w k * g2 C p k) * x.2)
     else lessen ((w.zip fi).map fun x => x.1 * (g2 C p i * ig fi i) - (ig w k * g2 C p k) * x.2))
  else w
def readGo (C : Mat) (found : Mat) (k : Nat) : Nat → List (Option Nat) → List Int → List Int
  | _, [], w => w
  | i, none :: ps, w => readGo C found k (i + 1) ps w
  | i, some p :: ps, w => readGo C found k (i + 1) ps (elim C k i p (rg found i) w)
/-- dot of a row that is 0 but at k and below i, with a column that is 0 below i -/
theorem dot_supp : ∀ (y c : List Int) (k : Nat), (∀ r, r ≠ k → ig y r = 0 ∨ ig c r = 0) → k < c.length → dot y c = ig y k * ig c k
  | [], c, k, _, _ => by rw [dot_nil, ig_out (by simp)]; simp
  | a :: y, [], k, _, hc => by simp at hc
  | a :: y, b :: c, 0, h, _ => by
    rw [dot_cons]
    have z : dot y c = 0 := by
      have : ∀ (y c : List Int), (∀ r, ig y r = 0 ∨ ig c r = 0) → dot y c = 0 := by
        intro y
        induction y with
        | nil => intro c _; exact dot_nil _
        | cons u y ih =>
          intro c hc
          cases c with
          | nil => exact dot_nil' _
          | cons v c =>
            rw [dot_cons, ih c fun r => hc (r + 1)]
            have h0 : u = 0 ∨ v = 0 := hc 0
            rcases h0 with z | z <;> rw [z] <;> simp
      exact this y c fun r => h (r + 1) (by omega)
    rw [z]
    show a * b + 0 = a * b
    omega
  | a :: y, b :: c, k + 1, h, hc => by
    rw [dot_cons, dot_supp y c k (fun r hr => h (r + 1) (by omega)) (by simpa using hc)]
    have h0 : a = 0 ∨ b = 0 := h 0 (by omega)
    show a * b + ig y k * ig c k = ig y k * ig c k
    rcases h0 with z | z <;> rw [z] <;> simp
def lin (w f : List Int) (u a : Int) : List Int := (w.zip f).map fun x => x.1 * u - a * x.2
theorem lin_len {w f : List Int} {u a : Int} {n : Nat} (h1 : w.length = n) (h2 : f.length = n) : (lin w f u a).length = n := by simp [lin, h1, h2]
theorem lin_ig {w f : List Int} {u a : Int} {n : Nat} (h1 : w.length = n) (h2 : f.length = n) (r : Nat) : ig (lin w f u a) r = ig w r * u - a * ig f r := by
  by_cases hr : r < n
  · unfold lin
    rw [ig_get (by simp [h1, h2]; exact hr)]
    simp only [List.getElem_map, List.getElem_zip]
    rw [ig_get (show r < w.length by omega), ig_get (show r < f.length by omega)]
  · rw [ig_out (by rw [lin_len h1 h2]; omega), ig_out (xs := w) (by omega), ig_out (xs := f) (by omega)]
    simp
theorem lin_dot (u a : Int) : ∀ (w f c : List Int), w.length = f.length → dot (lin w f u a) c = u * dot w c - a * dot f c
  | [], [], c, _ => by rw [show lin [] [] u a = [] from rfl, dot_nil]; simp
  | [], _ :: _, _, h => by simp at h
  | _ :: _, [], _, h => by simp at h
  | x :: w, y :: f, [], _ => by rw [dot_nil', dot_nil', dot_nil']; simp
  | x :: w, y :: f, z :: c, h => by
    have ih := lin_dot u a w f c (by simpa using h)
    show dot ((x * u - a * y) :: lin w f u a) (z :: c) = _
    rw [dot_cons, dot_cons, dot_cons, ih]
    grind
structure RdI (C : Mat) (piv : List (Option Nat)) (n k i : Nat) (w : List Int) : Prop where
  len : w.length = n
  wk : 0 < ig w k
  sup : ∀ r, r ≠ k → i ≤ r → ig w r = 0
  orth : ∀ i' p', i' < i → pg piv i' = some p' → dot w (rg C p') = 0
  bd : ∀ x ∈ w, x.natAbs ≤ cP ^ (2 ^ i - 1)
theorem cP_pos : 0 < cP := by unfold cP Phi; omega
theorem RdI.lessen {C : Mat} {piv : List (Option Nat)} {n k i : Nat} {w : List Int} (R : RdI C piv n k i w) : RdI C piv n k i (lessen w) := by
  obtain ⟨c, hc, e⟩ := lessen_spec w
  have b := R.bd
  have wk := R.wk
  have sup := R.sup
  have orth := R.orth
  refine ⟨by rw [lessen_len, R.len], ?_, fun r h1 h2 => ?_, fun i' p' h1 h2 => ?_, fun x hx => ?_⟩
  · rw [e, ig_map_mul] at wk
    rcases Int.lt_or_le 0 (ig (K36.lessen w) k) with z | z
    · exact z
    · have := Int.mul_nonpos_of_nonneg_of_nonpos (Int.le_of_lt hc) z
      omega
  · have := sup r h1 h2
    rw [e, ig_map_mul] at this
    rcases Int.mul_eq_zero.mp this with z | z
    · omega
    · exact z
  · have := orth i' p' h1 h2
    rw [e, dot_comm, dot_map_mul, dot_comm] at this
    rcases Int.mul_eq_zero.mp this with z | z
    · omega
    · exact z
  · have := b (c * x) (by rw [e]; exact List.mem_map.mpr ⟨x, hx, rfl⟩)
    rw [Int.natAbs_mul] at this
    exact Nat.le_trans (Nat.le_mul_of_pos_left _ (by omega)) this
theorem RdI.elim {C : Mat} {piv : List (Option Nat)} {n k i p W : Nat} {w fi : List Int} (R : RdI C piv n k i w) (F : RdI C piv n i i fi) (hik : i < k) (hkW : k < W) (hp : pg piv i = some p) (cl : (rg C p).length = W) (hz : ∀ r, r < i → g2 C p r = 0) (hn : g2 C p i ≠ 0) (hb : ∀ x ∈ rg C p, x.natAbs ≤ 2 * Phi) :
    RdI C piv n k (i + 1) (elim C k i p fi w) := by
  have dw : dot w (rg C p) = ig w k * g2 C p k := dot_supp w (rg C p) k (fun r hr => by
    by_cases h : r < i
    · exact .inr (hz r h)
    · exact .inl (R.sup r hr (by omega))) (by omega)
  have df : dot fi (rg C p) = ig fi i * g2 C p i := dot_supp fi (rg C p) i (fun r hr => by
    by_cases h : r < i
    · exact .inr (hz r h)
    · exact .inl (F.sup r hr (by omega))) (by omega)
  have pw : cP ^ (2 ^ i - 1) ≤ cP ^ (2 ^ (i + 1) - 1) := Nat.pow_le_pow_right cP_pos (by
    have : 2 ^ (i + 1) = 2 ^ i * 2 := Nat.pow_succ 2 i
    omega)
  unfold K36.elim
  by_cases hk0 : g2 C p k = 0
  · rw [if_neg (by simpa using hk0)]
    refine ⟨R.len, R.wk, fun r h1 h2 => R.sup r h1 (by omega), fun i' p' h1 h2 => ?_, fun x hx => Nat.le_trans (R.bd x hx) pw⟩
    by_cases e : i' = i
    · subst e
      rw [hp] at h2
      cases h2
      rw [dw, hk0, Int.mul_zero]
    · exact R.orth i' p' (by omega) h2
  · rw [if_pos hk0]
    have gen : ∀ u a : Int, 0 < u → u * (ig w k * g2 C p k) = a * (ig fi i * g2 C p i) → u.natAbs = (g2 C p i * ig fi i).natAbs → a.natAbs = (ig w k * g2 C p k).natAbs → RdI C piv n k (i + 1) (K36.lessen (lin w fi u a)) := fun u a hu he hua haa => by
      refine RdI.lessen ⟨lin_len R.len F.len, ?_, fun r h1 h2 => ?_, fun i' p' h1 h2 => ?_, fun x hx => ?_⟩
      · rw [lin_ig R.len F.len, F.sup k (by omega) (by omega), Int.mul_zero, Int.sub_zero]
        exact Int.mul_pos R.wk hu
      · rw [lin_ig R.len F.len, R.sup r h1 (by omega), F.sup r (by omega) (by omega)]
        simp
      · rw [lin_dot _ _ _ _ _ (by rw [R.len, F.len])]
        by_cases e : i' = i
        · subst e
          rw [hp] at h2
          cases h2
          rw [dw, df, he]
          omega
        · rw [R.orth i' p' (by omega) h2, F.orth i' p' (by omega) h2]
          simp
      · obtain ⟨⟨p1, p2⟩, q1, q2⟩ := List.mem_map.mp hx
        have q3 := List.of_mem_zip q1
        have b1 := R.bd p1 q3.1
        have b2 := F.bd p2 q3.2
        have bi : (ig fi i).natAbs ≤ cP ^ (2 ^ i - 1) := by
          by_cases h : i < fi.length
          · exact F.bd _ (ig_mem h)
          · rw [ig_out (by omega)]
            simp
        have bk : (ig w k).natAbs ≤ cP ^ (2 ^ i - 1) := by
          by_cases h : k < w.length
          · exact R.bd _ (ig_mem h)
          · rw [ig_out (by omega)]
            simp
        have ci : (g2 C p i).natAbs ≤ 2 * Phi := hb _ (ig_mem (by omega))
        have ck : (g2 C p k).natAbs ≤ 2 * Phi := hb _ (ig_mem (by omega))
        rw [← q2]
        show (p1 * u - a * p2).natAbs ≤ _
        have t1 : (p1 * u).natAbs ≤ cP ^ (2 ^ i - 1) * (2 * Phi * cP ^ (2 ^ i - 1)) := by
          rw [Int.natAbs_mul, hua, Int.natAbs_mul]
          exact Nat.mul_le_mul b1 (Nat.mul_le_mul ci bi)
        have t2 : (a * p2).natAbs ≤ cP ^ (2 ^ i - 1) * (2 * Phi) * cP ^ (2 ^ i - 1) := by
          rw [Int.natAbs_mul, haa, Int.natAbs_mul]
          exact Nat.mul_le_mul (Nat.mul_le_mul bk ck) b2
        have pe : cP ^ (2 ^ (i + 1) - 1) = cP * (cP ^ (2 ^ i - 1) * cP ^ (2 ^ i - 1)) := by
          rw [← Nat.pow_add, ← Nat.pow_succ']
          congr 1
          have : 2 ^ (i + 1) = 2 ^ i * 2 := Nat.pow_succ 2 i
          have : 0 < 2 ^ i := Nat.pow_pos (by omega)
          omega
        rw [pe]
        generalize cP ^ (2 ^ i - 1) = B at *
        have t3 : B * (2 * Phi * B) = 2 * Phi * (B * B) := by grind
        have t4 : B * (2 * Phi) * B = 2 * Phi * (B * B) := by grind
        have t5 : cP * (B * B) = 2 * Phi * (B * B) + 2 * Phi * (B * B) := by unfold cP; grind
        omega
    have un : g2 C p i * ig fi i ≠ 0 := fun z => by
      rcases Int.mul_eq_zero.mp z with z | z
      · exact hn z
      · have := F.wk
        omega
    by_cases hneg : g2 C p i * ig fi i < 0
    · rw [if_pos hneg]
      exact gen (-(g2 C p i * ig fi i)) (-(ig w k * g2 C p k)) (by omega) (by grind) (by rw [Int.natAbs_neg]) (by rw [Int.natAbs_neg])
    · rw [if_neg hneg]
      exact gen (g2 C p i * ig fi i) (ig w k * g2 C p k) (by omega) (by grind) rfl rfl
end K36

set_option Elab.async false
set_option linter.all false
set_option maxRecDepth 100000
set_option maxHeartbeats 4000000
set_option autoImplicit false
set_option exponentiation.threshold 300
/-! Law k36: all readers. -/
namespace K36
open PySem PySem.Spec PyProof.Rows L2 Pv
theorem Bf_le (f : Nat) : Bf f ≤ 2 * Phi := by
  unfold Bf
  split
  · unfold Phi; omega
  · split
    · unfold Phi; omega
    · exact Nat.le_refl _
theorem RdI.skip {C : Mat} {piv : List (Option Nat)} {n k i : Nat} {w : List Int} (R : RdI C piv n k i w) (hp : pg piv i = none) : RdI C piv n k (i + 1) w := by
  have pw : cP ^ (2 ^ i - 1) ≤ cP ^ (2 ^ (i + 1) - 1) := Nat.pow_le_pow_right cP_pos (by
    have : 2 ^ (i + 1) = 2 ^ i * 2 := Nat.pow_succ 2 i
    omega)
  refine ⟨R.len, R.wk, fun r h1 h2 => R.sup r h1 (by omega), fun i' p' h1 h2 => ?_, fun x hx => Nat.le_trans (R.bd x hx) pw⟩
  by_cases e : i' = i
  · subst e
    rw [hp] at h2
    cases h2
  · exact R.orth i' p' (by omega) h2
theorem readGo_ok {A : Mat} {L : Nat} {C : Mat} {piv : List (Option Nat)} {free : List Nat} (S : Stair A L A.length C piv free) {found : Mat} {k : Nat} (hk : k < A.length) (hF : ∀ i, i < k → RdI C piv A.length i i (rg found i)) : ∀ (ps : List (Option Nat)) (i : Nat) (w : List Int), i + ps.length = k → (∀ t, t < ps.length → ps[t]? = some (pg piv (i + t))) → RdI C piv A.length k i w → RdI C piv A.length k k (readGo C found k i ps w)
  | [], i, w, h, _, R => by
    have : i = k := by simpa using h
    subst this
    exact R
  | x :: ps, i, w, h, hx, R => by
    have h0 := hx 0 (by simp)
    rw [Nat.add_zero] at h0
    have h0 : x = pg piv i := by simpa using h0
    have hx' : ∀ t, t < ps.length → ps[t]? = some (pg piv (i + 1 + t)) := fun t ht => by
      have := hx (t + 1) (by simpa using ht)
      rw [List.getElem?_cons_succ] at this
      rw [this, show i + (t + 1) = i + 1 + t by omega]
    have hik : i < k := by simp at h; omega
    cases x with
    | none => exact readGo_ok S hk hF ps (i + 1) w (by simp at h; omega) hx' (R.skip h0.symm)
    | some p =>
      obtain ⟨a1, a2, a3, a4⟩ := S.piv_ i p (by omega) h0.symm
      exact readGo_ok S hk hF ps (i + 1) _ (by simp at h; omega) hx' (R.elim (hF i hik) hik (W := A.length + L) (by omega) h0.symm (S.keep.cols.col p a1) a4 a3 (S.bd.more (Bf_le _) p a1))
theorem unit_rd {C : Mat} {piv : List (Option Nat)} {n k : Nat} (hk : k < n) : RdI C piv n k 0 (unit n k) where
  len := unit_len n k
  wk := by rw [unit_ig hk, if_pos rfl]; omega
  sup := fun r h1 _ => by
    by_cases hr : r < n
    · rw [unit_ig hr, if_neg h1]
    · rw [ig_out (by rw [unit_len]; omega)]
  orth := fun i' p' h => by omega
  bd := fun x hx => by
    unfold unit at hx
    obtain ⟨r, _, e⟩ := List.mem_map.mp hx
    have : 2 ^ 0 - 1 = 0 := rfl
    rw [this, Nat.pow_zero]
    split at e <;> omega
/-- the readers of rows below k -/
def readers (C : Mat) (piv : List (Option Nat)) (n : Nat) : Nat → Mat
  | 0 => []
  | k + 1 => readers C piv n k ++ [readGo C (readers C piv n k) k 0 (piv.take k) (unit n k)]
theorem readers_len (C : Mat) (piv : List (Option Nat)) (n : Nat) : ∀ k, (readers C piv n k).length = k
  | 0 => rfl
  | k + 1 => by simp [readers, readers_len C piv n k]
theorem readers_ok {A : Mat} {L : Nat} {C : Mat} {piv : List (Option Nat)} {free : List Nat} (S : Stair A L A.length C piv free) : ∀ k, k ≤ A.length → ∀ i, i < k → RdI C piv A.length i i (rg (readers C piv A.length k) i)
  | 0, _, i, h => by omega
  | k + 1, hk, i, h => by
    have ih := readers_ok S k (by omega)
    have rl := readers_len C piv A.length k
    have e : rg (readers C piv A.length (k + 1)) i = if i < k then rg (readers C piv A.length k) i else readGo C (readers C piv A.length k) k 0 (piv.take k) (unit A.length k) := by
      unfold rg
      show (readers C piv A.length k ++ [_]).getD i [] = _
      rw [List.getD_eq_getElem?_getD, List.getD_eq_getElem?_getD]
      by_cases z : i < k
      · rw [if_pos z, List.getElem?_append_left (by omega)]
      · rw [if_neg z, List.getElem?_append_right (by omega), rl, show i - k = 0 by omega]
        rfl
    rw [e]
    split
    · rename_i z
      exact ih i z
    · have ek : i = k := by omega
      subst ek
      refine readGo_ok S (by omega) ih (piv.take i) 0 _ (by rw [List.length_take, S.pl]; omega) (fun t ht => ?_) (unit_rd (by omega))
      rw [List.length_take] at ht
      rw [List.getElem?_take, if_pos (by omega), Nat.zero_add]
      unfold pg
      rw [List.getD_eq_getElem?_getD, List.getElem?_eq_getElem (by omega)]
      rfl
end K36

set_option Elab.async false
set_option linter.all false
set_option maxRecDepth 100000
set_option maxHeartbeats 4000000
set_option autoImplicit false
set_option exponentiation.threshold 300
/-! Law k36: whole_readers evaluated. -/
namespace K36
open PySem PySem.Spec PyProof.Rows L2 Pv
theorem cP_60 : cP < 2 ^ 60 := by unfold cP Phi; decide
theorem cP_big {i : Nat} (h : i ≤ 4) : cP ^ (2 ^ i - 1) < 2 ^ 9000 := by
  have h1 : 2 ^ i ≤ 2 ^ 4 := Nat.pow_le_pow_right (by omega) h
  have h2 : cP ^ (2 ^ i - 1) ≤ cP ^ 15 := Nat.pow_le_pow_right cP_pos (by omega)
  have h3 : cP ^ 15 ≤ (2 ^ 60) ^ 15 := Nat.pow_le_pow_left (Nat.le_of_lt cP_60) 15
  rw [← Nat.pow_mul] at h3
  exact Nat.lt_of_le_of_lt (Nat.le_trans h2 h3) (Nat.pow_lt_pow_right (by decide) (by decide))
theorem RdI.sm {C : Mat} {piv : List (Option Nat)} {n k i : Nat} {w : List Int} (R : RdI C piv n k i w) (h : i ≤ 4) : SmL w := fun x hx => Nat.lt_of_le_of_lt (R.bd x hx) (cP_big h)
theorem lin_sm {C : Mat} {piv : List (Option Nat)} {n k i : Nat} {w fi : List Int} (R : RdI C piv n k i w) (F : RdI C piv n i i fi) (hi : i < 4) {u a : Int} (hu : u.natAbs ≤ 2 * Phi * cP ^ (2 ^ i - 1)) (ha : a.natAbs ≤ cP ^ (2 ^ i - 1) * (2 * Phi)) : sm u ∧ sm a ∧ SmL (lin w fi u a) := by
  have pe : cP ^ (2 ^ (i + 1) - 1) = cP * (cP ^ (2 ^ i - 1) * cP ^ (2 ^ i - 1)) := by
    rw [← Nat.pow_add, ← Nat.pow_succ']
    congr 1
    have : 2 ^ (i + 1) = 2 ^ i * 2 := Nat.pow_succ 2 i
    have : 0 < 2 ^ i := Nat.pow_pos (by omega)
    omega
  have big := cP_big (i := i + 1) (by omega)
  have b1 := R.bd
  have b2 := F.bd
  rw [pe] at big
  have Bp : 0 < cP ^ (2 ^ i - 1) := Nat.pow_pos cP_pos
  generalize cP ^ (2 ^ i - 1) = B at *
  have t5 : cP * (B * B) = 2 * Phi * (B * B) + 2 * Phi * (B * B) := by unfold cP; grind
  have t6 : 2 * Phi * B ≤ 2 * Phi * (B * B) := Nat.mul_le_mul_left _ (Nat.le_mul_of_pos_left B Bp)
  have t7 : B * (2 * Phi) = 2 * Phi * B := Nat.mul_comm _ _
  refine ⟨Nat.lt_of_le_of_lt hu (by omega), Nat.lt_of_le_of_lt ha (by omega), fun x hx => ?_⟩
  obtain ⟨⟨p1, p2⟩, q1, q2⟩ := List.mem_map.mp hx
  have q3 := List.of_mem_zip q1
  have c1 := b1 p1 q3.1
  have c2 := b2 p2 q3.2
  rw [← q2]
  show (p1 * u - a * p2).natAbs < _
  have t1 : (p1 * u).natAbs ≤ B * (2 * Phi * B) := by
    rw [Int.natAbs_mul]
    exact Nat.mul_le_mul c1 hu
  have t2 : (a * p2).natAbs ≤ B * (2 * Phi) * B := by
    rw [Int.natAbs_mul]
    exact Nat.mul_le_mul ha c2
  have t3 : B * (2 * Phi * B) = 2 * Phi * (B * B) := by grind
  have t4 : B * (2 * Phi) * B = 2 * Phi * (B * B) := by grind
  omega
theorem loop_inner {A : Mat} {L : Nat} {C : Mat} {piv : List (Option Nat)} {free : List Nat} (S : Stair A L A.length C piv free) (hA : A.length ≤ 4) {n : Nat} (hn : 1 ≤ n) {found : Mat} {k : Nat} (hk : k < A.length) (fl : found.length = k) (hF : ∀ i, i < k → RdI C piv A.length i i (rg found i)) (a1 : Option Sl) : ∀ (ps : List (Option Nat)) (i : Nat) (w : List Int) (sl : Sl) (o4 o6 o7 o8 o10 o11 : Option Sl), i + ps.length = k → (∀ t, t < ps.length → ps[t]? = some (pg piv (i + t))) → RdI C piv A.length k i w → (sl = .ow (iL w) ∨ sl = .va (eL w)) →
    ∃ (sl' : Sl) (o4' o6' o7' o8' o10' o11' : Option Sl), (sl' = .ow (iL (readGo C found k i ps w)) ∨ sl' = .va (eL (readGo C found k i ps w))) ∧ forL (gT (gsCons (gN 4) (gsCons (gN 6) gsNil))) (b_whole_readers_2 (evf tb n)) (enumD i (pvL ps)) [some (.va (.list (mL C))), a1, some (.ow (mL found)), some (.va (.int k)), o4, some sl, o6, o7, o8, none, o10, o11] =
      some (.nx, [some (.va (.list (mL C))), a1, some (.ow (mL found)), some (.va (.int k)), o4', some sl', o6', o7', o8', none, o10', o11'])
  | [], i, w, sl, o4, o6, o7, o8, o10, o11, _, _, _, hs => ⟨sl, o4, o6, o7, o8, o10, o11, by simpa [readGo] using hs, by simp [pvL, enumD]⟩
  | none :: ps, i, w, sl, o4, o6, o7, o8, o10, o11, h, hx, R, hs => by
    have h0 : none = pg piv i := by simpa using hx 0 (by simp)
    have hx' : ∀ t, t < ps.length → ps[t]? = some (pg piv (i + 1 + t)) := fun t ht => by
      have := hx (t + 1) (by simpa using ht)
      rw [List.getElem?_cons_succ] at this
      rw [this, show i + (t + 1) = i + 1 + t by omega]
    obtain ⟨sl', p4, p6, p7, p8, p10, p11, e1, e2⟩ := loop_inner S hA hn hk fl hF a1 ps (i + 1) w sl (some (.va (.int (i : Nat)))) (some (.va .none)) o7 o8 o10 o11 (by simp at h; omega) hx' (R.skip h0.symm) hs
    refine ⟨sl', p4, p6, p7, p8, p10, p11, e1, ?_⟩
    show forL _ _ (.tuple [.int (i : Nat), .none] :: enumD (i + 1) (pvL ps)) _ = _
    rw [forL_cons]
    simp
    exact e2
  | some p :: ps, i, w, sl, o4, o6, o7, o8, o10, o11, h, hx, R, hs => by
    have h0 : some p = pg piv i := by simpa using hx 0 (by simp)
    have hx' : ∀ t, t < ps.length → ps[t]? = some (pg piv (i + 1 + t)) := fun t ht => by
      have := hx (t + 1) (by simpa using ht)
      rw [List.getElem?_cons_succ] at this
      rw [this, show i + (t + 1) = i + 1 + t by omega]
    have hik : i < k := by simp at h; omega
    obtain ⟨a1', a2, a3, a4⟩ := S.piv_ i p (by omega) h0.symm
    have cl := S.keep.cols.col p a1'
    have pC : p < C.length := by rw [S.keep.cols.len]; exact a1'
    have fi : i < found.length := by omega
    have F := hF i hik
    have cb := S.bd.more (Bf_le _) p a1'
    have R' := R.elim F hik (W := A.length + L) (by omega) h0.symm cl a4 a3 cb
    have kc : k < (rg C p).length := by omega
    have ic : i < (rg C p).length := by omega
    have iF : i < (rg found i).length := by rw [F.len]; omega
    have kw : k < w.length := by rw [R.len]; omega
    have gz : ig (rg C p) k = g2 C p k := rfl
    have gi : ig (rg C p) i = g2 C p i := rfl
    by_cases hz : g2 C p k = 0
    · have el : elim C k i p (rg found i) w = w := by unfold elim; rw [if_neg (by simpa using hz)]
      rw [el] at R'
      obtain ⟨sl', p4, p6, p7, p8, p10, p11, e1, e2⟩ := loop_inner S hA hn hk fl hF a1 ps (i + 1) w sl (some (.va (.int (i : Nat)))) (some (.va (.int (p : Nat)))) o7 o8 o10 o11 (by simp at h; omega) hx' R' hs
      refine ⟨sl', p4, p6, p7, p8, p10, p11, by unfold readGo; rw [el]; exact e1, ?_⟩
      show forL _ _ (.tuple [.int (i : Nat), .int (p : Nat)] :: enumD (i + 1) (pvL ps)) _ = _
      rw [forL_cons]
      simp [mL_atN pC, iL_atN kc, gz, hz]
      exact e2
    · have ci : (g2 C p i).natAbs ≤ 2 * Phi := cb _ (ig_mem ic)
      have ck : (g2 C p k).natAbs ≤ 2 * Phi := cb _ (ig_mem kc)
      have bi := F.bd _ (ig_mem iF)
      have bk := R.bd _ (ig_mem kw)
      have hu : (g2 C p i * ig (rg found i) i).natAbs ≤ 2 * Phi * cP ^ (2 ^ i - 1) := by rw [Int.natAbs_mul]; exact Nat.mul_le_mul ci bi
      have ha : (ig w k * g2 C p k).natAbs ≤ cP ^ (2 ^ i - 1) * (2 * Phi) := by rw [Int.natAbs_mul]; exact Nat.mul_le_mul bk ck
      have sC : ∀ x ∈ rg C p, sm x := fun x hx => Nat.lt_of_le_of_lt (cb x hx) phi_big
      have sw := R.sm (by omega)
      have sf := F.sm (by omega)
      have m1 := fMul_sm (sw _ (ig_mem kw)) (sC _ (ig_mem kc))
      have m2 := fMul_sm (sC _ (ig_mem ic)) (sf _ (ig_mem iF))
      rw [gz] at m1
      rw [gi] at m2
      have go : ∀ u a : Int, elim C k i p (rg found i) w = lessen (lin w (rg found i) u a) → sm u → sm a → SmL (lin w (rg found i) u a) →
          ∃ (sl' : Sl) (o4' o6' o7' o8' o10' o11' : Option Sl), (sl' = .ow (iL (readGo C found k i (some p :: ps) w)) ∨ sl' = .va (eL (readGo C found k i (some p :: ps) w))) ∧
            evf tb n "lessened" none [eL (lin w (rg found i) u a)] = some (.nw (iL (lessen (lin w (rg found i) u a))), none) ∧
            lcL [9, 10, 11] (gT (gsCons (gN 10) (gsCons (gN 11) gsNil))) sYes (e_whole_readers_1 (evf tb n)) (pL (w.zip (rg found i))) [some (.va (.list (mL C))), a1, some (.ow (mL found)), some (.va (.int k)), some (.va (.int (i : Nat))), some (.va (eL w)), some (.va (.int (p : Nat))), some (.va (.int a)), some (.va (.int u)), none, none, none] [] =
              some (iL (lin w (rg found i) u a), [some (.va (.list (mL C))), a1, some (.ow (mL found)), some (.va (.int k)), some (.va (.int (i : Nat))), some (.va (eL w)), some (.va (.int (p : Nat))), some (.va (.int a)), some (.va (.int u)), none, none, none]) ∧
            forL (gT (gsCons (gN 4) (gsCons (gN 6) gsNil))) (b_whole_readers_2 (evf tb n)) (enumD (i + 1) (pvL ps)) [some (.va (.list (mL C))), a1, some (.ow (mL found)), some (.va (.int k)), some (.va (.int (i : Nat))), some (.ow (iL (lessen (lin w (rg found i) u a)))), some (.va (.int (p : Nat))), some (.va (.int a)), some (.va (.int u)), none, o10, o11] =
              some (.nx, [some (.va (.list (mL C))), a1, some (.ow (mL found)), some (.va (.int k)), o4', some sl', o6', o7', o8', none, o10', o11']) := fun u a el su sa sl0 => by
        rw [el] at R'
        obtain ⟨sl', p4, p6, p7, p8, p10, p11, e1, e2⟩ := loop_inner S hA hn hk fl hF a1 ps (i + 1) _ (.ow (iL (lessen (lin w (rg found i) u a)))) (some (.va (.int (i : Nat)))) (some (.va (.int (p : Nat)))) (some (.va (.int a))) (some (.va (.int u))) o10 o11 (by simp at h; omega) hx' R' (.inl rfl)
        refine ⟨sl', p4, p6, p7, p8, p10, p11, by unfold readGo; rw [el]; exact e1, ev_lessened (n := n) hn (.L _) sl0 (by rw [lin_len R.len F.len]; omega), ?_, e2⟩
        exact lcP (fun x => x.1 * u - a * x.2) (w.zip (rg found i)) (by rw [List.length_zip, R.len]; omega) fun x y hxy => by
          have := List.of_mem_zip hxy
          simp [lcOne, fMul_sm (sw x this.1) su, fMul_sm sa (sf y this.2)]
      by_cases hneg : g2 C p i * ig (rg found i) i < 0
      · have el : elim C k i p (rg found i) w = lessen (lin w (rg found i) (-(g2 C p i * ig (rg found i) i)) (-(ig w k * g2 C p k))) := by
          unfold elim
          rw [if_pos hz, if_pos hneg]
          rfl
        obtain ⟨t1, t2, t3⟩ := lin_sm R F (by omega) (u := -(g2 C p i * ig (rg found i) i)) (a := -(ig w k * g2 C p k)) (by rw [Int.natAbs_neg]; exact hu) (by rw [Int.natAbs_neg]; exact ha)
        obtain ⟨sl', p4, p6, p7, p8, p10, p11, e1, e3, e4, e2⟩ := go _ _ el t1 t2 t3
        refine ⟨sl', p4, p6, p7, p8, p10, p11, e1, ?_⟩
        show forL _ _ (.tuple [.int (i : Nat), .int (p : Nat)] :: enumD (i + 1) (pvL ps)) _ = _
        rw [forL_cons]
        rcases hs with rfl | rfl <;> simp [mL_atN pC, mL_atN fi, iL_atN kc, iL_atN ic, iL_atN iF, iL_atN kw, gz, gi, hz, m1, m2, hneg, zipD_ints, e4, e3] <;> exact e2
      · have el : elim C k i p (rg found i) w = lessen (lin w (rg found i) (g2 C p i * ig (rg found i) i) (ig w k * g2 C p k)) := by
          unfold elim
          rw [if_pos hz, if_neg hneg]
          rfl
        obtain ⟨t1, t2, t3⟩ := lin_sm R F (by omega) hu ha
        obtain ⟨sl', p4, p6, p7, p8, p10, p11, e1, e3, e4, e2⟩ := go _ _ el t1 t2 t3
        refine ⟨sl', p4, p6, p7, p8, p10, p11, e1, ?_⟩
        show forL _ _ (.tuple [.int (i : Nat), .int (p : Nat)] :: enumD (i + 1) (pvL ps)) _ = _
        rw [forL_cons]
        rcases hs with rfl | rfl <;> simp [mL_atN pC, mL_atN fi, iL_atN kc, iL_atN ic, iL_atN iF, iL_atN kw, gz, gi, hz, m1, m2, hneg, zipD_ints, e4, e3] <;> exact e2
theorem enumD_nil (i : Nat) : enumD i [] = [] := rfl
theorem cut_take (xs : List D) (k : Nat) (h : k ≤ xs.length) : Pv.cutD xs none (some (k : Int)) = xs.take k := by
  unfold Pv.cutD
  rw [HT.sIx_none, HT.sIx_nat, Nat.min_eq_left h]
  simp
theorem loop_outer {A : Mat} {L : Nat} {C : Mat} {piv : List (Option Nat)} {free : List Nat} (S : Stair A L A.length C piv free) (hA : A.length ≤ 4) {n : Nat} (hn : 1 ≤ n) : ∀ (t k : Nat) (sl1 : Sl) (o3 o4 o5 o6 o7 o8 o10 o11 : Option Sl), k + t = A.length →
    ∃ (o3' o4' o5' o6' o7' o8' o10' o11' : Option Sl), forL (gN 3) (b_whole_readers_4 (evf tb n)) (nL (List.range' k t)) [some (.va (.list (mL C))), some (.va (.list (pvL piv))), some (.ow (mL (readers C piv A.length k))), o3, o4, o5, o6, o7, o8, none, o10, o11] =
      some (.nx, [some (.va (.list (mL C))), some (.va (.list (pvL piv))), some (.ow (mL (readers C piv A.length A.length))), o3', o4', o5', o6', o7', o8', none, o10', o11'])
  | 0, k, _, o3, o4, o5, o6, o7, o8, o10, o11, h => by
    have : k = A.length := by omega
    subst this
    exact ⟨o3, o4, o5, o6, o7, o8, o10, o11, by simp⟩
  | t + 1, k, sl1, o3, o4, o5, o6, o7, o8, o10, o11, h => by
    have kA : k < A.length := by omega
    have rd := readers_ok S k (by omega)
    have rl := readers_len C piv A.length k
    obtain ⟨sl', p4, p6, p7, p8, p10, p11, e1, e2⟩ := loop_inner S hA hn kA rl rd (some (.va (.list (pvL piv)))) (piv.take k) 0 (unit A.length k) (.ow (iL (unit A.length k))) o4 o6 o7 o8 o10 o11 (by rw [List.length_take, S.pl]; omega) (fun t ht => by
      rw [List.length_take] at ht
      rw [List.getElem?_take, if_pos (by omega), Nat.zero_add]
      unfold pg
      rw [List.getD_eq_getElem?_getD, List.getElem?_eq_getElem (by omega)]
      rfl) (unit_rd kA) (.inl rfl)
    obtain ⟨q3, q4, q5, q6, q7, q8, q10, q11, e⟩ := loop_outer S hA hn t (k + 1) sl1 (some (.va (.int (k : Nat)))) p4 (some (.va (eL (readGo C (readers C piv A.length k) k 0 (piv.take k) (unit A.length k))))) p6 p7 p8 p10 p11 (by omega)
    refine ⟨q3, q4, q5, q6, q7, q8, q10, q11, ?_⟩
    have lc := lcN (own := [9, 4]) (g := gN 4) (te := e_whole_readers_3 (evf tb n)) (ρ := [some (.va (.list (mL C))), some (.va (.list (pvL piv))), some (.ow (mL (readers C piv A.length k))), some (.va (.int (k : Nat))), none, o5, o6, o7, o8, none, o10, o11]) (fun r => if r = k then 1 else 0) (List.range A.length) (by simp; omega) fun x _ => by
      by_cases h : x = k
      · simp [lcOne, h]
      · have h' : ¬ ((x : Int) = (k : Int)) := by omega
        simp [lcOne, h, h']
    rw [show (List.range A.length).map (fun r => if r = k then (1 : Int) else 0) = unit A.length k from rfl] at lc
    have m62 : A.length < 2 ^ 62 := by omega
    have cut := cut_take (pvL piv) k (by rw [pvL_len, S.pl]; omega)
    rw [show (pvL piv).take k = pvL (piv.take k) by unfold pvL; rw [List.map_take]] at cut
    have sd : slD (.list (pvL piv)) none (some (k : Int)) = some (.nw (pvL (piv.take k))) := by
      show some (Rs.nw (Pv.cutD (pvL piv) none (some (k : Int)))) = _
      rw [cut]
    have fl : (readers C piv A.length k).length < 100000 := by omega
    have app : mL (readers C piv A.length k) ++ [eL (readGo C (readers C piv A.length k) k 0 (piv.take k) (unit A.length k))] = mL (readers C piv A.length (k + 1)) := by
      show _ = mL (readers C piv A.length k ++ [_])
      rw [mL_app]
      rfl
    rw [List.range'_succ, nL_cons, forL_cons]
    simp [S.pl, m62, rgD0, lc, sd, e2]
    rcases e1 with rfl | rfl <;> simp [fl, app] <;> exact e
theorem ev_whole_readers {A : Mat} {L : Nat} {C : Mat} {piv : List (Option Nat)} {free : List Nat} (S : Stair A L A.length C piv free) (hA : A.length ≤ 4) {n : Nat} (hn : 2 ≤ n) :
    evf tb n "whole_readers" none [.list (mL C), .list (pvL piv)] = some (.va (.list (mL (readers C piv A.length A.length))), none) := by
  obtain ⟨n, rfl⟩ : ∃ m, n = m + 1 := ⟨n - 1, by omega⟩
  rw [fi_whole_readers, run_whole_readers]
  obtain ⟨q3, q4, q5, q6, q7, q8, q10, q11, e⟩ := loop_outer S hA (n := n) (by omega) A.length 0 (.va .none) none none none none none none none none (by omega)
  rw [← List.range_eq_range', show mL (readers C piv A.length 0) = [] from rfl] at e
  have m62 : A.length < 2 ^ 62 := by omega
  simp [S_whole_readers, S.pl, m62, rgD0, e]
end K36

set_option Elab.async false
set_option linter.all false
set_option maxRecDepth 100000
set_option maxHeartbeats 4000000
set_option autoImplicit false
set_option exponentiation.threshold 300
/-! Law k36: what a reader reads. -/
namespace K36
open PySem PySem.Spec PyProof.Rows L2 Pv
theorem dot_app : ∀ (y a b : List Int), y.length = a.length → dot y (a ++ b) = dot y a
  | [], a, b, _ => by rw [dot_nil, dot_nil]
  | u :: y, [], b, h => by simp at h
  | u :: y, v :: a, b, h => by rw [List.cons_append, dot_cons, dot_cons, dot_app y a b (by simpa using h)]
section
variable {A : Mat} {L : Nat} {C : Mat} {piv : List (Option Nat)} {free : List Nat}
theorem read_col (S : Stair A L A.length C piv free) {k : Nat} (hk : k < A.length) {y : List Int} (R : RdI C piv A.length k k y) {j : Nat} (hj : j < L) : dot y (rg C j) = if pg piv k = some j then ig y k * g2 C j k else 0 := by
  have cl := S.keep.cols.col j hj
  rcases S.cov j hj with hf | ⟨i, hi, hp⟩
  · have z : ∀ r, r < A.length → ig (rg C j) r = 0 := fun r hr => S.zero j hf r hr
    have e : dot y (rg C j) = ig y k * ig (rg C j) k := dot_supp y (rg C j) k (fun r hr => by
      by_cases h : r < A.length
      · exact .inr (z r h)
      · exact .inl (ig_out (by rw [R.len]; omega))) (by omega)
    rw [e, z k hk, Int.mul_zero, if_neg]
    intro hp
    exact (S.piv_ k j hk hp).2.1 hf
  · obtain ⟨a1, a2, a3, a4⟩ := S.piv_ i j hi hp
    rcases Nat.lt_trichotomy i k with h | h | h
    · rw [R.orth i j h hp, if_neg]
      intro hp2
      have := S.dist i k j hi hk hp hp2
      omega
    · subst h
      rw [if_pos hp]
      exact dot_supp y (rg C j) i (fun r hr => by
        by_cases h : r < i
        · exact .inr (a4 r h)
        · exact .inl (R.sup r hr (by omega))) (by omega)
    · have e : dot y (rg C j) = ig y k * ig (rg C j) k := dot_supp y (rg C j) k (fun r hr => by
        by_cases h2 : r < i
        · exact .inr (a4 r h2)
        · exact .inl (R.sup r hr (by omega))) (by omega)
      have z : ig (rg C j) k = 0 := a4 k h
      rw [e, z, Int.mul_zero, if_neg]
      intro hp2
      have := S.dist i k j hi hk hp hp2
      omega
theorem read_A (S : Stair A L A.length C piv free) {k : Nat} (hk : k < A.length) {y : List Int} (R : RdI C piv A.length k k y) {D : Int} (hD : ∀ p, pg piv k = some p → D ∣ ig y k * g2 C p k) : ∀ i, i < L → D ∣ dot y (colL A i) := fun i hi => by
  have := S.keep.uni y D (fun j hj => by
    rw [read_col S hk R hj]
    split
    · rename_i h
      exact hD j h
    · exact Int.dvd_zero D) i hi
  unfold col0 at this
  rw [dot_app _ _ _ (by rw [R.len]; simp [colL])] at this
  exact this
end
end K36

set_option Elab.async false
set_option linter.all false
set_option maxRecDepth 100000
set_option maxHeartbeats 4000000
set_option autoImplicit false
set_option exponentiation.threshold 300
/-! Law k36: remainders. -/
namespace K36
open PySem PySem.Spec PyProof.Rows L2 Pv
/-- what a remainder shows: no whole numbers keep the equations -/
structure RemOk (rs : List Row) (L : Nat) (y : List Int) (d : Int) : Prop where
  len : y.length = rs.length
  two : 2 ≤ d
  dv : ∀ i, i < L → d ∣ dot y (colL (mat rs) i)
  nd : ¬ d ∣ dot y (rs.map (·.2))
/-- sums that differ at place k alone -/
theorem dot_diff : ∀ (y u v : List Int) (k : Nat), u.length = v.length → y.length = u.length → k < u.length → (∀ r, r ≠ k → ig y r = 0 ∨ ig u r = ig v r) → dot y u = dot y v + ig y k * (ig u k - ig v k)
  | [], u, v, k, _, h2, hk, _ => by simp at h2; omega
  | a :: y, [], v, k, _, _, hk, _ => by simp at hk
  | a :: y, p :: u, [], k, h, _, _, _ => by simp at h
  | a :: y, p :: u, q :: v, 0, h1, h2, _, h => by
    have e : ∀ (y u v : List Int), u.length = v.length → (∀ r, ig y r = 0 ∨ ig u r = ig v r) → dot y u = dot y v := by
      intro y
      induction y with
      | nil => intro u v _ _; rw [dot_nil, dot_nil]
      | cons b y ih =>
        intro u v hl hr
        cases u with
        | nil =>
          have : v = [] := List.length_eq_zero_iff.mp (by simpa using hl.symm)
          rw [this]
        | cons s u =>
          cases v with
          | nil => simp at hl
          | cons t v =>
            rw [dot_cons, dot_cons, ih u v (by simpa using hl) fun r => hr (r + 1)]
            have h0 : b = 0 ∨ s = t := hr 0
            rcases h0 with z | z <;> rw [z]
            simp
    rw [dot_cons, dot_cons, e y u v (by simpa using h1) fun r => h (r + 1) (by omega)]
    show a * p + dot y v = a * q + dot y v + a * (p - q)
    grind
  | a :: y, p :: u, q :: v, k + 1, h1, h2, hk, h => by
    rw [dot_cons, dot_cons, dot_diff y u v k (by simpa using h1) (by simpa using h2) (by simpa using hk) fun r hr => h (r + 1) (by omega)]
    have h0 : a = 0 ∨ p = q := h 0 (by omega)
    show a * p + (dot y v + ig y k * (ig u k - ig v k)) = a * q + dot y v + ig y k * (ig u k - ig v k)
    rcases h0 with z | z <;> rw [z] <;> grind
theorem dot_app_r : ∀ (y z u : List Int), y.length = u.length → dot (y ++ z) u = dot y u
  | [], z, [], _ => by rw [dot_nil', dot_nil']
  | [], z, _ :: _, h => by simp at h
  | _ :: _, z, [], h => by simp at h
  | a :: y, z, b :: u, h => by rw [List.cons_append, dot_cons, dot_cons, dot_app_r y z u (by simpa using h)]
theorem dvd_dot {d : Int} : ∀ (u x : List Int), (∀ a ∈ u, d ∣ a) → d ∣ dot u x
  | [], x, _ => by rw [dot_nil]; exact Int.dvd_zero d
  | a :: u, [], _ => by rw [dot_nil']; exact Int.dvd_zero d
  | a :: u, b :: x, h => by
    rw [dot_cons]
    exact Int.dvd_add (Int.dvd_trans (h a List.mem_cons_self) (Int.dvd_mul_right a b)) (dvd_dot u x fun z hz => h z (List.mem_cons_of_mem _ hz))
section
variable {rs : List Row} {L : Nat} {C : Mat} {piv : List (Option Nat)} {free : List Nat}
theorem mat_rg {k : Nat} (hk : k < rs.length) : rg (mat rs) k = (rowG rs k).1 := by
  unfold rg rowG
  rw [List.getD_eq_getElem?_getD, List.getD_eq_getElem?_getD, List.getElem?_map, List.getElem?_eq_getElem hk]
  rfl
theorem snd_ig {k : Nat} (hk : k < rs.length) : ig (rs.map (·.2)) k = (rowG rs k).2 := by
  unfold ig rowG
  rw [List.getD_eq_getElem?_getD, List.getD_eq_getElem?_getD, List.getElem?_map, List.getElem?_eq_getElem hk]
  rfl
theorem map_ig {k : Nat} (hk : k < rs.length) (x : List Int) : ig (rs.map fun r => dot r.1 x) k = dot (rowG rs k).1 x := by
  unfold ig rowG
  rw [List.getD_eq_getElem?_getD, List.getD_eq_getElem?_getD, List.getElem?_map, List.getElem?_eq_getElem hk]
  rfl
/-- the reader's sum of the right sides -/
theorem read_b (G : GoodRows rs L) {k : Nat} (hk : k < rs.length) {y x : List Int} (R : RdI C piv rs.length k k y) (xl : x.length = L) (hx : ∀ r, r < k → dot (rowG rs r).1 x = (rowG rs r).2) :
    dot y (rs.map (·.2)) = dot ((List.range L).map fun i => dot y (colL (mat rs) i)) x + ig y k * ((rowG rs k).2 - dot (rowG rs k).1 x) := by
  rw [exch G.hL xl rs y G.rl]
  rw [dot_diff y (rs.map (·.2)) (rs.map fun r => dot r.1 x) k (by simp) (by rw [R.len]; simp) (by simpa using hk) fun r hr => ?_]
  · rw [snd_ig hk, map_ig hk]
  · by_cases h : r < k
    · right
      rw [snd_ig (by omega), map_ig (by omega), hx r h]
    · left
      exact R.sup r hr (by omega)
theorem rem_none (G : GoodRows rs L) (S : Stair (mat rs) L (mat rs).length C piv free) {k : Nat} (hk : k < rs.length) {y x : List Int} (R : RdI C piv rs.length k k y) (xl : x.length = L) (hx : ∀ r, r < k → dot (rowG rs r).1 x = (rowG rs r).2) (hp : pg piv k = none) (hl : (rowG rs k).2 - dot (rowG rs k).1 x ≠ 0) :
    RemOk rs L y (((dot y (rs.map (·.2))).natAbs : Int) + 1) := by
  have R' : RdI C piv (mat rs).length k k y := by simpa using R
  have z := read_A S (by simpa using hk) R' (D := 0) fun p h => by rw [hp] at h; cases h
  have z0 : ∀ i, i < L → dot y (colL (mat rs) i) = 0 := fun i hi => Int.zero_dvd.mp (z i hi)
  have b := read_b G hk R xl hx
  have e : dot ((List.range L).map fun i => dot y (colL (mat rs) i)) x = 0 := Int.zero_dvd.mp (dvd_dot _ x fun a ha => by
    obtain ⟨i, hi, e⟩ := List.mem_map.mp ha
    rw [← e, z0 i (List.mem_range.mp hi)]
    exact Int.dvd_zero 0)
  rw [e, Int.zero_add] at b
  have ne : dot y (rs.map (·.2)) ≠ 0 := by
    rw [b]
    intro h
    rcases Int.mul_eq_zero.mp h with w | w
    · have := R.wk
      omega
    · exact hl w
  refine ⟨R.len, by omega, fun i hi => by rw [z0 i hi]; exact Int.dvd_zero _, fun h => ?_⟩
  have := Int.natAbs_dvd_natAbs.mpr h
  have := Nat.le_of_dvd (by omega) this
  omega
theorem ig_snoc (y : List Int) (d : Int) {n : Nat} (h : y.length = n) : ig (y ++ [d]) n = d := by
  subst h
  unfold ig
  rw [List.getD_eq_getElem?_getD, List.getElem?_append_right (Nat.le_refl _)]
  simp
theorem dot_take {z : List Int} {n : Nat} (u : List Int) (h : u.length = n) : dot (z.take n) u = dot z u := by
  induction u generalizing z n with
  | nil => rw [dot_nil', dot_nil']
  | cons a u ih =>
    subst h
    cases z with
    | nil => simp
    | cons b z =>
      rw [List.length_cons, List.take_succ_cons, dot_cons, dot_cons, ih rfl]
theorem rem_some (G : GoodRows rs L) (S : Stair (mat rs) L (mat rs).length C piv free) {k : Nat} (hk : k < rs.length) {y x : List Int} (R : RdI C piv rs.length k k y) (xl : x.length = L) (hx : ∀ r, r < k → dot (rowG rs r).1 x = (rowG rs r).2) {p : Nat} (hp : pg piv k = some p) (hl : ¬ g2 C p k ∣ (rowG rs k).2 - dot (rowG rs k).1 x) :
    RemOk rs L ((lessen (y ++ [((ig y k * g2 C p k).natAbs : Int)])).take rs.length) (ig (lessen (y ++ [((ig y k * g2 C p k).natAbs : Int)])) rs.length) := by
  have R' : RdI C piv (mat rs).length k k y := by simpa using R
  have hp' := S.piv_ k p (by simpa using hk) hp
  have dz := read_A S (by simpa using hk) R' (D := ((ig y k * g2 C p k).natAbs : Int)) fun p' h => by
    rw [hp] at h
    cases h
    exact Int.natAbs_dvd.mpr (Int.dvd_refl _)
  have b := read_b G hk R xl hx
  have wk := R.wk
  have nz : ig y k * g2 C p k ≠ 0 := fun h => by
    rcases Int.mul_eq_zero.mp h with w | w
    · omega
    · exact hp'.2.2.1 w
  have nd0 : ¬ ((ig y k * g2 C p k).natAbs : Int) ∣ dot y (rs.map (·.2)) := fun h => by
    rw [b] at h
    have d1 : ((ig y k * g2 C p k).natAbs : Int) ∣ dot ((List.range L).map fun i => dot y (colL (mat rs) i)) x := dvd_dot _ x fun a ha => by
      obtain ⟨i, hi, e⟩ := List.mem_map.mp ha
      rw [← e]
      exact dz i (List.mem_range.mp hi)
    have d2 := (Int.dvd_add_right d1).mp h
    have d3 := Int.natAbs_dvd.mp d2
    exact hl (Int.dvd_of_mul_dvd_mul_left (by omega) d3)
  obtain ⟨c, hc, e⟩ := lessen_spec (y ++ [((ig y k * g2 C p k).natAbs : Int)])
  have zl : (lessen (y ++ [((ig y k * g2 C p k).natAbs : Int)])).length = rs.length + 1 := by rw [lessen_len]; simp [R.len]
  generalize lessen (y ++ [((ig y k * g2 C p k).natAbs : Int)]) = z at *
  -- the parts
  have eD : ((ig y k * g2 C p k).natAbs : Int) = c * ig z rs.length := by
    rw [← ig_map_mul, ← e]
    exact (ig_snoc y _ R.len).symm
  have ey : ∀ u : List Int, u.length = rs.length → dot y u = c * dot (z.take rs.length) u := fun u hu => by
    rw [dot_take u hu, ← dot_app_r y _ u (by rw [R.len, hu]), e, dot_comm, dot_map_mul, dot_comm]
  have Dp : 0 < ig z rs.length := by
    rcases Int.lt_or_le 0 (ig z rs.length) with w | w
    · exact w
    · have := Int.mul_nonpos_of_nonneg_of_nonpos (Int.le_of_lt hc) w
      omega
  have ndv : ¬ ig z rs.length ∣ dot (z.take rs.length) (rs.map (·.2)) := fun h => nd0 (by
    rw [eD, ey _ (by simp)]
    exact Int.mul_dvd_mul_left c h)
  refine ⟨by rw [List.length_take]; omega, ?_, fun i hi => ?_, ndv⟩
  · rcases Int.lt_or_le 1 (ig z rs.length) with w | w
    · omega
    · exfalso
      have : ig z rs.length = 1 := by omega
      exact ndv (by rw [this]; exact Int.one_dvd _)
  · have := dz i hi
    rw [eD, ey _ (by simp [colL])] at this
    exact Int.dvd_of_mul_dvd_mul_left (by omega) this
end
end K36

set_option Elab.async false
set_option linter.all false
set_option maxRecDepth 100000
set_option maxHeartbeats 4000000
set_option autoImplicit false
set_option exponentiation.threshold 300
/-! Law k36: solutions, row by row. -/
namespace K36
open PySem PySem.Spec PyProof.Rows L2 Pv
def stepX (x t : List Int) (q : Int) : List Int := (x.zip t).map fun p => p.1 + q * p.2
theorem stepX_len {x t : List Int} {q : Int} {L : Nat} (h1 : x.length = L) (h2 : t.length = L) : (stepX x t q).length = L := by simp [stepX, h1, h2]
theorem stepX_dot (q : Int) : ∀ (r x t : List Int), x.length = t.length → dot r (stepX x t q) = dot r x + q * dot r t
  | [], x, t, _ => by rw [dot_nil, dot_nil, dot_nil]; simp
  | a :: r, [], [], _ => by rw [show stepX [] [] q = [] from rfl, dot_nil']; simp
  | a :: r, [], _ :: _, h => by simp at h
  | a :: r, _ :: _, [], h => by simp at h
  | a :: r, u :: x, v :: t, h => by
    have ih := stepX_dot q r x t (by simpa using h)
    show dot (a :: r) ((u + q * v) :: stepX x t q) = _
    rw [dot_cons, dot_cons, dot_cons, ih]
    grind
/-- what is kept of x ahead of row k -/
structure SolI (rs : List Row) (L k : Nat) (x : List Int) : Prop where
  len : x.length = L
  eq : ∀ r, r < k → dot (rowG rs r).1 x = (rowG rs r).2
  bd : ∀ a ∈ x, a.natAbs ≤ 2 ^ (80 * (k + 1))
theorem dot_abs {B : Nat} : ∀ (u x : List Int), (∀ a ∈ u, -4 ≤ a ∧ a ≤ 4) → (∀ a ∈ x, a.natAbs ≤ B) → (dot u x).natAbs ≤ 4 * u.length * B
  | [], x, _, _ => by rw [dot_nil]; simp
  | a :: u, [], _, _ => by rw [dot_nil']; simp
  | a :: u, b :: x, h1, h2 => by
    have ih := dot_abs u x (fun z hz => h1 z (List.mem_cons_of_mem _ hz)) (fun z hz => h2 z (List.mem_cons_of_mem _ hz))
    have ha := h1 a List.mem_cons_self
    have hb := h2 b List.mem_cons_self
    have m : (a * b).natAbs ≤ 4 * B := by rw [Int.natAbs_mul]; exact Nat.mul_le_mul (by omega) hb
    rw [dot_cons, List.length_cons]
    have e : 4 * (u.length + 1) * B = 4 * u.length * B + 4 * B := by grind
    rw [e]
    omega
theorem SolI.skip {rs : List Row} {L k : Nat} {x : List Int} (I : SolI rs L k x) (h : dot (rowG rs k).1 x = (rowG rs k).2) : SolI rs L (k + 1) x :=
  ⟨I.len, fun r hr => by
    by_cases e : r = k
    · rw [e]; exact h
    · exact I.eq r (by omega), fun a ha => Nat.le_trans (I.bd a ha) (Nat.pow_le_pow_right (by omega) (by omega))⟩
section
variable {rs : List Row} {L : Nat} {C : Mat} {piv : List (Option Nat)} {free : List Nat}
theorem SolI.step (G : GoodRows rs L) (S : Stair (mat rs) L (mat rs).length C piv free) {k p : Nat} {x : List Int} (I : SolI rs L k x) (hk : k < rs.length) (hp : pg piv k = some p) (hd : g2 C p k ∣ (rowG rs k).2 - dot (rowG rs k).1 x) :
    SolI rs L (k + 1) (stepX x ((rg C p).drop rs.length) (((rowG rs k).2 - dot (rowG rs k).1 x).fdiv (g2 C p k))) := by
  have hp' := S.piv_ k p (by simpa using hk) hp
  have cl := S.keep.cols.col p hp'.1
  have tl : ((rg C p).drop rs.length).length = L := by rw [List.length_drop, cl]; simp
  have rel : ∀ r, r < rs.length → g2 C p r = dot (rowG rs r).1 ((rg C p).drop rs.length) := fun r hr => by
    have := S.keep.rel p hp'.1 r (by simpa using hr)
    unfold relAt at this
    rw [mat_rg hr] at this
    simpa [g2] using this
  have q : (((rowG rs k).2 - dot (rowG rs k).1 x).fdiv (g2 C p k)) * g2 C p k = (rowG rs k).2 - dot (rowG rs k).1 x := Int.fdiv_mul_cancel hd
  refine ⟨stepX_len I.len tl, fun r hr => ?_, fun a ha => ?_⟩
  · rw [stepX_dot _ _ _ _ (by rw [I.len, tl]), ← rel r (by omega)]
    by_cases e : r = k
    · subst e
      omega
    · rw [hp'.2.2.2 r (by omega), Int.mul_zero, Int.add_zero]
      exact I.eq r (by omega)
  · obtain ⟨⟨u, v⟩, h1, h2⟩ := List.mem_map.mp ha
    have h3 := List.of_mem_zip h1
    have b1 := I.bd u h3.1
    have b2 := S.bd.more (Bf_le _) p hp'.1 v (List.mem_of_mem_drop h3.2)
    have qb := fdiv_bd (a := (rowG rs k).2 - dot (rowG rs k).1 x) (b := g2 C p k) hp'.2.2.1
    have db := dot_abs (rowG rs k).1 x (G.rb _ (rowG_mem hk)) I.bd
    have rl := G.rl _ (rowG_mem hk)
    have bb := G.bb _ (rowG_mem hk)
    have hL := G.hL
    rw [rl] at db
    have db' : (dot (rowG rs k).1 x).natAbs ≤ 12 * 2 ^ (80 * (k + 1)) := Nat.le_trans db (Nat.mul_le_mul_right _ (by omega))
    have ph : 2 * Phi < 2 ^ 60 := by unfold Phi; decide
    rw [← h2]
    show (u + _ * v).natAbs ≤ _
    have m : ((((rowG rs k).2 - dot (rowG rs k).1 x).fdiv (g2 C p k)) * v).natAbs ≤ (1000000 + 12 * 2 ^ (80 * (k + 1))) * 2 ^ 60 := by
      rw [Int.natAbs_mul]
      exact Nat.mul_le_mul (by omega) (by omega)
    have pe : 2 ^ (80 * (k + 1 + 1)) = 2 ^ (80 * (k + 1)) * 2 ^ 80 := by rw [← Nat.pow_add]; congr 1
    have p1 : 1 ≤ 2 ^ (80 * (k + 1)) := Nat.pow_pos (by omega)
    rw [pe]
    generalize 2 ^ (80 * (k + 1)) = B at *
    omega
end
end K36

set_option Elab.async false
set_option linter.all false
set_option maxRecDepth 100000
set_option maxHeartbeats 4000000
set_option autoImplicit false
set_option exponentiation.threshold 300
/-! Law k36: whole evaluated. -/
namespace K36
open PySem PySem.Spec PyProof.Rows L2 Pv
theorem SolI.sm {rs : List Row} {L k : Nat} {x : List Int} (I : SolI rs L k x) (hk : k ≤ 4) : SmL x := fun a ha =>
  Nat.lt_of_le_of_lt (Nat.le_trans (I.bd a ha) (Nat.pow_le_pow_right (by omega) (show 80 * (k + 1) ≤ 400 by omega))) (Nat.pow_lt_pow_right (by decide) (by decide))
theorem drop_row {rs : List Row} {k : Nat} {q : Row} {qs : List Row} (h : rs.drop k = q :: qs) : k < rs.length ∧ rowG rs k = q ∧ rs.drop (k + 1) = qs := by
  have hk : k < rs.length := by
    rcases Nat.lt_or_ge k rs.length with z | z
    · exact z
    · rw [List.drop_eq_nil_of_le z] at h
      cases h
  rw [List.drop_eq_getElem_cons hk] at h
  injection h with h1 h2
  refine ⟨hk, ?_, h2⟩
  unfold rowG
  rw [List.getD_eq_getElem?_getD, List.getElem?_eq_getElem hk, h1]
  rfl
theorem pvL_atN {piv : List (Option Nat)} {k : Nat} (h : k < piv.length) : atI (pvL piv) (k : Int) = some (pD (pg piv k)) := by
  unfold pvL pg
  rw [Pv.atI_nat, List.getElem?_map, getD_eq (d := none) h]
  rfl
theorem ix_m1 {n : Nat} : ixN (n + 1) (-1) = some n := by
  unfold ixN
  rw [if_neg (by omega), if_pos (by omega)]
  congr 1
  omega
theorem iL_m1 {zs : List Int} {n : Nat} (h : zs.length = n + 1) : atI (iL zs) (-1) = some (.int (ig zs n)) := by
  have := iL_atN (xs := zs) (c := n) (by omega)
  rw [← this]
  unfold atI
  rw [iL_len, h, ix_m1, ixN_nat (by omega)]
theorem cut_m1 {zs : List Int} {n : Nat} (h : zs.length = n + 1) : Pv.cutD (iL zs) none (some (-1)) = iL (zs.take n) := by
  have e : HT.sIx (n + 1) (n + 1) (some (-1)) = n := by
    show (if (-1 : Int) < 0 then ((-1 : Int) + ((n + 1 : Nat) : Int)).toNat else min (-1 : Int).toNat (n + 1)) = n
    rw [if_pos (by omega)]
    omega
  unfold Pv.cutD
  rw [HT.sIx_none, iL_len, h, e]
  simp [iL]
theorem sl_m1 {zs : List Int} {n : Nat} (h : zs.length = n + 1) : slD (.list (iL zs)) none (some (-1)) = some (.nw (iL (zs.take n))) := by
  show some (Rs.nw (Pv.cutD (iL zs) none (some (-1)))) = _
  rw [cut_m1 h]
theorem cut_drop (xs : List D) (k : Nat) (h : k ≤ xs.length) : Pv.cutD xs (some (k : Int)) none = xs.drop k := by
  unfold Pv.cutD
  rw [HT.sIx_none, HT.sIx_nat, Nat.min_eq_left h]
  rw [List.take_of_length_le (by rw [List.length_drop]; omega)]
theorem sl_drop {zs : List Int} {n : Nat} (h : n ≤ zs.length) : slD (.list (iL zs)) (some (n : Int)) none = some (.nw (iL (zs.drop n))) := by
  show some (Rs.nw (Pv.cutD (iL zs) (some (n : Int)) none)) = _
  rw [cut_drop _ _ (by simpa using h)]
  simp [iL, List.map_drop]
/-- how whole ends -/
inductive WEnd (rs : List Row) (L : Nat) : D → Prop
  | sol {x : List Int} : SolI rs L rs.length x → WEnd rs L (.tuple [.str "solution", eT x])
  | rem {y : List Int} {d : Int} : RemOk rs L y d → SmL y → WEnd rs L (.tuple [.str "remainder", eT y, .int d])
theorem lessen_sm {z : List Int} (h : SmL z) : SmL (lessen z) := fun x hx => by
  obtain ⟨c, hc, e⟩ := lessen_spec z
  have b := h (c * x) (by rw [e]; exact List.mem_map.mpr ⟨x, hx, rfl⟩)
  unfold sm at *
  rw [Int.natAbs_mul] at b
  exact Nat.lt_of_le_of_lt (Nat.le_mul_of_pos_left _ (by omega)) b
theorem loop_whole {rs : List Row} {L : Nat} {C : Mat} {piv : List (Option Nat)} {free : List Nat} (G : GoodRows rs L) (S : Stair (mat rs) L (mat rs).length C piv free) {n : Nat} (hn : 3 ≤ n) (a0 a1 a5 : Option Sl) : ∀ (qs : List Row) (k : Nat) (x : List Int) (sl : Sl) (o8 o9 o10 o11 o12 o13 o14 : Option Sl), rs.drop k = qs → SolI rs L k x → k ≤ rs.length → (sl = .ow (iL x) ∨ sl = .va (eL x)) →
    (∃ (y : List Int) (d : Int) (ρ' : Sr), RemOk rs L y d ∧ SmL y ∧ forL (gT (gsCons (gN 8) (gsCons (gT (gsCons (gN 9) (gsCons (gN 10) gsNil))) gsNil))) (b_whole_2 (evf tb n)) (enumD k (rTs qs)) [a0, a1, some (.va (.list (rTs rs))), some (.va (.list (mL C))), some (.va (.list (pvL piv))), a5, some (.va (.list (mL (readers C piv rs.length rs.length)))), some sl, o8, o9, o10, o11, o12, o13, o14, none, none, none] =
      some (.rt (.va (.tuple [.str "remainder", eT y, .int d])), ρ')) ∨
    (∃ (x' : List Int) (sl' : Sl) (o8' o9' o10' o11' o12' o13' o14' : Option Sl), SolI rs L rs.length x' ∧ (sl' = .ow (iL x') ∨ sl' = .va (eL x')) ∧ forL (gT (gsCons (gN 8) (gsCons (gT (gsCons (gN 9) (gsCons (gN 10) gsNil))) gsNil))) (b_whole_2 (evf tb n)) (enumD k (rTs qs)) [a0, a1, some (.va (.list (rTs rs))), some (.va (.list (mL C))), some (.va (.list (pvL piv))), a5, some (.va (.list (mL (readers C piv rs.length rs.length)))), some sl, o8, o9, o10, o11, o12, o13, o14, none, none, none] =
      some (.nx, [a0, a1, some (.va (.list (rTs rs))), some (.va (.list (mL C))), some (.va (.list (pvL piv))), a5, some (.va (.list (mL (readers C piv rs.length rs.length)))), some sl', o8', o9', o10', o11', o12', o13', o14', none, none, none]))
  | [], k, x, sl, o8, o9, o10, o11, o12, o13, o14, hq, I, hk, hs => by
    have : k = rs.length := by
      have := congrArg List.length hq
      rw [List.length_drop, List.length_nil] at this
      omega
    subst this
    exact .inr ⟨x, sl, o8, o9, o10, o11, o12, o13, o14, I, hs, by simp [enumD]⟩
  | q :: qs, k, x, sl, o8, o9, o10, o11, o12, o13, o14, hq, I, hk, hs => by
    obtain ⟨kr, rq, hq'⟩ := drop_row hq
    have hm := G.hm
    have hL := G.hL
    have rl := G.rl _ (rowG_mem kr)
    have rsm := G.sm _ (rowG_mem kr)
    have bb := G.bb _ (rowG_mem kr)
    rw [rq] at rl rsm bb
    have xs := I.sm (by omega)
    have e1 := ev_row_at (n := n) (by omega) (.T q.1) (.L x) (by rw [rl, I.len]) (by omega) rsm.1 xs
    have pk : k < piv.length := by rw [S.pl]; simpa using kr
    have e2 := pvL_atN pk
    have RD := readers_ok S rs.length (by simp) k kr
    have rdl : k < (readers C piv rs.length rs.length).length := by rw [readers_len]; exact kr
    have e3 := mL_atN rdl
    simp only [List.length_map] at RD
    have ym : SmL (rg (readers C piv rs.length rs.length) k) := RD.sm (by omega)
    have hst : [a0, a1, some (.va (.list (rTs rs))), some (.va (.list (mL C))), some (.va (.list (pvL piv))), a5, some (.va (.list (mL (readers C piv rs.length rs.length)))), some sl, o8, o9, o10, o11, o12, o13, o14, none, none, none] = [a0, a1, some (.va (.list (rTs rs))), some (.va (.list (mL C))), some (.va (.list (pvL piv))), a5, some (.va (.list (mL (readers C piv rs.length rs.length)))), some sl, o8, o9, o10, o11, o12, o13, o14, none, none, none] := rfl
    generalize hy : rg (readers C piv rs.length rs.length) k = y at *
    cases hp : pg piv k with
    | none =>
      rw [hp] at e2
      by_cases hl : q.2 - dot q.1 x = 0
      · have I' := I.skip (by rw [rq]; omega)
        rcases loop_whole G S hn a0 a1 a5 qs (k + 1) x (.va (eL x)) (some (.va (.int (k : Nat)))) (some (.va (eT q.1))) (some (.va (.int q.2))) (some (.va (.int (q.2 - dot q.1 x)))) (some (.va .none)) o13 o14 hq' I' (by omega) (.inr rfl) with ⟨y', d, ρ', R, ysm, e⟩ | ⟨x', sl', p8, p9, p10, p11, p12, p13, p14, R, h1, e⟩
        · refine .inl ⟨y', d, ρ', R, ysm, ?_⟩
          show forL _ _ (.tuple [.int (k : Nat), .tuple [eT q.1, .int q.2]] :: enumD (k + 1) (rTs qs)) _ = _
          rw [forL_cons]
          rcases hs with rfl | rfl <;> simp [e1, e2, pD, hl] <;> simpa [hl] using e
        · refine .inr ⟨x', sl', p8, p9, p10, p11, p12, p13, p14, R, h1, ?_⟩
          show forL _ _ (.tuple [.int (k : Nat), .tuple [eT q.1, .int q.2]] :: enumD (k + 1) (rTs qs)) _ = _
          rw [forL_cons]
          rcases hs with rfl | rfl <;> simp [e1, e2, pD, hl] <;> simpa [hl] using e
      · have R := rem_none G S kr RD I.len I.eq hp (by rw [rq]; exact hl)
        have m1 := ev_mixed (n := n) hn (RowsD.T rs) L G.rl (fun z => by rw [z] at kr; simp at kr) (.L y) RD.len (by omega) (by omega) G.sm ym
        have m3 := (mix_ok (L := L) RD.len G.rl).2.2
        rw [m3] at m1
        refine .inl ⟨y, _, [a0, a1, some (.va (.list (rTs rs))), some (.va (.list (mL C))), some (.va (.list (pvL piv))), a5, some (.va (.list (mL (readers C piv rs.length rs.length)))), some (.va (eL x)), some (.va (.int (k : Nat))), some (.va (eT q.1)), some (.va (.int q.2)), some (.va (.int (q.2 - dot q.1 x))), some (.va .none), o13, o14, none, none, none], R, ym, ?_⟩
        show forL _ _ (.tuple [.int (k : Nat), .tuple [eT q.1, .int q.2]] :: enumD (k + 1) (rTs qs)) _ = _
        rw [forL_cons]
        rcases hs with rfl | rfl <;> simp [e1, e2, e3, pD, hl, hy, m1, abs_int]
    | some p =>
      rw [hp] at e2
      have hp' := S.piv_ k p (by simpa using kr) hp
      have cl := S.keep.cols.col p hp'.1
      simp only [List.length_map] at cl
      have pC : p < C.length := by rw [S.keep.cols.len]; exact hp'.1
      have e4 := mL_atN pC
      have e5 := iL_atN (xs := rg C p) (c := k) (by omega)
      have gz : ig (rg C p) k = g2 C p k := rfl
      rw [gz] at e5
      have pb : (g2 C p k).natAbs ≤ 2 * Phi := S.bd.more (Bf_le _) p hp'.1 _ (ig_mem (by omega))
      have psm : sm (g2 C p k) := Nat.lt_of_le_of_lt pb phi_big
      have e6 := fMod_nz (a := q.2 - dot q.1 x) hp'.2.2.1
      have ky : k < y.length := by rw [RD.len]; exact kr
      by_cases hd : g2 C p k ∣ q.2 - dot q.1 x
      · have md : (q.2 - dot q.1 x).fmod (g2 C p k) = 0 := Int.fmod_eq_zero_of_dvd hd
        rw [md] at e6
        have I' := I.step G S kr hp (by rw [rq]; exact hd)
        rw [rq] at I'
        have lsm : sm (q.2 - dot q.1 x) := by
          have db := dot_abs q.1 x (by rw [← rq]; exact G.rb _ (rowG_mem kr)) I.bd
          rw [rl] at db
          have h1 : 4 * L * 2 ^ (80 * (k + 1)) ≤ 12 * 2 ^ 400 := Nat.mul_le_mul (by omega) (Nat.pow_le_pow_right (by omega) (by omega))
          have h2 : 1000000 + 12 * 2 ^ 400 < 2 ^ 9000 := by
            have : (2 : Nat) ^ 420 < 2 ^ 9000 := Nat.pow_lt_pow_right (by decide) (by decide)
            have e : (2 : Nat) ^ 420 = 2 ^ 400 * 2 ^ 20 := by rw [← Nat.pow_add]
            have p1 : 1 ≤ (2 : Nat) ^ 400 := Nat.pow_pos (by omega)
            generalize (2 : Nat) ^ 400 = B at *
            generalize (2 : Nat) ^ 9000 = B2 at *
            generalize (2 : Nat) ^ 420 = B3 at *
            omega
          show (q.2 - dot q.1 x).natAbs < 2 ^ 9000
          generalize 4 * L * 2 ^ (80 * (k + 1)) = B1 at *
          generalize (2 : Nat) ^ 9000 = B3 at *
          generalize (2 : Nat) ^ 400 = B4 at *
          omega
        have qsm : sm ((q.2 - dot q.1 x).fdiv (g2 C p k)) := Nat.lt_of_le_of_lt (fdiv_bd hp'.2.2.1) lsm
        have e7 := fDiv_sm (a := q.2 - dot q.1 x) psm hp'.2.2.1
        have tl : ((rg C p).drop rs.length).length = L := by rw [List.length_drop, cl]; omega
        have e8 := sl_drop (zs := rg C p) (n := rs.length) (by omega)
        have tsm : SmL ((rg C p).drop rs.length) := fun v hv => Nat.lt_of_le_of_lt (S.bd.more (Bf_le _) p hp'.1 v (List.mem_of_mem_drop hv)) phi_big
        have lc := lcP (own := [15, 16, 17]) (g := gT (gsCons (gN 16) (gsCons (gN 17) gsNil))) (te := e_whole_1 (evf tb n)) (ρ := [a0, a1, some (.va (.list (rTs rs))), some (.va (.list (mL C))), some (.va (.list (pvL piv))), a5, some (.va (.list (mL (readers C piv rs.length rs.length)))), some (.va (eL x)), some (.va (.int (k : Nat))), some (.va (eT q.1)), some (.va (.int q.2)), some (.va (.int (q.2 - dot q.1 x))), some (.va (.int (p : Nat))), some (.va (.int (g2 C p k))), o14, none, none, none])
          (fun z => z.1 + (q.2 - dot q.1 x).fdiv (g2 C p k) * z.2) (x.zip ((rg C p).drop rs.length)) (by rw [List.length_zip]; have := I.len; omega) fun a b hx => by
            have := List.of_mem_zip hx
            simp [lcOne, e7, fMul_sm qsm (tsm b this.2)]
        rw [show (x.zip ((rg C p).drop rs.length)).map (fun z => z.1 + (q.2 - dot q.1 x).fdiv (g2 C p k) * z.2) = stepX x ((rg C p).drop rs.length) ((q.2 - dot q.1 x).fdiv (g2 C p k)) from rfl] at lc
        rcases loop_whole G S hn a0 a1 a5 qs (k + 1) _ (.ow (iL (stepX x ((rg C p).drop rs.length) ((q.2 - dot q.1 x).fdiv (g2 C p k))))) (some (.va (.int (k : Nat)))) (some (.va (eT q.1))) (some (.va (.int q.2))) (some (.va (.int (q.2 - dot q.1 x)))) (some (.va (.int (p : Nat)))) (some (.va (.int (g2 C p k)))) o14 hq' I' (by omega) (.inl rfl) with ⟨y', d, ρ', R, ysm, e⟩ | ⟨x', sl', p8, p9, p10, p11, p12, p13, p14, R, h1, e⟩
        · refine .inl ⟨y', d, ρ', R, ysm, ?_⟩
          show forL _ _ (.tuple [.int (k : Nat), .tuple [eT q.1, .int q.2]] :: enumD (k + 1) (rTs qs)) _ = _
          rw [forL_cons]
          rcases hs with rfl | rfl <;> simp [e1, e2, pD, e4, e5, e6, e8, zipD_ints, lc] <;> exact e
        · refine .inr ⟨x', sl', p8, p9, p10, p11, p12, p13, p14, R, h1, ?_⟩
          show forL _ _ (.tuple [.int (k : Nat), .tuple [eT q.1, .int q.2]] :: enumD (k + 1) (rTs qs)) _ = _
          rw [forL_cons]
          rcases hs with rfl | rfl <;> simp [e1, e2, pD, e4, e5, e6, e8, zipD_ints, lc] <;> exact e
      · have md : ¬ (q.2 - dot q.1 x).fmod (g2 C p k) = 0 := fun z => hd (Int.dvd_of_fmod_eq_zero z)
        have R := rem_some G S kr RD I.len I.eq hp (by rw [rq]; exact hd)
        have m1 := fMul_sm (ym _ (ig_mem ky)) psm
        have psz : sm (((ig y k * g2 C p k).natAbs : Nat) : Int) := by
          have b1 := RD.bd _ (ig_mem ky)
          have h1 : 2 ^ k ≤ 2 ^ 4 := Nat.pow_le_pow_right (by omega) (by omega)
          have h2 : cP ^ (2 ^ k - 1) ≤ cP ^ 15 := Nat.pow_le_pow_right cP_pos (by omega)
          have h3 : cP ^ 15 ≤ (2 ^ 60) ^ 15 := Nat.pow_le_pow_left (Nat.le_of_lt cP_60) 15
          rw [← Nat.pow_mul] at h3
          have ph : 2 * Phi ≤ 2 ^ 60 := by unfold Phi; decide
          have h4 : (ig y k * g2 C p k).natAbs ≤ 2 ^ (60 * 15) * 2 ^ 60 := by
            rw [Int.natAbs_mul]
            exact Nat.mul_le_mul (Nat.le_trans b1 (Nat.le_trans h2 h3)) (Nat.le_trans pb ph)
          rw [← Nat.pow_add] at h4
          show (((ig y k * g2 C p k).natAbs : Nat) : Int).natAbs < 2 ^ 9000
          rw [Int.natAbs_natCast]
          exact Nat.lt_of_le_of_lt h4 (Nat.pow_lt_pow_right (by decide) (by decide))
        have zsm : SmL (y ++ [((ig y k * g2 C p k).natAbs : Int)]) := fun v hv => by
          rcases List.mem_append.mp hv with z | z
          · exact ym v z
          · rw [List.mem_singleton.mp z]
            exact psz
        have zl : (y ++ [((ig y k * g2 C p k).natAbs : Int)]).length = rs.length + 1 := by simp [RD.len]
        have ll : (lessen (y ++ [((ig y k * g2 C p k).natAbs : Int)])).length = rs.length + 1 := by rw [lessen_len, zl]
        have e9 := ev_lessened (n := n) (by omega) (.L _) zsm (by omega)
        have ap : fAdd (.list (iL y)) (.list [.int ((ig y k * g2 C p k).natAbs : Int)]) = some (.nw (iL (y ++ [((ig y k * g2 C p k).natAbs : Int)]))) := by
          rw [iL_app]
          show (if (iL y).length + 1 ≤ 100000 then some (Rs.nw _) else none) = _
          rw [if_pos (by simp [RD.len]; omega)]
          rfl
        refine .inl ⟨_, _, [a0, a1, some (.va (.list (rTs rs))), some (.va (.list (mL C))), some (.va (.list (pvL piv))), a5, some (.va (.list (mL (readers C piv rs.length rs.length)))), some (.va (eL x)), some (.va (.int (k : Nat))), some (.va (eT q.1)), some (.va (.int q.2)), some (.va (.int (q.2 - dot q.1 x))), some (.va (.int (p : Nat))), some (.va (.int (g2 C p k))), some (.va (eL (lessen (y ++ [((ig y k * g2 C p k).natAbs : Int)])))), none, none, none], R, fun v hv => lessen_sm zsm v (List.mem_of_mem_take hv), ?_⟩
        show forL _ _ (.tuple [.int (k : Nat), .tuple [eT q.1, .int q.2]] :: enumD (k + 1) (rTs qs)) _ = _
        rw [forL_cons]
        rcases hs with rfl | rfl <;> simp [e1, e2, e3, e4, e5, e6, pD, md, hy, m1, abs_int, iL_atN ky, ap, e9, sl_m1 ll, iL_m1 ll]
theorem whole_ex {rs : List Row} {L : Nat} (G : GoodRows rs L) {n : Nat} (hn : 4 ≤ n) {ds : List D} (hd : RowsD ds rs) : ∃ d, WEnd rs L d ∧ evf tb n "whole" none [.list ds, .int L] = some (.va d, none) := by
  obtain ⟨n, rfl⟩ : ∃ m, n = m + 1 := ⟨n - 1, by omega⟩
  rw [fi_whole, run_whole]
  have hm := G.hm
  have hL := G.hL
  obtain ⟨C, piv, free, S, ev⟩ := stair_ex G
  have S' : Stair (mat rs) L (mat rs).length C piv free := by simpa using S
  have e1 := ev_sum_rows (n := n) (by omega) L hd G.rl (by omega)
  have e2 := ev n (by omega)
  have e3 := ev_whole_readers S' (by simpa using hm) (n := n) (by omega)
  simp only [List.length_map] at e3
  have e4 : fMul (.list [.int 0]) (.int L) = some (.nw (iL (List.replicate L (0 : Int)))) := by
    rw [rep_1 (.int 0) (by omega), iL, List.map_replicate]
  have I0 : SolI rs L 0 (List.replicate L 0) := ⟨by simp, fun r hr => by omega, fun a ha => by
    rw [(List.mem_replicate.mp ha).2]
    simp⟩
  rcases loop_whole G S' (n := n) (by omega) (some (.va (.list ds))) (some (.va (.int L))) (some (.va (.list (nL free)))) rs 0 (List.replicate L 0) (.ow (iL (List.replicate L 0))) none none none none none none none rfl I0 (by omega) (.inl rfl) with ⟨y, d, ρ', R, ysm, e⟩ | ⟨x', sl', p8, p9, p10, p11, p12, p13, p14, R, h1, e⟩
  · refine ⟨_, .rem R ysm, ?_⟩
    simp [S_whole, e1, e2, e3, e4, e]
  · refine ⟨_, .sol R, ?_⟩
    rcases h1 with rfl | rfl <;> simp [S_whole, e1, e2, e3, e4, e]
end K36

set_option Elab.async false
set_option linter.all false
set_option maxRecDepth 100000
set_option maxHeartbeats 4000000
set_option autoImplicit false
set_option exponentiation.threshold 300
/-! Law k36: lift_by, lifted, lift_from evaluated. -/
namespace K36
open PySem PySem.Spec PyProof.Rows L2 Pv
/-! ### lists compared -/
theorem fNe_ints (xs ys : List Int) : fNe (.list (iL xs)) (.list (iL ys)) = some (.va (.bool (!decide (xs = ys)))) := by
  have h : ∀ (xs ys : List Int), PyData.eqvAll (iL xs) (iL ys) = decide (xs = ys) := by
    intro xs
    induction xs with
    | nil =>
      intro ys
      cases ys with
      | nil => rfl
      | cons y ys => simp [iL, PyData.eqvAll]
    | cons x xs ih =>
      intro ys
      cases ys with
      | nil => simp [iL, PyData.eqvAll]
      | cons y ys =>
        rw [iL_cons, iL_cons, PyData.eqvAll, ih ys, PyData.eqv]
        by_cases h1 : x = y <;> by_cases h2 : xs = ys <;> simp [h1, h2]
  have s := fun zs : List Int => PySem.W.shaped_ints zs
  show Option.map _ (if (PySem.SeqAt.shaped (.list (iL xs)) && PySem.SeqAt.shaped (.list (iL ys))) = true then some (PyData.eqv (.list (iL xs)) (.list (iL ys))) else none) = _
  rw [if_pos (by unfold iL; rw [s, s]; rfl), PyData.eqv, h]
  rfl
theorem fNe_nats (xs : List Nat) : fNe (.list (nL xs)) (.list (nL xs)) = some (.va (.bool false)) := by
  unfold nL
  rw [fNe_ints]
  simp
/-! ### rests told -/
def tD (p : Nat × Nat) : D := .list [.int (p.1 : Nat), .int (p.2 : Nat)]
def tsD (ts : List (Nat × Nat)) : List D := ts.map tD
@[simp] theorem tsD_len (ts : List (Nat × Nat)) : (tsD ts).length = ts.length := by simp [tsD]
def eqR (rs : List Row) (p : Nat × Nat) : Row := ((rowG rs p.1).1, (rowG rs p.1).2 - (p.2 : Int))
def eqsOf (rs : List Row) (ts : List (Nat × Nat)) : List Row := ts.map (eqR rs)
inductive LEnd (rs : List Row) (L : Nat) (h : List Int) : D → Prop
  | sol {x : List Int} : SolI rs L rs.length x → LEnd rs L h (.tuple [.str "numbers", eT x, eT h])
  | rem {y : List Int} {d : Int} : RemOk rs L y d → SmL y → LEnd rs L h (.tuple [.str "remainder", eT y, .int d])
theorem ne_sol : decide ((("solution" : Str)) = "remainder") = false := by decide
theorem ev_lift_by {rs : List Row} {L : Nat} {ts : List (Nat × Nat)} (G : GoodRows (eqsOf rs ts) L) (hts : ∀ p ∈ ts, p.1 < rs.length) {n : Nat} (hn : 5 ≤ n) (h : List Int) :
    ∃ d, LEnd (eqsOf rs ts) L h d ∧ evf tb n "lift_by" none [.list (rTs rs), .int L, .list (tsD ts), eT h] = some (.va d, none) := by
  obtain ⟨n, rfl⟩ : ∃ m, n = m + 1 := ⟨n - 1, by omega⟩
  rw [fi_lift_by, run_lift_by]
  have tl : ts.length ≤ 4 := by have := G.hm; simpa [eqsOf] using this
  have lc := lc_one (own := [5, 6, 7]) (g := gT (gsCons (gN 6) (gsCons (gN 7) gsNil))) (te := e_lift_by_1 (evf tb n)) (ρ := [some (.va (.list (rTs rs))), some (.va (.int L)), some (.va (.list (tsD ts))), some (.va (eT h)), none, none, none, none]) tD (fun p => rT (eqR rs p)) ts [] (by simp; omega) fun p hp => by
    simp [lcOne, tD, eqR, rTs_at (hts p hp)]
  have lce : (ts.map fun p => rT (eqR rs p)) = rTs (eqsOf rs ts) := by
    unfold rTs eqsOf
    rw [List.map_map]
    rfl
  rw [lce, List.nil_append, show ts.map tD = tsD ts from rfl] at lc
  obtain ⟨d, hd, e⟩ := whole_ex G (n := n) (by omega) (RowsD.T (eqsOf rs ts))
  cases hd with
  | sol I =>
    refine ⟨_, .sol I, ?_⟩
    simp [S_lift_by, lc, e, ne_sol]
  | rem R ysm =>
    refine ⟨_, .rem R ysm, ?_⟩
    simp [S_lift_by, lc, e]
theorem ev_lifted {rs : List Row} {L : Nat} {g r : Nat → Res} (S : Sides rs L g r) {ts : List (Nat × Nat)} (G : GoodRows (eqsOf rs ts) L) (hts : ts.map (·.1) = tightK r (List.range rs.length)) {n : Nat} (hn : 8 ≤ n) {ds : List D} (hd : RowsD ds rs) :
    ∃ h d, Growing (mat rs) L 5000 h ∧ (∀ k, k < rs.length → (r k).1 = true → dot (rowG rs k).1 h < 0) ∧ LEnd (eqsOf rs ts) L h d ∧ evf tb n "lifted" none [.list ds, .int L, .list (tsD ts)] = some (.va d, none) := by
  obtain ⟨h, Gr, h2, ev⟩ := rp_ex S
  obtain ⟨n, rfl⟩ : ∃ m, n = m + 1 := ⟨n - 1, by omega⟩
  have tl : ts.length ≤ 4 := by have := G.hm; simpa [eqsOf] using this
  have hm := S.G.hm
  have mem : ∀ p ∈ ts, p.1 < rs.length := fun p hp => by
    have : p.1 ∈ tightK r (List.range rs.length) := by rw [← hts]; exact List.mem_map.mpr ⟨p, hp, rfl⟩
    exact List.mem_range.mp (List.mem_filter.mp this).1
  obtain ⟨d, D1, e4⟩ := ev_lift_by G mem (n := n) (by omega) h
  refine ⟨h, d, Gr, h2, D1, ?_⟩
  rw [fi_lifted, run_lifted]
  have e1 := ev_sum_rows (n := n) (by omega) L hd S.G.rl (by omega)
  have e2 := ev n (by omega)
  have lc := lc_one (own := [6, 7]) (g := gN 7) (te := e_lifted_2 (evf tb n)) (ρ := [some (.va (.list ds)), some (.va (.int L)), some (.va (.list (tsD ts))), some (.va (.list (rTs rs))), some (.va (eT h)), some (.va (.list (nL (tightK r (List.range rs.length))))), none, none, none, none]) tD (fun p => .int (p.1 : Nat)) ts [] (by simp; omega) fun p hp => by
    simp [lcOne, tD]
  have lce : (ts.map fun p => PyData.int (p.1 : Nat)) = nL (tightK r (List.range rs.length)) := by
    rw [← hts]
    unfold nL iL
    rw [List.map_map, List.map_map]
    rfl
  rw [lce, List.nil_append, show ts.map tD = tsD ts from rfl] at lc
  have lc2 := lc_one (own := [6, 8, 9]) (g := gT (gsCons (gN 8) (gsCons (gN 9) gsNil))) (te := e_lifted_1 (evf tb n)) (ρ := [some (.va (.list ds)), some (.va (.int L)), some (.va (.list (tsD ts))), some (.va (.list (rTs rs))), some (.va (eT h)), some (.va (.list (nL (tightK r (List.range rs.length))))), none, none, none, none]) tD (fun p => .bool true) ts [] (by simp; omega) fun p hp => by
    have w1 := ev_whole_from (n := n) (by omega) (p.1 : Nat) 0
    have w2 := ev_whole_from (n := n) (by omega) (p.2 : Nat) 0
    simp [lcOne, tD, w1, w2]
  rw [List.nil_append, show ts.map tD = tsD ts from rfl] at lc2
  have al := fAll_b (ts.map fun _ => true)
  have alt : (ts.map fun _ => true).all id = true := by simp
  rw [alt] at al
  have alm : bL (ts.map fun _ => true) = ts.map fun _ => PyData.bool true := by simp [bL]
  rw [alm] at al
  have ne := fNe_nats (tightK r (List.range rs.length))
  simp [S_lifted, e1, e2, lc, lc2, ne, al, e4]
/-! ### lift_from -/
theorem fmax2 (i j : Int) : (if j > i then j else i) = max i j := by
  split <;> omega
theorem sm_neg {z : Int} (h : sm z) : sm (-z) := by
  unfold sm at *
  rw [Int.natAbs_neg]
  exact h
theorem lf_loop1 (o : Str → Orc) (B : Nat) : ∀ (ps : List (Int × Int)) (m : Int) (a0 a1 a2 a4 o5 o7 o8 o9 o10 o11 : Option Sl), (∀ p ∈ ps, 1 ≤ p.2 ∧ p.2 ≤ 5000 ∧ p.1.natAbs ≤ B) → 0 ≤ m → m.natAbs ≤ B →
    ∃ (m' : Int) (o5' o7' : Option Sl), m ≤ m' ∧ m'.natAbs ≤ B ∧ (∀ p ∈ ps, 0 ≤ p.1 + m' * p.2) ∧ forL (gT (gsCons (gN 7) (gsCons (gN 5) gsNil))) (b_lift_from_2 o) (pL ps) [a0, a1, a2, some (.va (.int 0)), a4, o5, some (.va (.int m)), o7, o8, o9, o10, o11, none] =
      some (.nx, [a0, a1, a2, some (.va (.int 0)), a4, o5', some (.va (.int m')), o7', o8, o9, o10, o11, none])
  | [], m, a0, a1, a2, a4, o5, o7, o8, o9, o10, o11, _, _, hb => ⟨m, o5, o7, Int.le_refl _, hb, fun p hp => (by cases hp), by simp⟩
  | (a, b) :: ps, m, a0, a1, a2, a4, o5, o7, o8, o9, o10, o11, h, h0, hb => by
    obtain ⟨b1, b2, b3⟩ := h (a, b) List.mem_cons_self
    dsimp only at b1 b2 b3
    have q := fdiv_bd (a := a) (b := b) (by omega)
    have e := Int.mul_fdiv_add_fmod a b
    have r1 := Int.fmod_nonneg_of_pos a (show 0 < b by omega)
    obtain ⟨m', p5, p7, k1, k2, k3, k4⟩ := lf_loop1 o B ps (max m (-(a.fdiv b))) a0 a1 a2 a4 (some (.va (.int b))) (some (.va (.int a))) o8 o9 o10 o11 (fun p hp => h p (List.mem_cons_of_mem _ hp)) (by omega) (by omega)
    refine ⟨m', p5, p7, by omega, k2, fun p hp => ?_, ?_⟩
    · rcases List.mem_cons.mp hp with rfl | hp
      · show 0 ≤ a + m' * b
        have : (-(a.fdiv b)) * b ≤ m' * b := Int.mul_le_mul_of_nonneg_right (by omega) (by omega)
        have c : (-(a.fdiv b)) * b = -(b * a.fdiv b) := by rw [Int.neg_mul, Int.mul_comm]
        omega
      · exact k3 p hp
    · rw [pL_cons, forL_cons]
      have dsm : sm b := sm_64 (by omega)
      simp only [Pv.pairD]
      simp [fDiv_sm (a := a) dsm (show b ≠ 0 by omega)]
      have mx : (if m < -(a.fdiv b) then -(a.fdiv b) else m) = max m (-(a.fdiv b)) := by split <;> omega
      rw [mx]
      exact k4
theorem lf_loop2 {L : Nat} {x h : List Int} {n : Nat} (hn : 2 ≤ n) (B : Nat) (hB : B < 2 ^ 9000) (xl : x.length = L) (hl : h.length = L) (hL : L ≤ 3) (xs : SmL x) (hs : ∀ z ∈ h, 1 ≤ z ∧ z ≤ 5000) : ∀ (rs : List Row) (m : Int) (a0 a3 a4 o5 o7 o8 o9 o10 o11 : Option Sl), (∀ r ∈ rs, r.1.length = L ∧ (∀ z ∈ r.1, -4 ≤ z ∧ z ≤ 4) ∧ sm r.2 ∧ dot r.1 h ≤ 0 ∧ (dot r.1 h = 0 → dot r.1 x ≤ r.2) ∧ (dot r.1 x - r.2).natAbs ≤ B) → 0 ≤ m → m.natAbs ≤ B →
    ∃ (m' : Int) (o8' o9' o10' o11' : Option Sl), m ≤ m' ∧ m'.natAbs ≤ B ∧ (∀ r ∈ rs, dot r.1 x + m' * dot r.1 h ≤ r.2) ∧ forL (gT (gsCons (gN 8) (gsCons (gN 9) gsNil))) (b_lift_from_1 (evf tb n)) (rTs rs) [a0, some (.va (eT x)), some (.va (eT h)), a3, a4, o5, some (.va (.int m)), o7, o8, o9, o10, o11, none] =
      some (.nx, [a0, some (.va (eT x)), some (.va (eT h)), a3, a4, o5, some (.va (.int m')), o7, o8', o9', o10', o11', none])
  | [], m, a0, a3, a4, o5, o7, o8, o9, o10, o11, _, _, hb => ⟨m, o8, o9, o10, o11, Int.le_refl _, hb, fun p hp => (by cases hp), by simp⟩
  | (c, b) :: rs, m, a0, a3, a4, o5, o7, o8, o9, o10, o11, H, h0, hb => by
    obtain ⟨g1, g2, g3, g4, g5, g6⟩ := H (c, b) List.mem_cons_self
    dsimp only at g1 g2 g3 g4 g5 g6
    have csm : SmL c := fun z hz => sm_64 (by have := g2 z hz; omega)
    have hsm : SmL h := fun z hz => sm_64 (by have := hs z hz; omega)
    have e1 := ev_row_at (n := n) hn (.T c) (.T h) (by omega) (by omega) csm hsm
    have e2 := ev_row_at (n := n) hn (.T c) (.T x) (by omega) (by omega) csm xs
    have ng : ¬ 0 < dot c h := by omega
    have keep : ∀ m' : Int, m ≤ m' → (dot c h < 0 → -((dot c x - b).fdiv (dot c h)) ≤ m') → dot c x + m' * dot c h ≤ b := fun m' w1 w2 => by
      by_cases hz : dot c h < 0
      · have q := w2 hz
        have e := Int.mul_fdiv_add_fmod (-(dot c x - b)) (-(dot c h))
        rw [Int.neg_fdiv_neg] at e
        have r1 := Int.fmod_nonneg_of_pos (-(dot c x - b)) (show 0 < -(dot c h) by omega)
        have : (-((dot c x - b).fdiv (dot c h))) * -(dot c h) ≤ m' * -(dot c h) := Int.mul_le_mul_of_nonneg_right q (by omega)
        have c1 : (-((dot c x - b).fdiv (dot c h))) * -(dot c h) = -(-(dot c h) * (dot c x - b).fdiv (dot c h)) := by grind
        have c2 : m' * -(dot c h) = -(m' * dot c h) := by grind
        omega
      · have z : dot c h = 0 := by omega
        have := g5 z
        rw [z, Int.mul_zero]
        omega
    by_cases hz : dot c h < 0
    · have q := fdiv_bd (a := dot c x - b) (b := dot c h) (by omega)
      obtain ⟨m', p8, p9, p10, p11, k1, k2, k3, k4⟩ := lf_loop2 hn B hB xl hl hL xs hs rs (max m (-((dot c x - b).fdiv (dot c h)))) a0 a3 a4 o5 o7 (some (.va (eT c))) (some (.va (.int b))) (some (.va (.int (dot c h)))) (some (.va (.int (dot c x - b)))) (fun r hr => H r (List.mem_cons_of_mem _ hr)) (by omega) (by omega)
      refine ⟨m', p8, p9, p10, p11, by omega, k2, fun p hp => ?_, ?_⟩
      · rcases List.mem_cons.mp hp with rfl | hp
        · exact keep m' (by omega) fun _ => by omega
        · exact k3 p hp
      · rw [rTs_cons, forL_cons]
        have bd := sm_dot (p := 4) (q := 5000) (by omega) g2 (c := h) (fun z hz => by have := hs z hz; omega)
        have dsm : sm (dot c h) := sm_64 (by omega)
        have nz : ¬ dot c h = 0 := by omega
        simp [e1, e2, ng, hz, nz, fDiv_sm (a := dot c x - b) dsm nz]
        have mx : (if m < -((dot c x - b).fdiv (dot c h)) then -((dot c x - b).fdiv (dot c h)) else m) = max m (-((dot c x - b).fdiv (dot c h))) := by split <;> omega
        rw [mx]
        exact k4
    · have z : dot c h = 0 := by omega
      have nov : ¬ b < dot c x := by have := g5 z; omega
      obtain ⟨m', p8, p9, p10, p11, k1, k2, k3, k4⟩ := lf_loop2 hn B hB xl hl hL xs hs rs m a0 a3 a4 o5 o7 (some (.va (eT c))) (some (.va (.int b))) (some (.va (.int (dot c h)))) (some (.va (.int (dot c x - b)))) (fun r hr => H r (List.mem_cons_of_mem _ hr)) h0 hb
      refine ⟨m', p8, p9, p10, p11, by omega, k2, fun p hp => ?_, ?_⟩
      · rcases List.mem_cons.mp hp with rfl | hp
        · exact keep m' (by omega) fun w => by omega
        · exact k3 p hp
      · rw [rTs_cons, forL_cons]
        rw [z] at e1 k4
        simp [e1, e2, nov]
        exact k4
theorem ev_lift_from {rs : List Row} {L : Nat} (G : GoodRows rs L) {x h : List Int} {B : Nat} (hB : B < 2 ^ 9000) (xl : x.length = L) (xb : ∀ z ∈ x, z.natAbs ≤ B) (H : Growing (mat rs) L 5000 h) (h0 : ∀ r ∈ rs, dot r.1 h = 0 → dot r.1 x ≤ r.2) (ob : ∀ r ∈ rs, (dot r.1 x - r.2).natAbs ≤ B) {n : Nat} (hn : 3 ≤ n) {ds : List D} (hd : RowsD ds rs) :
    ∃ m : Int, 0 ≤ m ∧ m.natAbs ≤ B ∧ (∀ i, i < L → 0 ≤ ig x i + m * ig h i) ∧ (∀ r ∈ rs, dot r.1 x + m * dot r.1 h ≤ r.2) ∧ evf tb n "lift_from" none [.list ds, eT x, eT h, .int 0] = some (.va (.int m), none) := by
  obtain ⟨n, rfl⟩ : ∃ m, n = m + 1 := ⟨n - 1, by omega⟩
  have hL := G.hL
  have hm := G.hm
  have hl := H.len
  have e1 := ev_sum_rows (n := n) (by omega) L hd G.rl (by omega)
  have e2 := ev_sum_length (n := n) (by omega) (.T h) hl (.str "the growing row")
  have lc := lcB (own := [12, 5]) (g := gN 5) (te := e_lift_from_3 (evf tb n)) (ρ := [some (.va (.list ds)), some (.va (eT x)), some (.va (eT h)), some (.va (.int 0)), some (.va (.list (rTs rs))), none, none, none, none, none, none, none, none]) (fun z => decide (1 ≤ z)) h (by omega) fun z _ => by simp [lcOne]
  have al := fAll_b (h.map fun z => decide (1 ≤ z))
  have alt : (h.map fun z => decide (1 ≤ z)).all id = true := by
    rw [List.all_eq_true]
    intro b hb
    obtain ⟨z, hz, e⟩ := List.mem_map.mp hb
    rw [← e]
    simpa using (H.pos z hz).1
  rw [alt] at al
  obtain ⟨m1, p5, p7, a1, a2, a3, a4⟩ := lf_loop1 (evf tb n) B (x.zip h) 0 (some (.va (.list ds))) (some (.va (eT x))) (some (.va (eT h))) (some (.va (.list (rTs rs)))) none none none none none none (fun p hp => by
    have := List.of_mem_zip (show (p.1, p.2) ∈ x.zip h from hp)
    exact ⟨(H.pos _ this.2).1, (H.pos _ this.2).2, xb _ this.1⟩) (by omega) (by simp)
  obtain ⟨m2, p8, p9, p10, p11, b1, b2, b3, b4⟩ := lf_loop2 (n := n) (by omega) B hB xl hl hL (fun z hz => Nat.lt_of_le_of_lt (xb z hz) hB) H.pos rs m1 (some (.va (.list ds))) (some (.va (.int 0))) (some (.va (.list (rTs rs)))) p5 p7 none none none none (fun r hr => ⟨G.rl r hr, G.rb r hr, (G.sm r hr).2, H.le r.1 (List.mem_map.mpr ⟨r, hr, rfl⟩), h0 r hr, ob r hr⟩) (by omega) a2
  refine ⟨m2, by omega, b2, fun i hi => ?_, b3, ?_⟩
  · have hz : (ig x i, ig h i) ∈ x.zip h := by
      have : (x.zip h)[i]? = some (ig x i, ig h i) := by
        rw [List.getElem?_zip_eq_some]
        exact ⟨getD_eq (by omega), getD_eq (by omega)⟩
      exact List.mem_of_getElem? this
    have := a3 _ hz
    dsimp only at this
    have g := (H.pos _ (ig_mem (c := i) (xs := h) (by omega))).1
    have := Int.mul_le_mul_of_nonneg_right b1 (show 0 ≤ ig h i by omega)
    omega
  · rw [fi_lift_from, run_lift_from]
    rw [← xl] at e1 e2
    simp [S_lift_from, e1, e2, lc, al, zipD_ints, a4, b4]
end K36

set_option Elab.async false
set_option linter.all false
set_option maxRecDepth 100000
set_option maxHeartbeats 4000000
set_option autoImplicit false
set_option exponentiation.threshold 300
/-! Law k36: the law's own small defs evaluated. -/
namespace K36
open PySem PySem.Spec PyProof.Rows L2 Pv
theorem SeqD.at_ {d : D} {xs : List Int} (h : SeqD d xs) {c : Nat} (hc : c < xs.length) : fIx d (.int (c : Nat)) = some (.va (.int (ig xs c))) := by
  rcases h with rfl | rfl <;> simp [iL_atN hc]
theorem drop_ig {xs : List Int} {k : Nat} (h : k < xs.length) : xs.drop k = ig xs k :: xs.drop (k + 1) := by
  rw [List.drop_eq_getElem_cons h, ig_get h]
theorem loop_law_dot (o : Str → Orc) {d1 d2 : D} {as bs : List Int} (h1 : SeqD d1 as) (h2 : SeqD d2 bs) (hl : as.length = bs.length) (s1 : SmL as) (s2 : SmL bs) : ∀ (t k : Nat) (z : Int) (o3 : Option Sl), k + t = as.length →
    ∃ o3', forL (gN 3) (b__law_dot_1 o) (nL (List.range' k t)) [some (.va d1), some (.va d2), some (.va (.int z)), o3] = some (.nx, [some (.va d1), some (.va d2), some (.va (.int (z + dot (as.drop k) (bs.drop k)))), o3'])
  | 0, k, z, o3, h => ⟨o3, by
    rw [List.drop_eq_nil_of_le (by omega), dot_nil]
    simp⟩
  | t + 1, k, z, o3, h => by
    obtain ⟨o3', e⟩ := loop_law_dot o h1 h2 hl s1 s2 t (k + 1) (z + ig as k * ig bs k) (some (.va (.int (k : Nat)))) (by omega)
    refine ⟨o3', ?_⟩
    rw [List.range'_succ, nL_cons, forL_cons]
    simp [h1.at_ (show k < as.length by omega), h2.at_ (show k < bs.length by omega), fMul_sm (s1 _ (ig_mem (show k < as.length by omega))) (s2 _ (ig_mem (show k < bs.length by omega)))]
    rw [e, drop_ig (show k < as.length by omega), drop_ig (show k < bs.length by omega), dot_cons, Int.add_assoc]
theorem ev_law_dot {n : Nat} (hn : 1 ≤ n) {d1 d2 : D} {as bs : List Int} (h1 : SeqD d1 as) (h2 : SeqD d2 bs) (hl : as.length = bs.length) (hN : as.length ≤ 1000) (s1 : SmL as) (s2 : SmL bs) : evf tb n "_law_dot" none [d1, d2] = some (.va (.int (dot as bs)), none) := by
  obtain ⟨n, rfl⟩ : ∃ m, n = m + 1 := ⟨n - 1, by omega⟩
  rw [fi__law_dot, run__law_dot]
  obtain ⟨o3, e⟩ := loop_law_dot (evf tb n) h1 h2 hl s1 s2 as.length 0 0 none (by omega)
  rw [← List.range_eq_range'] at e
  have m62 : as.length < 2 ^ 62 := by omega
  simp only [List.drop_zero, Int.zero_add] at e
  simp [S__law_dot, h1.len, m62, rgD0, e]
/-! ### _law_ints -/
def leD : Option Int → D
  | none => .none
  | some v => .int v
theorem loop_law_ints (o : Str → Orc) (a0 a1 : Option Sl) (l : Option Int) : ∀ (xs : List Int) (o3 : Option Sl), (∀ x ∈ xs, ∀ v, l = some v → v ≤ x) →
    ∃ o3', forL (gN 3) (b__law_ints_1 o) (iL xs) [a0, a1, some (.va (leD l)), o3] = some (.nx, [a0, a1, some (.va (leD l)), o3'])
  | [], o3, _ => ⟨o3, by simp⟩
  | x :: xs, o3, h => by
    obtain ⟨o3', e⟩ := loop_law_ints o a0 a1 l xs (some (.va (.int x))) fun y hy => h y (List.mem_cons_of_mem _ hy)
    refine ⟨o3', ?_⟩
    rw [iL_cons, forL_cons]
    cases l with
    | none =>
      simp [leD]
      simpa [leD] using e
    | some v =>
      have := h x List.mem_cons_self v rfl
      have nl : ¬ x < v := by omega
      simp [leD, nl]
      simpa [leD] using e
theorem ev_law_ints {n : Nat} (hn : 1 ≤ n) {xs : List Int} {L : Nat} (hl : xs.length = L) (l : Option Int) (h : ∀ x ∈ xs, ∀ v, l = some v → v ≤ x) : evf tb n "_law_ints" none [eT xs, .int L, leD l] = some (.va (.bool true), none) := by
  obtain ⟨n, rfl⟩ : ∃ m, n = m + 1 := ⟨n - 1, by omega⟩
  rw [fi__law_ints, run__law_ints]
  obtain ⟨o3, e⟩ := loop_law_ints (evf tb n) (some (.va (eT xs))) (some (.va (.int L))) l xs none h
  simp [S__law_ints, hl, e]
/-! ### _law_sums -/
theorem ev_law_sums {n : Nat} (hn : 2 ≤ n) {rs : List Row} {w : List Int} {L : Nat} (rl : ∀ r ∈ rs, r.1.length = L) (rb : ∀ r ∈ rs, SmL r.1) (hR : rs.length ≤ 1000) (hL : L ≤ 1000) (wl : w.length = rs.length) (ws : SmL w) :
    evf tb n "_law_sums" none [.list (rLs rs), eT w, .int L] = some (.nw (iL ((List.range L).map fun k => dot w (colL (mat rs) k))), none) := by
  obtain ⟨n, rfl⟩ : ∃ m, n = m + 1 := ⟨n - 1, by omega⟩
  rw [fi__law_sums, run__law_sums]
  have L62 : L < 2 ^ 62 := by omega
  have lc := lcN (own := [3, 4]) (g := gN 4) (te := e__law_sums_2 (evf tb n)) (ρ := [some (.va (.list (rLs rs))), some (.va (eT w)), some (.va (.int L)), none, none, none]) (fun k => dot w (colL (mat rs) k)) (List.range L) (by simp; omega) fun k hk => by
    have hk := List.mem_range.mp hk
    have l2 := lc_one (own := [3, 5]) (g := gN 5) (te := e__law_sums_1 (evf tb n)) (ρ := [some (.va (.list (rLs rs))), some (.va (eT w)), some (.va (.int L)), none, some (.va (.int (k : Nat))), none]) rL (fun r => .int (ig r.1 k)) rs [] (by simp; omega) fun r hr => by
      have := rl r hr
      simp [lcOne, iL_atN (show k < r.1.length by omega)]
    have l2e : rs.map (fun r => PyData.int (ig r.1 k)) = iL (colL (mat rs) k) := by
      unfold iL colL
      rw [List.map_map, List.map_map]
      rfl
    rw [l2e, List.nil_append, show rs.map rL = rLs rs from rfl] at l2
    have cs : SmL (colL (mat rs) k) := fun z hz => by
      obtain ⟨r, hr, e⟩ := List.mem_map.mp hz
      obtain ⟨q, hq, e2⟩ := List.mem_map.mp hr
      rw [← e, ← e2]
      exact rb q hq _ (ig_mem (by rw [rl q hq]; exact hk))
    have e1 := ev_law_dot (n := n) (by omega) (.L (colL (mat rs) k)) (.T w) (by simp [colL, wl]) (by simp [colL]; omega) cs ws
    rw [dot_comm] at e1
    simp [lcOne, l2, e1]
  simp [S__law_sums, L62, rgD0, lc]
/-! ### _law_put -/
structure St where
  rows : List Row
  ps : List Nat
  xs : List Int
  ts : List (Nat × Nat)
def stL (s : St) : List D := [.list (rLs s.rows), .list (nL s.ps), eL s.xs, .list (tsD s.ts)]
def stD (s : St) : D := .list (stL s)
def cutP {α : Type} (xs : List α) (p : Nat) : List α := xs.take p ++ xs.drop (p + 1)
def putR (p : Nat) (v : Int) (r : Row) : Row := (cutP r.1 p, r.2 - ig r.1 p * v)
def put (s : St) (p : Nat) (v : Int) : St := ⟨s.rows.map (putR p v), cutP s.ps p, s.xs.set (ng s.ps p) v, []⟩
theorem sl_take {zs : List Int} {n : Nat} (h : n ≤ zs.length) : slD (.list (iL zs)) none (some (n : Int)) = some (.nw (iL (zs.take n))) := by
  show some (Rs.nw (Pv.cutD (iL zs) none (some (n : Int)))) = _
  rw [cut_take _ _ (by simpa using h)]
  simp [iL, List.map_take]
theorem sl_drop1 {zs : List Int} {n : Nat} (h : n < zs.length) : slD (.list (iL zs)) (some ((n : Int) + 1)) none = some (.nw (iL (zs.drop (n + 1)))) := by
  have := sl_drop (zs := zs) (n := n + 1) (by omega)
  push_cast at this
  exact this
theorem fAdd_iL {a b : List Int} (h : a.length + b.length ≤ 100000) : fAdd (.list (iL a)) (.list (iL b)) = some (.nw (iL (a ++ b))) := by
  rw [iL_app]
  show (if (iL a).length + (iL b).length ≤ 100000 then some (Rs.nw _) else none) = _
  rw [if_pos (by simpa using h)]
theorem nL_def (xs : List Nat) : nL xs = iL (xs.map fun (n : Nat) => (n : Int)) := rfl
theorem cut_len {α : Type} {xs : List α} {p : Nat} (h : p < xs.length) : (cutP xs p).length = xs.length - 1 := by
  simp [cutP]
  omega
theorem loop_law_put (o : Str → Orc) {p L : Nat} (hp : p < L) (hL : L ≤ 1000) (v : Int) (vs : sm v) (a0 a5 : Option Sl) : ∀ (qs acc : List Row) (o4 : Option Sl), (∀ r ∈ qs, r.1.length = L ∧ SmL r.1) → acc.length + qs.length ≤ 1000 →
    ∃ o4', forL (gN 4) (b__law_put_1 o) (rLs qs) [a0, some (.va (.int p)), some (.va (.int v)), some (.ow (rLs acc)), o4, a5] = some (.nx, [a0, some (.va (.int p)), some (.va (.int v)), some (.ow (rLs (acc ++ qs.map (putR p v)))), o4', a5])
  | [], acc, o4, _, _ => ⟨o4, by simp⟩
  | r :: qs, acc, o4, h, hl => by
    obtain ⟨h1, h2⟩ := h r List.mem_cons_self
    obtain ⟨o4', e⟩ := loop_law_put o hp hL v vs a0 a5 qs (acc ++ [putR p v r]) (some (.va (rL r))) (fun q hq => h q (List.mem_cons_of_mem _ hq)) (by simp at hl ⊢; omega)
    refine ⟨o4', ?_⟩
    have al : acc.length < 100000 := by simp at hl; omega
    rw [rLs_cons, forL_cons]
    have e1 := sl_take (zs := r.1) (n := p) (by omega)
    have e2 := sl_drop1 (zs := r.1) (n := p) (by omega)
    have e3 := fAdd_iL (a := r.1.take p) (b := r.1.drop (p + 1)) (by simp; omega)
    have e4 := fMul_sm (h2 _ (ig_mem (show p < r.1.length by omega))) vs
    simp [e1, e2, e3, e4, iL_atN (show p < r.1.length by omega), al]
    rw [rLs_app, rLs_app] at e
    simpa [rLs_app, rLs_cons, putR, cutP] using e
theorem ev_law_put {n : Nat} (hn : 1 ≤ n) {s : St} {p L : Nat} (hp : p < L) (hL : L ≤ 1000) (v : Int) (vs : sm v) (hr : ∀ r ∈ s.rows, r.1.length = L ∧ SmL r.1) (hR : s.rows.length ≤ 1000) (pl : s.ps.length = L) (px : ng s.ps p < s.xs.length) :
    evf tb n "_law_put" none [stD s, .int p, .int v] = some (.nw (stL (put s p v)), none) := by
  obtain ⟨n, rfl⟩ : ∃ m, n = m + 1 := ⟨n - 1, by omega⟩
  rw [fi__law_put, run__law_put]
  obtain ⟨o4, e⟩ := loop_law_put (evf tb n) hp hL v vs (some (.va (stD s))) none s.rows [] none hr (by simpa using hR)
  rw [rLs_nil, List.nil_append] at e
  have e1 := sl_take (zs := s.ps.map fun (n : Nat) => (n : Int)) (n := p) (by simp; omega)
  have e2 := sl_drop1 (zs := s.ps.map fun (n : Nat) => (n : Int)) (n := p) (by simp; omega)
  rw [← List.map_take] at e1
  rw [← List.map_drop] at e2
  have e3 := fAdd_iL (a := (s.ps.take p).map fun (n : Nat) => (n : Int)) (b := (s.ps.drop (p + 1)).map fun (n : Nat) => (n : Int)) (by simp; omega)
  rw [← List.map_append] at e3
  simp only [← nL_def] at e1 e2 e3
  unfold stD stL at e ⊢
  simp [S__law_put, e, e1, e2, e3, nL_atN (show p < s.ps.length by omega), ixN_nat px, iL_set, put, cutP]
  rfl
end K36

set_option Elab.async false
set_option linter.all false
set_option maxRecDepth 100000
set_option maxHeartbeats 4000000
set_option autoImplicit false
set_option exponentiation.threshold 300
/-! Law k36: _law_capped, _law_rested evaluated. -/
namespace K36
open PySem PySem.Spec PyProof.Rows L2 Pv
def stsD (cs : List St) : List D := cs.map stD
@[simp] theorem stsD_len (cs : List St) : (stsD cs).length = cs.length := by simp [stsD]
@[simp] theorem stsD_nil : stsD [] = [] := rfl
theorem stsD_cons (c : St) (cs : List St) : stsD (c :: cs) = stD c :: stsD cs := rfl
theorem stsD_app (a b : List St) : stsD (a ++ b) = stsD a ++ stsD b := by simp [stsD]
def kOf (b : Int) : Nat := (min 200 (b + 1)).toNat
theorem kOf_le (b : Int) : kOf b ≤ 200 := by
  unfold kOf
  omega
theorem fmin2 (b : Int) : (if b + 1 < 200 then b + 1 else 200) = min 200 (b + 1) := by
  split <;> omega
/-- a bound's comprehension -/
theorem lcSt {own : List Nat} {g : SemG} {te : SemE} {ρ : Sr} (f : Nat → St) (xs : List Nat) (hl : xs.length ≤ 100000)
    (h : ∀ x ∈ xs, lcOne own g te (.int (x : Nat)) ρ = some (stD (f x), ρ)) : lcL own g sYes te (nL xs) ρ [] = some (stsD (xs.map f), ρ) := by
  have := lcN_D (fun x => stD (f x)) xs hl h
  rw [this]
  unfold stsD
  rw [List.map_map]
  rfl
theorem lcRight {own : List Nat} {g : SemG} {te : SemE} {ρ : Sr} (rs : List Row) (hl : rs.length ≤ 100000)
    (h : ∀ r ∈ rs, lcOne own g te (rL r) ρ = some (.int r.2, ρ)) : lcL own g sYes te (rLs rs) ρ [] = some (iL (rs.map (·.2)), ρ) := by
  have := lc_one rL (fun r => .int r.2) rs [] (by simpa using hl) h
  rw [show rLs rs = rs.map rL from rfl, this]
  unfold iL
  rw [List.map_map]
  rfl
def capB (s : St) (p : Nat) (w : List Int) : Int := (dot w (s.rows.map (·.2))).fdiv (dot w (colL (mat s.rows) p))
def capC (s : St) (p : Nat) (w : List Int) : List St := (List.range (kOf (capB s p w))).map fun i => put s p (i : Nat)
theorem dot_bd {w c : List Int} {p q : Int} {m : Nat} (hq : 0 ≤ q) (hp : 0 ≤ p) (hm : w.length ≤ m) (h1 : ∀ x ∈ w, -p ≤ x ∧ x ≤ p) (h2 : ∀ x ∈ c, -q ≤ x ∧ x ≤ q) : -(p * q * m) ≤ dot w c ∧ dot w c ≤ p * q * m := by
  have b := sm_dot hq h1 h2
  have : p * q * (w.length : Int) ≤ p * q * (m : Int) := Int.mul_le_mul_of_nonneg_left (by omega) (Int.mul_nonneg hp hq)
  omega
theorem ev_law_capped {s : St} {L p : Nat} {w : List Int} (G : GoodRows s.rows L) (h0 : s.rows ≠ []) (pl : s.ps.length = L) (hp : p < L) (T : CapW s.rows L p w) (px : ng s.ps p < s.xs.length) {n : Nat} (hn : 5 ≤ n) :
    evf tb n "_law_capped" none [stD s, .int p, .tuple [.str "cap", eT w]] = some (.nw (stsD (capC s p w)), none) := by
  obtain ⟨n, rfl⟩ : ∃ m, n = m + 1 := ⟨n - 1, by omega⟩
  rw [fi__law_capped, run__law_capped]
  have hm := G.hm
  have hL := G.hL
  have wsm : SmL w := fun x hx => sm_64 (by have := T.pos x hx; omega)
  have bsm : SmL (s.rows.map (·.2)) := fun x hx => by
    obtain ⟨r, hr, e⟩ := List.mem_map.mp hx
    rw [← e]
    exact (G.sm r hr).2
  have e1 := ev_law_ints (n := n) (by omega) (xs := w) (L := s.rows.length) T.len (some 0) fun x hx v hv => by
    cases hv
    exact (T.pos x hx).1
  have e2 := ev_law_sums (n := n) (by omega) G.rl (fun r hr => (G.sm r hr).1) (by omega) (by omega) T.len wsm
  have e3 := ev_cap_bound G h0 hp T (n := n) (by omega) (RowsD.L s.rows)
  have e4 := ev_law_dot (n := n) (by omega) (.L (s.rows.map (·.2))) (.T w) (by simp [T.len]) (by simp; omega) bsm wsm
  rw [dot_comm] at e4
  obtain ⟨z, f1, -, f3⟩ := min_nn (xs := (List.range L).map fun k => dot w (colL (mat s.rows) k)) (by intro z; have := congrArg List.length z; simp at this; omega) fun x hx => by
    obtain ⟨i, hi, e⟩ := List.mem_map.mp hx
    rw [← e]
    exact T.sum i (List.mem_range.mp hi)
  have sp : atI (iL ((List.range L).map fun k => dot w (colL (mat s.rows) k))) (p : Int) = some (.int (dot w (colL (mat s.rows) p))) := by
    rw [iL_atN (by simpa using hp), map_range_ig _ hp]
  have at1 := T.at_
  have nlt : ¬ dot w (colL (mat s.rows) p) < 1 := by omega
  have bd := dot_bd (p := 384) (q := 4) (m := 4) (by omega) (by omega) (by rw [T.len]; exact hm) (fun x hx => by have := T.pos x hx; omega) (col_bd G p)
  have dsm : sm (dot w (colL (mat s.rows) p)) := sm_64 (by omega)
  have e5 := fDiv_sm (a := dot w (s.rows.map (·.2))) dsm (show dot w (colL (mat s.rows) p) ≠ 0 by omega)
  have bd2 := dot_bd (p := 384) (q := 1000000) (m := 4) (w := w) (c := s.rows.map (·.2)) (by omega) (by omega) (by rw [T.len]; exact hm) (fun x hx => by have := T.pos x hx; omega) (fun x hx => by
    obtain ⟨r, hr, e⟩ := List.mem_map.mp hx
    rw [← e]
    exact G.bb r hr)
  have qb := fdiv_bd (a := dot w (s.rows.map (·.2))) (b := dot w (colL (mat s.rows) p)) (by omega)
  have lcr := lcRight (own := [7, 9]) (g := gN 9) (te := e__law_capped_2 (evf tb n)) (ρ := [some (.va (stD s)), some (.va (.int p)), some (.va (.tuple [.str "cap", eT w])), some (.va (.list (rLs s.rows))), some (.va (.int L)), some (.ow (iL ((List.range L).map fun k => dot w (colL (mat s.rows) k)))), none, none, none, none]) s.rows (by omega) fun r _ => by simp [lcOne]
  have lcr2 := lcRight (own := [7, 9]) (g := gN 9) (te := e__law_capped_2 (evf tb n)) (ρ := [some (.va (stD s)), some (.va (.int p)), some (.va (.tuple [.str "cap", eT w])), some (.va (.list (rLs s.rows))), some (.va (.int L)), some (.va (.list (iL ((List.range L).map fun k => dot w (colL (mat s.rows) k))))), none, none, none, none]) s.rows (by omega) fun r _ => by simp [lcOne]
  have kl := kOf_le (capB s p w)
  have lc := fun (sl : Sl) => lcSt (own := [7, 8]) (g := gN 8) (te := e__law_capped_1 (evf tb n)) (ρ := [some (.va (stD s)), some (.va (.int p)), some (.va (.tuple [.str "cap", eT w])), some (.va (.list (rLs s.rows))), some (.va (.int L)), some sl, some (.va (.int (capB s p w))), none, none, none]) (fun i => put s p (i : Nat)) (List.range (kOf (capB s p w))) (by simp; omega) fun i hi => by
    have hi := List.mem_range.mp hi
    have e6 := ev_law_put (n := n) (by omega) (s := s) hp (by omega) (i : Nat) (sm_64 (by omega)) (fun r hr => ⟨G.rl r hr, (G.sm r hr).1⟩) (by omega) pl px
    simp [lcOne, e6]
    rfl
  have b62 : (min 200 (capB s p w + 1)).natAbs < 2 ^ 62 := by unfold capB; omega
  have cb : (dot w (s.rows.map (·.2))).fdiv (dot w (colL (mat s.rows) p)) = capB s p w := rfl
  rw [cb] at e3 e5
  have k0 : (min 200 (capB s p w + 1)).toNat = kOf (capB s p w) := rfl
  simp only [leD] at e1
  have i0 : fIx (stD s) (.int 0) = some (.va (.list (rLs s.rows))) := by simp [stD, stL]
  have i1 : fIx (stD s) (.int 1) = some (.va (.list (nL s.ps))) := by simp [stD, stL]
  simp [S__law_capped, i0, i1, pl, e1, e2, f1, f3, sp, nlt, lcr, lcr2, e4, e5, e3, fmin2, b62, rgD0, k0, lc, capC]
/-! ### _law_rested -/
theorem fAny_iL (xs : List Int) : fAny [.list (iL xs)] = some (.va (.bool (xs.any (· != 0)))) := by
  cases xs with
  | nil => rfl
  | cons x xs =>
    show (match boolsOf (iL (x :: xs)) with
      | some bs => some (Rs.va (.bool (bs.any id)))
      | none => (match intsOf (iL (x :: xs)) with
        | some ns => some (Rs.va (.bool (ns.any (· != 0))))
        | none => none)) = _
    rw [iL_ints]
    rfl
def addT (s : St) (k v : Nat) : St := ⟨s.rows, s.ps, s.xs, s.ts ++ [(k, v)]⟩
def restB (s : St) (k : Nat) (w : List Int) : Int := (dot w (s.rows.map (·.2))).fdiv (ig w k)
def restC (s : St) (k : Nat) (w : List Int) : List St := (List.range (kOf (restB s k w))).map fun i => addT s k i
theorem tight_ok {rs : List Row} {L k : Nat} {g r : Nat → Res} (S : Sides rs L g r) (hk : k < rs.length) (hz : (r k).1 = false) : TightOk rs L k (lessen (tw (r k) k)) := by
  obtain ⟨h0, H0, -⟩ := ag_ex S.G S.gr
  rcases (S.rs_ k hk).ok with ⟨z, C⟩ | ⟨z, -, -⟩
  · exact tw_ok S.G hk (by simpa using C) H0
  · rw [hz] at z
    cases z
theorem ev_law_rested {s : St} {L k : Nat} {g r : Nat → Res} (S : Sides s.rows L g r) (pl : s.ps.length = L) (hk : k < s.rows.length) (hz : (r k).1 = false) (hts : s.ts.length ≤ 1000) {n : Nat} (hn : 8 ≤ n) :
    evf tb n "_law_rested" none [stD s, .int k] = some (.nw (stsD (restC s k (lessen (tw (r k) k)))), none) := by
  have T := tight_ok S hk hz
  obtain ⟨n, rfl⟩ : ∃ m, n = m + 1 := ⟨n - 1, by omega⟩
  rw [fi__law_rested, run__law_rested]
  have G := S.G
  have hm := G.hm
  have hL := G.hL
  have e0 := ev_loose_or_tight S hk (n := n) (by omega) (RowsD.L s.rows)
  rw [hz] at e0
  simp only [Bool.false_eq_true, if_false] at e0
  generalize lessen (tw (r k) k) = w at *
  have wsm : SmL w := fun x hx => sm_64 (by have := T.pos x hx; omega)
  have bsm : SmL (s.rows.map (·.2)) := fun x hx => by
    obtain ⟨r, hr, e⟩ := List.mem_map.mp hx
    rw [← e]
    exact (G.sm r hr).2
  have e1 := ev_law_ints (n := n) (by omega) (xs := w) (L := s.rows.length) T.len (some 0) fun x hx v hv => by
    cases hv
    exact (T.pos x hx).1
  have e2 := ev_law_sums (n := n) (by omega) G.rl (fun r hr => (G.sm r hr).1) (by omega) (by omega) T.len wsm
  have e3 := ev_rest_bound G hk T (n := n) (by omega) (RowsD.L s.rows)
  have e4 := ev_law_dot (n := n) (by omega) (.L (s.rows.map (·.2))) (.T w) (by simp [T.len]) (by simp; omega) bsm wsm
  rw [dot_comm] at e4
  have kw : k < w.length := by rw [T.len]; exact hk
  have f1 : fAny [.list (iL ((List.range L).map fun i => dot w (colL (mat s.rows) i)))] = some (.va (.bool false)) := by
    rw [fAny_iL]
    congr 3
    rw [List.any_eq_false]
    intro x hx
    obtain ⟨i, hi, e⟩ := List.mem_map.mp hx
    rw [← e, T.sum i (List.mem_range.mp hi)]
    simp
  have at1 := T.at_
  have a768 := T.pos _ (ig_mem kw)
  have nlt : ¬ ig w k < 1 := by omega
  have dsm : sm (ig w k) := sm_64 (by omega)
  have e5 := fDiv_sm (a := dot w (s.rows.map (·.2))) dsm (show ig w k ≠ 0 by omega)
  have bd2 := dot_bd (p := 768) (q := 1000000) (m := 4) (w := w) (c := s.rows.map (·.2)) (by omega) (by omega) (by rw [T.len]; exact hm) (fun x hx => by have := T.pos x hx; omega) (fun x hx => by
    obtain ⟨r, hr, e⟩ := List.mem_map.mp hx
    rw [← e]
    exact G.bb r hr)
  have qb := fdiv_bd (a := dot w (s.rows.map (·.2))) (b := ig w k) (by omega)
  have lcr := lcRight (own := [6, 8]) (g := gN 8) (te := e__law_rested_2 (evf tb n)) (ρ := [some (.va (stD s)), some (.va (.int k)), some (.va (.list (rLs s.rows))), some (.va (.int L)), some (.va (.tuple [.str "tight", eT w])), none, none, none, none]) s.rows (by omega) fun r _ => by simp [lcOne]
  have kl := kOf_le (restB s k w)
  have i0 : fIx (stD s) (.int 0) = some (.va (.list (rLs s.rows))) := by simp [stD, stL]
  have i1 : fIx (stD s) (.int 1) = some (.va (.list (nL s.ps))) := by simp [stD, stL]
  have i2 : fIx (stD s) (.int 2) = some (.va (eL s.xs)) := by simp [stD, stL]
  have i3 : fIx (stD s) (.int 3) = some (.va (.list (tsD s.ts))) := by simp [stD, stL]
  have lc := lcSt (own := [6, 7]) (g := gN 7) (te := e__law_rested_1 (evf tb n)) (ρ := [some (.va (stD s)), some (.va (.int k)), some (.va (.list (rLs s.rows))), some (.va (.int L)), some (.va (.tuple [.str "tight", eT w])), some (.va (.int (restB s k w))), none, none, none]) (fun i => addT s k i) (List.range (kOf (restB s k w))) (by simp; omega) fun i hi => by
    have ap : fAdd (.list (tsD s.ts)) (.list [.list [.int (k : Nat), .int (i : Nat)]]) = some (.nw (tsD (s.ts ++ [(k, i)]))) := by
      show (if (tsD s.ts).length + 1 ≤ 100000 then some (Rs.nw _) else none) = _
      rw [if_pos (by simp; omega)]
      simp [tsD, tD]
    simp [lcOne, i1, i2, i3, ap]
    rfl
  have b62 : (min 200 (restB s k w + 1)).natAbs < 2 ^ 62 := by unfold restB; omega
  have cb : (dot w (s.rows.map (·.2))).fdiv (ig w k) = restB s k w := rfl
  rw [cb] at e3 e5
  have k0 : (min 200 (restB s k w + 1)).toNat = kOf (restB s k w) := rfl
  simp only [leD] at e1
  simp [S__law_rested, i0, i1, pl, e0, e1, e2, f1, iL_atN kw, nlt, lcr, e4, e5, e3, fmin2, b62, rgD0, k0, lc, restC]
end K36

set_option Elab.async false
set_option linter.all false
set_option maxRecDepth 100000
set_option maxHeartbeats 4000000
set_option autoImplicit false
set_option exponentiation.threshold 10000
/-! Law k36: _law_ended evaluated. -/
namespace K36
open PySem PySem.Spec PyProof.Rows L2 Pv
def fillL : List Int → List Nat → List Int → List Int
  | xs, p :: ps, v :: vs => fillL (xs.set p v) ps vs
  | xs, _, _ => xs
theorem fillL_len : ∀ (ps : List Nat) (vs xs : List Int), (fillL xs ps vs).length = xs.length
  | [], vs, xs => by unfold fillL; rfl
  | p :: ps, [], xs => by unfold fillL; rfl
  | p :: ps, v :: vs, xs => by rw [fillL, fillL_len ps vs, List.length_set]
theorem stepX_ig {x h : List Int} {L : Nat} (xl : x.length = L) (hl : h.length = L) (m : Int) {k : Nat} (hk : k < L) : ig (stepX x h m) k = ig x k + m * ig h k := by
  unfold stepX
  rw [ig_get (by simp [xl, hl]; exact hk), List.getElem_map, List.getElem_zip, ig_get (by omega), ig_get (by omega)]
theorem dropN {ps : List Nat} {k : Nat} (h : k < ps.length) : ps.drop k = ng ps k :: ps.drop (k + 1) := by
  rw [List.drop_eq_getElem_cons h]
  unfold ng
  rw [List.getD_eq_getElem?_getD, List.getElem?_eq_getElem h]
  rfl
theorem ng_mem {ps : List Nat} {k : Nat} (h : k < ps.length) : ng ps k ∈ ps := getD_mem h
theorem loop_ended (o : Str → Orc) {s : St} {L N : Nat} {x h : List Int} (str : D) (m : Int) (ms : sm m) (xl : x.length = L) (hl : h.length = L) (hs : SmL h) (pl : s.ps.length = L) (px : ∀ p ∈ s.ps, p < N) (a1 a2 : Option Sl) : ∀ (t k : Nat) (xs : List Int) (o6 : Option Sl), k + t = L → xs.length = N →
    ∃ o6', forL (gN 6) (b__law_ended_4 o) (nL (List.range' k t)) [some (.va (stD s)), a1, a2, some (.va (.tuple [str, eT x, eT h])), some (.va (.int m)), some (.ow (iL xs)), o6, none, none, none, none, none] =
      some (.nx, [some (.va (stD s)), a1, a2, some (.va (.tuple [str, eT x, eT h])), some (.va (.int m)), some (.ow (iL (fillL xs (s.ps.drop k) ((stepX x h m).drop k)))), o6', none, none, none, none, none])
  | 0, k, xs, o6, h1, h2 => ⟨o6, by
    rw [List.drop_eq_nil_of_le (show s.ps.length ≤ k by omega)]
    simp [fillL]⟩
  | t + 1, k, xs, o6, h1, h2 => by
    have kp : k < s.ps.length := by omega
    obtain ⟨o6', e⟩ := loop_ended o (N := N) str m ms xl hl hs pl px a1 a2 t (k + 1) (xs.set (ng s.ps k) (ig x k + m * ig h k)) (some (.va (.int (k : Nat)))) (by omega) (by simpa using h2)
    refine ⟨o6', ?_⟩
    rw [dropN kp, drop_ig (show k < (stepX x h m).length by rw [stepX_len xl hl]; omega), stepX_ig xl hl m (by omega), fillL]
    rw [List.range'_succ, nL_cons, forL_cons]
    have i1 : fIx (stD s) (.int 1) = some (.va (.list (nL s.ps))) := by simp [stD, stL]
    have ks : ng s.ps k < xs.length := by rw [h2]; exact px _ (ng_mem kp)
    simp [i1, nL_atN kp, iL_atN (show k < x.length by omega), iL_atN (show k < h.length by omega), fMul_sm ms (hs _ (ig_mem (show k < h.length by omega))), ixN_nat ks, iL_set]
    exact e
theorem sl_t3 (a b c : D) : slD (.tuple [a, b, c]) (some 2) none = some (.va (.tuple [c])) := by
  have e1 : HT.sIx 3 0 (some 2) = 2 := rfl
  have e2 : HT.sIx 3 3 none = 3 := rfl
  show (if HT.sIx 3 0 (some 2) = 0 ∧ HT.sIx 3 3 none = 3 then none else some (Rs.va (.tuple (Pv.cutD [a, b, c] (some 2) none)))) = _
  rw [if_neg (by rw [e1]; omega)]
  unfold Pv.cutD
  rw [show [a, b, c].length = 3 from rfl, e1, e2]
  rfl
theorem ne_num : decide ((("remainder" : Str)) = "numbers") = false := by decide
theorem ne_num' : (("remainder" : Str)) ≠ "numbers" := by decide
theorem big_420 : 12 * 2 ^ 400 + 1000000 < 2 ^ 420 := by
  have e : (2 : Nat) ^ 420 = 2 ^ 400 * 2 ^ 20 := by rw [← Nat.pow_add]
  have p1 : 1 ≤ (2 : Nat) ^ 400 := Nat.pow_pos (by omega)
  rw [e]
  generalize (2 : Nat) ^ 400 = B at *
  omega
/-- what a state's end says -/
inductive EndOk (s : St) (L : Nat) : List St → Prop
  | none : (∀ y : List Int, y.length = L → (∀ p ∈ s.ts, dot (rowG s.rows p.1).1 y = (rowG s.rows p.1).2 - (p.2 : Int)) → False) → EndOk s L []
  | done {y : List Int} : y.length = L → (∀ v ∈ y, 0 ≤ v) → (∀ r ∈ s.rows, dot r.1 y ≤ r.2) → SmL y → EndOk s L [⟨[], [], fillL s.xs s.ps y, []⟩]
theorem ended_ex {s : St} {L N : Nat} {g r : Nat → Res} (S : Sides s.rows L g r) (hb : ∀ q ∈ s.rows, -10000 ≤ q.2 ∧ q.2 ≤ 10000) (pl : s.ps.length = L) (xN : s.xs.length = N) (px : ∀ p ∈ s.ps, p < N) (hts : s.ts.map (·.1) = tightK r (List.range s.rows.length)) (tbd : ∀ p ∈ s.ts, p.2 < 1000) {n : Nat} (hn : 9 ≤ n) :
    ∃ cs, EndOk s L cs ∧ evf tb n "_law_ended" none [stD s] = some (.nw (stsD cs), none) := by
  obtain ⟨n, rfl⟩ : ∃ m, n = m + 1 := ⟨n - 1, by omega⟩
  have G := S.G
  have hm := G.hm
  have hL := G.hL
  have mem : ∀ p ∈ s.ts, p.1 < s.rows.length := fun p hp => by
    have : p.1 ∈ tightK r (List.range s.rows.length) := by rw [← hts]; exact List.mem_map.mpr ⟨p, hp, rfl⟩
    exact List.mem_range.mp (List.mem_filter.mp this).1
  have tl : s.ts.length ≤ 4 := by
    have h1 : s.ts.length = (tightK r (List.range s.rows.length)).length := by rw [← hts, List.length_map]
    have h2 : (tightK r (List.range s.rows.length)).length ≤ (List.range s.rows.length).length := List.length_filter_le _ _
    rw [List.length_range] at h2
    omega
  have GE : GoodRows (eqsOf s.rows s.ts) L := by
    refine ⟨hL, by simpa [eqsOf] using tl, fun q hq => ?_, fun q hq => ?_, fun q hq => ?_⟩
    · obtain ⟨p, hp, e⟩ := List.mem_map.mp hq
      rw [← e]
      exact G.rl (rowG s.rows p.1) (rowG_mem (mem p hp))
    · obtain ⟨p, hp, e⟩ := List.mem_map.mp hq
      rw [← e]
      exact G.rb (rowG s.rows p.1) (rowG_mem (mem p hp))
    · obtain ⟨p, hp, e⟩ := List.mem_map.mp hq
      have := hb _ (rowG_mem (mem p hp))
      have := tbd p hp
      rw [← e]
      show -1000000 ≤ (rowG s.rows p.1).2 - (p.2 : Int) ∧ (rowG s.rows p.1).2 - (p.2 : Int) ≤ 1000000
      omega
  obtain ⟨h, d, H, H2, LE, ev⟩ := ev_lifted S GE hts (n := n) (by omega) (RowsD.L s.rows)
  have i0 : fIx (stD s) (.int 0) = some (.va (.list (rLs s.rows))) := by simp [stD, stL]
  have i1 : fIx (stD s) (.int 1) = some (.va (.list (nL s.ps))) := by simp [stD, stL]
  have i2 : fIx (stD s) (.int 2) = some (.va (eL s.xs)) := by simp [stD, stL]
  have i3 : fIx (stD s) (.int 3) = some (.va (.list (tsD s.ts))) := by simp [stD, stL]
  have el : (eqsOf s.rows s.ts).length = s.ts.length := by simp [eqsOf]
  cases LE with
  | @sol x I =>
    have xb : ∀ z ∈ x, z.natAbs ≤ 2 ^ 400 := fun z hz => Nat.le_trans (I.bd z hz) (Nat.pow_le_pow_right (by omega) (by omega))
    have b420 := big_420
    have h0 : ∀ q ∈ s.rows, dot q.1 h = 0 → dot q.1 x ≤ q.2 := fun q hq hz => by
      obtain ⟨k, hk, e⟩ := List.getElem_of_mem hq
      have rk : rowG s.rows k = q := by
        unfold rowG
        rw [List.getD_eq_getElem?_getD, List.getElem?_eq_getElem hk, e]
        rfl
      cases hr : (r k).1 with
      | true =>
        have := H2 k hk hr
        rw [rk] at this
        omega
      | false =>
        have km : k ∈ tightK r (List.range s.rows.length) := List.mem_filter.mpr ⟨List.mem_range.mpr hk, by simp [hr]⟩
        rw [← hts] at km
        obtain ⟨p, hp, ep⟩ := List.mem_map.mp km
        obtain ⟨j, hj, ej⟩ := List.getElem_of_mem hp
        have := I.eq j (by rw [el]; exact hj)
        have rj : rowG (eqsOf s.rows s.ts) j = eqR s.rows p := by
          unfold rowG eqsOf
          rw [List.getD_eq_getElem?_getD, List.getElem?_map, List.getElem?_eq_getElem hj, ej]
          rfl
        rw [rj] at this
        unfold eqR at this
        rw [ep, rk] at this
        dsimp only at this
        omega
    have ob : ∀ q ∈ s.rows, (dot q.1 x - q.2).natAbs ≤ 2 ^ 420 := fun q hq => by
      have db := dot_abs q.1 x (G.rb q hq) xb
      rw [G.rl q hq] at db
      have := G.bb q hq
      have : 4 * L * 2 ^ 400 ≤ 12 * 2 ^ 400 := Nat.mul_le_mul_right _ (by omega)
      generalize (2 : Nat) ^ 400 = B at *
      generalize 4 * L * B = B1 at *
      omega
    obtain ⟨m, m0, mb, k1, k2, e5⟩ := ev_lift_from G (B := 2 ^ 420) (Nat.pow_lt_pow_right (by decide) (by decide)) I.len (fun z hz => Nat.le_trans (xb z hz) (by generalize (2 : Nat) ^ 400 = B at *; omega)) H h0 ob (n := n) (by omega) (RowsD.L s.rows)
    have hl := H.len
    refine ⟨_, .done (y := stepX x h m) (stepX_len I.len hl) (fun v hv => ?_) (fun q hq => ?_) (fun v hv => ?_), ?_⟩
    · exact all_ig (P := fun v => 0 ≤ v) (stepX_len I.len hl) (fun i hi => by rw [stepX_ig I.len hl m hi]; exact k1 i hi) v hv
    · rw [stepX_dot _ _ _ _ (by rw [I.len, hl])]
      exact k2 q hq
    · obtain ⟨⟨u, w⟩, q1, q2⟩ := List.mem_map.mp hv
      have q3 := List.of_mem_zip q1
      have b1 := xb u q3.1
      have b2 := H.pos w q3.2
      have b3 : (m * w).natAbs ≤ 2 ^ 420 * 5000 := by
        rw [Int.natAbs_mul]
        exact Nat.mul_le_mul mb (by omega)
      have b4 : (2 : Nat) ^ 420 * 5000 + 2 ^ 400 < 2 ^ 9000 := by decide +kernel
      rw [← q2]
      show (u + m * w).natAbs < 2 ^ 9000
      generalize (2 : Nat) ^ 9000 = B9 at *
      generalize (2 : Nat) ^ 420 = B2 at *
      generalize (2 : Nat) ^ 400 = B1 at *
      omega
    · rw [fi__law_ended, run__law_ended]
      have e1 := ev_law_ints (n := n) (by omega) (xs := x) (L := L) I.len none fun x hx v hv => by cases hv
      have e2 := ev_law_ints (n := n) (by omega) (xs := h) (L := L) hl (some 1) fun x hx v hv => by
        cases hv
        exact (H.pos x hx).1
      obtain ⟨o6, e6⟩ := loop_ended (evf tb n) (s := s) (N := N) (.str "numbers") m (Nat.lt_of_le_of_lt mb (Nat.pow_lt_pow_right (by decide) (by decide))) I.len hl (fun z hz => sm_64 (by have := H.pos z hz; omega)) pl px (some (.va (.list (rLs s.rows)))) (some (.va (.int L))) L 0 s.xs none (by omega) xN
      rw [← List.range_eq_range', List.drop_zero, List.drop_zero] at e6
      simp only [leD] at e1 e2
      have L62 : L < 2 ^ 62 := by omega
      simp [S__law_ended, i0, i1, i2, i3, pl, ev, e1, e2, e5, L62, rgD0, e6]
      rfl
  | @rem y d R ysm =>
    have dp := R.two
    have none_ : ∀ z : List Int, z.length = L → (∀ p ∈ s.ts, dot (rowG s.rows p.1).1 z = (rowG s.rows p.1).2 - (p.2 : Int)) → False := fun z zl hz => by
      have ex := exch hL zl (eqsOf s.rows s.ts) y GE.rl
      have e : (eqsOf s.rows s.ts).map (fun r => dot r.1 z) = (eqsOf s.rows s.ts).map (·.2) := by
        refine List.map_congr_left fun q hq => ?_
        obtain ⟨p, hp, e⟩ := List.mem_map.mp hq
        rw [← e]
        exact hz p hp
      rw [e] at ex
      refine R.nd ?_
      rw [← ex]
      exact dvd_dot _ z fun a ha => by
        obtain ⟨i, hi, e⟩ := List.mem_map.mp ha
        rw [← e]
        exact R.dv i (List.mem_range.mp hi)
    refine ⟨_, .none none_, ?_⟩
    rw [fi__law_ended, run__law_ended]
    have yl : y.length = s.ts.length := by rw [R.len, el]
    have e1 := ev_law_ints (n := n) (by omega) (xs := y) (L := s.ts.length) yl none fun x hx v hv => by cases hv
    have e2 := ev_law_ints (n := n) (by omega) (xs := [d]) (L := 1) rfl (some 2) fun x hx v hv => by
      cases hv
      rw [List.mem_singleton.mp hx]
      exact dp
    have mp : mat (s.ts.map fun p => rowG s.rows p.1) = mat (eqsOf s.rows s.ts) := by
      unfold mat eqsOf
      rw [List.map_map, List.map_map]
      rfl
    have e3 := ev_law_sums (n := n) (by omega) (rs := s.ts.map fun p => rowG s.rows p.1) (w := y) (L := L) (fun q hq => by
      obtain ⟨p, hp, e⟩ := List.mem_map.mp hq
      rw [← e]
      exact G.rl _ (rowG_mem (mem p hp))) (fun q hq => by
      obtain ⟨p, hp, e⟩ := List.mem_map.mp hq
      rw [← e]
      exact (G.sm _ (rowG_mem (mem p hp))).1) (by simp; omega) (by omega) (by simp [yl]) ysm
    rw [mp] at e3
    have bsm : SmL ((eqsOf s.rows s.ts).map (·.2)) := fun x hx => by
      obtain ⟨r, hr, e⟩ := List.mem_map.mp hx
      rw [← e]
      exact (GE.sm r hr).2
    have e4 := ev_law_dot (n := n) (by omega) (.L ((eqsOf s.rows s.ts).map (·.2))) (.T y) (by simp [yl, el]) (by simp [el]; omega) bsm ysm
    rw [dot_comm] at e4
    have lc3 := lc_one (own := [9, 10]) (g := gN 10) (te := e__law_ended_3 (evf tb n)) (ρ := [some (.va (stD s)), some (.va (.list (rLs s.rows))), some (.va (.int L)), some (.va (.tuple [.str "remainder", eT y, .int d])), none, none, none, none, none, none, none, none]) tD (fun p => rL (rowG s.rows p.1)) s.ts [] (by simp; omega) fun p hp => by
      have : atI (rLs s.rows) (p.1 : Int) = some (rL (rowG s.rows p.1)) := by
        unfold rLs
        rw [Pv.atI_nat, List.getElem?_map, getD_eq (d := (([], 0) : Row)) (mem p hp)]
        rfl
      simp [lcOne, tD, this]
    have lc3e : (s.ts.map fun p => rL (rowG s.rows p.1)) = rLs (s.ts.map fun p => rowG s.rows p.1) := by
      unfold rLs
      rw [List.map_map]
      rfl
    rw [lc3e, List.nil_append, show s.ts.map tD = tsD s.ts from rfl] at lc3
    have dnz : d ≠ 0 := by omega
    have lc2 := fun (sl : Sl) => lcI (own := [9, 11]) (g := gN 11) (te := e__law_ended_2 (evf tb n)) (ρ := [some (.va (stD s)), some (.va (.list (rLs s.rows))), some (.va (.int L)), some (.va (.tuple [.str "remainder", eT y, .int d])), none, none, none, some sl, none, none, none, none]) (fun t => t.fmod d) ((List.range L).map fun k => dot y (colL (mat (eqsOf s.rows s.ts)) k)) (by simp; omega) fun x hx => by
      simp [lcOne, fMod_nz dnz]
    have f1 : fAny [.list (iL (((List.range L).map fun k => dot y (colL (mat (eqsOf s.rows s.ts)) k)).map fun t => t.fmod d))] = some (.va (.bool false)) := by
      rw [fAny_iL]
      congr 3
      rw [List.any_eq_false]
      intro x hx
      obtain ⟨t, ht, e⟩ := List.mem_map.mp hx
      obtain ⟨i, hi, e2⟩ := List.mem_map.mp ht
      rw [← e, ← e2, Int.fmod_eq_zero_of_dvd (R.dv i (List.mem_range.mp hi))]
      simp
    have lc1 := fun (sl : Sl) => lc_one (own := [9, 10]) (g := gN 10) (te := e__law_ended_1 (evf tb n)) (ρ := [some (.va (stD s)), some (.va (.list (rLs s.rows))), some (.va (.int L)), some (.va (.tuple [.str "remainder", eT y, .int d])), none, none, none, some sl, none, none, none, none]) tD (fun p => .int (eqR s.rows p).2) s.ts [] (by simp; omega) fun p hp => by
      have : atI (rLs s.rows) (p.1 : Int) = some (rL (rowG s.rows p.1)) := by
        unfold rLs
        rw [Pv.atI_nat, List.getElem?_map, getD_eq (d := (([], 0) : Row)) (mem p hp)]
        rfl
      simp [lcOne, tD, this, eqR]
    have lc1e : (s.ts.map fun p => PyData.int (eqR s.rows p).2) = iL ((eqsOf s.rows s.ts).map (·.2)) := by
      unfold iL eqsOf
      rw [List.map_map, List.map_map]
      rfl
    rw [lc1e] at lc1
    simp only [List.nil_append, show s.ts.map tD = tsD s.ts from rfl] at lc1
    have md : ¬ (dot y ((eqsOf s.rows s.ts).map (·.2))).fmod d = 0 := fun z => R.nd (Int.dvd_of_fmod_eq_zero z)
    simp only [leD] at e1 e2
    generalize (List.range L).map (fun k => dot y (colL (mat (eqsOf s.rows s.ts)) k)) = sums at e3 lc2 f1
    generalize hq : sums.map (fun t => t.fmod d) = rests at lc2 f1
    have e2' : evf tb n "_law_ints" none [.tuple [.int d], .int 1, .int 2] = some (.va (.bool true), none) := e2
    simp [S__law_ended, i0, i1, i2, i3, pl, ev, ne_num', e1, e2', sl_t3, lc3, e3, lc2, f1, lc1, e4, fMod_nz dnz, md]
end K36

set_option Elab.async false
set_option linter.all false
set_option maxRecDepth 100000
set_option maxHeartbeats 4000000
set_option autoImplicit false
set_option exponentiation.threshold 500
/-! Law k36: _law_turn evaluated. -/
namespace K36
open PySem PySem.Spec PyProof.Rows L2 Pv
noncomputable def gtR (M : Mat) (L : Nat) (g : List Int) : Res := @dite _ (∃ r, GtOk M L g r) (Classical.propDecidable _) (fun h => Classical.choose h) fun _ => (false, [], 0)
theorem gtR_ok {rs : List Row} {L : Nat} (G : GoodRows rs L) {g : List Int} (gl : g.length = L) (gb : ∀ x ∈ g, -4 ≤ x ∧ x ≤ 4) : GtOk (mat rs) L g (gtR (mat rs) L g) := by
  have h : ∃ r, GtOk (mat rs) L g r := gt_ex (m := rs.length) (G.small gl gb)
  unfold gtR
  rw [dif_pos h]
  exact Classical.choose_spec h
noncomputable def gR (s : St) (L p : Nat) : Res := gtR (mat s.rows) L (unit L p)
noncomputable def rR (s : St) (L k : Nat) : Res := gtR (mat s.rows) L (negL (rowG s.rows k).1)
theorem gR_ok {s : St} {L : Nat} (G : GoodRows s.rows L) (p : Nat) : GtOk (mat s.rows) L (unit L p) (gR s L p) := gtR_ok G (unit_len L p) (unit_bd L p)
theorem sides_of {s : St} {L : Nat} (G : GoodRows s.rows L) (h : ∀ p, p < L → (gR s L p).1 = true) : Sides s.rows L (gR s L) (rR s L) :=
  ⟨G, fun p hp => ⟨gR_ok G p, h p hp⟩, fun k hk => gtR_ok G (by unfold negL; rw [List.length_map]; exact G.rl _ (rowG_mem hk)) (negL_bd (G.rb _ (rowG_mem hk)))⟩
noncomputable def tkOf (s : St) (L : Nat) : List Nat := tightK (rR s L) (List.range s.rows.length)
theorem tk_nodup (s : St) (L : Nat) : (tkOf s L).Nodup := List.nodup_range.filter _
/-- the rests told so far are of the first tight rows -/
structure TsOk (s : St) (L : Nat) : Prop where
  gr : s.ts ≠ [] → ∀ p, p < L → (gR s L p).1 = true
  pre : s.ts ≠ [] → ∃ more, tkOf s L = s.ts.map (·.1) ++ more
/-- what a turn makes of a state -/
inductive TurnOk (s : St) (L : Nat) : List St → Prop
  | cap {p : Nat} {w : List Int} : p < L → CapW s.rows L p w → TurnOk s L (capC s p w)
  | rest {k : Nat} {w : List Int} : k < s.rows.length → TightOk s.rows L k w → (∀ v, TsOk (addT s k v) L) → TurnOk s L (restC s k w)
  | ended {cs : List St} : EndOk s L cs → TurnOk s L cs
theorem ne_grow : (("cap" : Str)) ≠ "grow" := by decide
theorem loop_places {s : St} {L : Nat} (G : GoodRows s.rows L) (pl : s.ps.length = L) (px : ∀ p ∈ s.ps, p < s.xs.length) {n : Nat} (hn : 5 ≤ n) : ∀ (t p : Nat) (o3 o4 : Option Sl), p + t = L →
    (∃ (q : Nat) (w : List Int) (ρ' : Sr), q < L ∧ CapW s.rows L q w ∧ forL (gN 3) (b__law_turn_3 (evf tb n)) (nL (List.range' p t)) [some (.va (stD s)), some (.va (.list (rLs s.rows))), some (.va (.int L)), o3, o4, none, none, none, none] = some (.rt (.nw (stsD (capC s q w))), ρ') ∧ (gR s L q).1 = false) ∨
    ((∀ q, p ≤ q → q < L → (gR s L q).1 = true) ∧ ∃ (o3' o4' : Option Sl), forL (gN 3) (b__law_turn_3 (evf tb n)) (nL (List.range' p t)) [some (.va (stD s)), some (.va (.list (rLs s.rows))), some (.va (.int L)), o3, o4, none, none, none, none] = some (.nx, [some (.va (stD s)), some (.va (.list (rLs s.rows))), some (.va (.int L)), o3', o4', none, none, none, none]))
  | 0, p, o3, o4, h => .inr ⟨fun q h1 h2 => by omega, o3, o4, by simp⟩
  | t + 1, p, o3, o4, h => by
    have hp : p < L := by omega
    have e1 := ev_grow_or_cap (n := n) hn (RowsD.L s.rows) G hp (gR_ok G p)
    rcases (gR_ok G p).ok with ⟨z, C⟩ | ⟨z, D, -⟩
    · rw [z] at e1
      simp only [Bool.false_eq_true, if_false] at e1
      obtain ⟨W, h0⟩ := capW_of G hp (by simpa using C)
      have e2 := ev_law_capped G h0 pl hp W (px _ (ng_mem (by omega))) (n := n) hn
      refine .inl ⟨p, _, [some (.va (stD s)), some (.va (.list (rLs s.rows))), some (.va (.int L)), some (.va (.int (p : Nat))), some (.va (.tuple [.str "cap", eT (lessen (gR s L p).2.1)])), none, none, none, none], hp, W, ?_, z⟩
      rw [List.range'_succ, nL_cons, forL_cons]
      simp [e1, ne_grow, e2]
    · rw [z] at e1
      simp only [if_true] at e1
      rcases loop_places G pl px hn t (p + 1) (some (.va (.int (p : Nat)))) (some (.va (.tuple [.str "grow", eT (gR s L p).2.1]))) (by omega) with ⟨q, w, ρ', a, b, c, d⟩ | ⟨a, q3, q4, c⟩
      · refine .inl ⟨q, w, ρ', a, b, ?_, d⟩
        rw [List.range'_succ, nL_cons, forL_cons]
        simp [e1]
        exact c
      · refine .inr ⟨fun q h1 h2 => ?_, q3, q4, ?_⟩
        · by_cases e : q = p
          · rw [e]; exact z
          · exact a q (by omega) h2
        · rw [List.range'_succ, nL_cons, forL_cons]
          simp [e1]
          exact c
theorem loop_tight (o : Str → Orc) (done : List Nat) (a1 a2 a3 a4 : Option Sl) (d0 : D) : ∀ (tk : List Nat) (sl : Sl) (o6 : Option Sl), (sl = .ow (nL done) ∨ sl = .va (.list (nL done))) → (∀ k ∈ tk, k ∈ done) → ∀ (more : List Nat),
    ∃ (sl' : Sl) (o6' : Option Sl), (sl' = .ow (nL done) ∨ sl' = .va (.list (nL done))) ∧ forL (gN 6) (b__law_turn_1 o) (nL (tk ++ more)) [some (.va d0), a1, a2, a3, a4, some sl, o6, none, none] = forL (gN 6) (b__law_turn_1 o) (nL more) [some (.va d0), a1, a2, a3, a4, some sl', o6', none, none]
  | [], sl, o6, h1, _, more => ⟨sl, o6, h1, rfl⟩
  | k :: tk, sl, o6, h1, h2, more => by
    obtain ⟨sl', o6', h3, e⟩ := loop_tight o done a1 a2 a3 a4 d0 tk (.va (.list (nL done))) (some (.va (.int (k : Nat)))) (.inr rfl) (fun q hq => h2 q (List.mem_cons_of_mem _ hq)) more
    refine ⟨sl', o6', h3, ?_⟩
    have ni := notIn_nL k done
    have c : done.contains k = true := by simpa using h2 k List.mem_cons_self
    rw [c] at ni
    rw [List.cons_append, nL_cons, forL_cons]
    rcases h1 with rfl | rfl <;> simp [ni] <;> exact e
theorem turn_ex {s : St} {L : Nat} (G : GoodRows s.rows L) (hb : ∀ q ∈ s.rows, -10000 ≤ q.2 ∧ q.2 ≤ 10000) (pl : s.ps.length = L) (px : ∀ p ∈ s.ps, p < s.xs.length) (T : TsOk s L) (tb' : ∀ p ∈ s.ts, p.2 < 1000) {n : Nat} (hn : 10 ≤ n) :
    ∃ cs, TurnOk s L cs ∧ evf tb n "_law_turn" none [stD s] = some (.nw (stsD cs), none) := by
  obtain ⟨n, rfl⟩ : ∃ m, n = m + 1 := ⟨n - 1, by omega⟩
  have hm := G.hm
  have hL := G.hL
  have i0 : fIx (stD s) (.int 0) = some (.va (.list (rLs s.rows))) := by simp [stD, stL]
  have i1 : fIx (stD s) (.int 1) = some (.va (.list (nL s.ps))) := by simp [stD, stL]
  have i3 : fIx (stD s) (.int 3) = some (.va (.list (tsD s.ts))) := by simp [stD, stL]
  have L62 : L < 2 ^ 62 := by omega
  rcases loop_places G pl px (n := n) (by omega) L 0 none none (by omega) with ⟨q, w, ρ', a, b, c, d⟩ | ⟨a, q3, q4, c⟩
  · refine ⟨_, .cap a b, ?_⟩
    rw [fi__law_turn, run__law_turn]
    rw [← List.range_eq_range'] at c
    simp [S__law_turn, i0, i1, pl, L62, rgD0, c]
  · have S := sides_of G fun p hp => a p (by omega) hp
    have e2 := ev_tight_rows S (n := n) (by omega) (RowsD.L s.rows)
    rw [show tightK (rR s L) (List.range s.rows.length) = tkOf s L from rfl] at e2
    have tsl : s.ts.length ≤ 4 := by
      by_cases h : s.ts = []
      · rw [h]; simp
      · obtain ⟨more, e⟩ := T.pre h
        have h1 := congrArg List.length e
        have h2 : (tkOf s L).length ≤ (List.range s.rows.length).length := List.length_filter_le _ _
        rw [List.length_range] at h2
        rw [List.length_append, List.length_map] at h1
        omega
    have lc := lc_one (own := [7, 8]) (g := gN 8) (te := e__law_turn_2 (evf tb n)) (ρ := [some (.va (stD s)), some (.va (.list (rLs s.rows))), some (.va (.int L)), q3, q4, none, none, none, none]) tD (fun p => .int (p.1 : Nat)) s.ts [] (by simp; omega) fun p hp => by
      simp [lcOne, tD]
    have lce : (s.ts.map fun p => PyData.int (p.1 : Nat)) = nL (s.ts.map (·.1)) := by
      unfold nL iL
      rw [List.map_map, List.map_map]
      rfl
    rw [lce, List.nil_append, show s.ts.map tD = tsD s.ts from rfl] at lc
    have ex : ∃ more, tkOf s L = s.ts.map (·.1) ++ more := by
      by_cases h : s.ts = []
      · exact ⟨tkOf s L, by rw [h]; rfl⟩
      · exact T.pre h
    obtain ⟨more, em⟩ := ex
    obtain ⟨sl', o6', h3, e3⟩ := loop_tight (evf tb n) (s.ts.map (·.1)) (some (.va (.list (rLs s.rows)))) (some (.va (.int L))) q3 q4 (stD s) (s.ts.map (·.1)) (.ow (nL (s.ts.map (·.1)))) none (.inl rfl) (fun k hk => hk) more
    rw [← em] at e3
    rw [← List.range_eq_range'] at c
    cases more with
    | nil =>
      rw [List.append_nil] at em
      obtain ⟨cs, E, ev⟩ := ended_ex S hb pl rfl px em.symm tb' (n := n) (by omega)
      refine ⟨cs, .ended E, ?_⟩
      rw [fi__law_turn, run__law_turn]
      simp [S__law_turn, i0, i1, i3, pl, L62, rgD0, c, lc, e2, e3, ev]
    | cons k more =>
      have nd := tk_nodup s L
      rw [em] at nd
      have nk : k ∉ s.ts.map (·.1) := fun z => by
        have := (List.nodup_append.mp nd).2.2 k z k List.mem_cons_self
        exact this rfl
      have km : k ∈ tkOf s L := by rw [em]; simp
      have k1 := List.mem_filter.mp km
      have kr : k < s.rows.length := List.mem_range.mp k1.1
      have kz : (rR s L k).1 = false := by simpa using k1.2
      have ev := ev_law_rested (g := gR s L) (r := rR s L) S pl kr kz (by omega) (n := n) (by omega)
      have ts : ∀ v, TsOk (addT s k v) L := fun v => ⟨fun _ => fun p hp => a p (by omega) hp, fun _ => ⟨more, by
        show tkOf s L = _
        rw [em]
        simp [addT]⟩⟩
      refine ⟨_, .rest kr (tight_ok S kr kz) ts, ?_⟩
      rw [fi__law_turn, run__law_turn]
      have ni := notIn_nL k (s.ts.map (·.1))
      have cf : (s.ts.map (·.1)).contains k = false := by
        rw [Bool.eq_false_iff]
        intro z
        exact nk (by simpa using z)
      rw [cf] at ni
      rw [nL_cons, forL_cons] at e3
      rcases h3 with rfl | rfl <;> simp [ni, ev] at e3 <;> simp [S__law_turn, i0, i1, i3, pl, L62, rgD0, c, lc, e2, e3]
end K36

set_option Elab.async false
set_option linter.all false
set_option maxRecDepth 100000
set_option maxHeartbeats 4000000
set_option autoImplicit false
set_option exponentiation.threshold 10000
/-! Law k36: what the law's states mean. -/
namespace K36
open PySem PySem.Spec PyProof.Rows L2 Pv
/-! ### plain sums -/
theorem cut_zero {α : Type} (a : α) (xs : List α) : cutP (a :: xs) 0 = xs := by simp [cutP]
theorem cut_succ {α : Type} (a : α) (xs : List α) (p : Nat) : cutP (a :: xs) (p + 1) = a :: cutP xs p := by simp [cutP]
theorem cut_map {α β : Type} (f : α → β) (xs : List α) (p : Nat) : cutP (xs.map f) p = (cutP xs p).map f := by simp [cutP, List.map_take, List.map_drop]
theorem mem_cut {α : Type} {xs : List α} {p : Nat} {x : α} (h : x ∈ cutP xs p) : x ∈ xs := by
  rcases List.mem_append.mp h with h | h
  · exact List.mem_of_mem_take h
  · exact List.mem_of_mem_drop h
theorem dot_cut : ∀ (c y : List Int) (p : Nat), c.length = y.length → p < c.length → dot c y = ig c p * ig y p + dot (cutP c p) (cutP y p)
  | [], _, p, _, h => by simp at h
  | a :: c, [], p, h, _ => by simp at h
  | a :: c, b :: y, 0, _, _ => by
    rw [dot_cons, cut_zero, cut_zero]
    rfl
  | a :: c, b :: y, p + 1, h1, h2 => by
    rw [dot_cons, cut_succ, cut_succ, dot_cons, dot_cut c y p (by simpa using h1) (by simpa using h2)]
    show a * b + (ig c p * ig y p + dot (cutP c p) (cutP y p)) = ig c p * ig y p + (a * b + dot (cutP c p) (cutP y p))
    omega
theorem dot_at_le : ∀ (xs ys : List Int) (p : Nat), (∀ x ∈ xs, 0 ≤ x) → (∀ y ∈ ys, 0 ≤ y) → xs.length = ys.length → ig xs p * ig ys p ≤ dot xs ys
  | [], ys, p, _, _, _ => by rw [ig_out (by simp), dot_nil]; omega
  | x :: xs, [], p, _, _, h => by simp at h
  | x :: xs, y :: ys, 0, h1, h2, h => by
    rw [dot_cons]
    have := dot_nonneg (fun z hz => h1 z (List.mem_cons_of_mem _ hz)) (fun z hz => h2 z (List.mem_cons_of_mem _ hz))
    show x * y ≤ x * y + dot xs ys
    omega
  | x :: xs, y :: ys, p + 1, h1, h2, h => by
    rw [dot_cons]
    have := dot_at_le xs ys p (fun z hz => h1 z (List.mem_cons_of_mem _ hz)) (fun z hz => h2 z (List.mem_cons_of_mem _ hz)) (by simpa using h)
    have := Int.mul_nonneg (h1 x List.mem_cons_self) (h2 y List.mem_cons_self)
    show ig xs p * ig ys p ≤ x * y + dot xs ys
    omega
theorem dot_map_sub {α : Type} (f g : α → Int) : ∀ (rs : List α) (w : List Int), dot w (rs.map fun r => f r - g r) = dot w (rs.map f) - dot w (rs.map g)
  | [], w => by simp only [List.map_nil]; rw [dot_nil']; rfl
  | r :: rs, [] => by rw [dot_nil, dot_nil, dot_nil]; rfl
  | r :: rs, a :: w => by
    rw [List.map_cons, List.map_cons, List.map_cons, dot_cons, dot_cons, dot_cons, dot_map_sub f g rs w]
    grind
theorem le_fdiv {a b c : Int} (hb : 0 < b) (h : b * a ≤ c) : a ≤ c.fdiv b := by
  have e := Int.mul_fdiv_add_fmod c b
  have r2 := Int.fmod_lt_of_pos c hb
  rcases Int.lt_or_le (c.fdiv b) a with z | z
  · have : b * (c.fdiv b + 1) ≤ b * a := Int.mul_le_mul_of_nonneg_left (by omega) (by omega)
    rw [Int.mul_add, Int.mul_one] at this
    omega
  · exact z
/-! ### states -/
def Agree (N : Nat) (s : St) (z : List Int) : Prop := ∀ i, i < N → i ∉ s.ps → ig z i = ig s.xs i
structure StOk (R0 : List Row) (N : Nat) (s : St) : Prop where
  G : GoodRows s.rows s.ps.length
  xl : s.xs.length = N
  xsm : SmL s.xs
  nd : s.ps.Nodup
  pN : ∀ p ∈ s.ps, p < N
  bb : ∀ r ∈ s.rows, -(2404 - 800 * (s.ps.length : Int)) ≤ r.2 ∧ r.2 ≤ 2404 - 800 * (s.ps.length : Int)
  nn : ∀ i, i < N → i ∉ s.ps → 0 ≤ ig s.xs i
  rl : s.rows.length = R0.length
  rel : ∀ z : List Int, z.length = N → Agree N s z → ∀ k, k < R0.length → (rowG s.rows k).2 - dot (rowG s.rows k).1 (s.ps.map (ig z)) = (rowG R0 k).2 - dot (rowG R0 k).1 z
  ts : TsOk s s.ps.length
  tbd : ∀ p ∈ s.ts, p.2 < 200
structure FoundOk (R0 : List Row) (N : Nat) (xs : List Int) : Prop where
  len : xs.length = N
  nn : ∀ v ∈ xs, 0 ≤ v
  keep : ∀ r ∈ R0, dot r.1 xs ≤ r.2
  sm : SmL xs
def DoneOk (R0 : List Row) (N : Nat) (s : St) : Prop := ∃ xs, s = ⟨[], [], xs, []⟩ ∧ FoundOk R0 N xs
def Compat (N : Nat) (s : St) (z : List Int) : Prop := Agree N s z ∧ ∀ p ∈ s.ts, dot (rowG s.rows p.1).1 (s.ps.map (ig z)) = (rowG s.rows p.1).2 - (p.2 : Int)
/-- the rows handed in -/
structure Rows0 (R0 : List Row) (N : Nat) : Prop where
  N1 : 1 ≤ N
  N3 : N ≤ 3
  m : R0.length ≤ 4
  rl : ∀ r ∈ R0, r.1.length = N
  rb : ∀ r ∈ R0, ∀ x ∈ r.1, -4 ≤ x ∧ x ≤ 4
  bb : ∀ r ∈ R0, -4 ≤ r.2 ∧ r.2 ≤ 4
structure Small (R0 : List Row) (N : Nat) (z : List Int) : Prop where
  len : z.length = N
  bd : ∀ v ∈ z, 0 ≤ v ∧ v ≤ 3
  keep : ∀ r ∈ R0, dot r.1 z ≤ r.2
def WOk (R0 : List Row) (N : Nat) (s : St) : Prop := StOk R0 N s ∨ DoneOk R0 N s
def Hit (R0 : List Row) (N : Nat) (z : List Int) (s : St) : Prop := (StOk R0 N s ∧ Compat N s z) ∨ DoneOk R0 N s
theorem rowG_map {rs : List Row} (f : Row → Row) {k : Nat} (hk : k < rs.length) : rowG (rs.map f) k = f (rowG rs k) := by
  unfold rowG
  rw [List.getD_eq_getElem?_getD, List.getD_eq_getElem?_getD, List.getElem?_map, List.getElem?_eq_getElem hk]
  rfl
theorem rowG_all {rs : List Row} {P : Row → Prop} (h : ∀ k, k < rs.length → P (rowG rs k)) : ∀ r ∈ rs, P r := fun r hr => by
  obtain ⟨k, hk, e⟩ := List.getElem_of_mem hr
  have : rowG rs k = r := by
    unfold rowG
    rw [List.getD_eq_getElem?_getD, List.getElem?_eq_getElem hk, e]
    rfl
  rw [← this]
  exact h k hk
theorem ps_split {ps : List Nat} {p : Nat} (hp : p < ps.length) : ps = ps.take p ++ ng ps p :: ps.drop (p + 1) := by
  rw [← dropN hp, List.take_append_drop]
theorem cut_nodup {ps : List Nat} {p : Nat} (hp : p < ps.length) (nd : ps.Nodup) : (cutP ps p).Nodup ∧ ng ps p ∉ cutP ps p ∧ ∀ i, i ∈ ps ↔ i = ng ps p ∨ i ∈ cutP ps p := by
  have e := ps_split hp
  have nd2 := nd
  rw [e] at nd2
  unfold cutP
  rw [List.nodup_append] at nd2
  obtain ⟨h1, h2, h3⟩ := nd2
  rw [List.nodup_cons] at h2
  refine ⟨List.nodup_append.mpr ⟨h1, h2.2, fun a ha b hb => h3 a ha b (List.mem_cons_of_mem _ hb)⟩, fun z => ?_, fun i => ?_⟩
  · rcases List.mem_append.mp z with z | z
    · exact h3 _ z _ List.mem_cons_self rfl
    · exact h2.1 z
  · constructor
    · intro z
      rw [e] at z
      rcases List.mem_append.mp z with z | z
      · exact .inr (List.mem_append_left _ z)
      · rcases List.mem_cons.mp z with z | z
        · exact .inl z
        · exact .inr (List.mem_append_right _ z)
    · intro z
      rw [e]
      rcases z with z | z
      · rw [z]
        simp
      · rcases List.mem_append.mp z with z | z
        · exact List.mem_append_left _ z
        · exact List.mem_append_right _ (List.mem_cons_of_mem _ z)
theorem map_ng (z : List Int) {ps : List Nat} {p : Nat} (hp : p < ps.length) : ig (ps.map (ig z)) p = ig z (ng ps p) := by
  unfold ng
  rw [ig_get (by simpa using hp), List.getElem_map, List.getD_eq_getElem?_getD, List.getElem?_eq_getElem hp]
  rfl
section
variable {R0 : List Row} {N : Nat} {s : St}
theorem put_agree (S : StOk R0 N s) {p : Nat} (hp : p < s.ps.length) {v : Nat} {z : List Int} (A : Agree N (put s p (v : Nat)) z) : Agree N s z ∧ ig z (ng s.ps p) = (v : Int) := by
  obtain ⟨n1, n2, n3⟩ := cut_nodup hp S.nd
  have PN : ng s.ps p < N := S.pN _ (ng_mem hp)
  refine ⟨fun i hi hn => ?_, ?_⟩
  · have hc : i ∉ cutP s.ps p := fun z => hn ((n3 i).mpr (.inr z))
    have ne : i ≠ ng s.ps p := fun z => hn ((n3 i).mpr (.inl z))
    have := A i hi hc
    show ig z i = ig s.xs i
    rw [this]
    show ig (s.xs.set (ng s.ps p) (v : Int)) i = _
    rw [ig_set _ _ _ _ (by rw [S.xl]; exact PN), if_neg ne]
  · have := A _ PN n2
    rw [this]
    show ig (s.xs.set (ng s.ps p) (v : Int)) (ng s.ps p) = _
    rw [ig_set _ _ _ _ (by rw [S.xl]; exact PN), if_pos rfl]
theorem put_ok (S : StOk R0 N s) {p : Nat} (hp : p < s.ps.length) {v : Nat} (hv : v < 200) : StOk R0 N (put s p (v : Nat)) := by
  obtain ⟨n1, n2, n3⟩ := cut_nodup hp S.nd
  have PN : ng s.ps p < N := S.pN _ (ng_mem hp)
  have cl : (put s p (v : Nat)).ps.length = s.ps.length - 1 := cut_len hp
  have G := S.G
  have b' : ∀ r ∈ s.rows, -(2404 - 800 * ((s.ps.length - 1 : Nat) : Int)) ≤ (putR p (v : Nat) r).2 ∧ (putR p (v : Nat) r).2 ≤ 2404 - 800 * ((s.ps.length - 1 : Nat) : Int) := fun r hr => by
    have h1 := S.bb r hr
    have h2 := G.rb r hr _ (ig_mem (xs := r.1) (c := p) (by rw [G.rl r hr]; exact hp))
    have h3 := mul_bd (a := ig r.1 p) (b := (v : Int)) (p := 4) (q := 199) h2.1 h2.2 (by omega) (by omega)
    show -(2404 - 800 * ((s.ps.length - 1 : Nat) : Int)) ≤ r.2 - ig r.1 p * (v : Int) ∧ r.2 - ig r.1 p * (v : Int) ≤ 2404 - 800 * ((s.ps.length - 1 : Nat) : Int)
    omega
  refine ⟨⟨by rw [cl]; have := G.hL; omega, by simpa [put] using G.hm, fun r hr => ?_, fun r hr => ?_, fun r hr => ?_⟩, by simpa [put] using S.xl, fun x hx => (by rcases set_mem hx with hx | rfl; exact S.xsm x hx; exact sm_64 (by omega)), n1, fun q hq => S.pN q (mem_cut hq), fun r hr => ?_, fun i hi hn => ?_, by simpa [put] using S.rl, fun z zl A k hk => ?_, ⟨fun h => absurd rfl h, fun h => absurd rfl h⟩, fun q hq => by cases hq⟩
  · obtain ⟨q, hq, e⟩ := List.mem_map.mp hr
    rw [← e, cl]
    show (cutP q.1 p).length = _
    rw [cut_len (by rw [G.rl q hq]; exact hp), G.rl q hq]
  · obtain ⟨q, hq, e⟩ := List.mem_map.mp hr
    rw [← e]
    exact fun x hx => G.rb q hq x (mem_cut hx)
  · obtain ⟨q, hq, e⟩ := List.mem_map.mp hr
    rw [← e]
    have := b' q hq
    omega
  · obtain ⟨q, hq, e⟩ := List.mem_map.mp hr
    rw [← e, cl]
    exact b' q hq
  · show 0 ≤ ig (s.xs.set (ng s.ps p) (v : Int)) i
    rw [ig_set _ _ _ _ (by rw [S.xl]; exact PN)]
    split
    · omega
    · rename_i ne
      exact S.nn i hi fun z => by
        rcases (n3 i).mp z with z | z
        · exact ne z
        · exact hn z
  · obtain ⟨A', zv⟩ := put_agree S hp A
    have kr : k < s.rows.length := by rw [S.rl]; exact hk
    have e := S.rel z zl A' k hk
    have rl := G.rl _ (rowG_mem kr)
    rw [dot_cut _ _ p (by rw [rl]; simp) (by rw [rl]; exact hp), map_ng z hp, zv, cut_map] at e
    show (rowG (s.rows.map (putR p (v : Nat))) k).2 - dot (rowG (s.rows.map (putR p (v : Nat))) k).1 ((cutP s.ps p).map (ig z)) = _
    rw [rowG_map _ kr]
    show (rowG s.rows k).2 - ig (rowG s.rows k).1 p * (v : Int) - dot (cutP (rowG s.rows k).1 p) ((cutP s.ps p).map (ig z)) = _
    omega
theorem put_compat {p : Nat} (hp : p < s.ps.length) (S : StOk R0 N s) {z : List Int} (C : Compat N s z) {v : Nat} (hz : ig z (ng s.ps p) = (v : Int)) : Compat N (put s p (v : Nat)) z := by
  obtain ⟨n1, n2, n3⟩ := cut_nodup hp S.nd
  have PN : ng s.ps p < N := S.pN _ (ng_mem hp)
  refine ⟨fun i hi hn => ?_, fun q hq => by cases hq⟩
  show ig z i = ig (s.xs.set (ng s.ps p) (v : Int)) i
  rw [ig_set _ _ _ _ (by rw [S.xl]; exact PN)]
  split
  · rename_i e
    rw [e, hz]
  · rename_i ne
    exact C.1 i hi fun w => by
      rcases (n3 i).mp w with w | w
      · exact ne w
      · exact hn w
theorem addT_ok (S : StOk R0 N s) {k v : Nat} (hv : v < 200) (T : TsOk (addT s k v) s.ps.length) : StOk R0 N (addT s k v) :=
  ⟨S.G, S.xl, S.xsm, S.nd, S.pN, S.bb, S.nn, S.rl, S.rel, T, fun p hp => by
    rcases List.mem_append.mp hp with hp | hp
    · exact S.tbd p hp
    · rw [List.mem_singleton.mp hp]
      exact hv⟩
/-- what small numbers do in a state -/
structure Fits (R0 : List Row) (s : St) (y : List Int) : Prop where
  len : y.length = s.ps.length
  nn : ∀ v ∈ y, 0 ≤ v ∧ v ≤ 3
  le : ∀ k, k < s.rows.length → 0 ≤ (rowG s.rows k).2 - dot (rowG s.rows k).1 y ∧ (rowG s.rows k).2 - dot (rowG s.rows k).1 y ≤ 40
theorem fits (H : Rows0 R0 N) (S : StOk R0 N s) {z : List Int} (Z : Small R0 N z) (C : Compat N s z) : Fits R0 s (s.ps.map (ig z)) := by
  refine ⟨by simp, fun v hv => ?_, fun k hk => ?_⟩
  · obtain ⟨p, hp, e⟩ := List.mem_map.mp hv
    rw [← e]
    exact Z.bd _ (ig_mem (by rw [Z.len]; exact S.pN p hp))
  · have k0 : k < R0.length := by rw [← S.rl]; exact hk
    rw [S.rel z Z.len C.1 k k0]
    have m0 := rowG_mem k0
    have := Z.keep _ m0
    have b := H.bb _ m0
    have l := H.rl _ m0
    have N3 := H.N3
    have d := dot_bd (p := 4) (q := 3) (m := 3) (w := (rowG R0 k).1) (c := z) (by omega) (by omega) (by omega) (H.rb _ m0) (fun x hx => by have := Z.bd x hx; omega)
    omega
theorem Fits.w_le {y : List Int} (F : Fits R0 s y) (G : GoodRows s.rows s.ps.length) {w : List Int} (wn : ∀ x ∈ w, 0 ≤ x) (wl : w.length = s.rows.length) : dot ((List.range s.ps.length).map fun i => dot w (colL (mat s.rows) i)) y = dot w (s.rows.map (·.2)) - dot w (s.rows.map fun r => r.2 - dot r.1 y) ∧ ∀ k, k < s.rows.length → ig w k * ((rowG s.rows k).2 - dot (rowG s.rows k).1 y) ≤ dot w (s.rows.map fun r => r.2 - dot r.1 y) := by
  refine ⟨?_, fun k hk => ?_⟩
  · have e' : dot w (s.rows.map fun r => r.2 - dot r.1 y) = dot w (s.rows.map (·.2)) - dot w (s.rows.map fun r => dot r.1 y) := dot_map_sub _ _ _ _
    rw [exch G.hL F.len s.rows w G.rl, e']
    omega
  · have h := dot_at_le w (s.rows.map fun r => r.2 - dot r.1 y) k wn (fun x hx => by
      obtain ⟨r, hr, e⟩ := List.mem_map.mp hx
      rw [← e]
      exact rowG_all (P := fun r => 0 ≤ r.2 - dot r.1 y) (fun k hk => (F.le k hk).1) r hr) (by simp [wl])
    have e : ig (s.rows.map fun r => r.2 - dot r.1 y) k = (rowG s.rows k).2 - dot (rowG s.rows k).1 y := by
      unfold ig rowG
      rw [List.getD_eq_getElem?_getD, List.getD_eq_getElem?_getD, List.getElem?_map, List.getElem?_eq_getElem hk]
      rfl
    rw [e] at h
    exact h
theorem kOf_lt {b : Int} {v : Nat} (h1 : (v : Int) ≤ b) (h2 : v < 200) : v < kOf b := by
  unfold kOf
  omega
theorem cap_hit (H : Rows0 R0 N) (S : StOk R0 N s) {p : Nat} {w : List Int} (hp : p < s.ps.length) (W : CapW s.rows s.ps.length p w) : (∀ c ∈ capC s p w, StOk R0 N c) ∧ ∀ z, Small R0 N z → Compat N s z → ∃ c ∈ capC s p w, Compat N c z := by
  refine ⟨fun c hc => ?_, fun z Z C => ?_⟩
  · obtain ⟨v, hv, e⟩ := List.mem_map.mp hc
    have := List.mem_range.mp hv
    have := kOf_le (capB s p w)
    rw [← e]
    exact put_ok S hp (by omega)
  · have F := fits H S Z C
    have yp := F.nn _ (ig_mem (xs := s.ps.map (ig z)) (c := p) (by simpa using hp))
    have e := map_ng z hp
    obtain ⟨w1, w2⟩ := F.w_le S.G (fun x hx => (W.pos x hx).1) W.len
    have nn : 0 ≤ dot w (s.rows.map fun r => r.2 - dot r.1 (s.ps.map (ig z))) := dot_nonneg (fun x hx => (W.pos x hx).1) fun x hx => by
      obtain ⟨r, hr, e⟩ := List.mem_map.mp hx
      rw [← e]
      exact rowG_all (P := fun r => 0 ≤ r.2 - dot r.1 (s.ps.map (ig z))) (fun k hk => (F.le k hk).1) r hr
    have at_ := dot_at_le ((List.range s.ps.length).map fun i => dot w (colL (mat s.rows) i)) (s.ps.map (ig z)) p (fun x hx => by
      obtain ⟨i, hi, e⟩ := List.mem_map.mp hx
      rw [← e]
      exact W.sum i (List.mem_range.mp hi)) (fun v hv => (F.nn v hv).1) (by simp)
    rw [map_range_ig _ hp] at at_
    have a1 := W.at_
    have le : ig (s.ps.map (ig z)) p ≤ capB s p w := le_fdiv (by omega) (by omega)
    obtain ⟨v, hv⟩ : ∃ v : Nat, ig (s.ps.map (ig z)) p = (v : Int) := ⟨(ig (s.ps.map (ig z)) p).toNat, by omega⟩
    refine ⟨put s p (v : Nat), List.mem_map.mpr ⟨v, List.mem_range.mpr (kOf_lt (by omega) (by omega)), rfl⟩, put_compat hp S C (by rw [← e]; exact hv)⟩
theorem rest_hit (H : Rows0 R0 N) (S : StOk R0 N s) {k : Nat} {w : List Int} (hk : k < s.rows.length) (W : TightOk s.rows s.ps.length k w) (T : ∀ v, TsOk (addT s k v) s.ps.length) : (∀ c ∈ restC s k w, StOk R0 N c) ∧ ∀ z, Small R0 N z → Compat N s z → ∃ c ∈ restC s k w, Compat N c z := by
  refine ⟨fun c hc => ?_, fun z Z C => ?_⟩
  · obtain ⟨v, hv, e⟩ := List.mem_map.mp hc
    have := List.mem_range.mp hv
    have := kOf_le (restB s k w)
    rw [← e]
    exact addT_ok S (by omega) (T v)
  · have F := fits H S Z C
    obtain ⟨w1, w2⟩ := F.w_le S.G (fun x hx => (W.pos x hx).1) W.len
    have z0 : dot ((List.range s.ps.length).map fun i => dot w (colL (mat s.rows) i)) (s.ps.map (ig z)) = 0 := Int.zero_dvd.mp (dvd_dot _ _ fun a ha => by
      obtain ⟨i, hi, e⟩ := List.mem_map.mp ha
      rw [← e, W.sum i (List.mem_range.mp hi)]
      exact Int.dvd_zero 0)
    have wk := w2 k hk
    have fk := F.le k hk
    have a1 := W.at_
    have le : (rowG s.rows k).2 - dot (rowG s.rows k).1 (s.ps.map (ig z)) ≤ restB s k w := le_fdiv (by omega) (by omega)
    obtain ⟨v, hv⟩ : ∃ v : Nat, (rowG s.rows k).2 - dot (rowG s.rows k).1 (s.ps.map (ig z)) = (v : Int) := ⟨((rowG s.rows k).2 - dot (rowG s.rows k).1 (s.ps.map (ig z))).toNat, by omega⟩
    refine ⟨addT s k v, List.mem_map.mpr ⟨v, List.mem_range.mpr (kOf_lt (by omega) (by omega)), rfl⟩, C.1, fun p hp => ?_⟩
    rcases List.mem_append.mp hp with hp | hp
    · exact C.2 p hp
    · rw [List.mem_singleton.mp hp]
      show dot (rowG s.rows k).1 (s.ps.map (ig z)) = (rowG s.rows k).2 - (v : Int)
      omega
theorem fill_ig : ∀ (ps : List Nat) (vs xs : List Int), ps.Nodup → (∀ p ∈ ps, p < xs.length) → vs.length = ps.length → ps.map (ig (fillL xs ps vs)) = vs ∧ ∀ i, i ∉ ps → ig (fillL xs ps vs) i = ig xs i
  | [], vs, xs, _, _, h => by
    have : vs = [] := List.length_eq_zero_iff.mp (by simpa using h)
    subst this
    exact ⟨rfl, fun i _ => by unfold fillL; rfl⟩
  | p :: ps, [], xs, _, _, h => by simp at h
  | p :: ps, v :: vs, xs, nd, hp, h => by
    rw [List.nodup_cons] at nd
    have pl := hp p List.mem_cons_self
    obtain ⟨h1, h2⟩ := fill_ig ps vs (xs.set p v) nd.2 (fun q hq => by rw [List.length_set]; exact hp q (List.mem_cons_of_mem _ hq)) (by simpa using h)
    rw [fillL]
    refine ⟨?_, fun i hi => ?_⟩
    · rw [List.map_cons, h1, h2 p nd.1, ig_set _ _ _ _ pl, if_pos rfl]
    · rw [h2 i fun z => hi (List.mem_cons_of_mem _ z), ig_set _ _ _ _ pl, if_neg fun z => hi (by rw [z]; exact List.mem_cons_self)]
theorem fillL_mem : ∀ (ps : List Nat) (vs xs : List Int), ∀ v ∈ fillL xs ps vs, v ∈ xs ∨ v ∈ vs
  | [], vs, xs, v, hv => by unfold fillL at hv; exact .inl hv
  | p :: ps, [], xs, v, hv => by unfold fillL at hv; exact .inl hv
  | p :: ps, w :: vs, xs, v, hv => by
    rw [fillL] at hv
    rcases fillL_mem ps vs _ v hv with h | h
    · rcases set_mem h with h | rfl
      · exact .inl h
      · exact .inr List.mem_cons_self
    · exact .inr (List.mem_cons_of_mem _ h)
theorem found_of (S : StOk R0 N s) {z : List Int} (zl : z.length = N) (A : Agree N s z) (pn : ∀ p ∈ s.ps, 0 ≤ ig z p) (le : ∀ r ∈ s.rows, dot r.1 (s.ps.map (ig z)) ≤ r.2) (zs : SmL z) : FoundOk R0 N z := by
  refine ⟨zl, all_ig (P := fun v => 0 ≤ v) zl fun i hi => ?_, rowG_all fun k hk => ?_, zs⟩
  · by_cases h : i ∈ s.ps
    · exact pn i h
    · rw [A i hi h]
      exact S.nn i hi h
  · have := S.rel z zl A k hk
    have := le _ (rowG_mem (k := k) (by rw [S.rl]; exact hk))
    omega
theorem turn_hit (H : Rows0 R0 N) (S : StOk R0 N s) {cs : List St} (T : TurnOk s s.ps.length cs) : (∀ c ∈ cs, WOk R0 N c) ∧ ∀ z, Small R0 N z → Compat N s z → ∃ c ∈ cs, Hit R0 N z c := by
  cases T with
  | @cap p w hp W =>
    obtain ⟨h1, h2⟩ := cap_hit H S hp W
    refine ⟨fun c hc => .inl (h1 c hc), fun z Z C => ?_⟩
    obtain ⟨c, hc, h⟩ := h2 z Z C
    exact ⟨c, hc, .inl ⟨h1 c hc, h⟩⟩
  | @rest k w hk W T =>
    obtain ⟨h1, h2⟩ := rest_hit H S hk W T
    refine ⟨fun c hc => .inl (h1 c hc), fun z Z C => ?_⟩
    obtain ⟨c, hc, h⟩ := h2 z Z C
    exact ⟨c, hc, .inl ⟨h1 c hc, h⟩⟩
  | ended E =>
    cases E with
    | none h => exact ⟨fun c hc => (by cases hc), fun z Z C => (h (s.ps.map (ig z)) (by simp) C.2).elim⟩
    | @done y yl yn le ysm =>
      obtain ⟨f1, f2⟩ := fill_ig s.ps y s.xs S.nd (fun p hp => by rw [S.xl]; exact S.pN p hp) yl
      have D : DoneOk R0 N ⟨[], [], fillL s.xs s.ps y, []⟩ := ⟨_, rfl, found_of S (by rw [fillL_len, S.xl]) (fun i _ hn => f2 i hn) (fun p hp => yn _ (by have w : ig (fillL s.xs s.ps y) p ∈ s.ps.map (ig (fillL s.xs s.ps y)) := List.mem_map.mpr ⟨p, hp, rfl⟩; rw [f1] at w; exact w)) (by rw [f1]; exact le) (fun v hv => (fillL_mem _ _ _ v hv).elim (S.xsm v) (ysm v))⟩
      exact ⟨fun c hc => by rw [List.mem_singleton.mp hc]; exact .inr D, fun z Z C => ⟨_, List.mem_singleton.mpr rfl, .inr D⟩⟩
/-- a state without places -/
theorem bare_found (S : StOk R0 N s) (h : s.ps = []) (hb : ∀ r ∈ s.rows, 0 ≤ r.2) : FoundOk R0 N s.xs :=
  found_of S S.xl (fun i _ _ => rfl) (fun p hp => by rw [h] at hp; cases hp) (fun r hr => by
    rw [h, List.map_nil, dot_nil']
    exact hb r hr) S.xsm
theorem bare_hit (H : Rows0 R0 N) (S : StOk R0 N s) (h : s.ps = []) {z : List Int} (Z : Small R0 N z) (C : Compat N s z) : ∀ r ∈ s.rows, 0 ≤ r.2 := by
  have F := fits H S Z C
  refine rowG_all fun k hk => ?_
  have := (F.le k hk).1
  rw [h, List.map_nil, dot_nil'] at this
  omega
theorem start_ok (H : Rows0 R0 N) : StOk R0 N ⟨R0, List.range N, List.replicate N 0, []⟩ ∧ ∀ z, z.length = N → Compat N ⟨R0, List.range N, List.replicate N 0, []⟩ z := by
  have mp : ∀ z : List Int, z.length = N → (List.range N).map (ig z) = z := fun z hz => by
    refine List.ext_getElem (by simp [hz]) fun i h1 h2 => ?_
    rw [List.getElem_map, List.getElem_range, ig_get h2]
  refine ⟨⟨⟨by simpa using H.N3, H.m, by simpa using H.rl, H.rb, fun r hr => by have := H.bb r hr; omega⟩, by simp, fun x hx => (by rw [(List.mem_replicate.mp hx).2]; exact sm_0), List.nodup_range, fun p hp => List.mem_range.mp hp, fun r hr => ?_, fun i hi hn => absurd (List.mem_range.mpr hi) hn, rfl, fun z zl _ k hk => ?_, ⟨fun h => absurd rfl h, fun h => absurd rfl h⟩, fun p hp => by cases hp⟩, fun z zl => ⟨fun i hi hn => absurd (List.mem_range.mpr hi) hn, fun p hp => by cases hp⟩⟩
  · have b := H.bb r hr
    have N3 := H.N3
    show -(2404 - 800 * ((List.range N).length : Int)) ≤ r.2 ∧ r.2 ≤ 2404 - 800 * ((List.range N).length : Int)
    rw [List.length_range]
    omega
  · show (rowG R0 k).2 - dot (rowG R0 k).1 ((List.range N).map (ig z)) = _
    rw [mp z zl]
end
end K36

set_option Elab.async false
set_option linter.all false
set_option maxRecDepth 100000
set_option maxHeartbeats 4000000
set_option autoImplicit false
set_option exponentiation.threshold 10000
/-! Law k36: _law_settled evaluated. -/
namespace K36
open PySem PySem.Spec PyProof.Rows L2 Pv
/-! ### data that may be compared -/
def LayD (k : Nat) (d : D) : Prop := d.canLay0 = true ∧ d.depth ≤ k
theorem LayD.int (k : Nat) (i : Int) : LayD k (.int i) := ⟨rfl, by show 0 ≤ k; omega⟩
theorem LayD.list {k : Nat} {xs : List D} (h : ∀ x ∈ xs, LayD k x) : LayD (k + 1) (.list xs) := by
  have : ∀ xs : List D, (∀ x ∈ xs, LayD k x) → PyData.canLayAll0 xs = true ∧ PyData.depthAll xs ≤ k := by
    intro xs
    induction xs with
    | nil => intro _; exact ⟨rfl, by show 0 ≤ k; omega⟩
    | cons x xs ih =>
      intro h
      obtain ⟨a, b⟩ := ih fun y hy => h y (List.mem_cons_of_mem _ hy)
      obtain ⟨c, d⟩ := h x List.mem_cons_self
      refine ⟨by rw [PyData.canLayAll0, c, a]; rfl, ?_⟩
      rw [PyData.depthAll]
      omega
  obtain ⟨a, b⟩ := this xs h
  refine ⟨by rw [PyData.canLay0]; exact a, ?_⟩
  rw [PyData.depth]
  omega
theorem LayD.more {k m : Nat} {d : D} (h : LayD k d) (hm : k ≤ m) : LayD m d := ⟨h.1, Nat.le_trans h.2 hm⟩
theorem LayD.shaped {k : Nat} {d : D} (h : LayD k d) (hk : k ≤ 64) : PySem.SeqAt.shaped d = true := by
  unfold PySem.SeqAt.shaped
  rw [h.1, decide_eq_true (Nat.le_trans h.2 hk)]
  rfl
theorem LayD.ints (xs : List Int) : LayD 1 (.list (iL xs)) := .list fun x hx => by
  obtain ⟨i, _, e⟩ := List.mem_map.mp hx
  rw [← e]
  exact .int 0 i
theorem LayD.row (r : Row) : LayD 2 (rL r) := .list fun x hx => by
  rcases List.mem_cons.mp hx with rfl | hx
  · exact .ints r.1
  · rw [List.mem_singleton.mp hx]
    exact .int 1 _
theorem LayD.rows (rs : List Row) : LayD 3 (.list (rLs rs)) := .list fun x hx => by
  obtain ⟨r, _, e⟩ := List.mem_map.mp hx
  rw [← e]
  exact .row r
theorem LayD.ts (ts : List (Nat × Nat)) : LayD 2 (.list (tsD ts)) := .list fun x hx => by
  obtain ⟨r, _, e⟩ := List.mem_map.mp hx
  rw [← e]
  refine .list fun y hy => ?_
  rcases List.mem_cons.mp hy with rfl | hy
  · exact .int 0 _
  · rw [List.mem_singleton.mp hy]
    exact .int 0 _
theorem LayD.st (s : St) : LayD 4 (stD s) := .list fun x hx => by
  unfold stL at hx
  rcases List.mem_cons.mp hx with rfl | hx
  · exact .rows _
  · rcases List.mem_cons.mp hx with rfl | hx
    · exact (LayD.ints _).more (by omega)
    · rcases List.mem_cons.mp hx with rfl | hx
      · exact (LayD.ints _).more (by omega)
      · rw [List.mem_singleton.mp hx]
        exact (LayD.ts _).more (by omega)
theorem LayD.sts (ws : List St) : LayD 5 (.list (stsD ws)) := .list fun x hx => by
  obtain ⟨r, _, e⟩ := List.mem_map.mp hx
  rw [← e]
  exact .st r
theorem fEq_lay {k m : Nat} {xs ys : List D} (h1 : LayD k (.list xs)) (h2 : LayD m (.list ys)) (hk : k ≤ 64) (hm : m ≤ 64) : fEq (.list xs) (.list ys) = some (.va (.bool (PyData.eqvAll xs ys))) := by
  show Option.map _ (if (PySem.SeqAt.shaped (.list xs) && PySem.SeqAt.shaped (.list ys)) = true then some (PyData.eqv (.list xs) (.list ys)) else none) = _
  rw [h1.shaped hk, h2.shaped hm]
  show Option.map _ (some (PyData.eqv (.list xs) (.list ys))) = _
  rw [PyData.eqv]
  rfl
theorem fNe_lay {k m : Nat} {xs ys : List D} (h1 : LayD k (.list xs)) (h2 : LayD m (.list ys)) (hk : k ≤ 64) (hm : m ≤ 64) : fNe (.list xs) (.list ys) = some (.va (.bool (!PyData.eqvAll xs ys))) := by
  show Option.map _ (if (PySem.SeqAt.shaped (.list xs) && PySem.SeqAt.shaped (.list ys)) = true then some (PyData.eqv (.list xs) (.list ys)) else none) = _
  rw [h1.shaped hk, h2.shaped hm]
  show Option.map _ (some (PyData.eqv (.list xs) (.list ys))) = _
  rw [PyData.eqv]
  rfl
theorem LayD.nil : LayD 1 (.list []) := .list fun x hx => by cases hx
theorem eqv_nil (xs : List D) : PyData.eqvAll xs [] = xs.isEmpty := by cases xs <;> rfl
theorem fEq_sts (ws : List St) : fEq (.list (stsD ws)) (.list []) = some (.va (.bool ws.isEmpty)) := by
  rw [fEq_lay (.sts ws) .nil (by omega) (by omega), eqv_nil]
  cases ws <;> rfl
theorem fEq_nats (ps : List Nat) : fEq (.list (nL ps)) (.list []) = some (.va (.bool ps.isEmpty)) := by
  have h : LayD 1 (.list (nL ps)) := LayD.ints _
  rw [fEq_lay h .nil (by omega) (by omega), eqv_nil]
  cases ps <;> rfl
/-! ### the driver -/
theorem pop_sts (ws : List St) (s : St) : (stsD (ws ++ [s]))[(stsD (ws ++ [s])).length - 1]? = some (stD s) := by
  rw [stsD_app, List.length_append, show (stsD [s]).length = 1 from rfl, Nat.add_sub_cancel, List.getElem?_append_right (Nat.le_refl _), Nat.sub_self]
  rfl
theorem drop_sts (ws : List St) (s : St) : (stsD (ws ++ [s])).dropLast = stsD ws := by
  rw [stsD_app]
  show (stsD ws ++ [stD s]).dropLast = _
  simp
theorem loop_push (o : Str → Orc) (a0 a1 a3 a4 a5 a7 a8 a9 : Option Sl) : ∀ (cs ws : List St) (o6 : Option Sl), ws.length + cs.length < 100000 →
    ∃ o6', forL (gN 6) (b__law_settled_2 o) (stsD cs) [a0, a1, some (.ow (stsD ws)), a3, a4, a5, o6, a7, a8, a9] = some (.nx, [a0, a1, some (.ow (stsD (ws ++ cs))), a3, a4, a5, o6', a7, a8, a9])
  | [], ws, o6, _ => ⟨o6, by simp⟩
  | c :: cs, ws, o6, h => by
    obtain ⟨o6', e⟩ := loop_push o a0 a1 a3 a4 a5 a7 a8 a9 cs (ws ++ [c]) (some (.va (stD c))) (by simp at h ⊢; omega)
    refine ⟨o6', ?_⟩
    have wl : ws.length < 100000 := by simp at h; omega
    have ap : stsD ws ++ [stD c] = stsD (ws ++ [c]) := (stsD_app ws [c]).symm
    rw [stsD_cons, forL_cons]
    simp [wl, ap]
    rw [List.append_assoc] at e
    exact e
/-- how the driver ends -/
inductive SetRes (R0 : List Row) (N : Nat) (P : Prop) : List D → Prop
  | none : (P → False) → SetRes R0 N P [.str "none", .list []]
  | found {xs : List Int} : FoundOk R0 N xs → SetRes R0 N P [.str "found", eL xs]
  | late : SetRes R0 N P [.str "late", .list []]
theorem capC_len (s : St) (p : Nat) (w : List Int) : (capC s p w).length ≤ 200 := by
  unfold capC
  rw [List.length_map, List.length_range]
  exact kOf_le _
theorem restC_len (s : St) (p : Nat) (w : List Int) : (restC s p w).length ≤ 200 := by
  unfold restC
  rw [List.length_map, List.length_range]
  exact kOf_le _
theorem turn_len' {s : St} {L : Nat} {cs : List St} (T : TurnOk s L cs) : cs.length ≤ 200 := by
  cases T with
  | cap _ _ => exact capC_len _ _ _
  | rest _ _ _ => exact restC_len _ _ _
  | ended E =>
    cases E with
    | none _ => simp
    | done _ _ _ _ => simp
section
variable {R0 : List Row} {N : Nat}
theorem loop_settled (H : Rows0 R0 N) {n : Nat} (hn : 11 ≤ n) (a0 a1 : Option Sl) : ∀ (ks : List Nat) (ws : List St) (o3 o4 o5 o6 : Option Sl), (∀ s ∈ ws, WOk R0 N s) → ws.length + 200 * ks.length ≤ 20000 →
    (∃ (d : List D) (ρ' : Sr), SetRes R0 N (∃ z, Small R0 N z ∧ ∃ s ∈ ws, Hit R0 N z s) d ∧ forL (gN 3) (b__law_settled_3 (evf tb n)) (nL ks) [a0, a1, some (.ow (stsD ws)), o3, o4, o5, o6, none, none, none] = some (.rt (.nw d), ρ')) ∨
    (∃ ρ', forL (gN 3) (b__law_settled_3 (evf tb n)) (nL ks) [a0, a1, some (.ow (stsD ws)), o3, o4, o5, o6, none, none, none] = some (.nx, ρ'))
  | [], ws, o3, o4, o5, o6, _, _ => .inr ⟨[a0, a1, some (.ow (stsD ws)), o3, o4, o5, o6, none, none, none], by simp⟩
  | k :: ks, ws, o3, o4, o5, o6, hw, hl => by
    rcases List.eq_nil_or_concat ws with rfl | ⟨ws, s, rfl⟩
    · refine .inl ⟨_, [a0, a1, some (.ow (stsD [])), some (.va (.int (k : Nat))), o4, o5, o6, none, none, none], .none fun ⟨z, _, s, hs, _⟩ => (by cases hs), ?_⟩
      have e0 := fEq_sts []
      rw [nL_cons, forL_cons]
      simp only [stsD_nil] at e0 ⊢
      simp [e0]
    · rw [List.concat_eq_append] at hw hl ⊢
      have i0 : fIx (stD s) (.int 0) = some (.va (.list (rLs s.rows))) := by simp [stD, stL]
      have i1 : fIx (stD s) (.int 1) = some (.va (.list (nL s.ps))) := by simp [stD, stL]
      have i2 : fIx (stD s) (.int 2) = some (.va (eL s.xs)) := by simp [stD, stL]
      have e0 := fEq_sts (ws ++ [s])
      have e00 : (ws ++ [s]).isEmpty = false := by simp
      rw [e00] at e0
      have p1 := pop_sts ws s
      have p2 := drop_sts ws s
      have e1 := fEq_nats s.ps
      have hs := hw s (by simp)
      have hw' : ∀ c ∈ ws, WOk R0 N c := fun c hc => hw c (by simp [hc])
      simp only [List.length_append, List.length_singleton, List.length_cons] at hl
      generalize hX : stsD (ws ++ [s]) = X at e0 p1 p2 ⊢
      by_cases hp : s.ps = []
      · rw [hp] at e1 i1
        have e1' : fEq (.list []) (.list []) = some (.va (.bool true)) := e1
        have rl4 : s.rows.length ≤ 4 := by
          rcases hs with S | ⟨xs, e, F⟩
          · exact S.G.hm
          · rw [e]; simp
        have lc := lc_one (own := [7, 9]) (g := gN 9) (te := e__law_settled_1 (evf tb n)) (ρ := [a0, a1, some (.ow (stsD ws)), some (.va (.int (k : Nat))), some (.va (stD s)), o5, o6, none, none, none]) rL (fun r => .bool (decide (0 ≤ r.2))) s.rows [] (by simp; omega) fun r hr => by
          simp [lcOne]
        have lce : (s.rows.map fun r => PyData.bool (decide (0 ≤ r.2))) = bL (s.rows.map fun r => decide (0 ≤ r.2)) := by
          unfold bL
          rw [List.map_map]
          rfl
        rw [lce, List.nil_append, show s.rows.map rL = rLs s.rows from rfl] at lc
        have al := fAll_b (s.rows.map fun r => decide (0 ≤ r.2))
        generalize hB : bL (s.rows.map fun r => decide (0 ≤ r.2)) = bs at lc al
        by_cases hb : ∀ r ∈ s.rows, 0 ≤ r.2
        · have at_ : (s.rows.map fun r => decide (0 ≤ r.2)).all id = true := by
            rw [List.all_eq_true]
            intro b hb'
            obtain ⟨r, hr, e⟩ := List.mem_map.mp hb'
            rw [← e]
            simpa using hb r hr
          rw [at_] at al
          have F : FoundOk R0 N s.xs := by
            rcases hs with S | ⟨xs, e, F⟩
            · exact bare_found S hp hb
            · rw [e]
              exact F
          refine .inl ⟨_, [a0, a1, some (.ow (stsD ws)), some (.va (.int (k : Nat))), some (.va (stD s)), o5, o6, none, none, none], .found F, ?_⟩
          rw [nL_cons, forL_cons]
          simp [e0, p1, p2, i1, e1', i0, lc, al, i2]
        · have S : StOk R0 N s := by
            rcases hs with S | ⟨xs, e, F⟩
            · exact S
            · exact absurd (fun r hr => by rw [e] at hr; cases hr) hb
          have af : (s.rows.map fun r => decide (0 ≤ r.2)).all id = false := by
            rw [Bool.eq_false_iff]
            intro z
            rw [List.all_eq_true] at z
            exact hb fun r hr => by
              have := z _ (List.mem_map.mpr ⟨r, hr, rfl⟩)
              simpa using this
          rw [af] at al
          have nh : ∀ z, Small R0 N z → ¬ Hit R0 N z s := fun z Z h => by
            rcases h with ⟨_, C⟩ | ⟨xs, e, F⟩
            · exact hb (bare_hit H S hp Z C)
            · exact hb fun r hr => by rw [e] at hr; cases hr
          rcases loop_settled H hn a0 a1 ks ws (some (.va (.int (k : Nat)))) (some (.va (stD s))) o5 o6 hw' (by omega) with ⟨d, ρ', R, e⟩ | ⟨ρ', e⟩
          · refine .inl ⟨d, ρ', ?_, ?_⟩
            · cases R with
              | none h => exact .none fun ⟨z, Z, c, hc, hh⟩ => h ⟨z, Z, c, by
                  rcases List.mem_append.mp hc with hc | hc
                  · exact hc
                  · rw [List.mem_singleton.mp hc] at hh
                    exact absurd hh (nh z Z), hh⟩
              | found F => exact .found F
              | late => exact .late
            · rw [nL_cons, forL_cons]
              simp [e0, p1, p2, i1, e1', i0, lc, al]
              exact e
          · refine .inr ⟨ρ', ?_⟩
            rw [nL_cons, forL_cons]
            simp [e0, p1, p2, i1, e1', i0, lc, al]
            exact e
      · have S : StOk R0 N s := by
          rcases hs with S | ⟨xs, e, F⟩
          · exact S
          · rw [e] at hp
            exact absurd rfl hp
        have e1f : s.ps.isEmpty = false := by
          cases h : s.ps with
          | nil => exact absurd h hp
          | cons a b => rfl
        rw [e1f] at e1
        obtain ⟨cs, T, ev⟩ := turn_ex S.G (fun q hq => by have := S.bb q hq; have := S.G.hL; omega) rfl (fun p hp => by rw [S.xl]; exact S.pN p hp) S.ts (fun p hp => by have := S.tbd p hp; omega) (n := n) (by omega)
        have cl := turn_len' T
        obtain ⟨h1, h2⟩ := turn_hit H S T
        obtain ⟨o6', e2⟩ := loop_push (evf tb n) a0 a1 (some (.va (.int (k : Nat)))) (some (.va (stD s))) (some (.va (.list (stsD cs)))) none none none cs ws o6 (by omega)
        rcases loop_settled H hn a0 a1 ks (ws ++ cs) (some (.va (.int (k : Nat)))) (some (.va (stD s))) (some (.va (.list (stsD cs)))) o6' (fun c hc => by
          rcases List.mem_append.mp hc with hc | hc
          · exact hw' c hc
          · exact h1 c hc) (by simp; omega) with ⟨d, ρ', R, e⟩ | ⟨ρ', e⟩
        · refine .inl ⟨d, ρ', ?_, ?_⟩
          · cases R with
            | none h =>
                refine .none ?_
                rintro ⟨z, Z, c, hc, hh⟩
                rcases List.mem_append.mp hc with hc | hc
                · exact h ⟨z, Z, c, List.mem_append_left _ hc, hh⟩
                · rw [List.mem_singleton.mp hc] at hh
                  rcases hh with ⟨_, C⟩ | ⟨xs, e, F⟩
                  · obtain ⟨c', hc', hh'⟩ := h2 z Z C
                    exact h ⟨z, Z, c', List.mem_append_right _ hc', hh'⟩
                  · rw [e] at hp
                    exact absurd rfl hp
            | found F => exact .found F
            | late => exact .late
          · rw [nL_cons, forL_cons]
            simp [e0, p1, p2, i1, e1, ev, e2]
            exact e
        · refine .inr ⟨ρ', ?_⟩
          rw [nL_cons, forL_cons]
          simp [e0, p1, p2, i1, e1, ev, e2]
          exact e
theorem settled_ex (H : Rows0 R0 N) {n : Nat} (hn : 12 ≤ n) : ∃ d, SetRes R0 N (∃ z, Small R0 N z) d ∧ evf tb n "_law_settled" none [.list (rLs R0), .int N] = some (.nw d, none) := by
  obtain ⟨n, rfl⟩ : ∃ m, n = m + 1 := ⟨n - 1, by omega⟩
  obtain ⟨S, C⟩ := start_ok H
  have N3 := H.N3
  have N62 : N < 2 ^ 62 := by omega
  have l1 := lcN (own := [7, 8]) (g := gN 8) (te := e__law_settled_5 (evf tb n)) (ρ := [some (.va (.list (rLs R0))), some (.va (.int N)), none, none, none, none, none, none, none, none]) (fun k => (k : Int)) (List.range N) (by simp; omega) fun x _ => by simp [lcOne]
  have l2 := lcN (own := [7, 8]) (g := gN 8) (te := e__law_settled_4 (evf tb n)) (ρ := [some (.va (.list (rLs R0))), some (.va (.int N)), none, none, none, none, none, none, none, none]) (fun k => 0) (List.range N) (by simp; omega) fun x _ => by simp [lcOne]
  rw [← nL_def] at l1
  rw [List.map_const', List.length_range] at l2
  have st : stsD [⟨R0, List.range N, List.replicate N 0, []⟩] = [.list [.list (rLs R0), .list (nL (List.range N)), .list (iL (List.replicate N 0)), .list []]] := rfl
  have main := loop_settled H (n := n) (by omega) (some (.va (.list (rLs R0)))) (some (.va (.int N))) (List.range 80) [⟨R0, List.range N, List.replicate N 0, []⟩] none none none none (fun s hs => by
    rw [List.mem_singleton.mp hs]
    exact .inl S) (by simp)
  rw [st] at main
  have ha : ∀ A, SetRes R0 N (∃ z, Small R0 N z ∧ ∃ s ∈ [(⟨R0, List.range N, List.replicate N 0, []⟩ : St)], Hit R0 N z s) A → SetRes R0 N (∃ z, Small R0 N z) A := fun A R => by
    cases R with
    | none h => exact .none fun ⟨z, Z⟩ => h ⟨z, Z, _, List.mem_singleton.mpr rfl, .inl ⟨S, C z Z.len⟩⟩
    | found F => exact .found F
    | late => exact .late
  have c80 : ((80 : Int)).natAbs < 2 ^ 62 := by omega
  have c80' : ((80 : Int)).toNat = 80 := rfl
  rcases main with ⟨d, ρ', R, e⟩ | ⟨ρ', e⟩
  · refine ⟨d, ha d R, ?_⟩
    rw [fi__law_settled, run__law_settled]
    simp [S__law_settled, N62, rgD0, l1, l2, e]
  · refine ⟨_, .late, ?_⟩
    rw [fi__law_settled, run__law_settled]
    simp [S__law_settled, N62, rgD0, l1, l2, e]
end
end K36

set_option Elab.async false
set_option linter.all false
set_option maxRecDepth 100000
set_option maxHeartbeats 4000000
set_option autoImplicit false
set_option exponentiation.threshold 10000
/-! Law k36: the rows drawn. -/
namespace K36
open PySem PySem.Spec PyProof.Rows L2 Pv
structure Pl where
  cells : List Int
  i : Nat
  c : Int
  k : Int
def plL (P : Pl) : List D := [.list (iL P.cells), .int (P.i : Nat), .int P.c, .int P.k]
theorem ix41 : ixN 4 1 = some 1 := rfl
theorem ix42 : ixN 4 2 = some 2 := rfl
theorem ix43 : ixN 4 3 = some 3 := rfl
theorem pow18 : fPow (.int 10) (.int 18) = some (.va (.int (10 ^ 18))) := by
  show (if (0 : Int) ≤ 18 ∧ (18 : Int) ≤ 1000000 ∧ (10 : Int).natAbs < 2 ^ 64 then some (Rs.va (.int (10 ^ (18 : Int).toNat))) else none) = _
  rw [if_pos (by omega)]
  rfl
theorem fmod_nat (a : Int) {b : Nat} (hb : 1 ≤ b) : ∃ v : Nat, a.fmod b = (v : Int) ∧ v < b := by
  have r1 := Int.fmod_nonneg_of_pos a (show (0 : Int) < b by omega)
  have r2 := Int.fmod_lt_of_pos a (show (0 : Int) < b by omega)
  exact ⟨(a.fmod b).toNat, by omega, by omega⟩
theorem ev_law_mixed {n : Nat} (hn : 1 ≤ n) (x : Int) (p : Nat) (hx : x.natAbs < 2 ^ 64) (hp : p < 2 ^ 60) : ∃ m : Int, evf tb n "_law_mixed" none [.int x, .int p] = some (.va (.int m), none) := by
  obtain ⟨n, rfl⟩ : ∃ m, n = m + 1 := ⟨n - 1, by omega⟩
  rw [fi__law_mixed, run__law_mixed]
  have m1 := fMul_sm (a := x) (b := 48271) (sm_64 hx) (sm_64 (by decide))
  have m2 := fMul_sm (a := (p : Int)) (b := 69621) (sm_64 (by omega)) (sm_64 (by decide))
  have d1 := fMod_nz (a := x * 48271 + p * 69621 + 11) (b := 2147483647) (by omega)
  have r1 := Int.fmod_nonneg_of_pos (x * 48271 + p * 69621 + 11) (show (0 : Int) < 2147483647 by omega)
  have r2 := Int.fmod_lt_of_pos (x * 48271 + p * 69621 + 11) (show (0 : Int) < 2147483647 by omega)
  generalize (x * 48271 + p * 69621 + 11).fmod 2147483647 = y at d1 r1 r2
  have m3 := fMul_sm (a := y) (b := y) (sm_64 (by omega)) (sm_64 (by omega))
  have m4 := fMul_sm (a := 16807) (b := (p : Int)) (sm_64 (by decide)) (sm_64 (by omega))
  have d2 := fMod_nz (a := y * y + 16807 * p + 7) (b := 2147483647) (by omega)
  have d3 := fDiv_sm (a := (y * y + 16807 * p + 7).fmod 2147483647) (b := 8) (sm_64 (by decide)) (by omega)
  have d4 := fMod_nz (a := ((y * y + 16807 * p + 7).fmod 2147483647).fdiv 8) (b := 268435399) (by omega)
  exact ⟨_, by simp [S__law_mixed, m1, m2, d1, m3, m4, d2, d3, d4]; rfl⟩
theorem ev_law_draw {n : Nat} (hn : 2 ≤ n) (P : Pl) (hP : P.cells.length ≤ 63) (b : Nat) (hb : 1 ≤ b) (hb2 : b ≤ 1000) :
    ∃ (v : Nat) (P' : Pl), v < b ∧ P'.cells.length ≤ 63 ∧ evf tb n "_law_draw" (some (.ow (plL P))) [.int b] = some (.va (.int v), some (plL P')) := by
  obtain ⟨n, rfl⟩ : ∃ m, n = m + 1 := ⟨n - 1, by omega⟩
  rw [fi__law_draw, run__law_draw_ow]
  have bsm : sm (b : Int) := sm_64 (by omega)
  have bnz : (b : Int) ≠ 0 := by omega
  unfold plL
  by_cases hk : 0 < P.k
  · obtain ⟨v, e, hv⟩ := fmod_nat P.c hb
    refine ⟨v, ⟨P.cells, P.i, P.c.fdiv b, P.k - 1⟩, hv, hP, ?_⟩
    have d1 := fMod_nz (a := P.c) bnz
    have d2 := fDiv_sm (a := P.c) bsm bnz
    rw [e] at d1
    simp [S__law_draw, hk, d1, d2, ix42, ix43]
  · by_cases hi : P.cells.length ≤ P.i
    · refine ⟨0, P, by omega, hP, ?_⟩
      simp [S__law_draw, hk, hi]
    · have il : P.i < P.cells.length := by omega
      have e1 := iL_atN il
      have hi' : ¬ P.cells.length ≤ P.i := hi
      have go : ∀ z : Int, (∃ (v : Nat) (P' : Pl), v < b ∧ P'.cells.length ≤ 63 ∧
          endO (sSeq (sIfS (sAsT (sCmpV fGe 3 (sBin fPow (sC (.int 10)) (sC (.int 18))))) (sSeq (sAsgG (gSbV 0 (sC (.int 2))) (sBin fDiv (sVar 3) (sVar 1)))
            (sSeq (sAsgG (gSbV 0 (sC (.int 3))) (sC (.int 40)))
            (sRet (sBin fMod (sArgs fInt (sCons (sVar 3) sNil)) (sVar 1))))) sNx)
            (sRet (sBin fMod (sArgs fInt (sCons (sCall (evf tb n "_law_mixed") (sCons (sVar 3) (sCons (sIxV 0 (sC (.int 1))) sNil))) sNil)) (sVar 1)))
            [some (.ow [.list (iL P.cells), .int ((P.i : Int) + 1), .int P.c, .int P.k]), some (.va (.int b)), none, some (.va (.int z))]) = some (.va (.int v), some (plL P')) ∧ 0 ≤ z) ∨ z < 0 := fun z => by
        by_cases hz : z < 0
        · exact .inr hz
        · left
          by_cases big : 10 ^ 18 ≤ z
          · obtain ⟨v, e, hv⟩ := fmod_nat z hb
            refine ⟨v, ⟨P.cells, P.i + 1, z.fdiv b, 40⟩, hv, hP, ?_, by omega⟩
            have d1 := fMod_nz (a := z) bnz
            have d2 := fDiv_sm (a := z) bsm bnz
            rw [e] at d1
            have big' : (1000000000000000000 : Int) ≤ z := big
            simp [pow18, big', d1, d2, ix42, ix43, plL]
          · have big' : ¬ (1000000000000000000 : Int) ≤ z := big
            obtain ⟨m, em⟩ := ev_law_mixed (n := n) (by omega) z (P.i + 1) (by omega) (by omega)
            obtain ⟨v, e, hv⟩ := fmod_nat m hb
            refine ⟨v, ⟨P.cells, P.i + 1, P.c, P.k⟩, hv, hP, ?_, by omega⟩
            have d1 := fMod_nz (a := m) bnz
            rw [e] at d1
            push_cast at em
            simp [pow18, big', em, d1, plL]
      by_cases hneg : ig P.cells P.i < 0
      · have c' : ¬ (1 - ig P.cells P.i < 0) := by omega
        rcases go (1 - ig P.cells P.i) with ⟨v, P', h1, h2, h3, h4⟩ | h
        · refine ⟨v, P', h1, h2, ?_⟩
          simp only [S__law_draw]
          unfold plL at h3
          rw [← h3]
          simp [hk, hi', e1, ix41, hneg]
        · omega
      · rcases go (ig P.cells P.i) with ⟨v, P', h1, h2, h3, h4⟩ | h
        · refine ⟨v, P', h1, h2, ?_⟩
          simp only [S__law_draw]
          unfold plL at h3
          rw [← h3]
          simp [hk, hi', e1, ix41, hneg]
        · omega
theorem ev_law_number {n : Nat} (hn : 3 ≤ n) (P : Pl) (hP : P.cells.length ≤ 63) (m : Nat) (hm : m ≤ 10) :
    ∃ (v : Int) (P' : Pl), -(m : Int) ≤ v ∧ v ≤ m ∧ P'.cells.length ≤ 63 ∧ evf tb n "_law_number" (some (.ow (plL P))) [.int m] = some (.va (.int v), some (plL P')) := by
  obtain ⟨n, rfl⟩ : ∃ m, n = m + 1 := ⟨n - 1, by omega⟩
  rw [fi__law_number, run__law_number_ow]
  obtain ⟨v, P', h1, h2, e⟩ := ev_law_draw (n := n) (by omega) P hP (2 * m + 1) (by omega) (by omega)
  have m1 := fMul_sm (a := 2) (b := (m : Int)) (sm_64 (by decide)) (sm_64 (by omega))
  push_cast at e
  have d1 := fMod_nz (a := (v : Int)) (b := 2) (by omega)
  have d2 := fDiv_sm (a := (v : Int) + 1) (b := 2) (sm_64 (by decide)) (by omega)
  have d3 := fDiv_sm (a := (v : Int)) (b := 2) (sm_64 (by decide)) (by omega)
  have q1 := Int.mul_fdiv_add_fmod (v : Int) 2
  have q2 := Int.mul_fdiv_add_fmod ((v : Int) + 1) 2
  have r1 := Int.fmod_nonneg_of_pos (v : Int) (show (0 : Int) < 2 by omega)
  have r2 := Int.fmod_lt_of_pos (v : Int) (show (0 : Int) < 2 by omega)
  have r3 := Int.fmod_nonneg_of_pos ((v : Int) + 1) (show (0 : Int) < 2 by omega)
  have r4 := Int.fmod_lt_of_pos ((v : Int) + 1) (show (0 : Int) < 2 by omega)
  by_cases ho : (v : Int).fmod 2 = 1
  · refine ⟨((v : Int) + 1).fdiv 2, P', by omega, by omega, h2, ?_⟩
    simp [S__law_number, m1, e, d1, ho, d2]
  · refine ⟨0 - (v : Int).fdiv 2, P', by omega, by omega, h2, ?_⟩
    simp [S__law_number, m1, e, d1, ho, d3]
theorem lc_numbers {n : Nat} (hn : 3 ≤ n) (a1 a2 a3 a4 : Option Sl) : ∀ (ks : List Nat) (P : Pl) (acc : List Int), P.cells.length ≤ 63 → acc.length + ks.length ≤ 1000 →
    ∃ (vs : List Int) (P' : Pl), vs.length = ks.length ∧ (∀ v ∈ vs, -2 ≤ v ∧ v ≤ 2) ∧ P'.cells.length ≤ 63 ∧ lcL [10, 11] (gN 11) sYes (e__law_drawn_3 (evf tb n)) (nL ks) [some (.ow (plL P)), a1, a2, a3, a4, none, none, none, none, none, none, none, none] (iL acc) =
      some (iL (acc ++ vs), [some (.ow (plL P')), a1, a2, a3, a4, none, none, none, none, none, none, none, none])
  | [], P, acc, hP, _ => ⟨[], P, rfl, fun v hv => (by cases hv), hP, by simp [lcL]⟩
  | k :: ks, P, acc, hP, hl => by
    obtain ⟨v, P1, h1, h2, h3, e⟩ := ev_law_number hn P hP 2 (by omega)
    obtain ⟨vs, P', g1, g2, g3, e2⟩ := lc_numbers hn a1 a2 a3 a4 ks P1 (acc ++ [v]) h3 (by simp at hl ⊢; omega)
    refine ⟨v :: vs, P', by simp [g1], fun x hx => ?_, g3, ?_⟩
    · rcases List.mem_cons.mp hx with rfl | hx
      · exact ⟨h1, h2⟩
      · exact g2 x hx
    · have al : acc.length < 100000 := by simp at hl; omega
      have e' : evf tb n "_law_number" (some (.ow (plL P))) [.int 2] = some (.va (.int v), some (plL P1)) := e
      have ap : iL acc ++ [.int v] = iL (acc ++ [v]) := by simp [iL]
      rw [nL_cons, lcL]
      simp [e', al, ap]
      rw [List.append_assoc] at e2
      exact e2
theorem rLs_one (acc : List Row) (r : Row) : rLs acc ++ [rL r] = rLs (acc ++ [r]) := by simp [rLs]
theorem loop_drawn {n : Nat} (hn : 3 ≤ n) {L : Nat} (hL : L ≤ 3) (a1 : Option Sl) : ∀ (ks : List Nat) (P : Pl) (acc : List Row) (o4 : Option Sl), P.cells.length ≤ 63 → acc.length + ks.length ≤ 1000 → (∀ r ∈ acc, r.1.length = L ∧ (∀ x ∈ r.1, -2 ≤ x ∧ x ≤ 2) ∧ -4 ≤ r.2 ∧ r.2 ≤ 4) →
    ∃ (acc' : List Row) (P' : Pl) (o4' : Option Sl), acc'.length = acc.length + ks.length ∧ (∀ r ∈ acc', r.1.length = L ∧ (∀ x ∈ r.1, -2 ≤ x ∧ x ≤ 2) ∧ -4 ≤ r.2 ∧ r.2 ≤ 4) ∧ P'.cells.length ≤ 63 ∧ forL (gN 4) (b__law_drawn_4 (evf tb n)) (nL ks) [some (.ow (plL P)), a1, some (.va (.int L)), some (.ow (rLs acc)), o4, none, none, none, none, none, none, none, none] =
      some (.nx, [some (.ow (plL P')), a1, some (.va (.int L)), some (.ow (rLs acc')), o4', none, none, none, none, none, none, none, none])
  | [], P, acc, o4, hP, _, h => ⟨acc, P, o4, rfl, h, hP, by simp⟩
  | k :: ks, P, acc, o4, hP, hl, h => by
    obtain ⟨vs, P1, g1, g2, g3, e1⟩ := lc_numbers hn a1 (some (.va (.int L))) (some (.ow (rLs acc))) (some (.va (.int (k : Nat)))) (List.range L) P [] hP (by simp; omega)
    obtain ⟨v, P2, f1, f2, f3, e2⟩ := ev_law_number hn P1 g3 4 (by omega)
    have e2' : evf tb n "_law_number" (some (.ow (plL P1))) [.int 4] = some (.va (.int v), some (plL P2)) := e2
    rw [List.length_range] at g1
    obtain ⟨acc', P', o4', k1, k2, k3, e3⟩ := loop_drawn hn hL a1 ks P2 (acc ++ [(vs, v)]) (some (.va (.int (k : Nat)))) f3 (by simp at hl ⊢; omega) (fun r hr => by
      rcases List.mem_append.mp hr with hr | hr
      · exact h r hr
      · rw [List.mem_singleton.mp hr]
        exact ⟨g1, g2, f1, f2⟩)
    refine ⟨acc', P', o4', by rw [k1]; simp; omega, k2, k3, ?_⟩
    have al : acc.length < 100000 := by simp at hl; omega
    have L62 : L < 2 ^ 62 := by omega
    rw [nL_cons, forL_cons]
    simp only [iL_nil, List.nil_append] at e1
    simp [L62, rgD0, e1, e2', al]
    rw [← rLs_one] at e3
    exact e3
/-- the end of it: a tie, or a ring -/
def tailS (o : Str → Orc) : SemS :=
    (sSeq (sAsg 5 (sLc [10, 11] (iRg1 (sCons (sBin fSub (sVar 2) (sC (.int 2))) sNil)) (gN 11) sYes (e__law_drawn_1 o)))
    (sSeq (sIfS (sAsT (sCmpV fEq 1 (sC (.int 1)))) (sSeq (sAsg 6 (sBin fAdd (sC (.int 1)) (sCallV (o "_law_draw") 0 (sCons (sC (.int 2)) sNil))))
    (sSeq (sAsg 7 (sBin fMul (sVar 6) (sBin fAdd (sC (.int 1)) (sCallV (o "_law_draw") 0 (sCons (sC (.int 2)) sNil)))))
    (sSeq (sAsg 8 (sBin fMul (sVar 6) (sBin fAdd (sC (.int 1)) (sCallV (o "_law_draw") 0 (sCons (sC (.int 2)) sNil)))))
    (sSeq (sAsg 9 (sCallV (o "_law_number") 0 (sCons (sC (.int 4)) sNil)))
    (sSeq (sExp (sApp 3 (sArgs fLst (sCons (sBin fAdd (sArgs fLst (sCons (sVar 7) (sCons (sBin fSub (sC (.int 0)) (sVar 8)) sNil))) (sVar 5)) (sCons (sVar 9) sNil)))))
    (sExp (sApp 3 (sArgs fLst (sCons (sBin fAdd (sArgs fLst (sCons (sBin fSub (sC (.int 0)) (sVar 7)) (sCons (sVar 8) sNil))) (sVar 5)) (sCons (sBin fSub (sC (.int 0)) (sVar 9)) sNil)))))))))) sNx)
    (sSeq (sIfS (sAsT (sCmpV fEq 1 (sC (.int 2)))) (sSeq (sExp (sApp 3 (sArgs fLst (sCons (sBin fAdd (sArgs fLst (sCons (sC (.int 2)) (sCons (sBin fSub (sC (.int 0)) (sC (.int 1))) sNil))) (sVar 5)) (sCons (sCallV (o "_law_draw") 0 (sCons (sC (.int 5)) sNil)) sNil)))))
    (sSeq (sExp (sApp 3 (sArgs fLst (sCons (sBin fAdd (sArgs fLst (sCons (sBin fSub (sC (.int 0)) (sC (.int 1))) (sCons (sC (.int 1)) sNil))) (sVar 5)) (sCons (sC (.int 0)) sNil)))))
    (sExp (sApp 3 (sArgs fLst (sCons (sBin fAdd (sArgs fLst (sCons (sBin fSub (sC (.int 0)) (sC (.int 1))) (sCons (sC (.int 0)) sNil))) (sVar 5)) (sCons (sBin fSub (sC (.int 0)) (sCallV (o "_law_draw") 0 (sCons (sC (.int 5)) sNil))) sNil))))))) sNx)
    (sRet (sArgs fLst (sCons (sVar 3) (sCons (sVar 2) sNil)))))))
theorem zeros (m : Nat) (hm : m ≤ 10) {ρ : Sr} {te : SemE} (h : ∀ x : Nat, lcOne [10, 11] (gN 11) te (.int x) ρ = some (.int 0, ρ)) : lcL [10, 11] (gN 11) sYes te (nL (List.range m)) ρ [] = some (iL (List.replicate m 0), ρ) := by
  have := lcN (own := [10, 11]) (g := gN 11) (te := te) (ρ := ρ) (fun _ => 0) (List.range m) (by simp; omega) fun x _ => h x
  rw [this, List.map_const', List.length_range]
theorem mem_two {m : Nat} {a b : Int} : ∀ x ∈ [a, b] ++ List.replicate m (0 : Int), x = a ∨ x = b ∨ x = 0 := fun x hx => by
  rcases List.mem_append.mp hx with hx | hx
  · rcases List.mem_cons.mp hx with hx | hx
    · exact .inl hx
    · exact .inr (.inl (List.mem_singleton.mp hx))
  · exact .inr (.inr (List.mem_replicate.mp hx).2)
theorem fAdd_two {m : Nat} (hm : m ≤ 10) (a b : Int) : fAdd (.list [.int a, .int b]) (.list (iL (List.replicate m 0))) = some (.nw (iL ([a, b] ++ List.replicate m 0))) := by
  have := fAdd_iL (a := [a, b]) (b := List.replicate m 0) (by simp; omega)
  exact this
def OkR (N : Nat) (r : Row) : Prop := r.1.length = N ∧ (∀ x ∈ r.1, -4 ≤ x ∧ x ≤ 4) ∧ -4 ≤ r.2 ∧ r.2 ≤ 4
theorem OkR.two {N : Nat} (hN : 2 ≤ N) {a b c : Int} (ha : -4 ≤ a ∧ a ≤ 4) (hb : -4 ≤ b ∧ b ≤ 4) (hc : -4 ≤ c ∧ c ≤ 4) : OkR N ([a, b] ++ List.replicate (N - 2) 0, c) :=
  ⟨by simp; omega, fun x hx => by
    rcases mem_two x hx with rfl | rfl | rfl
    · exact ha
    · exact hb
    · omega, hc⟩
theorem Rows0.of {acc : List Row} {N : Nat} (h1 : 1 ≤ N) (h3 : N ≤ 3) (h4 : acc.length ≤ 4) (h : ∀ r ∈ acc, OkR N r) : Rows0 acc N :=
  ⟨h1, h3, h4, fun r hr => (h r hr).1, fun r hr => (h r hr).2.1, fun r hr => (h r hr).2.2⟩
theorem tail_ex {n : Nat} (hn : 3 ≤ n) (P : Pl) (hP : P.cells.length ≤ 63) (kind N : Nat) (acc : List Row) (o4 : Option Sl) (hk : kind = 1 ∨ kind = 2) (hN : 2 ≤ N) (hN3 : N ≤ 3) (hl : acc.length * (1 + kind) ≤ 4) (hr : ∀ r ∈ acc, OkR N r) :
    ∃ (R0 : List Row) (P' : Pl), Rows0 R0 N ∧ endO (tailS (evf tb n) [some (.ow (plL P)), some (.va (.int kind)), some (.va (.int N)), some (.ow (rLs acc)), o4, none, none, none, none, none, none, none, none]) = some (.nw [.list (rLs R0), .int N], some (plL P')) := by
  have N62 : ((N : Int) - 2).natAbs < 2 ^ 62 := by omega
  have Nt : ((N : Int) - 2).toNat = N - 2 := by omega
  have z := fun kk : Int => zeros (N - 2) (by omega) (ρ := [some (.ow (plL P)), some (.va (.int kk)), some (.va (.int N)), some (.ow (rLs acc)), o4, none, none, none, none, none, none, none, none]) (te := e__law_drawn_1 (evf tb n)) fun x => by simp [lcOne]
  rcases hk with rfl | rfl
  · obtain ⟨a, P1, ha, p1, e1⟩ := ev_law_draw (n := n) (by omega) P hP 2 (by omega) (by omega)
    obtain ⟨b, P2, hb, p2, e2⟩ := ev_law_draw (n := n) (by omega) P1 p1 2 (by omega) (by omega)
    obtain ⟨c, P3, hc, p3, e3⟩ := ev_law_draw (n := n) (by omega) P2 p2 2 (by omega) (by omega)
    obtain ⟨v, P4, v1, v2, p4, e4⟩ := ev_law_number (n := n) (by omega) P3 p3 4 (by omega)
    have e1' : evf tb n "_law_draw" (some (.ow (plL P))) [.int 2] = some (.va (.int a), some (plL P1)) := e1
    have e2' : evf tb n "_law_draw" (some (.ow (plL P1))) [.int 2] = some (.va (.int b), some (plL P2)) := e2
    have e3' : evf tb n "_law_draw" (some (.ow (plL P2))) [.int 2] = some (.va (.int c), some (plL P3)) := e3
    have e4' : evf tb n "_law_number" (some (.ow (plL P3))) [.int 4] = some (.va (.int v), some (plL P4)) := e4
    have m1 := fMul_sm (a := 1 + (a : Int)) (b := 1 + (b : Int)) (sm_64 (by omega)) (sm_64 (by omega))
    have m2 := fMul_sm (a := 1 + (a : Int)) (b := 1 + (c : Int)) (sm_64 (by omega)) (sm_64 (by omega))
    have f1 := mul_bd (a := 1 + (a : Int)) (b := 1 + (b : Int)) (p := 2) (q := 2) (by omega) (by omega) (by omega) (by omega)
    have f2 := mul_bd (a := 1 + (a : Int)) (b := 1 + (c : Int)) (p := 2) (q := 2) (by omega) (by omega) (by omega) (by omega)
    generalize (1 + (a : Int)) * (1 + (b : Int)) = fi at m1 f1
    generalize (1 + (a : Int)) * (1 + (c : Int)) = se at m2 f2
    refine ⟨acc ++ [([fi, -se] ++ List.replicate (N - 2) 0, v)] ++ [([-fi, se] ++ List.replicate (N - 2) 0, -v)], P4, .of (by omega) hN3 (by simp; omega) fun r hr' => ?_, ?_⟩
    · rcases List.mem_append.mp hr' with hr' | hr'
      · rcases List.mem_append.mp hr' with hr' | hr'
        · exact hr r hr'
        · rw [List.mem_singleton.mp hr']
          exact .two hN (by omega) (by omega) (by omega)
      · rw [List.mem_singleton.mp hr']
        exact .two hN (by omega) (by omega) (by omega)
    · have al : acc.length < 100000 := by omega
      have al2 : acc.length + 1 < 100000 := by omega
      have t1 := fAdd_two (m := N - 2) (by omega) fi (-se)
      have t2 := fAdd_two (m := N - 2) (by omega) (-fi) se
      rw [← rLs_one, ← rLs_one]
      generalize [fi, -se] ++ List.replicate (N - 2) 0 = q1 at t1 ⊢
      generalize [-fi, se] ++ List.replicate (N - 2) 0 = q2 at t2 ⊢
      generalize List.replicate (N - 2) (0 : Int) = zz at z t1 t2
      simp [tailS, N62, Nt, rgD0, z, e1', e2', e3', e4', m1, m2, t1, t2, al, al2]
  · obtain ⟨a, P1, ha, p1, e1⟩ := ev_law_draw (n := n) (by omega) P hP 5 (by omega) (by omega)
    obtain ⟨b, P2, hb, p2, e2⟩ := ev_law_draw (n := n) (by omega) P1 p1 5 (by omega) (by omega)
    have e1' : evf tb n "_law_draw" (some (.ow (plL P))) [.int 5] = some (.va (.int a), some (plL P1)) := e1
    have e2' : evf tb n "_law_draw" (some (.ow (plL P1))) [.int 5] = some (.va (.int b), some (plL P2)) := e2
    refine ⟨acc ++ [([2, -1] ++ List.replicate (N - 2) 0, (a : Int))] ++ [([-1, 1] ++ List.replicate (N - 2) 0, 0)] ++ [([-1, 0] ++ List.replicate (N - 2) 0, -(b : Int))], P2, .of (by omega) hN3 (by simp; omega) fun r hr' => ?_, ?_⟩
    · rcases List.mem_append.mp hr' with hr' | hr'
      · rcases List.mem_append.mp hr' with hr' | hr'
        · rcases List.mem_append.mp hr' with hr' | hr'
          · exact hr r hr'
          · rw [List.mem_singleton.mp hr']
            exact .two hN (by omega) (by omega) (by omega)
        · rw [List.mem_singleton.mp hr']
          exact .two hN (by omega) (by omega) (by omega)
      · rw [List.mem_singleton.mp hr']
        exact .two hN (by omega) (by omega) (by omega)
    · have al : acc.length < 100000 := by omega
      have al2 : acc.length + 1 < 100000 := by omega
      have al3 : acc.length + 1 + 1 < 100000 := by omega
      have t1 := fAdd_two (m := N - 2) (by omega) 2 (-1)
      have t2 := fAdd_two (m := N - 2) (by omega) (-1) 1
      have t3 := fAdd_two (m := N - 2) (by omega) (-1) 0
      rw [← rLs_one, ← rLs_one, ← rLs_one]
      generalize [2, -1] ++ List.replicate (N - 2) (0 : Int) = q1 at t1 ⊢
      generalize [-1, 1] ++ List.replicate (N - 2) (0 : Int) = q2 at t2 ⊢
      generalize [-1, 0] ++ List.replicate (N - 2) (0 : Int) = q3 at t3 ⊢
      generalize List.replicate (N - 2) (0 : Int) = zz at z t1 t2 t3
      simp [tailS, N62, Nt, rgD0, z, e1', e2', t1, t2, t3, al, al2, al3]
theorem drawn_ex {n : Nat} (hn : 4 ≤ n) (P : Pl) (hP : P.cells.length ≤ 63) : ∃ (R0 : List Row) (N : Nat) (P' : Pl), Rows0 R0 N ∧ evf tb n "_law_drawn" (some (.ow (plL P))) [] = some (.nw [.list (rLs R0), .int N], some (plL P')) := by
  obtain ⟨n, rfl⟩ : ∃ m, n = m + 1 := ⟨n - 1, by omega⟩
  rw [fi__law_drawn, run__law_drawn_ow]
  obtain ⟨kind, P1, hk, p1, e1⟩ := ev_law_draw (n := n) (by omega) P hP 3 (by omega) (by omega)
  obtain ⟨len0, P2, hl0, p2, e2⟩ := ev_law_draw (n := n) (by omega) P1 p1 3 (by omega) (by omega)
  obtain ⟨t, P3, ht, p3, e3⟩ := ev_law_draw (n := n) (by omega) P2 p2 5 (by omega) (by omega)
  have e1' : evf tb n "_law_draw" (some (.ow (plL P))) [.int 3] = some (.va (.int kind), some (plL P1)) := e1
  have e2' : evf tb n "_law_draw" (some (.ow (plL P1))) [.int 3] = some (.va (.int len0), some (plL P2)) := e2
  have e3' : evf tb n "_law_draw" (some (.ow (plL P2))) [.int 5] = some (.va (.int t), some (plL P3)) := e3
  -- how many
  have d1 := fDiv_sm (a := (t : Int)) (b := 1 + (kind : Int)) (sm_64 (by omega)) (by omega)
  obtain ⟨q, hq, hq4⟩ : ∃ q : Nat, (t : Int).fdiv (1 + (kind : Int)) = (q : Int) ∧ q * (1 + kind) ≤ 4 := by
    have a := Int.mul_fdiv_add_fmod (t : Int) (1 + (kind : Int))
    have b := Int.fmod_nonneg_of_pos (t : Int) (show (0 : Int) < 1 + (kind : Int) by omega)
    have c := Int.fdiv_nonneg (show (0 : Int) ≤ (t : Int) by omega) (show (0 : Int) ≤ 1 + (kind : Int) by omega)
    refine ⟨((t : Int).fdiv (1 + (kind : Int))).toNat, by omega, ?_⟩
    have e : (((t : Int).fdiv (1 + (kind : Int))).toNat : Int) = (t : Int).fdiv (1 + (kind : Int)) := by omega
    have : ((((t : Int).fdiv (1 + (kind : Int))).toNat * (1 + kind) : Nat) : Int) ≤ 4 := by
      push_cast
      rw [e, Int.mul_comm]
      omega
    omega
  rw [hq] at d1
  have q4 : q ≤ 4 := by
    have : q * 1 ≤ q * (1 + kind) := Nat.mul_le_mul_left _ (by omega)
    omega
  have q62 : q < 2 ^ 62 := by omega
  have lcast : (1 : Int) + (len0 : Int) = ((1 + len0 : Nat) : Int) := by push_cast; rfl
  obtain ⟨acc, P4, o4, k1, k2, p4, e4⟩ := loop_drawn (n := n) (by omega) (L := 1 + len0) (by omega) (some (.va (.int kind))) (List.range q) P3 [] none p3 (by simp; omega) (fun r hr => by cases hr)
  rw [rLs_nil] at e4
  simp only [List.length_nil, List.length_range, Nat.zero_add] at k1
  have okr : ∀ r ∈ acc, OkR (1 + len0) r := fun r hr => ⟨(k2 r hr).1, fun x hx => by have := (k2 r hr).2.1 x hx; omega, (k2 r hr).2.2⟩
  generalize hL : 1 + len0 = N at *
  by_cases h0 : kind = 0
  · subst h0
    refine ⟨acc, N, P4, .of (by omega) (by omega) (by omega) okr, ?_⟩
    have r62 : ((N : Int) - 2).natAbs < 2 ^ 62 := by omega
    have z := zeros ((N : Int) - 2).toNat (by omega) (ρ := [some (.ow (plL P4)), some (.va (.int 0)), some (.va (.int N)), some (.ow (rLs acc)), o4, none, none, none, none, none, none, none, none]) (te := e__law_drawn_1 (evf tb n)) fun x => by simp [lcOne]
    have e1'' : evf tb n "_law_draw" (some (.ow (plL P))) [.int 3] = some (.va (.int 0), some (plL P1)) := e1'
    have d1' : fDiv (.int t) (.int (1 + 0)) = some (.va (.int q)) := d1
    have e4' : forL (gN 4) (b__law_drawn_4 (evf tb n)) (nL (List.range q)) [some (.ow (plL P3)), some (.va (.int 0)), some (.va (.int N)), some (.ow []), none, none, none, none, none, none, none, none, none] = _ := e4
    simp at d1'
    simp [S__law_drawn, e1'', e2', e3', lcast, d1', q62, rgD0, e4', r62, z]
  · have kn : 0 < kind := by omega
    have hk12 : kind = 1 ∨ kind = 2 := by omega
    by_cases h1 : N = 1
    · subst h1
      have lc := lc_one (own := [10, 12]) (g := gN 12) (te := e__law_drawn_2 (evf tb n)) (ρ := [some (.ow (plL P4)), some (.va (.int kind)), some (.va (.int 2)), some (.va (.list (rLs acc))), o4, none, none, none, none, none, none, none, none]) rL (fun r => rL (0 :: r.1, r.2)) acc [] (by simp; omega) fun r hr => by
        have := fAdd_iL (a := [0]) (b := r.1) (by have := (okr r hr).1; simp; omega)
        have : fAdd (.list [.int 0]) (.list (iL r.1)) = some (.nw (iL (0 :: r.1))) := this
        simp [lcOne, this]
      have lce : (acc.map fun r => rL (0 :: r.1, r.2)) = rLs (acc.map fun r => (0 :: r.1, r.2)) := by
        unfold rLs
        rw [List.map_map]
        rfl
      rw [lce, List.nil_append, show acc.map rL = rLs acc from rfl] at lc
      obtain ⟨R0, P', H, e⟩ := tail_ex (n := n) (by omega) P4 p4 kind 2 (acc.map fun r => (0 :: r.1, r.2)) o4 hk12 (by omega) (by omega) (by simp [k1]; exact hq4) fun r hr => by
        obtain ⟨r', hr', er⟩ := List.mem_map.mp hr
        obtain ⟨b1, b2, b3⟩ := okr r' hr'
        rw [← er]
        refine ⟨by simp [b1], fun x hx => ?_, b3⟩
        rcases List.mem_cons.mp hx with rfl | hx
        · omega
        · exact b2 x hx
      refine ⟨R0, 2, P', H, ?_⟩
      have e' : endO (tailS (evf tb n) [some (.ow (plL P4)), some (.va (.int kind)), some (.va (.int 2)), some (.ow (rLs (acc.map fun r => (0 :: r.1, r.2)))), o4, none, none, none, none, none, none, none, none]) = some (.nw [.list (rLs R0), .int 2], some (plL P')) := e
      have e4' : forL (gN 4) (b__law_drawn_4 (evf tb n)) (nL (List.range q)) [some (.ow (plL P3)), some (.va (.int kind)), some (.va (.int 1)), some (.ow []), none, none, none, none, none, none, none, none, none] = _ := e4
      have l0 : len0 = 0 := by omega
      subst l0
      rw [show S__law_drawn (evf tb n) = (sSeq (sAsg 1 (sCallV (evf tb n "_law_draw") 0 (sCons (sC (.int 3)) sNil)))
        (sSeq (sAsg 2 (sBin fAdd (sC (.int 1)) (sCallV (evf tb n "_law_draw") 0 (sCons (sC (.int 3)) sNil))))
        (sSeq (sAsg 3 (sArgs fLst sNil))
        (sSeq (sFor (iRg1 (sCons (sBin fDiv (sCallV (evf tb n "_law_draw") 0 (sCons (sC (.int 5)) sNil)) (sBin fAdd (sC (.int 1)) (sVar 1))) sNil)) (gN 4) (b__law_drawn_4 (evf tb n)))
        (sSeq (sIfS (sAnd (sAsT (sCmpV fGt 1 (sC (.int 0)))) (sAsT (sCmpV fEq 2 (sC (.int 1))))) (sSeq (sAsg 2 (sC (.int 2)))
        (sAsg 3 (sLc [10, 12] (iS (sVar 3)) (gN 12) sYes (e__law_drawn_2 (evf tb n))))) sNx)
        (tailS (evf tb n))))))) from rfl]
      have e2'' : evf tb n "_law_draw" (some (.ow (plL P1))) [.int 3] = some (.va (.int 0), some (plL P2)) := e2'
      generalize tailS (evf tb n) = tS at e' ⊢
      have i10 : (1 : Int) + 0 = 1 := rfl
      simp [e1', e2'', e3', d1, q62, rgD0, e4', kn, lc, e']
    · obtain ⟨R0, P', H, e⟩ := tail_ex (n := n) (by omega) P4 p4 kind N acc o4 hk12 (by omega) (by omega) (by rw [k1]; exact hq4) okr
      refine ⟨R0, N, P', H, ?_⟩
      rw [show S__law_drawn (evf tb n) = (sSeq (sAsg 1 (sCallV (evf tb n "_law_draw") 0 (sCons (sC (.int 3)) sNil)))
        (sSeq (sAsg 2 (sBin fAdd (sC (.int 1)) (sCallV (evf tb n "_law_draw") 0 (sCons (sC (.int 3)) sNil))))
        (sSeq (sAsg 3 (sArgs fLst sNil))
        (sSeq (sFor (iRg1 (sCons (sBin fDiv (sCallV (evf tb n "_law_draw") 0 (sCons (sC (.int 5)) sNil)) (sBin fAdd (sC (.int 1)) (sVar 1))) sNil)) (gN 4) (b__law_drawn_4 (evf tb n)))
        (sSeq (sIfS (sAnd (sAsT (sCmpV fGt 1 (sC (.int 0)))) (sAsT (sCmpV fEq 2 (sC (.int 1))))) (sSeq (sAsg 2 (sC (.int 2)))
        (sAsg 3 (sLc [10, 12] (iS (sVar 3)) (gN 12) sYes (e__law_drawn_2 (evf tb n))))) sNx)
        (tailS (evf tb n))))))) from rfl]
      generalize tailS (evf tb n) = tS at e ⊢
      have n1 : ¬ (N : Int) = 1 := by omega
      simp [e1', e2', e3', lcast, d1, q62, rgD0, e4, kn, h1, n1, e]
end K36

set_option Elab.async false
set_option linter.all false
set_option maxRecDepth 100000
set_option maxHeartbeats 4000000
set_option autoImplicit false
set_option exponentiation.threshold 10000
/-! Law k36: _law_kept, law. -/
namespace K36
open PySem PySem.Spec PyProof.Rows L2 Pv
def Quad (t : Nat) (F : Mat) : Prop := ∀ z ∈ F, z.length = t ∧ ∀ v ∈ z, 0 ≤ v ∧ v ≤ 3
theorem loop_kept1 (o : Str → Orc) (a0 a1 a3 : Option Sl) {F : Mat} {t : Nat} (ht : t ≤ 10) (hF : Quad t F) (sl : Sl) (hs : sl = .ow (mL F) ∨ sl = .va (.list (mL F))) : ∀ (ks : List Nat) (acc : Mat) (o5 : Option Sl), (∀ k ∈ ks, k < 4 * F.length) → Quad (t + 1) acc → acc.length + ks.length ≤ 10000 →
    ∃ (acc' : Mat) (o5' : Option Sl), Quad (t + 1) acc' ∧ acc'.length = acc.length + ks.length ∧ forL (gN 5) (b__law_kept_4 o) (nL ks) [a0, a1, some sl, a3, some (.ow (mL acc)), o5, none, none, none] = some (.nx, [a0, a1, some sl, a3, some (.ow (mL acc')), o5', none, none, none])
  | [], acc, o5, _, h, _ => ⟨acc, o5, h, rfl, by simp⟩
  | k :: ks, acc, o5, hk, h, hl => by
    have k0 := hk k List.mem_cons_self
    have kF : k / 4 < F.length := by omega
    obtain ⟨z1, z2⟩ := hF _ (rg_mem kF)
    have new : Quad (t + 1) (acc ++ [rg F (k / 4) ++ [((k % 4 : Nat) : Int)]]) := fun z hz => by
      rcases List.mem_append.mp hz with hz | hz
      · exact h z hz
      · rw [List.mem_singleton.mp hz]
        refine ⟨by simp [z1], fun v hv => ?_⟩
        rcases List.mem_append.mp hv with hv | hv
        · exact z2 v hv
        · rw [List.mem_singleton.mp hv]
          omega
    obtain ⟨acc', o5', g1, g2, e⟩ := loop_kept1 o a0 a1 a3 ht hF sl hs ks _ (some (.va (.int (k : Nat)))) (fun q hq => hk q (List.mem_cons_of_mem _ hq)) new (by simp at hl ⊢; omega)
    refine ⟨acc', o5', g1, by rw [g2]; simp; omega, ?_⟩
    have al : acc.length < 100000 := by simp at hl; omega
    have d1 := fDiv_sm (a := (k : Int)) (b := 4) (sm_64 (by decide)) (by omega)
    have d2 := fMod_nz (a := (k : Int)) (b := 4) (by omega)
    have q1 : (k : Int).fdiv 4 = ((k / 4 : Nat) : Int) := by
      rw [Int.fdiv_eq_ediv_of_nonneg _ (by omega)]
      omega
    have q2 : (k : Int).fmod 4 = ((k % 4 : Nat) : Int) := by
      rw [Int.fmod_eq_emod_of_nonneg _ (by omega)]
      omega
    rw [q1] at d1
    rw [q2] at d2
    have ix : atI (mL F) ((k / 4 : Nat) : Int) = some (eL (rg F (k / 4))) := mL_atN kF
    have ap : fAdd (.list (iL (rg F (k / 4)))) (.list [.int ((k % 4 : Nat) : Int)]) = some (.nw (iL (rg F (k / 4) ++ [((k % 4 : Nat) : Int)]))) := fAdd_iL (a := rg F (k / 4)) (b := [((k % 4 : Nat) : Int)]) (by rw [z1]; simp; omega)
    have ma : mL acc ++ [eL (rg F (k / 4) ++ [((k % 4 : Nat) : Int)])] = mL (acc ++ [rg F (k / 4) ++ [((k % 4 : Nat) : Int)]]) := by rw [mL_app]; rfl
    rw [nL_cons, forL_cons]
    generalize ((k / 4 : Nat) : Int) = i4 at d1 ix
    generalize ((k % 4 : Nat) : Int) = m4 at d2 ap ma e
    generalize rg F (k / 4) ++ [m4] = new1 at ap ma e
    generalize rg F (k / 4) = old at ix ap
    rcases hs with rfl | rfl <;> simp [d1, d2, ix, ap, al, ma] <;> exact e
theorem loop_kept2 (o : Str → Orc) (a0 a1 : Option Sl) : ∀ (ks : List Nat) (t : Nat) (F : Mat) (sl : Sl) (o3 o4 o5 : Option Sl), (sl = .ow (mL F) ∨ sl = .va (.list (mL F))) → Quad t F → t + ks.length ≤ 3 → F.length ≤ 4 ^ t →
    ∃ (F' : Mat) (sl' : Sl) (o3' o4' o5' : Option Sl), Quad (t + ks.length) F' ∧ F'.length ≤ 4 ^ (t + ks.length) ∧ (sl' = .ow (mL F') ∨ sl' = .va (.list (mL F'))) ∧ forL (gN 3) (b__law_kept_5 o) (nL ks) [a0, a1, some sl, o3, o4, o5, none, none, none] = some (.nx, [a0, a1, some sl', o3', o4', o5', none, none, none])
  | [], t, F, sl, o3, o4, o5, hs, hF, _, hl => ⟨F, sl, o3, o4, o5, hF, hl, hs, by simp⟩
  | k :: ks, t, F, sl, o3, o4, o5, hs, hF, ht, hl => by
    have t2 : t ≤ 2 := by simp at ht; omega
    have p4 : (4 : Nat) ^ t ≤ 4 ^ 2 := Nat.pow_le_pow_right (by omega) t2
    have F16 : F.length ≤ 16 := by omega
    obtain ⟨acc', o5', g1, g2, e1⟩ := loop_kept1 o a0 a1 (some (.va (.int (k : Nat)))) (by omega) hF sl hs (List.range (4 * F.length)) [] o5 (fun q hq => List.mem_range.mp hq) (fun z hz => by cases hz) (by simp; omega)
    simp only [List.length_nil, List.length_range, Nat.zero_add] at g2
    obtain ⟨F', sl', p3, p4', p5, k1, k2, k3, e⟩ := loop_kept2 o a0 a1 ks (t + 1) acc' (.va (.list (mL acc'))) (some (.va (.int (k : Nat)))) (some (.va (.list (mL acc')))) o5' (.inr rfl) g1 (by simp at ht; omega) (by rw [g2, Nat.pow_succ]; omega)
    have te : t + 1 + ks.length = t + (k :: ks).length := by simp; omega
    rw [te] at k1 k2
    refine ⟨F', sl', p3, p4', p5, k1, k2, k3, ?_⟩
    have m1 := fMul_sm (a := 4) (b := (F.length : Int)) (sm_64 (by decide)) (sm_64 (by omega))
    have mc : (4 : Int) * (F.length : Int) = ((4 * F.length : Nat) : Int) := by push_cast; rfl
    rw [mc] at m1
    have c62 : 4 * F.length < 2 ^ 62 := by omega
    rw [mL_nil] at e1
    rw [nL_cons, forL_cons]
    generalize 4 * F.length = q at m1 c62 e1
    rcases hs with rfl | rfl <;> simp [m1, c62, rgD0, e1] <;> exact e
theorem kept_none {R0 : List Row} {N : Nat} (H : Rows0 R0 N) (h : ¬ ∃ z, Small R0 N z) {n : Nat} (hn : 2 ≤ n) : evf tb n "_law_kept" none [.list (rLs R0), .int N] = some (.nw [], none) := by
  obtain ⟨n, rfl⟩ : ∃ m, n = m + 1 := ⟨n - 1, by omega⟩
  rw [fi__law_kept, run__law_kept]
  have N3 := H.N3
  have N62 : N < 2 ^ 62 := by omega
  have m4 := H.m
  obtain ⟨F, sl, p3, p4, p5, k1, k2, k3, e⟩ := loop_kept2 (evf tb n) (some (.va (.list (rLs R0)))) (some (.va (.int N))) (List.range N) 0 [[]] (.ow (mL [[]])) none none none (.inl rfl) (fun z hz => by
    rw [List.mem_singleton.mp hz]
    exact ⟨rfl, fun v hv => by cases hv⟩) (by simp; omega) (by simp)
  rw [List.length_range, Nat.zero_add] at k1 k2
  have F64 : F.length ≤ 64 := by
    have : (4 : Nat) ^ N ≤ 4 ^ 3 := Nat.pow_le_pow_right (by omega) N3
    omega
  have lc := lc_two (own := [6, 7]) (g := gN 7) (tt := t__law_kept_2 (evf tb n)) (te := e__law_kept_3 (evf tb n)) (ρ := [some (.va (.list (rLs R0))), some (.va (.int N)), some (.va (.list (mL F))), p3, p4, p5, none, none, none]) (fun z : List Int => eL z) (fun z => eL z) (fun z => R0.all fun r => decide (dot r.1 z ≤ r.2)) F [] (by simp; omega) fun z hz => by
    obtain ⟨z1, z2⟩ := k1 z hz
    have lc1 := lc_one (own := [6, 8]) (g := gN 8) (te := e__law_kept_1 (evf tb n)) (ρ := [some (.va (.list (rLs R0))), some (.va (.int N)), some (.va (.list (mL F))), p3, p4, p5, none, some (.va (eL z)), none]) rL (fun r => .bool (decide (dot r.1 z ≤ r.2))) R0 [] (by simp; omega) fun r hr => by
      have e1 := ev_law_dot (n := n) (by omega) (.L r.1) (.L z) (by rw [H.rl r hr, z1]) (by rw [H.rl r hr]; omega) (fun x hx => sm_64 (by have := H.rb r hr x hx; omega)) (fun x hx => sm_64 (by have := z2 x hx; omega))
      simp [lcOne, e1]
    have lce : (R0.map fun r => PyData.bool (decide (dot r.1 z ≤ r.2))) = bL (R0.map fun r => decide (dot r.1 z ≤ r.2)) := by
      unfold bL
      rw [List.map_map]
      rfl
    rw [lce, List.nil_append, show R0.map rL = rLs R0 from rfl] at lc1
    have al := fAll_b (R0.map fun r => decide (dot r.1 z ≤ r.2))
    have ae : (R0.map fun r => decide (dot r.1 z ≤ r.2)).all id = R0.all fun r => decide (dot r.1 z ≤ r.2) := by
      rw [List.all_map]
      rfl
    rw [ae] at al
    generalize bL (R0.map fun r => decide (dot r.1 z ≤ r.2)) = bs at lc1 al
    generalize (R0.all fun r => decide (dot r.1 z ≤ r.2)) = b at al ⊢
    cases b <;> simp [lcTwo, lc1, al]
  have fe : F.filter (fun z => R0.all fun r => decide (dot r.1 z ≤ r.2)) = [] := by
    rw [List.filter_eq_nil_iff]
    intro z hz hb
    obtain ⟨z1, z2⟩ := k1 z hz
    rw [List.all_eq_true] at hb
    exact h ⟨z, z1, z2, fun r hr => by simpa using hb r hr⟩
  rw [fe, List.map_nil, List.nil_append, show F.map (fun z : List Int => eL z) = mL F from rfl] at lc
  have mm : mL [[]] = [.list []] := rfl
  rw [mm] at e
  rcases k3 with rfl | rfl <;> simp [S__law_kept, N62, rgD0, e, lc]
theorem fNe_same (rs : List Row) : fNe (.list (rLs rs)) (.list (rLs rs)) = some (.va (.bool false)) := by
  rw [fNe_lay (.rows rs) (.rows rs) (by omega) (by omega)]
  have h := (LayD.rows rs).1
  rw [PyData.canLay0] at h
  rw [PySem.SeqAt.eqvAll_refl _ h]
  rfl
theorem law_ok (ns : List Int) (hl : ns.length ≤ 63) : evf tb 40 "law" (some (.sc (ns.map .int))) [] = some (.va (.bool true), none) := by
  rw [fi_law 39, run_law_sc]
  have pool : evf tb 39 "_law_pool" (some (.sc (ns.map .int))) [] = some (.nw (plL ⟨ns.take 63, 0, 0, 0⟩), none) := by
    rw [fi__law_pool 38, run__law_pool_sc]
    have c : slD (.list (ns.map .int)) none (some 63) = some (.nw (iL (ns.take 63))) := by
      show some (Rs.nw (Pv.cutD (ns.map PyData.int) none (some ((63 : Nat) : Int)))) = _
      unfold Pv.cutD
      rw [HT.sIx_none, HT.sIx_nat, Nat.sub_zero, List.drop_zero, List.length_map]
      unfold iL
      rw [← List.map_take]
      congr 3
      rw [List.take_of_length_le (by omega), List.take_of_length_le (by omega)]
    simp [S__law_pool, c, plL]
  obtain ⟨R0, N, P', H, e1⟩ := drawn_ex (n := 39) (by omega) ⟨ns.take 63, 0, 0, 0⟩ (by simp; omega)
  obtain ⟨d, R, e2⟩ := settled_ex H (n := 39) (by omega)
  have N1 := H.N1
  have N3 := H.N3
  have m4 := H.m
  have lc := lc_one (own := [6, 7]) (g := gN 7) (te := e_law_2 (evf tb 39)) (ρ := [some (.sc (ns.map .int)), some (.ow [.list (rLs R0), .int N]), some (.va (.list (rLs R0))), some (.va (.int N)), none, none, none, none]) rL rL R0 [] (by simp; omega) fun r hr => by simp [lcOne]
  rw [List.nil_append, show R0.map rL = rLs R0 from rfl] at lc
  have ne := fNe_same R0
  generalize plL ⟨ns.take 63, 0, 0, 0⟩ = pl at pool e1
  generalize ns.map PyData.int = sc at pool lc ⊢
  have s1 : (("none" : Str)) ≠ "wrong" := by decide
  have s2 : (("found" : Str)) ≠ "wrong" := by decide
  have s3 : (("late" : Str)) ≠ "wrong" := by decide
  have s4 : (("found" : Str)) ≠ "none" := by decide
  have s5 : (("late" : Str)) ≠ "none" := by decide
  have s6 : (("late" : Str)) ≠ "found" := by decide
  cases R with
  | none h =>
    have e3 := kept_none H h (n := 39) (by omega)
    have en : fEq (.list []) (.list []) = some (.va (.bool true)) := fEq_nats []
    simp [S_law, pool, e1, e2, lc, ne, e3, en, s1]
  | @found xs F =>
    obtain ⟨z, f1, -, f3⟩ := min_nn (xs := xs) (by intro z; have := F.len; rw [z] at this; simp at this; omega) F.nn
    have lc2 := lc_one (own := [6, 7]) (g := gN 7) (te := e_law_1 (evf tb 39)) (ρ := [some (.sc sc), some (.ow [.list (rLs R0), .int N]), some (.va (.list (rLs R0))), some (.va (.int N)), some (.va (.list (rLs R0))), some (.ow [.str "found", eL xs]), none, none]) rL (fun r => .bool true) R0 [] (by simp; omega) fun r hr => by
      have e3 := ev_law_dot (n := 39) (by omega) (.L r.1) (.L xs) (by rw [H.rl r hr, F.len]) (by rw [H.rl r hr]; omega) (fun x hx => sm_64 (by have := H.rb r hr x hx; omega)) F.sm
      simp [lcOne, e3, F.keep r hr]
    rw [List.nil_append, show R0.map rL = rLs R0 from rfl] at lc2
    have al := fAll_b (R0.map fun _ => true)
    have alt : (R0.map fun _ => true).all id = true := by simp
    rw [alt] at al
    have alm : bL (R0.map fun _ => true) = R0.map fun _ => PyData.bool true := by simp [bL]
    rw [alm] at al
    generalize (R0.map fun _ => PyData.bool true) = bs at lc2 al
    simp [S_law, pool, e1, e2, lc, ne, f1, f3, lc2, al, s2, s4]
  | late =>
    simp [S_law, pool, e1, e2, lc, ne, s3, s5, s6]
end K36

set_option Elab.async false
set_option linter.all false
set_option maxRecDepth 100000
set_option maxHeartbeats 0
set_option autoImplicit false
namespace K36
open PySem PySem.Spec PyProof.Rows L2 Pv He
abbrev R : PySem.W.OpenRow := PySem.W.OpenLaw.row PySem.Challenge.rw_somanyties_k36_whole_rows_settled
def hk : PySem.W.Hook := hookE 4 (faOf tb) (fnOf' tb) exGcd
def ob (s : PySem.W.SharedT) : AlE := obsE 4 (faOf tb) (fnOf' tb) exGcd (HandSHeadRun.getT s)
theorem ob_eq (s : PySem.W.SharedT) : ob s = hk.obs s.abs := obsE_eq (HandSHeadRun.getT_eq s)
theorem run (w : World) : HandSHeadRun.RunEqI R (PySem.W.view R.prog [0, 53]) hk ob 4000 loose w := by
  show Option.map _ _ = _
  kernel_rfl
theorem fnd (h : PySem.W.Frag → Prop) : findT tb "law" = some d_law := by kernel_rfl
theorem facts {K : PySem.W.Frag} {h : Heap} {mg : Str → Option Value} {f : Addr} {w : World} {n : Nat} {P : Program} (X : K.In h) (G : h.Ns mainGlobals mg) (hfa : mg ("law" : Str) = some (.ref f)) (c : SaysD (faOf tb) (fnOf' tb) K) (hg : exGcd K = true) :
    ∃ fd : FuncData, (∀ (s : Shared) (v : Value), BindsTo s fd ⟨[v], []⟩ [("script", v)]) ∧ ∀ base : Heap, K.In base → base.Ns mainGlobals mg → FnOk P w K mg base CX0 n f fd ["script"] (CallSpec K (evf tb n "law")) := by
  have W := tok_of X G c hg oks aos
  obtain ⟨_, _, f', fd, F, hm, _⟩ := W.d "law" d_law (fnd fun _ => True)
  have e := hfa.symm.trans hm
  cases e
  have b := FunD.bindsA (ps := ["script"]) F fun _ _ _ _ _ _ us hl => match us, hl with | [_], _ => rfl
  exact ⟨fd, fun s v => b s [v] rfl, fun base _ _ => all_ok W n "law" d_law (fnd fun _ => True) f fd F⟩
theorem law_spec {K : PySem.W.Frag} {n : Nat} (hl : ∀ ns : List Int, ns.length ≤ 63 → evf tb n "law" (some (.sc (ns.map .int))) [] = some (.va (.bool true), none)) (H : Hp) (a : Addr) (ns : List Int) (h1 : ns.length ≤ 63) (hO : Only H) (hS : SqL K H a (ns.map V.int)) :
    CallSpec K (evf tb n "law") [.ref a] H (fun v _ => v = .bl true) fun _ _ _ => False := by
  refine ⟨H, some (.sc (ns.map .int)), [], .va (.bool true), none, ⟨Sub.refl H, a, ns.map V.int, [], rfl, hS, DqAll.of_ints ns, .nil⟩, hl ns h1, fun v F' H' p h => ?_⟩
  cases h
  rfl
end K36
open PySem PySem.W PySem.Calls PyProof.Rows
theorem K36.fin (hl : ∀ ns : List Int, ns.length ≤ 63 → Pv.evf K36.tb 40 "law" (some (.sc (ns.map .int))) [] = some (.va (.bool true), none)) : PySem.Challenge.rw_somanyties_k36_whole_rows_settled.Holds := by
  w_on; o_law
  refine HandSHeadRun.head_imp (r := OpenLaw.row PySem.Challenge.rw_somanyties_k36_whole_rows_settled) (q := view (OpenLaw.row PySem.Challenge.rw_somanyties_k36_whole_rows_settled).prog [0, 53]) (H := K36.hk) (ob := K36.ob) (M := 4000) (loose := K36.loose) (d := HandSHeadRun.topDef (OpenLaw.row PySem.Challenge.rw_somanyties_k36_whole_rows_settled).prog 53) (kwd := []) K36.ob_eq
    K36.run (by kernel_rfl) (by kernel_rfl) (by kernel_rfl) (by rfl) (by first | assumption | decide +kernel) (by decide +kernel) ⟨rfl, rfl, rfl, rfl, rfl, by decide +kernel⟩ ?hw ?hc
  case hw => w_witness2
  case hc =>
    refine L2.walk_ofE (l := PySem.Challenge.rw_somanyties_k36_whole_rows_settled) (n := 63) (k := 40) (x := "script") (CX := L2.CX0) rfl (by decide) (by kernel_rfl) ⟨rfl, by decide, by decide⟩ ?F (fun _ _ _ _ z => z)
    intro w mg fa h Y G hmg0
    obtain ⟨K, KX, c, cg⟩ := Y
    have hmg : mg ("law" : PySem.Str) = some (.ref fa) := by
      have e : (HandSHeadRun.topDef (OpenLaw.row PySem.Challenge.rw_somanyties_k36_whole_rows_settled).prog 53).name = ("law" : PySem.Str) := by kernel_rfl
      rw [← e]
      exact hmg0
    obtain ⟨fd, hb, hF⟩ := K36.facts (P := (PySem.Challenge.rw_somanyties_k36_whole_rows_settled).prog) (w := w) (n := 40) KX G hmg c cg
    exact ⟨K, fd, Pv.CallSpec K (Pv.evf K36.tb 40 "law"), KX, hb, fun H a ns hlen hO hS => K36.law_spec hl H a ns hlen hO hS, hF⟩

set_option maxRecDepth 100000 in
set_option maxHeartbeats 0 in
theorem PySem.Challenge.cw_somanyties_k36_whole_rows_settled_holds : PySem.Challenge.rw_somanyties_k36_whole_rows_settled.Holds :=
  K36.fin K36.law_ok
