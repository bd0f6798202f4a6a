import PyProof.Rows.All
import Wide.All
import OpenK.AllK
import Wide.FinOn
import HandS.ForMost
import HandS.IsInst
import HandS.More
import PySem.Challenge.RW_mustask_k00_lines_there_and_back
import PyProof.StrLawsIn
set_option Elab.async false
set_option linter.all false
set_option maxRecDepth 100000
set_option maxHeartbeats 4000000
namespace DL
open PySem PySem.Spec L2

abbrev D := PyData
/-- a text by its codes -/
abbrev ds (l : List Nat) : D := .str ⟨l.toArray⟩
/-- what a slot of a def holds: nothing known, data that stands still, a list of its own that may change -/
inductive Sl where
  | no
  | d (x : D)
  | own (xs : List D)

/-- the entry of a def: the still part of the heap, the heap, the slots that hold the caller's lists -/
structure Wd where
  F0 : Hp
  H0 : Hp
  P : Nat → Option Addr

mutual
theorem dpMono {K : PySem.W.Frag} {F F' : Hp} (e : Same F F') : ∀ (d : D) (v : V), Dp K F v d → Dp K F' v d
  | .none, _, h => by cases h; exact .non
  | .bool b, _, h => by cases h; exact .bl b
  | .int i, _, h => by cases h; exact .int i
  | .str x, _, h => by cases h; exact .str x
  | .list ds, _, h => by
    cases h with
    | lst hs ha => exact .lst (e.seq hs) (dpAllMono e ds _ ha)
  | .tuple ds, _, h => by
    cases h with
    | tup hs ha =>
      refine .tup ?_ (dpAllMono e ds _ ha)
      rcases hs with (hs | ⟨o, hs⟩) | hs
      · exact .inl (.inl (e _ _ hs))
      · exact .inl (.inr ⟨o, e _ _ hs⟩)
      · exact .inr hs
  | .dict _, _, h => by cases h
theorem dpAllMono {K : PySem.W.Frag} {F F' : Hp} (e : Same F F') : ∀ (ds : List D) (vs : List V), DpAll K F vs ds → DpAll K F' vs ds
  | [], _, h => by cases h; exact .nil
  | d :: ds, _, h => by
    cases h with
    | cons h1 h2 => exact .cons (dpMono e d _ h1) (dpAllMono e ds _ h2)
end

theorem DpAll.length {K : PySem.W.Frag} {F : Hp} : ∀ {vs : List V} {ds : List D}, DpAll K F vs ds → vs.length = ds.length
  | _, _, .nil => rfl
  | _, _, .cons _ t => congrArg (· + 1) (DpAll.length t)
theorem DpAll.get {K : PySem.W.Frag} {F : Hp} : ∀ {vs : List V} {ds : List D} {i : Nat} {d : D}, DpAll K F vs ds → ds[i]? = some d → ∃ v, vs[i]? = some v ∧ Dp K F v d
  | _, _, _, _, .nil, e => by simp at e
  | _, _, 0, _, .cons r _, e => by simp at e; subst e; exact ⟨_, rfl, r⟩
  | _, _, i + 1, d, .cons _ t, e => by
    obtain ⟨u, h1, h2⟩ := DpAll.get (i := i) (d := d) t (by simpa using e)
    exact ⟨u, by simpa using h1, h2⟩
theorem DpAll.getV {K : PySem.W.Frag} {F : Hp} {vs : List V} {ds : List D} {i : Nat} {v : V} (h : DpAll K F vs ds) (e : vs[i]? = some v) : ∃ d, ds[i]? = some d ∧ Dp K F v d := by
  have hi : i < ds.length := by rw [← DpAll.length h]; exact (List.getElem?_eq_some_iff.mp e).1
  obtain ⟨u, h1, h2⟩ := DpAll.get h (List.getElem?_eq_getElem hi)
  rw [e] at h1
  cases h1
  exact ⟨_, List.getElem?_eq_getElem hi, h2⟩
theorem DpAll.append {K : PySem.W.Frag} {F : Hp} : ∀ {vs : List V} {ds : List D} {ws : List V} {es : List D}, DpAll K F vs ds → DpAll K F ws es → DpAll K F (vs ++ ws) (ds ++ es)
  | _, _, _, _, .nil, s => s
  | _, _, _, _, .cons r t, s => .cons r (DpAll.append t s)
theorem DpAll.take {K : PySem.W.Frag} {F : Hp} : ∀ {vs : List V} {ds : List D} (n : Nat), DpAll K F vs ds → DpAll K F (vs.take n) (ds.take n)
  | _, _, 0, _ => .nil
  | _, _, _ + 1, .nil => .nil
  | _, _, n + 1, .cons r t => .cons r (DpAll.take n t)
theorem DpAll.drop {K : PySem.W.Frag} {F : Hp} : ∀ {vs : List V} {ds : List D} (n : Nat), DpAll K F vs ds → DpAll K F (vs.drop n) (ds.drop n)
  | _, _, 0, r => r
  | _, _, _ + 1, .nil => .nil
  | _, _, n + 1, .cons _ t => DpAll.drop n t
theorem DpAll.rev {K : PySem.W.Frag} {F : Hp} : ∀ {vs : List V} {ds : List D}, DpAll K F vs ds → DpAll K F vs.reverse ds.reverse
  | _, _, .nil => .nil
  | _, _, .cons r t => by
    rw [List.reverse_cons, List.reverse_cons]
    exact DpAll.append (DpAll.rev t) (.cons r .nil)
theorem DpAll.set {K : PySem.W.Frag} {F : Hp} {v : V} {d : D} (r : Dp K F v d) : ∀ {vs : List V} {ds : List D} (i : Nat), DpAll K F vs ds → DpAll K F (vs.set i v) (ds.set i d)
  | _, _, _, .nil => .nil
  | _, _, 0, .cons _ t => .cons r t
  | _, _, i + 1, .cons q t => .cons q (DpAll.set r i t)

structure Rel (K : PySem.W.Frag) (W : Wd) (F H : Hp) (σ : St) (st : List Sl) : Prop where
  fh : Same F H
  ff : Same W.F0 F
  new : ∀ b o, F b = some o → W.F0 b = some o ∨ W.H0 b = none
  frm : ∀ b o, W.H0 b = some o → (∀ i, W.P i ≠ some b) → H b = some o
  len : st.length = σ.length
  val : ∀ (i : Nat) (x : D), st[i]? = some (.d x) → ∃ v, σ[i]? = some (some v) ∧ Dp K F v x
  own : ∀ (i : Nat) (xs : List D), st[i]? = some (.own xs) → ∃ (a : Addr) (vs : List V), σ[i]? = some (some (.ref a)) ∧ H a = some (.lst vs) ∧ F a = none ∧ DpAll K F vs xs ∧ (W.P i = some a ∨ W.H0 a = none)
  apart : ∀ (i j : Nat) (xs ys : List D) (a : Addr), i ≠ j → st[i]? = some (.own xs) → st[j]? = some (.own ys) → σ[i]? = some (some (.ref a)) → σ[j]? ≠ some (some (.ref a))
  par : ∀ (i : Nat) (a : Addr), W.P i = some a → (∃ xs, st[i]? = some (.own xs)) ∧ σ[i]? = some (some (.ref a))

section
variable {K : PySem.W.Frag} {W : Wd} {F H : Hp} {σ : St} {st : List Sl}
/-- a new object that stands still -/
theorem Rel.laid {p : Addr} {o : HO} (R : Rel K W F H σ st) (hp : H p = none) : Rel K W (upd F p o) (upd H p o) σ st := by
  have hF : F p = none := R.fh.free hp
  have hW : ∀ i, W.P i ≠ some p := fun i e => by
    obtain ⟨⟨xs, h1⟩, h2⟩ := R.par i p e
    obtain ⟨a, vs, e1, e2, _⟩ := R.own i xs h1
    rw [h2] at e1
    cases e1
    rw [hp] at e2
    cases e2
  refine ⟨fun b u e => ?_, fun b u e => ?_, fun b u e => ?_, fun b u e f => ?_, R.len, fun i x e => ?_, fun i xs e => ?_, R.apart, R.par⟩
  · by_cases hb : b = p
    · subst hb; rw [upd_same] at e; rw [upd_same]; exact e
    · rw [upd_ne hb] at e; rw [upd_ne hb]; exact R.fh b u e
  · have q := R.ff b u e
    rw [upd_ne (ne_of_none q hF)]; exact q
  · by_cases hb : b = p
    · subst hb
      right
      cases q : W.H0 b with
      | none => rfl
      | some u' =>
        have := R.frm b u' q hW
        rw [hp] at this
        cases this
    · rw [upd_ne hb] at e; exact R.new b u e
  · have q := R.frm b u e f
    rw [upd_ne (ne_of_none q hp)]; exact q
  · obtain ⟨v, h1, h2⟩ := R.val i x e
    exact ⟨v, h1, dpMono (fun b u q => by rw [upd_ne (ne_of_none q hF)]; exact q) _ _ h2⟩
  · obtain ⟨a, vs, h1, h2, h3, h4, h5⟩ := R.own i xs e
    refine ⟨a, vs, h1, ?_, ?_, dpAllMono (fun b u q => by rw [upd_ne (ne_of_none q hF)]; exact q) _ _ h4, h5⟩
    · rw [upd_ne (ne_of_none h2 hp)]; exact h2
    · rw [upd_ne (ne_of_none h2 hp)]; exact h3
theorem same_upd {p : Addr} {o : HO} (hF : F p = none) : Same F (upd F p o) := fun b u q => by rw [upd_ne (ne_of_none q hF)]; exact q
/-- a list of one's own comes to stand still -/
theorem Rel.freeze {a : Addr} {vs : List V} (R : Rel K W F H σ st) (h : H a = some (.lst vs)) (hF : F a = none) (h0 : W.H0 a = none) (hno : ∀ (i : Nat) (xs : List D), st[i]? = some (.own xs) → σ[i]? ≠ some (some (.ref a))) :
    Rel K W (upd F a (.lst vs)) H σ st := by
  have e : Same F (upd F a (.lst vs)) := same_upd hF
  refine ⟨fun b u q => ?_, R.ff.trans e, fun b u q => ?_, R.frm, R.len, fun i x q => ?_, fun i xs q => ?_, R.apart, R.par⟩
  · by_cases hb : b = a
    · subst hb; rw [upd_same] at q; cases q; exact h
    · rw [upd_ne hb] at q; exact R.fh b u q
  · by_cases hb : b = a
    · subst hb; exact .inr h0
    · rw [upd_ne hb] at q; exact R.new b u q
  · obtain ⟨v, h1, h2⟩ := R.val i x q
    exact ⟨v, h1, dpMono e _ _ h2⟩
  · obtain ⟨c, ws, h1, h2, h3, h4, h5⟩ := R.own i xs q
    refine ⟨c, ws, h1, h2, ?_, dpAllMono e _ _ h4, h5⟩
    rw [upd_ne (fun z => hno i xs q (by rw [h1, z]))]
    exact h3
/-- the list of a slot changes -/
theorem Rel.change {i : Nat} {xs ys : List D} {a : Addr} {ws : List V} (R : Rel K W F H σ st) (hi : st[i]? = some (.own xs)) (ha : σ[i]? = some (some (.ref a))) (hw : DpAll K F ws ys) :
    Rel K W F (upd H a (.lst ws)) σ (st.set i (.own ys)) := by
  obtain ⟨c, vs, h1, h2, h3, h4, h5⟩ := R.own i xs hi
  rw [ha] at h1
  cases h1
  have hil : i < st.length := (List.getElem?_eq_some_iff.mp hi).1
  have sw : ∀ (j : Nat) (zs : List D), (st.set i (.own ys))[j]? = some (.own zs) → ∃ zs', st[j]? = some (.own zs') := fun j zs q => by
    by_cases hj : j = i
    · subst hj; exact ⟨xs, hi⟩
    · rw [List.getElem?_set_ne (Ne.symm hj)] at q; exact ⟨zs, q⟩
  refine ⟨fun b u q => ?_, R.ff, R.new, fun b u q f => ?_, by rw [List.length_set]; exact R.len, fun j x q => ?_, fun j zs q => ?_, fun j k zs zs' b hjk q1 q2 => ?_, fun j b q => ?_⟩
  · rw [upd_ne (fun z => by rw [z, h3] at q; cases q)]; exact R.fh b u q
  · have hb := R.frm b u q f
    rw [upd_ne (fun z => ?_)]
    · exact hb
    · subst z
      rcases h5 with h5 | h5
      · exact f i h5
      · rw [h5] at q; cases q
  · by_cases hj : j = i
    · subst hj; rw [List.getElem?_set_self hil] at q; cases q
    · rw [List.getElem?_set_ne (Ne.symm hj)] at q; exact R.val j x q
  · by_cases hj : j = i
    · subst hj
      rw [List.getElem?_set_self hil] at q
      cases q
      exact ⟨a, ws, ha, upd_same, h3, hw, h5⟩
    · rw [List.getElem?_set_ne (Ne.symm hj)] at q
      obtain ⟨c, vs', g1, g2, g3, g4, g5⟩ := R.own j zs q
      refine ⟨c, vs', g1, ?_, g3, g4, g5⟩
      rw [upd_ne (fun z => ?_)]
      · exact g2
      · subst z
        exact R.apart j i zs xs c hj q hi g1 ha
  · obtain ⟨w1, q1'⟩ := sw j zs q1
    obtain ⟨w2, q2'⟩ := sw k zs' q2
    exact R.apart j k w1 w2 b hjk q1' q2'
  · obtain ⟨⟨zs, g1⟩, g2⟩ := R.par j b q
    refine ⟨?_, g2⟩
    by_cases hj : j = i
    · subst hj; exact ⟨ys, by rw [List.getElem?_set_self hil]⟩
    · exact ⟨zs, by rw [List.getElem?_set_ne (Ne.symm hj)]; exact g1⟩
/-- a slot is set to data -/
theorem Rel.setD {i : Nat} {v : V} {x : D} (R : Rel K W F H σ st) (hP : W.P i = none) (hv : Dp K F v x) : Rel K W F H (σ.set i (some v)) (st.set i (.d x)) := by
  have old : ∀ (j : Nat) (xs : List D), (st.set i (.d x))[j]? = some (.own xs) → j ≠ i ∧ st[j]? = some (.own xs) := fun j xs q => by
    by_cases hj : j = i
    · subst hj
      by_cases hl : j < st.length
      · rw [List.getElem?_set_self hl] at q; cases q
      · rw [List.getElem?_eq_none (by rw [List.length_set]; omega)] at q; cases q
    · rw [List.getElem?_set_ne (Ne.symm hj)] at q; exact ⟨hj, q⟩
  refine ⟨R.fh, R.ff, R.new, R.frm, by rw [List.length_set, List.length_set]; exact R.len, fun j y q => ?_, fun j xs q => ?_, fun j k xs ys b hjk q1 q2 q3 => ?_, fun j b q => ?_⟩
  · by_cases hj : j = i
    · subst hj
      by_cases hl : j < st.length
      · rw [List.getElem?_set_self hl] at q
        cases q
        exact ⟨v, by rw [List.getElem?_set_self (by rw [← R.len]; exact hl)], hv⟩
      · rw [List.getElem?_eq_none (by rw [List.length_set]; omega)] at q; cases q
    · rw [List.getElem?_set_ne (Ne.symm hj)] at q
      obtain ⟨w, h1, h2⟩ := R.val j y q
      exact ⟨w, by rw [List.getElem?_set_ne (Ne.symm hj)]; exact h1, h2⟩
  · obtain ⟨hj, q⟩ := old j xs q
    obtain ⟨a, vs, h1, h2⟩ := R.own j xs q
    exact ⟨a, vs, by rw [List.getElem?_set_ne (Ne.symm hj)]; exact h1, h2⟩
  · obtain ⟨hj, q1⟩ := old j xs q1
    obtain ⟨hk, q2⟩ := old k ys q2
    rw [List.getElem?_set_ne (Ne.symm hj)] at q3
    rw [List.getElem?_set_ne (Ne.symm hk)]
    exact R.apart j k xs ys b hjk q1 q2 q3
  · obtain ⟨⟨xs, h1⟩, h2⟩ := R.par j b q
    have hj : j ≠ i := fun z => by rw [z, hP] at q; cases q
    exact ⟨⟨xs, by rw [List.getElem?_set_ne (Ne.symm hj)]; exact h1⟩, by rw [List.getElem?_set_ne (Ne.symm hj)]; exact h2⟩
/-- a slot is set to a list of its own -/
theorem Rel.setO {i : Nat} {a : Addr} {vs : List V} {xs : List D} (R : Rel K W F H σ st) (hP : W.P i = none) (h : H a = some (.lst vs)) (hF : F a = none) (h0 : W.H0 a = none) (hv : DpAll K F vs xs)
    (hno : ∀ (j : Nat) (ys : List D), st[j]? = some (.own ys) → σ[j]? ≠ some (some (.ref a))) : Rel K W F H (σ.set i (some (.ref a))) (st.set i (.own xs)) := by
  have old : ∀ (j : Nat) (ys : List D), j ≠ i → (st.set i (.own xs))[j]? = some (.own ys) → st[j]? = some (.own ys) := fun j ys hj q => by
    rw [List.getElem?_set_ne (Ne.symm hj)] at q; exact q
  refine ⟨R.fh, R.ff, R.new, R.frm, by rw [List.length_set, List.length_set]; exact R.len, fun j y q => ?_, fun j ys q => ?_, fun j k ys zs b hjk q1 q2 q3 => ?_, fun j b q => ?_⟩
  · by_cases hj : j = i
    · subst hj
      by_cases hl : j < st.length
      · rw [List.getElem?_set_self hl] at q; cases q
      · rw [List.getElem?_eq_none (by rw [List.length_set]; omega)] at q; cases q
    · rw [List.getElem?_set_ne (Ne.symm hj)] at q
      obtain ⟨w, h1, h2⟩ := R.val j y q
      exact ⟨w, by rw [List.getElem?_set_ne (Ne.symm hj)]; exact h1, h2⟩
  · by_cases hj : j = i
    · subst hj
      by_cases hl : j < st.length
      · rw [List.getElem?_set_self hl] at q
        cases q
        exact ⟨a, vs, by rw [List.getElem?_set_self (by rw [← R.len]; exact hl)], h, hF, hv, .inr h0⟩
      · rw [List.getElem?_eq_none (by rw [List.length_set]; omega)] at q; cases q
    · obtain ⟨c, ws, h1, h2⟩ := R.own j ys (old j ys hj q)
      exact ⟨c, ws, by rw [List.getElem?_set_ne (Ne.symm hj)]; exact h1, h2⟩
  · intro q4
    by_cases hj : j = i
    · have hk : k ≠ i := fun z => hjk (hj.trans z.symm)
      have q2' := old k zs hk q2
      rw [List.getElem?_set_ne (Ne.symm hk)] at q4
      subst hj
      have hl : j < σ.length := by
        have := (List.getElem?_eq_some_iff.mp q3).1
        rw [List.length_set] at this
        exact this
      rw [List.getElem?_set_self hl] at q3
      cases q3
      exact hno k zs q2' q4
    · have q1' := old j ys hj q1
      rw [List.getElem?_set_ne (Ne.symm hj)] at q3
      by_cases hk : k = i
      · subst hk
        have hl : k < σ.length := by
          have := (List.getElem?_eq_some_iff.mp q4).1
          rw [List.length_set] at this
          exact this
        rw [List.getElem?_set_self hl] at q4
        cases q4
        exact hno j ys q1' q3
      · have q2' := old k zs hk q2
        rw [List.getElem?_set_ne (Ne.symm hk)] at q4
        exact R.apart j k ys zs b hjk q1' q2' q3 q4
  · obtain ⟨⟨ys, h1⟩, h2⟩ := R.par j b q
    have hj : j ≠ i := fun z => by rw [z, hP] at q; cases q
    exact ⟨⟨ys, by rw [List.getElem?_set_ne (Ne.symm hj)]; exact h1⟩, by rw [List.getElem?_set_ne (Ne.symm hj)]; exact h2⟩
/-- a slot is forgotten -/
theorem Rel.forget {i : Nat} {u : Option V} (R : Rel K W F H σ st) (hP : W.P i = none) : Rel K W F H (σ.set i u) (st.set i .no) := by
  have old : ∀ (j : Nat) (s : Sl), s ≠ .no → (st.set i .no)[j]? = some s → j ≠ i ∧ st[j]? = some s := fun j s hs q => by
    by_cases hj : j = i
    · subst hj
      by_cases hl : j < st.length
      · rw [List.getElem?_set_self hl] at q; exact absurd (Option.some.inj q).symm hs
      · rw [List.getElem?_eq_none (by rw [List.length_set]; omega)] at q; cases q
    · rw [List.getElem?_set_ne (Ne.symm hj)] at q; exact ⟨hj, q⟩
  refine ⟨R.fh, R.ff, R.new, R.frm, by rw [List.length_set, List.length_set]; exact R.len, fun j y q => ?_, fun j xs q => ?_, fun j k xs ys b hjk q1 q2 q3 => ?_, fun j b q => ?_⟩
  · obtain ⟨hj, q⟩ := old j _ (by intro z; cases z) q
    obtain ⟨w, h1, h2⟩ := R.val j y q
    exact ⟨w, by rw [List.getElem?_set_ne (Ne.symm hj)]; exact h1, h2⟩
  · obtain ⟨hj, q⟩ := old j _ (by intro z; cases z) q
    obtain ⟨a, vs, h1, h2⟩ := R.own j xs q
    exact ⟨a, vs, by rw [List.getElem?_set_ne (Ne.symm hj)]; exact h1, h2⟩
  · obtain ⟨hj, q1⟩ := old j _ (by intro z; cases z) q1
    obtain ⟨hk, q2⟩ := old k _ (by intro z; cases z) q2
    rw [List.getElem?_set_ne (Ne.symm hj)] at q3
    rw [List.getElem?_set_ne (Ne.symm hk)]
    exact R.apart j k xs ys b hjk q1 q2 q3
  · obtain ⟨⟨xs, h1⟩, h2⟩ := R.par j b q
    have hj : j ≠ i := fun z => by rw [z, hP] at q; cases q
    exact ⟨⟨xs, by rw [List.getElem?_set_ne (Ne.symm hj)]; exact h1⟩, by rw [List.getElem?_set_ne (Ne.symm hj)]; exact h2⟩
end
end DL

set_option Elab.async false
set_option linter.all false
set_option maxRecDepth 100000
set_option maxHeartbeats 4000000
namespace DL
open PySem PySem.Spec L2

abbrev ES := List Sl → Option (D × List Sl)
abbrev BS := List Sl → Option (Bool × List Sl)
abbrev OS := List Sl → Option (List D × List Sl)
/-- an expression gives data -/
def tD (K : PySem.W.Frag) (W : Wd) (f : ES) : TE := fun σ H Q => ∃ F st r, Rel K W F H σ st ∧ f st = some r ∧ ∀ v F' H', Rel K W F' H' σ r.2 → Same F F' → Dp K F' v r.1 → Q v H'
def tT (K : PySem.W.Frag) (W : Wd) (f : BS) : TT := fun σ H Q => ∃ F st r, Rel K W F H σ st ∧ f st = some r ∧ ∀ F' H', Rel K W F' H' σ r.2 → Same F F' → Q r.1 H'
/-- an expression gives a new list that nobody else has -/
def Fresh (W : Wd) (F H : Hp) (σ : L2.St) (st : List Sl) (a : Addr) : Prop := F a = none ∧ W.H0 a = none ∧ ∀ (i : Nat) (xs : List D), st[i]? = some (.own xs) → σ[i]? ≠ some (some (.ref a))
def tO (K : PySem.W.Frag) (W : Wd) (f : OS) : TE := fun σ H Q => ∃ F st r, Rel K W F H σ st ∧ f st = some r ∧ ∀ a vs F' H', Rel K W F' H' σ r.2 → Same F F' → H' a = some (.lst vs) → Fresh W F' H' σ r.2 a → DpAll K F' vs r.1 → Q (.ref a) H'
abbrev DE (X : Cx) (W : Wd) (e : Expr) (f : ES) : Prop := PE X e (tD X.K W f)
abbrev DT (X : Cx) (W : Wd) (e : Expr) (f : BS) : Prop := PT X e (tT X.K W f)
abbrev DW (X : Cx) (W : Wd) (e : Expr) (f : BS) : Prop := PW X e (tT X.K W f)
abbrev DO (X : Cx) (W : Wd) (e : Expr) (f : OS) : Prop := PE X e (tO X.K W f)

theorem pe_imp {X : Cx} {e : Expr} {t t' : TE} (h : PE X e t) (i : ∀ σ H Q, t' σ H Q → t σ H Q) : PE X e t' := ⟨fun pins s σ H Q I q => h.run pins s σ H Q I (i σ H Q q)⟩
theorem pt_imp {X : Cx} {e : Expr} {t t' : TT} (h : PT X e t) (i : ∀ σ H Q, t' σ H Q → t σ H Q) : PT X e t' := ⟨fun pins s σ H Q I q => h.run pins s σ H Q I (i σ H Q q)⟩
theorem pw_imp {X : Cx} {e : Expr} {t t' : TT} (h : PW X e t) (i : ∀ σ H Q, t' σ H Q → t σ H Q) : PW X e t' := ⟨fun w pins s σ H Q I q => h.run w pins s σ H Q I (i σ H Q q)⟩
theorem ps_imp {X : Cx} {s : Stmt} {t t' : TS} (h : PS X s t) (i : ∀ D σ H, t' D σ H → t D σ H) : PS X s t' := ⟨fun pins s σ H D I q => h.run pins s σ H D I (i D σ H q)⟩
theorem pss_imp {X : Cx} {s : List Stmt} {t t' : TS} (h : PSs X s t) (i : ∀ D σ H, t' D σ H → t D σ H) : PSs X s t' := ⟨fun pins s σ H D I q => h.run pins s σ H D I (i D σ H q)⟩

/-! ### the functions -/
def eNm (i : Nat) : ES := fun st => match st[i]? with
  | some (.d x) => some (x, st)
  | _ => none
/-- the list of a slot, seen as it is (a borrowed look: its items stand still) -/
def oNm (i : Nat) : OS := fun st => match st[i]? with
  | some (.own xs) => some (xs, st)
  | _ => none
def eK (x : D) : ES := fun st => some (x, st)
def eNone : ES := fun _ => none
def bNone : BS := fun _ => none
def eBin (op : D → D → Option D) (f g : ES) : ES := fun st => (f st).bind fun r => (g r.2).bind fun q => (op r.1 q.1).map fun z => (z, q.2)
def eUn (op : D → Option D) (f : ES) : ES := fun st => (f st).bind fun r => (op r.1).map fun z => (z, r.2)
def eIf (c : BS) (f g : ES) : ES := fun st => (c st).bind fun r => if r.1 then f r.2 else g r.2
def oIf (c : BS) (f g : OS) : OS := fun st => (c st).bind fun r => if r.1 then f r.2 else g r.2
/-- a test of two values -/
def bBin (op : D → D → Option Bool) (f g : ES) : BS := fun st => (f st).bind fun r => (g r.2).bind fun q => (op r.1 q.1).map fun z => (z, q.2)
def bUn (op : D → Option Bool) (f : ES) : BS := fun st => (f st).bind fun r => (op r.1).map fun z => (z, r.2)
def bAnd (f g : BS) : BS := fun st => (f st).bind fun r => if r.1 then g r.2 else some (false, r.2)
def bOr (f g : BS) : BS := fun st => (f st).bind fun r => if r.1 then some (true, r.2) else g r.2
def bNot (f : BS) : BS := fun st => (f st).map fun r => (!r.1, r.2)
/-- a test as a value -/
def eB (f : BS) : ES := fun st => (f st).map fun r => (.bool r.1, r.2)
/-- a op b op' c -/
def bChain (op op' : D → D → Option Bool) (f g h : ES) : BS := fun st => (f st).bind fun r => (g r.2).bind fun q => (op r.1 q.1).bind fun k => if k then (h q.2).bind fun z => (op' q.1 z.1).map fun y => (y, z.2) else some (false, q.2)
/-- a list of one's own comes to stand still -/
def eFz (f : OS) : ES := fun st => (f st).map fun r => (.list r.1, r.2)
def boolOf : D → Option Bool
  | .bool b => some b
  | _ => none
/-- arguments -/
abbrev AS := List Sl → Option (List D × List Sl)
def aNil : AS := fun st => some ([], st)
def aCons (f : ES) (g : AS) : AS := fun st => (f st).bind fun r => (g r.2).map fun q => (r.1 :: q.1, q.2)

section
variable {X : Cx} {W : Wd} {a b c : Expr} {f g h : ES} {p q t : BS} {o o' : OS} {pos : Pos}

theorem de_none {e : Expr} : PE X e (fun _ _ _ => False) := ⟨fun _ _ _ _ _ _ h => h.elim⟩
theorem de_never {e : Expr} : DE X W e eNone := pe_imp de_none fun _ _ _ ⟨_, _, _, _, e, _⟩ => by cases e
theorem dt_never {e : Expr} : DT X W e bNone := ⟨fun _ _ _ _ _ _ ⟨_, _, _, _, e, _⟩ => by cases e⟩
theorem de_nm (i : Nat) {x : Str} {pos : Pos} (hN : X.N[i]? = some x := by rfl) (hv : Vis X.env.scope x := by first | exact Or.inl rfl | exact Or.inr (Or.inl rfl) | exact Or.inr (Or.inr rfl)) (hd : (x == ("__debug__" : Str)) = false := by decide)
    (hcd : (x == ("__classdict__" : Str)) = false := by decide) : DE X W (.Name x pos) (eNm i) := pe_imp (pe_var (i := i) hN hv hd hcd) fun σ H Q ⟨F, st, r, R, e, k⟩ => by
  unfold eNm at e
  split at e
  · rename_i y hy
    cases e
    obtain ⟨v, h1, h2⟩ := R.val i y hy
    exact ⟨v, h1, k v F H R (Same.refl _) h2⟩
  · cases e
theorem de_c {e : Expr} {v : V} {x : D} (h : PE X e (tC v)) (hv : Dp X.K (fun _ => none) v x) : DE X W e (eK x) := pe_imp h fun σ H Q ⟨F, st, r, R, e, k⟩ => by
  cases e
  exact k v F H R (Same.refl _) (dpMono (fun b o z => by cases z) _ _ hv)
theorem de_int {i j pos} : DE X W (.Constant (.int i) j pos) (eK (.int i)) := de_c pe_int (.int i)
theorem de_bl {i j pos} : DE X W (.Constant (.bool i) j pos) (eK (.bool i)) := de_c pe_bl (.bl i)
theorem de_non {j pos} : DE X W (.Constant .none j pos) (eK .none) := de_c pe_non .non
theorem de_str {x j pos} {l : List Nat} (e : x = (⟨l.toArray⟩ : Str)) : DE X W (.Constant (.str x) j pos) (eK (ds l)) := by
  subst e
  exact de_c pe_str (.str _)

/-! ### two-place operations -/
/-- what a reading by values must take -/
def OpS (K : PySem.W.Frag) (r : R2) (op : D → D → Option D) : Prop := ∀ (W : Wd) (F H : Hp) (σ : L2.St) (st : List Sl) (x y : V) (a b c : D) (Q : VK), Rel K W F H σ st → Dp K F x a → Dp K F y b → op a b = some c →
  (∀ v F' H', Rel K W F' H' σ st → Same F F' → Dp K F' v c → Q v H') → r x y H Q
def OpT (K : PySem.W.Frag) (r : R2) (op : D → D → Option Bool) : Prop := ∀ (F H : Hp) (x y : V) (a b : D) (c : Bool) (Q : VK), Same F H → Dp K F x a → Dp K F y b → op a b = some c → Q (.bl c) H → r x y H Q
theorem tOp_of {r : R2} {op : D → D → Option D} (hs : OpS X.K r op) : ∀ σ H Q, tD X.K W (eBin op f g) σ H Q → tOp r (tD X.K W f) (tD X.K W g) σ H Q := fun σ H Q ⟨F, st, z, R, e, k⟩ => by
  unfold eBin at e
  obtain ⟨r1, e1, e⟩ := Option.bind_eq_some_iff.mp e
  obtain ⟨r2, e2, e⟩ := Option.bind_eq_some_iff.mp e
  obtain ⟨c, e3, e⟩ := Option.map_eq_some_iff.mp e
  cases e
  refine ⟨F, st, r1, R, e1, fun x F1 H1 R1 s1 d1 => ⟨F1, r1.2, r2, R1, e2, fun y F2 H2 R2 s2 d2 => ?_⟩⟩
  exact hs W F2 H2 σ r2.2 x y r1.1 r2.1 c Q R2 (dpMono s2 _ _ d1) d2 e3 fun v F3 H3 R3 s3 d3 => k v F3 H3 R3 ((s1.trans s2).trans s3) d3
theorem de_bin {op : Operator} {r : R2} {opd : D → D → Option D} (ho : OpR X (binaryOp op) r) (hs : OpS X.K r opd) (ha : DE X W a f) (hb : DE X W b g) : DE X W (.BinOp a op b pos) (eBin opd f g) :=
  pe_imp (pe_op ho ha hb) (tOp_of hs)
theorem de_ix {r : R2} {opd : D → D → Option D} (ho : IxR X r) (hs : OpS X.K r opd) (ha : DE X W a f) (hb : DE X W b g) (hp : PlainIx b := by exact fun _ _ => rfl) : DE X W (.Subscript a b pos) (eBin opd f g) :=
  pe_imp (pe_ix ho ha hb hp) (tOp_of hs)
theorem tOpT_of {r : R2} {op : D → D → Option Bool} (hs : OpT X.K r op) : ∀ σ H Q, tT X.K W (bBin op f g) σ H Q → tTest (tOp r (tD X.K W f) (tD X.K W g)) σ H Q := fun σ H Q ⟨F, st, z, R, e, k⟩ => by
  unfold bBin at e
  obtain ⟨r1, e1, e⟩ := Option.bind_eq_some_iff.mp e
  obtain ⟨r2, e2, e⟩ := Option.bind_eq_some_iff.mp e
  obtain ⟨c, e3, e⟩ := Option.map_eq_some_iff.mp e
  cases e
  refine ⟨F, st, r1, R, e1, fun x F1 H1 R1 s1 d1 => ⟨F1, r1.2, r2, R1, e2, fun y F2 H2 R2 s2 d2 => ?_⟩⟩
  exact hs F2 H2 x y r1.1 r2.1 c _ R2.fh (dpMono s2 _ _ d1) d2 e3 ⟨c, rfl, k F2 H2 R2 (s1.trans s2)⟩
theorem tOpE_of {r : R2} {op : D → D → Option Bool} (hs : OpT X.K r op) : ∀ σ H Q, tD X.K W (eB (bBin op f g)) σ H Q → tOp r (tD X.K W f) (tD X.K W g) σ H Q := fun σ H Q ⟨F, st, z, R, e, k⟩ => by
  unfold eB bBin at e
  obtain ⟨z', e0, e'⟩ := Option.map_eq_some_iff.mp e
  cases e'
  obtain ⟨r1, e1, e⟩ := Option.bind_eq_some_iff.mp e0
  obtain ⟨r2, e2, e⟩ := Option.bind_eq_some_iff.mp e
  obtain ⟨c, e3, e⟩ := Option.map_eq_some_iff.mp e
  cases e
  refine ⟨F, st, r1, R, e1, fun x F1 H1 R1 s1 d1 => ⟨F1, r1.2, r2, R1, e2, fun y F2 H2 R2 s2 d2 => ?_⟩⟩
  exact hs F2 H2 x y r1.1 r2.1 c _ R2.fh (dpMono s2 _ _ d1) d2 e3 (k _ F2 H2 R2 (s1.trans s2) (.bl c))
theorem dt_cmp {op : CmpOp} {r : R2} {opd : D → D → Option Bool} (ho : OpR X (compareOp op) r) (hs : OpT X.K r opd) (ha : DE X W a f) (hb : DE X W b g) (hm : behindInMarks op b = false := by first | exact nomark _ | with_unfolding_all rfl) : DT X W (.Compare a [op] [b] pos) (bBin opd f g) :=
  pt_imp (pt_cmpR ho ha hb hm) (tOpT_of hs)
theorem de_cmp {op : CmpOp} {r : R2} {opd : D → D → Option Bool} (ho : OpR X (compareOp op) r) (hs : OpT X.K r opd) (ha : DE X W a f) (hb : DE X W b g) (hm : behindInMarks op b = false := by first | exact nomark _ | with_unfolding_all rfl) : DE X W (.Compare a [op] [b] pos) (eB (bBin opd f g)) :=
  pe_imp (pe_cmpR ho ha hb hm) (tOpE_of hs)
theorem tChain_of {r r' : R2} {op op' : D → D → Option Bool} (hs : OpT X.K r op) (hs' : OpT X.K r' op') : ∀ σ H Q, tD X.K W (eB (bChain op op' f g h)) σ H Q → tChain r r' (tD X.K W f) (tD X.K W g) (tD X.K W h) σ H Q := fun σ H Q ⟨F, st, z, R, e, k⟩ => by
  unfold eB bChain at e
  obtain ⟨z', e0, e'⟩ := Option.map_eq_some_iff.mp e
  cases e'
  obtain ⟨r1, e1, e⟩ := Option.bind_eq_some_iff.mp e0
  obtain ⟨r2, e2, e⟩ := Option.bind_eq_some_iff.mp e
  obtain ⟨c, e3, e⟩ := Option.bind_eq_some_iff.mp e
  refine ⟨F, st, r1, R, e1, fun x F1 H1 R1 s1 d1 => ⟨F1, r1.2, r2, R1, e2, fun y F2 H2 R2 s2 d2 => ?_⟩⟩
  refine hs F2 H2 x y r1.1 r2.1 c _ R2.fh (dpMono s2 _ _ d1) d2 e3 ⟨c, rfl, ?_⟩
  cases c with
  | false =>
    cases e
    exact k _ F2 H2 R2 (s1.trans s2) (.bl false)
  | true =>
    obtain ⟨r3, e4, e⟩ := Option.bind_eq_some_iff.mp e
    obtain ⟨c', e5, e⟩ := Option.map_eq_some_iff.mp e
    cases e
    refine ⟨F2, r2.2, r3, R2, e4, fun w F3 H3 R3 s3 d3 => ?_⟩
    exact hs' F3 H3 y w r2.1 r3.1 c' _ R3.fh (dpMono s3 _ _ d2) d3 e5 (k _ F3 H3 R3 ((s1.trans s2).trans s3) (.bl c'))
theorem de_chain {op op' : CmpOp} {r r' : R2} {od od' : D → D → Option Bool} (ho : OpR X (compareOp op) r) (ho' : OpR X (compareOp op') r') (hs : OpT X.K r od) (hs' : OpT X.K r' od') (ha : DE X W a f) (hb : DE X W b g) (hc : DE X W c h)
    (hm : lastMarks [op, op'] [b, c] = false := by with_unfolding_all rfl) : DE X W (.Compare a [op, op'] [b, c] pos) (eB (bChain od od' f g h)) := pe_imp (pe_chain ho ho' ha hb hc hm) (tChain_of hs hs')
theorem tT_of_tD : ∀ σ H Q, tT X.K W p σ H Q → tTest (tD X.K W (eB p)) σ H Q := fun σ H Q ⟨F, st, z, R, e, k⟩ => by
  refine ⟨F, st, (.bool z.1, z.2), R, by unfold eB; rw [e]; rfl, fun v F' H' R' s' d' => ?_⟩
  cases d'
  exact ⟨_, rfl, k F' H' R' s'⟩
theorem dt_chain {op op' : CmpOp} {r r' : R2} {od od' : D → D → Option Bool} (ho : OpR X (compareOp op) r) (ho' : OpR X (compareOp op') r') (hs : OpT X.K r od) (hs' : OpT X.K r' od') (ha : DE X W a f) (hb : DE X W b g) (hc : DE X W c h)
    (hm : lastMarks [op, op'] [b, c] = false := by with_unfolding_all rfl) : DT X W (.Compare a [op, op'] [b, c] pos) (bChain od od' f g h) := pt_imp (pt_chain ho ho' ha hb hc hm) fun σ H Q q => by
  obtain ⟨F, st, z, R, e, k⟩ := tT_of_tD σ H Q q
  exact tChain_of hs hs' σ H _ ⟨F, st, z, R, e, k⟩
/-! ### is None -/
def dIsN : D → Option Bool
  | .none => some true
  | _ => some false
def dNotN : D → Option Bool
  | .none => some false
  | _ => some true
theorem dp_non {K : PySem.W.Frag} {F : Hp} {v : V} {x : D} (h : Dp K F v x) : dIsN x = some (decide (v = .non)) ∧ dNotN x = some (!decide (v = .non)) := by
  cases h <;> exact ⟨rfl, rfl⟩
theorem de_isN {j pos'} (ha : DE X W a f) : DE X W (.Compare a [.Is] [.Constant .none j pos'] pos) (eB (bUn dIsN f)) := pe_imp (pe_cmp (pc_isN ha) rfl) fun σ H Q ⟨F, st, z, R, e, k⟩ => by
  unfold eB bUn at e
  obtain ⟨z', e0, e'⟩ := Option.map_eq_some_iff.mp e
  cases e'
  obtain ⟨r1, e1, e⟩ := Option.bind_eq_some_iff.mp e0
  obtain ⟨c, e3, e⟩ := Option.map_eq_some_iff.mp e
  cases e
  refine ⟨F, st, r1, R, e1, fun x F1 H1 R1 s1 d1 => ?_⟩
  rw [(dp_non d1).1] at e3
  cases e3
  exact k _ F1 H1 R1 s1 (.bl _)
theorem de_notN {j pos'} (ha : DE X W a f) : DE X W (.Compare a [.IsNot] [.Constant .none j pos'] pos) (eB (bUn dNotN f)) := pe_imp (pe_cmp (pc_notN ha) rfl) fun σ H Q ⟨F, st, z, R, e, k⟩ => by
  unfold eB bUn at e
  obtain ⟨z', e0, e'⟩ := Option.map_eq_some_iff.mp e
  cases e'
  obtain ⟨r1, e1, e⟩ := Option.bind_eq_some_iff.mp e0
  obtain ⟨c, e3, e⟩ := Option.map_eq_some_iff.mp e
  cases e
  refine ⟨F, st, r1, R, e1, fun x F1 H1 R1 s1 d1 => ?_⟩
  rw [(dp_non d1).2] at e3
  cases e3
  exact k _ F1 H1 R1 s1 (.bl _)
theorem dt_isN {j pos'} (ha : DE X W a f) : DT X W (.Compare a [.Is] [.Constant .none j pos'] pos) (bUn dIsN f) := pt_imp (pt_cmp (pc_isN ha) rfl) fun σ H Q ⟨F, st, z, R, e, k⟩ => by
  unfold bUn at e
  obtain ⟨r1, e1, e⟩ := Option.bind_eq_some_iff.mp e
  obtain ⟨c, e3, e⟩ := Option.map_eq_some_iff.mp e
  cases e
  refine ⟨F, st, r1, R, e1, fun x F1 H1 R1 s1 d1 => ?_⟩
  rw [(dp_non d1).1] at e3
  cases e3
  exact ⟨_, rfl, k F1 H1 R1 s1⟩
theorem dt_notN {j pos'} (ha : DE X W a f) : DT X W (.Compare a [.IsNot] [.Constant .none j pos'] pos) (bUn dNotN f) := pt_imp (pt_cmp (pc_notN ha) rfl) fun σ H Q ⟨F, st, z, R, e, k⟩ => by
  unfold bUn at e
  obtain ⟨r1, e1, e⟩ := Option.bind_eq_some_iff.mp e
  obtain ⟨c, e3, e⟩ := Option.map_eq_some_iff.mp e
  cases e
  refine ⟨F, st, r1, R, e1, fun x F1 H1 R1 s1 d1 => ?_⟩
  rw [(dp_non d1).2] at e3
  cases e3
  exact ⟨_, rfl, k F1 H1 R1 s1⟩

/-! ### and, or, not, if -/
/-- a value that is a bool, as a test -/
theorem dt_val (h : DE X W a f) (he : ∀ whole, isTrue a X.env whole = (do let v ← whole; standAt a.pos; holding [v] (truthy v)) := by intro _; rfl) : DT X W a (bUn boolOf f) := pt_imp (pt_val h he) fun σ H Q ⟨F, st, z, R, e, k⟩ => by
  unfold bUn at e
  obtain ⟨r1, e1, e⟩ := Option.bind_eq_some_iff.mp e
  obtain ⟨c, e3, e⟩ := Option.map_eq_some_iff.mp e
  cases e
  refine ⟨F, st, r1, R, e1, fun x F1 H1 R1 s1 d1 => ?_⟩
  obtain ⟨r1a, r1b⟩ := r1
  cases d1 <;> cases e3
  exact ⟨_, rfl, k F1 H1 R1 s1⟩
theorem dw_and1 (ha : DT X W a p) : DW X W (.BoolOp .And [a] pos) p := pw_and1 ha
theorem dw_or1 (ha : DT X W a p) : DW X W (.BoolOp .Or [a] pos) p := pw_or1 ha
theorem dw_and {rest : List Expr} (ha : DT X W a p) (hb : DW X W (.BoolOp .And (b :: rest) pos) q) : DW X W (.BoolOp .And (a :: b :: rest) pos) (bAnd p q) := pw_imp (pw_and ha hb) fun σ H Q ⟨F, st, z, R, e, k⟩ => by
  unfold bAnd at e
  obtain ⟨r1, e1, e⟩ := Option.bind_eq_some_iff.mp e
  refine ⟨F, st, r1, R, e1, fun F1 H1 R1 s1 => ?_⟩
  obtain ⟨c, r1b⟩ := r1
  cases c with
  | true => exact ⟨F1, r1b, z, R1, e, fun F2 H2 R2 s2 => k F2 H2 R2 (s1.trans s2)⟩
  | false =>
    cases e
    exact k F1 H1 R1 s1
theorem dw_or {rest : List Expr} (ha : DT X W a p) (hb : DW X W (.BoolOp .Or (b :: rest) pos) q) : DW X W (.BoolOp .Or (a :: b :: rest) pos) (bOr p q) := pw_imp (pw_or ha hb) fun σ H Q ⟨F, st, z, R, e, k⟩ => by
  unfold bOr at e
  obtain ⟨r1, e1, e⟩ := Option.bind_eq_some_iff.mp e
  refine ⟨F, st, r1, R, e1, fun F1 H1 R1 s1 => ?_⟩
  obtain ⟨c, r1b⟩ := r1
  cases c with
  | true =>
    cases e
    exact k F1 H1 R1 s1
  | false => exact ⟨F1, r1b, z, R1, e, fun F2 H2 R2 s2 => k F2 H2 R2 (s1.trans s2)⟩
theorem dt_not (ha : DT X W a p) : DT X W (.UnaryOp .Not a pos) (bNot p) := pt_imp (pt_not ha) fun σ H Q ⟨F, st, z, R, e, k⟩ => by
  unfold bNot at e
  obtain ⟨r1, e1, e⟩ := Option.map_eq_some_iff.mp e
  cases e
  exact ⟨F, st, r1, R, e1, k⟩
/-- values of and, or, not: bools -/
def eAnd (f g : ES) : ES := fun st => (f st).bind fun r => (boolOf r.1).bind fun c => if c then g r.2 else some (.bool false, r.2)
def eOr (f g : ES) : ES := fun st => (f st).bind fun r => (boolOf r.1).bind fun c => if c then some (.bool true, r.2) else g r.2
theorem boolOf_dp {K : PySem.W.Frag} {F : Hp} {v : V} {x : D} {c : Bool} (h : Dp K F v x) (e : boolOf x = some c) : v = .bl c := by
  cases h <;> cases e <;> rfl
theorem de_one {op} (h : DE X W a f) : DE X W (.BoolOp op [a] pos) f := pe_one h
theorem de_and {rest : List Expr} (ha : DE X W a f) (hb : DE X W (.BoolOp .And (b :: rest) pos) g) : DE X W (.BoolOp .And (a :: b :: rest) pos) (eAnd f g) := pe_imp (pe_and ha hb) fun σ H Q ⟨F, st, z, R, e, k⟩ => by
  unfold eAnd at e
  obtain ⟨r1, e1, e⟩ := Option.bind_eq_some_iff.mp e
  obtain ⟨c, e2, e⟩ := Option.bind_eq_some_iff.mp e
  refine ⟨F, st, r1, R, e1, fun x F1 H1 R1 s1 d1 => ⟨c, boolOf_dp d1 e2, ?_⟩⟩
  cases c with
  | true => exact ⟨F1, r1.2, z, R1, e, fun v F2 H2 R2 s2 => k v F2 H2 R2 (s1.trans s2)⟩
  | false =>
    cases e
    exact k _ F1 H1 R1 s1 (.bl false)
theorem de_or {rest : List Expr} (ha : DE X W a f) (hb : DE X W (.BoolOp .Or (b :: rest) pos) g) : DE X W (.BoolOp .Or (a :: b :: rest) pos) (eOr f g) := pe_imp (pe_or ha hb) fun σ H Q ⟨F, st, z, R, e, k⟩ => by
  unfold eOr at e
  obtain ⟨r1, e1, e⟩ := Option.bind_eq_some_iff.mp e
  obtain ⟨c, e2, e⟩ := Option.bind_eq_some_iff.mp e
  refine ⟨F, st, r1, R, e1, fun x F1 H1 R1 s1 d1 => ⟨c, boolOf_dp d1 e2, ?_⟩⟩
  cases c with
  | true =>
    cases e
    exact k _ F1 H1 R1 s1 (.bl true)
  | false => exact ⟨F1, r1.2, z, R1, e, fun v F2 H2 R2 s2 => k v F2 H2 R2 (s1.trans s2)⟩
theorem de_not (ha : DE X W a f) : DE X W (.UnaryOp .Not a pos) (eB (bNot (bUn boolOf f))) := pe_imp (pe_not ha) fun σ H Q ⟨F, st, z, R, e, k⟩ => by
  unfold eB bNot bUn at e
  obtain ⟨z1, e0, e'⟩ := Option.map_eq_some_iff.mp e
  cases e'
  obtain ⟨z2, e9, e'⟩ := Option.map_eq_some_iff.mp e0
  cases e'
  obtain ⟨r1, e1, e⟩ := Option.bind_eq_some_iff.mp e9
  obtain ⟨c, e2, e⟩ := Option.map_eq_some_iff.mp e
  cases e
  exact ⟨F, st, r1, R, e1, fun x F1 H1 R1 s1 d1 => ⟨c, boolOf_dp d1 e2, k _ F1 H1 R1 s1 (.bl _)⟩⟩
theorem de_if (hc : DT X W c p) (ha : DE X W a f) (hb : DE X W b g) : DE X W (.IfExp c a b pos) (eIf p f g) := pe_imp (pe_ifExp hc ha hb) fun σ H Q ⟨F, st, z, R, e, k⟩ => by
  unfold eIf at e
  obtain ⟨r1, e1, e⟩ := Option.bind_eq_some_iff.mp e
  refine ⟨F, st, r1, R, e1, fun F1 H1 R1 s1 => ?_⟩
  obtain ⟨c, r1b⟩ := r1
  cases c with
  | true => exact ⟨F1, r1b, z, R1, e, fun v F2 H2 R2 s2 => k v F2 H2 R2 (s1.trans s2)⟩
  | false => exact ⟨F1, r1b, z, R1, e, fun v F2 H2 R2 s2 => k v F2 H2 R2 (s1.trans s2)⟩
theorem do_if (hc : DT X W c p) (ha : DO X W a o) (hb : DO X W b o') : DO X W (.IfExp c a b pos) (oIf p o o') := pe_imp (pe_ifExp hc ha hb) fun σ H Q ⟨F, st, z, R, e, k⟩ => by
  unfold oIf at e
  obtain ⟨r1, e1, e⟩ := Option.bind_eq_some_iff.mp e
  refine ⟨F, st, r1, R, e1, fun F1 H1 R1 s1 => ?_⟩
  obtain ⟨c, r1b⟩ := r1
  cases c with
  | true => exact ⟨F1, r1b, z, R1, e, fun v vs F2 H2 R2 s2 => k v vs F2 H2 R2 (s1.trans s2)⟩
  | false => exact ⟨F1, r1b, z, R1, e, fun v vs F2 H2 R2 s2 => k v vs F2 H2 R2 (s1.trans s2)⟩
theorem de_fz (h : DO X W a o) : DE X W a (eFz o) := pe_imp h fun σ H Q ⟨F, st, z, R, e, k⟩ => by
  unfold eFz at e
  obtain ⟨r1, e1, e⟩ := Option.map_eq_some_iff.mp e
  cases e
  refine ⟨F, st, r1, R, e1, fun a vs F1 H1 R1 s1 ha fr d1 => ?_⟩
  have e1 : Same F1 (upd F1 a (.lst vs)) := same_upd fr.1
  exact k _ _ H1 (R1.freeze ha fr.1 fr.2.1 fr.2.2) (s1.trans e1) (.lst (.inl (.inl upd_same)) (dpAllMono e1 _ _ d1))

/-! ### arguments, displays -/
def tA (K : PySem.W.Frag) (W : Wd) (f : AS) : TA := fun σ H Q => ∃ F st r, Rel K W F H σ st ∧ f st = some r ∧ ∀ vs F' H', Rel K W F' H' σ r.2 → Same F F' → DpAll K F' vs r.1 → Q vs H'
abbrev DA (X : Cx) (W : Wd) (es : List Expr) (f : AS) : Prop := PA X es (tA X.K W f)
theorem pa_imp {es : List Expr} {t t' : TA} (h : PA X es t) (i : ∀ σ H Q, t' σ H Q → t σ H Q) : PA X es t' := ⟨fun pos pins s σ H Q I q => h.run pos pins s σ H Q I (i σ H Q q)⟩
theorem da_nil : DA X W [] aNil := pa_imp pa_nil fun σ H Q ⟨F, st, z, R, e, k⟩ => by
  cases e
  exact k [] F H R (Same.refl _) .nil
theorem da_cons {es : List Expr} {u : AS} (ha : DE X W a f) (hr : DA X W es u) (hs : starEach (a :: es) X.env = (false, eval a X.env) :: starEach es X.env := by rfl) : DA X W (a :: es) (aCons f u) := pa_imp (pa_cons ha hr hs) fun σ H Q ⟨F, st, z, R, e, k⟩ => by
  unfold aCons at e
  obtain ⟨r1, e1, e⟩ := Option.bind_eq_some_iff.mp e
  obtain ⟨r2, e2, e⟩ := Option.map_eq_some_iff.mp e
  cases e
  refine ⟨F, st, r1, R, e1, fun x F1 H1 R1 s1 d1 => ⟨F1, r1.2, r2, R1, e2, fun vs F2 H2 R2 s2 d2 => ?_⟩⟩
  exact k _ F2 H2 R2 (s1.trans s2) (.cons (dpMono s2 _ _ d1) d2)
def eTup (u : AS) : ES := fun st => (u st).bind fun r => if r.1.length ≤ 1000 then some (.tuple r.1, r.2) else none
def oLst (u : AS) : OS := fun st => (u st).bind fun r => if r.1.length ≤ 1000 then some r else none
theorem le1000 {n : Nat} (h : n ≤ 1000) : n ≤ sizeLine := Nat.le_of_lt (small1000 h)
theorem de_tup {es : List Expr} {u : AS} {x1} (h : DA X W es u) : DE X W (.Tuple es x1 pos) (eTup u) := pe_imp (pe_tup h) fun σ H Q ⟨F, st, z, R, e, k⟩ => by
  unfold eTup at e
  obtain ⟨r1, e1, e⟩ := Option.bind_eq_some_iff.mp e
  split at e
  · rename_i hl
    cases e
    refine ⟨F, st, r1, R, e1, fun vs F1 H1 R1 s1 d1 => ⟨by rw [DpAll.length d1]; exact le1000 hl, fun p hp => ?_⟩⟩
    have e2 : Same F1 (upd F1 p (.tup vs)) := same_upd (R1.fh.free hp)
    exact k _ _ _ (R1.laid hp) (s1.trans e2) (.tup (.inl (.inl upd_same)) (dpAllMono e2 _ _ d1))
  · cases e
theorem Rel.fresh {K : PySem.W.Frag} {F H : Hp} {σ : L2.St} {st : List Sl} {p : Addr} {o : HO} (R : Rel K W F H σ st) (hp : H p = none) : Fresh W F (upd H p o) σ st p ∧ Rel K W F (upd H p o) σ st := by
  have hF : F p = none := R.fh.free hp
  have hno : ∀ (i : Nat) (xs : List D), st[i]? = some (.own xs) → σ[i]? ≠ some (some (.ref p)) := fun i xs e z => by
    obtain ⟨a, vs, h1, h2, _⟩ := R.own i xs e
    rw [z] at h1
    cases h1
    rw [hp] at h2
    cases h2
  have h0 : W.H0 p = none := by
    cases q : W.H0 p with
    | none => rfl
    | some u =>
      refine absurd (R.frm p u q fun i e => ?_) (by rw [hp]; intro z; cases z)
      obtain ⟨⟨xs, h1⟩, h2⟩ := R.par i p e
      exact hno i xs h1 h2
  refine ⟨⟨hF, h0, hno⟩, fun b u e => ?_, R.ff, R.new, fun b u e f => ?_, R.len, R.val, fun i xs e => ?_, R.apart, R.par⟩
  · rw [upd_ne (ne_of_none e hF)]; exact R.fh b u e
  · have q := R.frm b u e f
    rw [upd_ne (ne_of_none q hp)]; exact q
  · obtain ⟨a, vs, h1, h2, h3⟩ := R.own i xs e
    exact ⟨a, vs, h1, by rw [upd_ne (ne_of_none h2 hp)]; exact h2, h3⟩
theorem do_lst {es : List Expr} {u : AS} (h : DA X W es u) : DO X W (.List es pos) (oLst u) := pe_imp (pe_lst h) fun σ H Q ⟨F, st, z, R, e, k⟩ => by
  unfold oLst at e
  obtain ⟨r1, e1, e⟩ := Option.bind_eq_some_iff.mp e
  split at e
  · rename_i hl
    cases e
    refine ⟨F, st, z, R, e1, fun vs F1 H1 R1 s1 d1 => ⟨by rw [DpAll.length d1]; exact le1000 hl, fun p hp => ?_⟩⟩
    obtain ⟨fr, R2⟩ := R1.fresh (o := .lst vs) hp
    exact k _ _ _ _ R2 s1 upd_same fr d1
  · cases e
end
end DL

set_option Elab.async false
set_option linter.all false
set_option maxRecDepth 100000
set_option maxHeartbeats 4000000
namespace DL
open PySem PySem.Spec L2

section
variable {K : PySem.W.Frag} {F : Hp} {v : V}
theorem dp_int {i : Int} (h : Dp K F v (.int i)) : v = .int i := by cases h; rfl
theorem dp_bool {i : Bool} (h : Dp K F v (.bool i)) : v = .bl i := by cases h; rfl
theorem dp_str {i : Str} (h : Dp K F v (.str i)) : v = .str i := by cases h; rfl
theorem dp_none (h : Dp K F v .none) : v = .non := by cases h; rfl
theorem dp_list {xs : List D} (h : Dp K F v (.list xs)) : ∃ a vs, v = .ref a ∧ SqL K F a vs ∧ DpAll K F vs xs := by cases h with | lst a b => exact ⟨_, _, rfl, a, b⟩
theorem dp_tup {xs : List D} (h : Dp K F v (.tuple xs)) : ∃ a vs, v = .ref a ∧ SqT K F a vs ∧ DpAll K F vs xs := by cases h with | tup a b => exact ⟨_, _, rfl, a, b⟩
theorem sameT {F H : Hp} {a : Addr} {xs : List V} (e : Same F H) (h : SqT K F a xs) : SqT K H a xs := by
  rcases h with (h | ⟨o, h⟩) | h
  · exact .inl (.inl (e _ _ h))
  · exact .inl (.inr ⟨o, e _ _ h⟩)
  · exact .inr h
end
theorem OpR.or {X : Cx} {f : Value → Value → Sem Value} {r r' : R2} (h : OpR X f r) (h' : OpR X f r') : OpR X f (fun x y H Q => r x y H Q ∨ r' x y H Q) := by
  intro pins s σ H x y v u Q I rx ry q
  rcases q with q | q
  · exact h pins s σ H x y v u Q I rx ry q
  · exact h' pins s σ H x y v u Q I rx ry q
theorem CallR.or {X : Cx} {f : Value} {r r' : List V → Hp → VK → Prop} (h : CallR X f r) (h' : CallR X f r') : CallR X f (fun x H Q => r x H Q ∨ r' x H Q) := by
  intro pins s σ H x v Q I rx q
  rcases q with q | q
  · exact h pins s σ H x v Q I rx q
  · exact h' pins s σ H x v Q I rx q

/-! ### plus, minus, times, rest, floor, power -/
abbrev codes (x : Str) : List Nat := x.cps.toList
theorem ds_codes (x : Str) : (⟨(codes x).toArray⟩ : Str) = x := rfl
theorem app_codes (x y : Str) : x ++ y = (⟨(codes x ++ codes y).toArray⟩ : Str) := by
  have : x ++ y = (⟨x.cps ++ y.cps⟩ : Str) := rfl
  rw [this]
  congr 1
  simp [codes]
theorem codes_len (x : Str) : x.length = (codes x).length := by simp [codes, Str.length]
def dAdd : D → D → Option D
  | .int i, .int j => some (.int (i + j))
  | .str x, .str y => if (codes x).length + (codes y).length ≤ sizeLine then some (ds (codes x ++ codes y)) else none
  | _, _ => none
def rAdd : R2 := fun x y H Q => rI0 (fun i j => .int (i + j)) x y H Q ∨ ∃ i j, x = .str i ∧ y = .str j ∧ i.length + j.length ≤ sizeLine ∧ Q (.str (i ++ j)) H
theorem op_addD {X : Cx} : OpR X (binaryOp .Add) rAdd := OpR.or op_add op_add_str
theorem sAdd {K : PySem.W.Frag} : OpS K rAdd dAdd := by
  intro W F H σ st x y a b c Q R ha hb e k
  unfold dAdd at e
  split at e
  · cases e
    rw [dp_int ha, dp_int hb]
    exact .inl ⟨_, _, rfl, rfl, k _ F H R (Same.refl _) (.int _)⟩
  · rename_i x' y'
    split at e
    · rename_i hl
      cases e
      rw [dp_str ha, dp_str hb]
      refine .inr ⟨_, _, rfl, rfl, by rw [codes_len, codes_len]; exact hl, ?_⟩
      rw [app_codes]
      exact k _ F H R (Same.refl _) (.str _)
    · cases e
  · cases e
/-- two ints, under a test -/
def dI (C : Int → Int → Bool) (g : Int → Int → Int) : D → D → Option D
  | .int i, .int j => if C i j then some (.int (g i j)) else none
  | _, _ => none
theorem sI {K : PySem.W.Frag} {C : Int → Int → Prop} {Cb : Int → Int → Bool} {g : Int → Int → Int} (hC : ∀ i j, Cb i j = true → C i j) : OpS K (rI C fun i j => .int (g i j)) (dI Cb g) := by
  intro W F H σ st x y a b c Q R ha hb e k
  unfold dI at e
  split at e
  · split at e
    · rename_i hc
      cases e
      rw [dp_int ha, dp_int hb]
      exact ⟨_, _, rfl, rfl, hC _ _ hc, k _ F H R (Same.refl _) (.int _)⟩
    · cases e
  · cases e
def dSub : D → D → Option D
  | .int i, .int j => some (.int (i - j))
  | _, _ => none
theorem sSub {K : PySem.W.Frag} : OpS K (rI0 fun i j => .int (i - j)) dSub := by
  intro W F H σ st x y a b c Q R ha hb e k
  unfold dSub at e
  split at e
  · cases e
    rw [dp_int ha, dp_int hb]
    exact ⟨_, _, rfl, rfl, k _ F H R (Same.refl _) (.int _)⟩
  · cases e
abbrev cMul (i j : Int) : Bool := (decide (-(2 ^ 64) < i) && decide (i < 2 ^ 64)) || (decide (-(2 ^ 64) < j) && decide (j < 2 ^ 64))
abbrev cMod (_ j : Int) : Bool := decide (0 < j)
abbrev cDiv (_ j : Int) : Bool := decide (0 < j) && decide (j < 1073741824)
abbrev cPow (i j : Int) : Bool := decide (0 ≤ j) && decide (j ≤ 1000000) && decide (i.natAbs < 2 ^ 64)
abbrev dMul := dI cMul fun i j => i * j
abbrev dMod := dI cMod fun i j => i % j
abbrev dDiv := dI cDiv fun i j => i / j
abbrev dPow := dI cPow fun i j => i ^ j.toNat
theorem sMul {K : PySem.W.Frag} : OpS K (rI CMul fun i j => .int (i * j)) dMul := sI fun i j h => by
  simp only [cMul, Bool.or_eq_true, Bool.and_eq_true, decide_eq_true_eq] at h
  exact h
theorem sMod {K : PySem.W.Frag} : OpS K (rI (fun _ j => 0 < j) fun i j => .int (i % j)) dMod := sI fun i j h => of_decide_eq_true h
theorem sDiv {K : PySem.W.Frag} : OpS K (rI CDiv fun i j => .int (i / j)) dDiv := sI fun i j h => by
  simp only [cDiv, Bool.and_eq_true, decide_eq_true_eq] at h
  exact h
theorem sPow {K : PySem.W.Frag} : OpS K (rI CPow fun i j => .int (i ^ j.toNat)) dPow := sI fun i j h => by
  simp only [cPow, Bool.and_eq_true, decide_eq_true_eq] at h
  exact ⟨h.1.1, h.1.2, h.2⟩
def dNeg : D → Option D
  | .int i => some (.int (-i))
  | _ => none
theorem de_neg {X : Cx} {W : Wd} {a : Expr} {f : ES} {pos : Pos} (ha : DE X W a f) : DE X W (.UnaryOp .USub a pos) (eUn dNeg f) := pe_imp (pe_un un_neg ha) fun σ H Q ⟨F, st, z, R, e, k⟩ => by
  unfold eUn at e
  obtain ⟨r1, e1, e⟩ := Option.bind_eq_some_iff.mp e
  obtain ⟨c, e2, e⟩ := Option.map_eq_some_iff.mp e
  cases e
  refine ⟨F, st, r1, R, e1, fun x F1 H1 R1 s1 d1 => ?_⟩
  unfold dNeg at e2
  split at e2
  · rename_i i hi
    cases e2
    rw [hi] at d1
    rw [dp_int d1]
    exact ⟨_, rfl, k _ F1 H1 R1 s1 (.int _)⟩
  · cases e2

/-! ### comparisons -/
def scV : D → Option V
  | .none => some .non
  | .bool b => some (.bl b)
  | .int i => some (.int i)
  | .str x => some (.str x)
  | _ => none
theorem scV_dp {K : PySem.W.Frag} {F : Hp} {v w : V} {x : D} (h : Dp K F v x) (e : scV x = some w) : v = w := by
  cases h <;> cases e <;> rfl
/-- == -/
def dEq (a b : D) : Option Bool := match scV a, scV b with
  | some x, some y => if scal x y then some (decide (x = y)) else none
  | _, _ => if SeqAt.shaped a && SeqAt.shaped b then some (PyData.eqv a b) else none
def dNe (a b : D) : Option Bool := (dEq a b).map (!·)
def rEqq (K : PySem.W.Frag) : R2 := fun x y H Q => rEq x y H Q ∨ rEqD K x y H Q
def rNee (K : PySem.W.Frag) : R2 := fun x y H Q => rNe x y H Q ∨ rNeD K x y H Q
theorem op_eqq {X : Cx} (hu : X.A.units + 64 < cLine) : OpR X (compareOp .Eq) (rEqq X.K) := OpR.or op_eq (op_eqD hu)
theorem op_nee {X : Cx} (hu : X.A.units + 64 < cLine) : OpR X (compareOp .NotEq) (rNee X.K) := OpR.or op_ne (op_neD hu)
theorem sEq {K : PySem.W.Frag} : OpT K (rEqq K) dEq := by
  intro F H x y a b c Q S ha hb e q
  unfold dEq at e
  split at e
  · rename_i x' y' e1 e2
    split at e
    · rename_i hs
      cases e
      rw [scV_dp ha e1, scV_dp hb e2]
      exact .inl ⟨hs, q⟩
    · cases e
  · split at e
    · rename_i hs
      cases e
      obtain ⟨h1, h2⟩ := Bool.and_eq_true_iff.mp hs
      exact .inr ⟨a, b, dpMono S _ _ ha, dpMono S _ _ hb, h1, h2, q⟩
    · cases e
theorem sNe {K : PySem.W.Frag} : OpT K (rNee K) dNe := by
  intro F H x y a b c Q S ha hb e q
  obtain ⟨d, e0, rfl⟩ := Option.map_eq_some_iff.mp e
  clear e
  revert e0
  intro e
  unfold dEq at e
  split at e
  · rename_i x' y' e1 e2
    split at e
    · rename_i hs
      cases e
      rw [scV_dp ha e1, scV_dp hb e2]
      exact .inl ⟨hs, q⟩
    · cases e
  · split at e
    · rename_i hs
      cases e
      obtain ⟨h1, h2⟩ := Bool.and_eq_true_iff.mp hs
      exact .inr ⟨a, b, dpMono S _ _ ha, dpMono S _ _ hb, h1, h2, q⟩
    · cases e
def dCmp (p : Int → Int → Bool) : D → D → Option Bool
  | .int i, .int j => some (p i j)
  | _, _ => none
abbrev dLt := dCmp fun i j => decide (i < j)
abbrev dLe := dCmp fun i j => decide (i ≤ j)
abbrev dGt := dCmp fun i j => decide (j < i)
abbrev dGe := dCmp fun i j => decide (j ≤ i)
theorem sCmp {K : PySem.W.Frag} {p : Int → Int → Bool} : OpT K (rI0 fun i j => .bl (p i j)) (dCmp p) := by
  intro F H x y a b c Q S ha hb e q
  unfold dCmp at e
  split at e
  · cases e
    rw [dp_int ha, dp_int hb]
    exact ⟨_, _, rfl, rfl, q⟩
  · cases e
/-! ### in -/
def flatD : D → Bool
  | .none => true
  | .bool _ => true
  | .int _ => true
  | .str _ => true
  | _ => false
def eqF (a b : D) : Bool := match scV a, scV b with
  | some x, some y => eqV x y
  | _, _ => false
theorem flat_dp {K : PySem.W.Frag} {F : Hp} {v : V} {x : D} (h : Dp K F v x) (e : flatD x = true) : flatV v = true ∧ scV x = some v := by
  cases h <;> first | exact ⟨rfl, rfl⟩ | cases e
theorem flat_all {K : PySem.W.Frag} {F : Hp} {x : D} {v : V} (hx : scV x = some v) : ∀ {vs : List V} {xs : List D}, DpAll K F vs xs → xs.all flatD = true → vs.all flatV = true ∧ inV v vs = xs.any fun y => eqF y x
  | _, _, .nil, _ => ⟨rfl, rfl⟩
  | _, _, .cons r t, e => by
    rw [List.all_cons, Bool.and_eq_true] at e
    obtain ⟨h1, h2⟩ := flat_dp r e.1
    obtain ⟨h3, h4⟩ := flat_all hx t e.2
    refine ⟨by rw [List.all_cons, h1, h3]; rfl, ?_⟩
    unfold inV at h4 ⊢
    rw [List.any_cons, List.any_cons, h4]
    unfold eqF
    rw [h2, hx]
def isOne : List Nat → Option Nat
  | [c] => some c
  | _ => none
/-- x in y -/
def dIn (x y : D) : Option Bool := match y with
  | .str z => match x with
    | .str w => match isOne (codes w) with
      | some c => some (decide (c ∈ codes z))
      | none => some (!(Builtin.Str.occurrences z w 0 z.length 1).isEmpty)
    | _ => none
  | .list ys => if flatD x && ys.all flatD then some (ys.any fun z => eqF z x) else none
  | .tuple ys => if flatD x && ys.all flatD then some (ys.any fun z => eqF z x) else none
  | _ => none
def dNotIn (x y : D) : Option Bool := (dIn x y).map (!·)
def rInn (K : PySem.W.Frag) : R2 := fun x y H Q => (∃ (c : Nat) (z : Str), x = .str ⟨#[c]⟩ ∧ y = .str z ∧ Q (.bl (decide (c ∈ z.cps.toList))) H) ∨
  (∃ i j, x = .str i ∧ y = .str j ∧ Q (.bl (!(Builtin.Str.occurrences j i 0 j.length 1).isEmpty)) H) ∨ rIn K false x y H Q
def rNotInn (K : PySem.W.Frag) : R2 := fun x y H Q => (∃ (c : Nat) (z : Str), x = .str ⟨#[c]⟩ ∧ y = .str z ∧ Q (.bl (!decide (c ∈ z.cps.toList))) H) ∨
  (∃ i j, x = .str i ∧ y = .str j ∧ Q (.bl (!(!(Builtin.Str.occurrences j i 0 j.length 1).isEmpty))) H) ∨ rIn K true x y H Q
theorem op_inn {X : Cx} : OpR X (compareOp .In) (rInn X.K) := OpR.or op_in_sign (OpR.or op_in_str op_in_seq)
theorem op_notInn {X : Cx} : OpR X (compareOp .NotIn) (rNotInn X.K) := OpR.or op_notIn_sign (OpR.or op_notIn_str op_notIn_seq)
theorem one_str {w : Str} {c : Nat} (h : isOne (codes w) = some c) : w = ⟨#[c]⟩ := by
  obtain ⟨⟨l⟩⟩ := w
  unfold isOne at h
  split at h
  · rename_i c' hc
    cases h
    have : l = [c] := hc
    rw [this]
  · cases h
theorem sIn {K : PySem.W.Frag} : OpT K (rInn K) dIn := by
  intro F H x y a b c Q S ha hb e q
  unfold dIn at e
  split at e
  · rename_i z
    split at e
    · rename_i w
      rw [dp_str ha, dp_str hb]
      split at e
      · rename_i d hd
        cases e
        rw [one_str hd]
        exact .inl ⟨_, _, rfl, rfl, q⟩
      · cases e
        exact .inr (.inl ⟨_, _, rfl, rfl, q⟩)
    · cases e
  · split at e
    · rename_i hf
      cases e
      obtain ⟨f1, f2⟩ := Bool.and_eq_true_iff.mp hf
      obtain ⟨p, vs, rfl, h1, h2⟩ := dp_list hb
      obtain ⟨g1, g2⟩ := flat_dp ha f1
      obtain ⟨g3, g4⟩ := flat_all g2 h2 f2
      exact .inr (.inr ⟨p, vs, rfl, .inl (S.seq h1), g1, g3, by rw [g4]; exact q⟩)
    · cases e
  · split at e
    · rename_i hf
      cases e
      obtain ⟨f1, f2⟩ := Bool.and_eq_true_iff.mp hf
      obtain ⟨p, vs, rfl, h1, h2⟩ := dp_tup hb
      obtain ⟨g1, g2⟩ := flat_dp ha f1
      obtain ⟨g3, g4⟩ := flat_all g2 h2 f2
      exact .inr (.inr ⟨p, vs, rfl, .inr (sameT S h1), g1, g3, by rw [g4]; exact q⟩)
    · cases e
  · cases e
theorem sNotIn {K : PySem.W.Frag} : OpT K (rNotInn K) dNotIn := by
  intro F H x y a b c Q S ha hb e q
  obtain ⟨d, e0, rfl⟩ := Option.map_eq_some_iff.mp e
  clear e
  revert e0
  intro e
  unfold dIn at e
  split at e
  · rename_i z
    split at e
    · rename_i w
      rw [dp_str ha, dp_str hb]
      split at e
      · rename_i d hd
        cases e
        rw [one_str hd]
        exact .inl ⟨_, _, rfl, rfl, q⟩
      · cases e
        exact .inr (.inl ⟨_, _, rfl, rfl, q⟩)
    · cases e
  · split at e
    · rename_i hf
      cases e
      obtain ⟨f1, f2⟩ := Bool.and_eq_true_iff.mp hf
      obtain ⟨p, vs, rfl, h1, h2⟩ := dp_list hb
      obtain ⟨g1, g2⟩ := flat_dp ha f1
      obtain ⟨g3, g4⟩ := flat_all g2 h2 f2
      exact .inr (.inr ⟨p, vs, rfl, .inl (S.seq h1), g1, g3, by rw [g4]; exact q⟩)
    · cases e
  · split at e
    · rename_i hf
      cases e
      obtain ⟨f1, f2⟩ := Bool.and_eq_true_iff.mp hf
      obtain ⟨p, vs, rfl, h1, h2⟩ := dp_tup hb
      obtain ⟨g1, g2⟩ := flat_dp ha f1
      obtain ⟨g3, g4⟩ := flat_all g2 h2 f2
      exact .inr (.inr ⟨p, vs, rfl, .inr (sameT S h1), g1, g3, by rw [g4]; exact q⟩)
    · cases e
  · cases e

/-! ### subscripts -/
def dIx : D → D → Option D
  | .list xs, .int i => atI xs i
  | .tuple xs, .int i => atI xs i
  | .str z, .int i => if (codes z).length ≤ sizeLine then (atI (codes z) i).map fun c => ds [c] else none
  | _, _ => none
theorem DpAll.at {K : PySem.W.Frag} {F : Hp} {vs : List V} {xs : List D} {i : Int} {x : D} (h : DpAll K F vs xs) (e : atI xs i = some x) : ∃ v, atI vs i = some v ∧ Dp K F v x := by
  unfold atI at e ⊢
  rw [DpAll.length h]
  cases q : ixN xs.length i with
  | none => rw [q] at e; cases e
  | some j =>
    rw [q] at e
    exact DpAll.get h e
theorem sIx {K : PySem.W.Frag} : OpS K (rIx K) dIx := by
  intro W F H σ st x y a b c Q R ha hb e k
  unfold dIx at e
  split at e
  · obtain ⟨p, vs, rfl, h1, h2⟩ := dp_list ha
    rw [dp_int hb]
    obtain ⟨v, h3, h4⟩ := DpAll.at h2 e
    exact .inl ⟨p, vs, _, v, rfl, rfl, R.fh.seq h1, h3, k v F H R (Same.refl _) h4⟩
  · obtain ⟨p, vs, rfl, h1, h2⟩ := dp_tup ha
    rw [dp_int hb]
    obtain ⟨v, h3, h4⟩ := DpAll.at h2 e
    exact .inr (.inl ⟨p, vs, _, v, rfl, rfl, sameT R.fh h1, h3, k v F H R (Same.refl _) h4⟩)
  · split at e
    · rename_i hz
      obtain ⟨d, e1, rfl⟩ := Option.map_eq_some_iff.mp e
      rw [dp_str ha, dp_int hb]
      exact .inr (.inr ⟨_, _, d, rfl, rfl, by rw [codes_len]; exact hz, e1, k _ F H R (Same.refl _) (.str _)⟩)
    · cases e
  · cases e
/-! ### slices -/
abbrev OPS := List Sl → Option (Option Int × List Sl)
def pNo : OPS := fun st => some (none, st)
def pYes (f : ES) : OPS := fun st => (f st).bind fun r => match r.1 with
  | .int i => some (some i, r.2)
  | _ => none
def tP (K : PySem.W.Frag) (W : Wd) (f : OPS) : TO := fun σ H Q => ∃ F st r, Rel K W F H σ st ∧ f st = some r ∧ ∀ F' H', Rel K W F' H' σ r.2 → Same F F' → Q r.1 H'
abbrev DP (X : Cx) (W : Wd) (e : Option Expr) (f : OPS) : Prop := PO X e (tP X.K W f)
theorem dp_no {X : Cx} {W : Wd} : DP X W none pNo := ⟨fun pins s σ H Q I ⟨F, st, r, R, e, k⟩ => po_none.run pins s σ H Q I (by cases e; exact k F H R (Same.refl _))⟩
theorem dp_yes {X : Cx} {W : Wd} {e : Expr} {f : ES} (h : DE X W e f) : DP X W (some e) (pYes f) := ⟨fun pins s σ H Q I ⟨F, st, r, R, e, k⟩ => (po_some h).run pins s σ H Q I (by
  unfold pYes at e
  obtain ⟨r1, e1, e⟩ := Option.bind_eq_some_iff.mp e
  refine ⟨F, st, r1, R, e1, fun x F1 H1 R1 s1 d1 => ?_⟩
  split at e
  · rename_i i hi
    cases e
    rw [hi] at d1
    exact ⟨i, dp_int d1, k F1 H1 R1 s1⟩
  · cases e)⟩
/-- xs[lo:hi] -/
def cutD {α : Type} (xs : List α) (lo hi : Option Int) : List α := (xs.drop (HT.sIx xs.length 0 lo)).take (HT.sIx xs.length xs.length hi - HT.sIx xs.length 0 lo)
theorem DpAll.cut {K : PySem.W.Frag} {F : Hp} {vs : List V} {xs : List D} (h : DpAll K F vs xs) (lo hi : Option Int) : DpAll K F (cutV vs lo hi) (cutD xs lo hi) := by
  unfold cutV cutD
  rw [DpAll.length h]
  exact DpAll.take _ (DpAll.drop _ h)
theorem cutS_codes (z : Str) (lo hi : Option Int) : cutS z lo hi = (⟨(cutD (codes z) lo hi).toArray⟩ : Str) := by
  unfold cutS cutD
  first
    | rfl
    | (rw [codes_len])
    | (simp [codes, Str.length])
def dSl (x : D) (lo hi : Option Int) : Option D := match x with
  | .list xs => some (.list (cutD xs lo hi))
  | .tuple xs => if HT.sIx xs.length 0 lo = 0 ∧ HT.sIx xs.length xs.length hi = xs.length then none else some (.tuple (cutD xs lo hi))
  | .str z => if (codes z).length ≤ sizeLine then some (ds (cutD (codes z) lo hi)) else none
  | _ => none
def eSl (f : ES) (lo hi : OPS) : ES := fun st => (f st).bind fun r => (lo r.2).bind fun p => (hi p.2).bind fun q => (dSl r.1 p.1 q.1).map fun z => (z, q.2)
def rSlA (K : PySem.W.Frag) : V → Option Int → Option Int → Hp → VK → Prop := fun x lo hi H Q => rSlL K x lo hi H Q ∨ rSlT K x lo hi H Q ∨ rSlS x lo hi H Q
theorem sl_any {X : Cx} : SlR X (rSlA X.K) := SlR.or sl_list (SlR.or sl_tup sl_str)
theorem de_sl {X : Cx} {W : Wd} {e : Expr} {f : ES} {lo hi : Option Expr} {tl th : OPS} {pos p2 : Pos} (he : DE X W e f) (hl : DP X W lo tl) (hu : DP X W hi th) : DE X W (.Subscript e (.Slice lo hi none p2) pos) (eSl f tl th) := pe_imp (pe_slice sl_any he hl hu) fun σ H Q ⟨F, st, z, R, e, k⟩ => by
  unfold eSl at e
  obtain ⟨r1, e1, e⟩ := Option.bind_eq_some_iff.mp e
  obtain ⟨r2, e2, e⟩ := Option.bind_eq_some_iff.mp e
  obtain ⟨r3, e3, e⟩ := Option.bind_eq_some_iff.mp e
  obtain ⟨c, e4, e⟩ := Option.map_eq_some_iff.mp e
  cases e
  refine ⟨F, st, r1, R, e1, fun x F1 H1 R1 s1 d1 => ⟨F1, r1.2, r2, R1, e2, fun F2 H2 R2 s2 => ⟨F2, r2.2, r3, R2, e3, fun F3 H3 R3 s3 => ?_⟩⟩⟩
  have d3 := dpMono (s2.trans s3) _ _ d1
  unfold dSl at e4
  split at e4
  · rename_i xs hx
    cases e4
    rw [hx] at d3
    obtain ⟨p, vs, rfl, h1, h2⟩ := dp_list d3
    refine .inl ⟨p, vs, rfl, R3.fh.seq h1, fun q hq => ?_⟩
    have e5 : Same F3 (upd F3 q (.lst (cutV vs r2.1 r3.1))) := same_upd (R3.fh.free hq)
    exact k _ _ _ (R3.laid hq) ((s1.trans (s2.trans s3)).trans e5) (.lst (.inl (.inl upd_same)) (dpAllMono e5 _ _ (DpAll.cut h2 _ _)))
  · rename_i xs hx
    split at e4
    · cases e4
    · rename_i hw
      cases e4
      rw [hx] at d3
      obtain ⟨p, vs, rfl, h1, h2⟩ := dp_tup d3
      refine .inr (.inl ⟨p, vs, rfl, sameT R3.fh h1, by rw [DpAll.length h2]; exact hw, fun q hq => ?_⟩)
      have e5 : Same F3 (upd F3 q (.tup (cutV vs r2.1 r3.1))) := same_upd (R3.fh.free hq)
      exact k _ _ _ (R3.laid hq) ((s1.trans (s2.trans s3)).trans e5) (.tup (.inl (.inl upd_same)) (dpAllMono e5 _ _ (DpAll.cut h2 _ _)))
  · rename_i zz hx
    split at e4
    · rename_i hw
      cases e4
      rw [hx] at d3
      rw [dp_str d3]
      refine .inr (.inr ⟨_, rfl, by rw [codes_len]; exact hw, ?_⟩)
      rw [cutS_codes]
      exact k _ _ _ R3 (s1.trans (s2.trans s3)) (.str _)
    · cases e4
  · cases e4
end DL

set_option Elab.async false
set_option linter.all false
set_option maxRecDepth 100000
set_option maxHeartbeats 4000000
namespace DL
open PySem PySem.Spec L2

/-! ### built-ins by name -/
def CallS (K : PySem.W.Frag) (r : List V → Hp → VK → Prop) (fn : List D → Option D) : Prop := ∀ (W : Wd) (F H : Hp) (σ : L2.St) (st : List Sl) (vs : List V) (ds : List D) (c : D) (Q : VK), Rel K W F H σ st → DpAll K F vs ds → fn ds = some c →
  (∀ v F' H', Rel K W F' H' σ st → Same F F' → Dp K F' v c → Q v H') → r vs H Q
def eCall (fn : List D → Option D) (f : AS) : ES := fun st => (f st).bind fun r => (fn r.1).map fun z => (z, r.2)
section
variable {X : Cx} {W : Wd} {e : Expr} {es : List Expr} {f : AS} {x : Str} {p pos : Pos} {r : List V → Hp → VK → Prop} {fn : List D → Option D} {id T : String}
theorem tCB_of (hs : CallS X.K r fn) : ∀ σ H Q, tD X.K W (eCall fn f) σ H Q → tCB r (tA X.K W f) σ H Q := fun σ H Q ⟨F, st, z, R, e, k⟩ => by
  unfold eCall at e
  obtain ⟨r1, e1, e⟩ := Option.bind_eq_some_iff.mp e
  obtain ⟨c, e2, e⟩ := Option.map_eq_some_iff.mp e
  cases e
  refine ⟨F, st, r1, R, e1, fun vs F1 H1 R1 s1 d1 => ?_⟩
  exact hs W F1 H1 σ r1.2 vs r1.1 c Q R1 d1 e2 fun v F2 H2 R2 s2 d2 => k v F2 H2 R2 (s1.trans s2) d2
theorem de_callB (hc : CallR X (.builtin id) r) (hs : CallS X.K r fn) (hg : Gl X x) (hm : X.mg x = none) (hv : bootBuiltins x = some (.builtin id)) (ha : DA X W (e :: es) f) (hn : x ≠ "__name__" := by decide) (hdb : (x == ("__debug__" : Str)) = false := by decide)
    (he : starEach (e :: es) X.env = (false, eval e X.env) :: starEach es X.env := by rfl) (hpl : (backTo pos (starEach es X.env)).any (·.1) = false := by rfl) : DE X W (.Call (.Name x p) (e :: es) [] pos) (eCall fn f) :=
  pe_imp (pe_callB hc hg hm hv ha hn hdb he hpl) (tCB_of hs)
theorem de_callTy (hc : CallR X (.type T) r) (hs : CallS X.K r fn) (hg : Gl X x) (hm : X.mg x = none) (hv : bootBuiltins x = some (.type T)) (ha : DA X W (e :: es) f) (hn : x ≠ "__name__" := by decide) (hdb : (x == ("__debug__" : Str)) = false := by decide)
    (he : starEach (e :: es) X.env = (false, eval e X.env) :: starEach es X.env := by rfl) (hpl : (backTo pos (starEach es X.env)).any (·.1) = false := by rfl) : DE X W (.Call (.Name x p) (e :: es) [] pos) (eCall fn f) :=
  pe_imp (pe_callTy hc hg hm hv ha hn hdb he hpl) (tCB_of hs)
end
section
variable {K : PySem.W.Frag} {F : Hp}
theorem dpa1 {vs : List V} {d : D} (h : DpAll K F vs [d]) : ∃ v, vs = [v] ∧ Dp K F v d := by
  cases h with | cons a b => cases b; exact ⟨_, rfl, a⟩
theorem dpa2 {vs : List V} {d e : D} (h : DpAll K F vs [d, e]) : ∃ v w, vs = [v, w] ∧ Dp K F v d ∧ Dp K F w e := by
  cases h with | cons a b => cases b with | cons c g => cases g; exact ⟨_, _, rfl, a, c⟩
theorem dpa0 {vs : List V} (h : DpAll K F vs []) : vs = [] := by cases h; rfl
end
def fLen : List D → Option D
  | [.list xs] => some (.int xs.length)
  | [.tuple xs] => some (.int xs.length)
  | [.str z] => if (codes z).length ≤ sizeLine then some (.int (codes z).length) else none
  | _ => none
def rLen (K : PySem.W.Frag) : List V → Hp → VK → Prop := fun xs H Q => (∃ p ys, xs = [.ref p] ∧ (SqL K H p ys ∨ SqT K H p ys) ∧ Q (.int ys.length) H) ∨ ∃ z, xs = [.str z] ∧ z.length ≤ sizeLine ∧ Q (.int z.length) H
theorem c_len {X : Cx} : CallR X (.builtin "len") (rLen X.K) := CallR.or call_len_seq call_len_str
theorem s_len {K : PySem.W.Frag} : CallS K (rLen K) fLen := by
  intro W F H σ st vs ds c Q R hd e k
  unfold fLen at e
  split at e
  · cases e
    obtain ⟨v, rfl, d⟩ := dpa1 hd
    obtain ⟨a, ws, rfl, h1, h2⟩ := dp_list d
    refine .inl ⟨a, ws, rfl, .inl (R.fh.seq h1), ?_⟩
    rw [DpAll.length h2]
    exact k _ F H R (Same.refl _) (.int _)
  · cases e
    obtain ⟨v, rfl, d⟩ := dpa1 hd
    obtain ⟨a, ws, rfl, h1, h2⟩ := dp_tup d
    refine .inl ⟨a, ws, rfl, .inr (sameT R.fh h1), ?_⟩
    rw [DpAll.length h2]
    exact k _ F H R (Same.refl _) (.int _)
  · split at e
    · rename_i z hz
      cases e
      obtain ⟨v, rfl, d⟩ := dpa1 hd
      rw [dp_str d]
      refine .inr ⟨z, rfl, by rw [codes_len]; exact hz, ?_⟩
      rw [codes_len]
      exact k _ F H R (Same.refl _) (.int _)
    · cases e
  · cases e
def fInt : List D → Option D
  | [.int i] => some (.int i)
  | [.bool b] => some (.int (if b then 1 else 0))
  | [.str a] => if (codes a).length ≤ 640 then (PySem.intText? a).map PyData.int else none
  | _ => none
def rInt : List V → Hp → VK → Prop := fun xs H Q => ((∃ i, xs = [.int i] ∧ Q (.int i) H) ∨ ∃ k, xs = [.bl k] ∧ Q (.int (if k then 1 else 0)) H) ∨ ∃ a n, xs = [.str a] ∧ PySem.intText? a = some n ∧ a.length ≤ 640 ∧ Q (.int n) H
theorem c_int {X : Cx} : CallR X (.type "int") rInt := CallR.or call_int1 call_int_str
theorem s_int {K : PySem.W.Frag} : CallS K rInt fInt := by
  intro W F H σ st vs ds c Q R hd e k
  unfold fInt at e
  split at e
  · cases e
    obtain ⟨v, rfl, d⟩ := dpa1 hd
    rw [dp_int d]
    exact .inl (.inl ⟨_, rfl, k _ F H R (Same.refl _) (.int _)⟩)
  · cases e
    obtain ⟨v, rfl, d⟩ := dpa1 hd
    rw [dp_bool d]
    exact .inl (.inr ⟨_, rfl, k _ F H R (Same.refl _) (.int _)⟩)
  · split at e
    · rename_i a hz
      obtain ⟨n, e1, rfl⟩ := Option.map_eq_some_iff.mp e
      obtain ⟨v, rfl, d⟩ := dpa1 hd
      rw [dp_str d]
      exact .inr ⟨a, n, rfl, e1, by rw [codes_len]; exact hz, k _ F H R (Same.refl _) (.int _)⟩
    · cases e
  · cases e
def fAbs : List D → Option D
  | [.int i] => some (.int (if i < 0 then -i else i))
  | _ => none
theorem s_abs {K : PySem.W.Frag} : CallS K (fun xs H Q => ∃ i, xs = [.int i] ∧ Q (.int (if i < 0 then -i else i)) H) fAbs := by
  intro W F H σ st vs ds c Q R hd e k
  unfold fAbs at e
  split at e
  · cases e
    obtain ⟨v, rfl, d⟩ := dpa1 hd
    rw [dp_int d]
    exact ⟨_, rfl, k _ F H R (Same.refl _) (.int _)⟩
  · cases e
def fStr : List D → Option D
  | [.int i] => if i.natAbs.log2 < 1920 then some (.str (toString i)) else none
  | _ => none
theorem s_str {K : PySem.W.Frag} : CallS K (fun xs H Q => ∃ i, xs = [.int i] ∧ i.natAbs.log2 < 1920 ∧ Q (.str (toString i)) H) fStr := by
  intro W F H σ st vs ds c Q R hd e k
  unfold fStr at e
  split at e
  · split at e
    · rename_i h
      cases e
      obtain ⟨v, rfl, d⟩ := dpa1 hd
      rw [dp_int d]
      exact ⟨_, rfl, h, k _ F H R (Same.refl _) (.str _)⟩
    · cases e
  · cases e
def fMin : List D → Option D
  | [.int i, .int j] => some (.int (if j < i then j else i))
  | _ => none
theorem s_min {K : PySem.W.Frag} : CallS K (fun xs H Q => ∃ i j, xs = [.int i, .int j] ∧ Q (.int (if j < i then j else i)) H) fMin := by
  intro W F H σ st vs ds c Q R hd e k
  unfold fMin at e
  split at e
  · cases e
    obtain ⟨v, w, rfl, d, d'⟩ := dpa2 hd
    rw [dp_int d, dp_int d']
    exact ⟨_, _, rfl, k _ F H R (Same.refl _) (.int _)⟩
  · cases e
def bools : List D → Option (List Bool)
  | [] => some []
  | .bool b :: r => (bools r).map (b :: ·)
  | _ => none
theorem bools_dp {K : PySem.W.Frag} {F : Hp} : ∀ {vs : List V} {ds : List D} {bs : List Bool}, DpAll K F vs ds → bools ds = some bs → vs = bs.map V.bl
  | _, _, _, .nil, e => by cases e; rfl
  | _, d :: r, bs, .cons h t, e => by
    cases h <;> first
      | (have e' := e
         obtain ⟨q, e1, rfl⟩ := Option.map_eq_some_iff.mp e'
         rw [bools_dp t e1]
         rfl)
      | cases e
def fAll : List D → Option D
  | [.list xs] => (bools xs).map fun bs => .bool (bs.all id)
  | _ => none
theorem s_all {K : PySem.W.Frag} : CallS K (rAll K) fAll := by
  intro W F H σ st vs ds c Q R hd e k
  unfold fAll at e
  split at e
  · obtain ⟨bs, e1, rfl⟩ := Option.map_eq_some_iff.mp e
    obtain ⟨v, rfl, d⟩ := dpa1 hd
    obtain ⟨a, ws, rfl, h1, h2⟩ := dp_list d
    rw [bools_dp h2 e1] at h1
    exact ⟨a, bs, rfl, R.fh.seq h1, k _ F H R (Same.refl _) (.bl _)⟩
  · cases e
def fTuple : List D → Option D
  | [.list xs] => some (.tuple xs)
  | [.tuple xs] => some (.tuple xs)
  | _ => none
theorem s_tuple {K : PySem.W.Frag} : CallS K (fun xs H Q => ∃ p ys, xs = [.ref p] ∧ ((SqL K H p ys ∧ ∀ l, H l = none → Q (.ref l) (upd H l (.tup ys))) ∨ (SqT K H p ys ∧ Q (.ref p) H))) fTuple := by
  intro W F H σ st vs ds c Q R hd e k
  unfold fTuple at e
  split at e
  · cases e
    obtain ⟨v, rfl, d⟩ := dpa1 hd
    obtain ⟨a, ws, rfl, h1, h2⟩ := dp_list d
    refine ⟨a, ws, rfl, .inl ⟨R.fh.seq h1, fun l hl => ?_⟩⟩
    have e5 : Same F (upd F l (.tup ws)) := same_upd (R.fh.free hl)
    exact k _ _ _ (R.laid hl) e5 (.tup (.inl (.inl upd_same)) (dpAllMono e5 _ _ h2))
  · cases e
    obtain ⟨v, rfl, d⟩ := dpa1 hd
    obtain ⟨a, ws, rfl, h1, h2⟩ := dp_tup d
    exact ⟨a, ws, rfl, .inr ⟨sameT R.fh h1, k _ F H R (Same.refl _) (.tup h1 h2)⟩⟩
  · cases e

/-! ### new lists -/
def oCall (fn : List D → Option (List D)) (f : AS) : OS := fun st => (f st).bind fun r => (fn r.1).map fun z => (z, r.2)
def fList : List D → Option (List D)
  | [.list xs] => some xs
  | [.tuple xs] => some xs
  | _ => none
section
variable {X : Cx} {W : Wd} {a b e : Expr} {es : List Expr} {f g : ES} {u : AS} {o o' : OS} {x : Str} {p pos apos : Pos}
theorem do_list (hg : Gl X "list") (hm : X.mg "list" = none) (hv : bootBuiltins "list" = some (.type "list")) (ha : DA X W [e] u) (he : starEach [e] X.env = (false, eval e X.env) :: starEach [] X.env := by rfl) (hpl : (backTo pos (starEach [] X.env)).any (·.1) = false := by rfl) :
    DO X W (.Call (.Name "list" p) [e] [] pos) (oCall fList u) := pe_imp (pe_callTy call_list_of hg hm hv ha (by decide) (by decide) he hpl) fun σ H Q ⟨F, st, z, R, e, k⟩ => by
  unfold oCall at e
  obtain ⟨r1, e1, e⟩ := Option.bind_eq_some_iff.mp e
  obtain ⟨c, e2, e⟩ := Option.map_eq_some_iff.mp e
  cases e
  refine ⟨F, st, r1, R, e1, fun vs F1 H1 R1 s1 d1 => ?_⟩
  unfold fList at e2
  split at e2
  · rename_i xs hx
    cases e2
    rw [hx] at d1
    obtain ⟨v, rfl, d⟩ := dpa1 d1
    obtain ⟨a, ws, rfl, h1, h2⟩ := dp_list d
    refine ⟨a, ws, rfl, .inl (R1.fh.seq h1), fun l hl => ?_⟩
    obtain ⟨fr, R2⟩ := R1.fresh (o := .lst ws) hl
    exact k _ _ _ _ R2 s1 upd_same fr h2
  · rename_i xs hx
    cases e2
    rw [hx] at d1
    obtain ⟨v, rfl, d⟩ := dpa1 d1
    obtain ⟨a, ws, rfl, h1, h2⟩ := dp_tup d
    refine ⟨a, ws, rfl, .inr (sameT R1.fh h1), fun l hl => ?_⟩
    obtain ⟨fr, R2⟩ := R1.fresh (o := .lst ws) hl
    exact k _ _ _ _ R2 s1 upd_same fr h2
  · cases e2
/-- a look at a list: one's own, or new -/
def tV (K : PySem.W.Frag) (W : Wd) (f : OS) : TE := fun σ H Q => ∃ F st r, Rel K W F H σ st ∧ f st = some r ∧ ∀ a vs F' H', Rel K W F' H' σ r.2 → Same F F' → H' a = some (.lst vs) → DpAll K F' vs r.1 → Q (.ref a) H'
abbrev DV (X : Cx) (W : Wd) (e : Expr) (f : OS) : Prop := PE X e (tV X.K W f)
theorem dv_o (h : DO X W e o) : DV X W e o := pe_imp h fun σ H Q ⟨F, st, z, R, e, k⟩ => ⟨F, st, z, R, e, fun a vs F' H' R' s' h' _ d' => k a vs F' H' R' s' h' d'⟩
theorem dv_nm (i : Nat) {x : Str} {pos : Pos} (hN : X.N[i]? = some x := by rfl) (hv : Vis X.env.scope x := by first | exact Or.inl rfl | exact Or.inr (Or.inl rfl) | exact Or.inr (Or.inr rfl)) (hd : (x == ("__debug__" : Str)) = false := by decide)
    (hcd : (x == ("__classdict__" : Str)) = false := by decide) : DV X W (.Name x pos) (oNm i) := pe_imp (pe_var (i := i) hN hv hd hcd) fun σ H Q ⟨F, st, r, R, e, k⟩ => by
  unfold oNm at e
  split at e
  · rename_i y hy
    cases e
    obtain ⟨a, vs, h1, h2, h3, h4, _⟩ := R.own i y hy
    exact ⟨_, h1, k a vs F H R (Same.refl _) h2 h4⟩
  · cases e
/-- a call of a built-in with a look at a list -/
def eCallV (fn : List D → Option D) (o : OS) : ES := fun st => (o st).bind fun r => (fn [.list r.1]).map fun z => (z, r.2)
/-- the list looked at stands still for the moment -/
theorem Rel.moment {K : PySem.W.Frag} {F H : Hp} {σ : L2.St} {st : List Sl} {a : Addr} {vs : List V} {xs : List D} (R : Rel K W F H σ st) (h : H a = some (.lst vs)) (d : DpAll K F vs xs) : ∃ F', Same F F' ∧ Same F' H ∧ Dp K F' (.ref a) (.list xs) := by
  by_cases hF : F a = none
  · refine ⟨upd F a (.lst vs), same_upd hF, fun b u e => ?_, .lst (.inl (.inl upd_same)) (dpAllMono (same_upd hF) _ _ d)⟩
    by_cases hb : b = a
    · subst hb; rw [upd_same] at e; cases e; exact h
    · rw [upd_ne hb] at e; exact R.fh b u e
  · cases q : F a with
    | none => exact absurd q hF
    | some o =>
      have e := R.fh a o q
      rw [h] at e
      cases e
      exact ⟨F, Same.refl _, R.fh, .lst (.inl (.inl q)) d⟩
theorem de_lenV (hg : Gl X "len") (hm : X.mg "len" = none) (hv : bootBuiltins "len" = some (.builtin "len")) (ha : DV X W e o) (he : starEach [e] X.env = (false, eval e X.env) :: starEach [] X.env := by rfl) (hpl : (backTo pos (starEach [] X.env)).any (·.1) = false := by rfl) :
    DE X W (.Call (.Name "len" p) [e] [] pos) (eCallV fLen o) := pe_imp (pe_callB call_len_seq hg hm hv (pa_cons ha pa_nil he) (by decide) (by decide) he hpl) fun σ H Q ⟨F, st, z, R, e, k⟩ => by
  unfold eCallV at e
  obtain ⟨r1, e1, e⟩ := Option.bind_eq_some_iff.mp e
  obtain ⟨c, e2, e⟩ := Option.map_eq_some_iff.mp e
  cases e
  refine ⟨F, st, r1, R, e1, fun a vs F1 H1 R1 s1 h1 d1 => ⟨a, vs, rfl, .inl (SqL.of h1), ?_⟩⟩
  cases e2
  rw [DpAll.length d1]
  exact k _ F1 H1 R1 s1 (.int _)
theorem de_tupleV (hg : Gl X "tuple") (hm : X.mg "tuple" = none) (hv : bootBuiltins "tuple" = some (.type "tuple")) (ha : DV X W e o) (he : starEach [e] X.env = (false, eval e X.env) :: starEach [] X.env := by rfl) (hpl : (backTo pos (starEach [] X.env)).any (·.1) = false := by rfl) :
    DE X W (.Call (.Name "tuple" p) [e] [] pos) (eCallV fTuple o) := pe_imp (pe_callTy call_tuple_of hg hm hv (pa_cons ha pa_nil he) (by decide) (by decide) he hpl) fun σ H Q ⟨F, st, z, R, e, k⟩ => by
  unfold eCallV at e
  obtain ⟨r1, e1, e⟩ := Option.bind_eq_some_iff.mp e
  obtain ⟨c, e2, e⟩ := Option.map_eq_some_iff.mp e
  cases e
  refine ⟨F, st, r1, R, e1, fun a vs F1 H1 R1 s1 h1 d1 => ⟨a, vs, rfl, .inl ⟨SqL.of h1, fun l hl => ?_⟩⟩⟩
  cases e2
  have e5 : Same F1 (upd F1 l (.tup vs)) := same_upd (R1.fh.free hl)
  exact k _ _ _ (R1.laid hl) (s1.trans e5) (.tup (.inl (.inl upd_same)) (dpAllMono e5 _ _ d1))
/-- a look at a list as the right side of in, of == -/
def bBinV (op : D → D → Option Bool) (f : ES) (o : OS) : BS := fun st => (f st).bind fun r => (o r.2).bind fun q => (op r.1 (.list q.1)).map fun z => (z, q.2)
theorem dt_cmpV {op : CmpOp} {r : R2} {opd : D → D → Option Bool} (ho : OpR X (compareOp op) r) (hs : OpT X.K r opd) (ha : DE X W a f) (hb : DV X W b o) (hm : behindInMarks op b = false := by first | exact nomark _ | with_unfolding_all rfl) : DT X W (.Compare a [op] [b] pos) (bBinV opd f o) :=
  pt_imp (pt_cmpR ho ha hb hm) fun σ H Q ⟨F, st, z, R, e, k⟩ => by
    unfold bBinV at e
    obtain ⟨r1, e1, e⟩ := Option.bind_eq_some_iff.mp e
    obtain ⟨r2, e2, e⟩ := Option.bind_eq_some_iff.mp e
    obtain ⟨c, e3, e⟩ := Option.map_eq_some_iff.mp e
    cases e
    refine ⟨F, st, r1, R, e1, fun x F1 H1 R1 s1 d1 => ⟨F1, r1.2, r2, R1, e2, fun y vs F2 H2 R2 s2 h2 d2 => ?_⟩⟩
    obtain ⟨F3, s3, t3, d3⟩ := R2.moment h2 d2
    exact hs F3 H2 x (.ref y) r1.1 (.list r2.1) c _ t3 (dpMono (s2.trans s3) _ _ d1) d3 e3 ⟨c, rfl, k F2 H2 R2 (s1.trans s2)⟩
/-- x[i], x a list of one's own -/
def eIxO (i : Nat) (g : ES) : ES := fun st => match st[i]? with
  | some (.own _) => (g st).bind fun q => match q.2[i]? with
    | some (.own xs) => (dIx (.list xs) q.1).map fun z => (z, q.2)
    | _ => none
  | _ => none
theorem de_ixO (i : Nat) {x : Str} {px : Pos} (hb : DE X W b g) (hp : PlainIx b := by exact fun _ _ => rfl) (hN : X.N[i]? = some x := by rfl) (hv : Vis X.env.scope x := by first | exact Or.inl rfl | exact Or.inr (Or.inl rfl) | exact Or.inr (Or.inr rfl)) (hd : (x == ("__debug__" : Str)) = false := by decide)
    (hcd : (x == ("__classdict__" : Str)) = false := by decide) : DE X W (.Subscript (.Name x px) b pos) (eIxO i g) := pe_imp (pe_ix ix_list (pe_var (i := i) hN hv hd hcd) hb hp) fun σ H Q ⟨F, st, z, R, e, k⟩ => by
  unfold eIxO at e
  split at e
  · rename_i ys hy
    obtain ⟨a, vs, h1, h2, _⟩ := R.own i ys hy
    obtain ⟨r1, e1, e⟩ := Option.bind_eq_some_iff.mp e
    refine ⟨_, h1, F, st, r1, R, e1, fun w F1 H1 R1 s1 d1 => ?_⟩
    split at e
    · rename_i xs hx
      obtain ⟨c, e2, e⟩ := Option.map_eq_some_iff.mp e
      cases e
      obtain ⟨a', ws, g1, g2, g3, g4, _⟩ := R1.own i xs hx
      rw [h1] at g1
      cases g1
      unfold dIx at e2
      split at e2
      · rename_i xs' i' hxs hi
        cases hxs
        rw [hi] at d1
        obtain ⟨v, g5, g6⟩ := DpAll.at g4 e2
        exact ⟨a, ws, _, v, rfl, dp_int d1, SqL.of g2, g5, k v F1 H1 R1 s1 g6⟩
      · rename_i hq _; cases hq
      · rename_i hq _; cases hq
      · cases e2
    · cases e
  · cases e
/-- two lists in a row -/
def oCat (o o' : OS) : OS := fun st => (o st).bind fun r => (o' r.2).bind fun q => if r.1.length + q.1.length ≤ sizeLine then some (r.1 ++ q.1, q.2) else none
theorem do_cat (ha : DO X W a o) (hb : DV X W b o') : DO X W (.BinOp a .Add b pos) (oCat o o') := pe_imp (pe_op op_cat ha hb) fun σ H Q ⟨F, st, z, R, e, k⟩ => by
  unfold oCat at e
  obtain ⟨r1, e1, e⟩ := Option.bind_eq_some_iff.mp e
  obtain ⟨r2, e2, e⟩ := Option.bind_eq_some_iff.mp e
  split at e
  · rename_i hl
    cases e
    refine ⟨F, st, r1, R, e1, fun a vs F1 H1 R1 s1 h1 fr1 d1 => ?_⟩
    have e5 : Same F1 (upd F1 a (.lst vs)) := same_upd fr1.1
    refine ⟨_, r1.2, r2, R1.freeze h1 fr1.1 fr1.2.1 fr1.2.2, e2, fun b ws F2 H2 R2 s2 h2 d2 => ?_⟩
    have h1' : H2 a = some (.lst vs) := R2.fh _ _ (s2 _ _ upd_same)
    refine ⟨a, b, vs, ws, rfl, rfl, h1', h2, by rw [DpAll.length d1, DpAll.length d2]; exact hl, fun p hp => ?_⟩
    obtain ⟨fr, R3⟩ := R2.fresh (o := .lst (vs ++ ws)) hp
    exact k _ _ _ _ R3 (s1.trans (e5.trans s2)) upd_same fr (DpAll.append (dpAllMono (e5.trans s2) _ _ d1) d2)
  · cases e
theorem dpa_strs {K : PySem.W.Frag} {F : Hp} : ∀ ys : List Str, DpAll K F (ys.map V.str) (ys.map PyData.str)
  | [] => .nil
  | y :: r => .cons (.str y) (dpa_strs r)
def oSplit (f g : ES) : OS := fun st => (f st).bind fun r => (g r.2).bind fun q => match r.1, q.1 with
  | .str a, .str b => if (codes b).length ≠ 0 ∧ (codes a).length + 2 ≤ sizeLine then some ((Txt.split a b).map PyData.str, q.2) else none
  | _, _ => none
theorem do_split (ho : DE X W a f) (he : DE X W b g) (hs : starEach [b] X.env = [(false, eval b X.env)] := by rfl) (hbase : attributeBase a "split" X.env (eval a X.env) = eval a X.env := by rfl) (hline : (apos.endLine == pos.line) = true := by rfl) :
    DO X W (.Call (.Attribute a "split" apos) [b] [] pos) (oSplit f g) := pe_imp (pe_split ho he hs hbase hline) fun σ H Q ⟨F, st, z, R, e, k⟩ => by
  unfold oSplit at e
  obtain ⟨r1, e1, e⟩ := Option.bind_eq_some_iff.mp e
  obtain ⟨r2, e2, e⟩ := Option.bind_eq_some_iff.mp e
  refine ⟨F, st, r1, R, e1, fun v F1 H1 R1 s1 d1 => ?_⟩
  split at e
  · rename_i a' b' h1 h2
    rw [h1] at d1
    rw [dp_str d1]
    refine ⟨⟨_, rfl⟩, F1, r1.2, r2, R1, e2, fun w F2 H2 R2 s2 d2 => ?_⟩
    rw [h2] at d2
    rw [dp_str d2]
    split at e
    · rename_i hl
      cases e
      refine ⟨_, _, rfl, rfl, ?_, by rw [codes_len]; exact hl.2, fun p hp => ?_⟩
      · rw [codes_len]
        exact beq_eq_false_iff_ne.mpr hl.1
      · obtain ⟨fr, R3⟩ := R2.fresh (o := .lst ((Txt.split a' b').map V.str)) hp
        exact k _ _ _ _ R3 (s1.trans s2) upd_same fr (dpa_strs _)
    · cases e
  · cases e
def strsOf : List D → Option (List Str)
  | [] => some []
  | .str b :: r => (strsOf r).map (b :: ·)
  | _ => none
theorem strsOf_dp {K : PySem.W.Frag} {F : Hp} : ∀ {vs : List V} {ds : List D} {bs : List Str}, DpAll K F vs ds → strsOf ds = some bs → vs = bs.map V.str
  | _, _, _, .nil, e => by cases e; rfl
  | _, d :: r, bs, .cons h t, e => by
    cases h <;> first
      | (have e' := e
         obtain ⟨q, e1, rfl⟩ := Option.map_eq_some_iff.mp e'
         rw [strsOf_dp t e1]
         rfl)
      | cases e
def dJoin (a b : D) : Option D := match a with
  | .str a => match b with
    | .list xs => (strsOf xs).bind fun ys => if (ys.map (·.length)).sum + ys.length * a.length ≤ 16777216 then some (.str (Txt.join a ys)) else none
    | .tuple xs => (strsOf xs).bind fun ys => if (ys.map (·.length)).sum + ys.length * a.length ≤ 16777216 then some (.str (Txt.join a ys)) else none
    | _ => none
  | _ => none
theorem de_join (ho : DE X W a f) (he : DE X W b g) (hs : starEach [b] X.env = [(false, eval b X.env)] := by rfl) (hbase : attributeBase a "join" X.env (eval a X.env) = eval a X.env := by rfl) (hline : (apos.endLine == pos.line) = true := by rfl) :
    DE X W (.Call (.Attribute a "join" apos) [b] [] pos) (eBin dJoin f g) := pe_imp (pe_join ho he hs hbase hline) fun σ H Q ⟨F, st, z, R, e, k⟩ => by
  unfold eBin at e
  obtain ⟨r1, e1, e⟩ := Option.bind_eq_some_iff.mp e
  obtain ⟨r2, e2, e⟩ := Option.bind_eq_some_iff.mp e
  obtain ⟨c, e3, e⟩ := Option.map_eq_some_iff.mp e
  cases e
  refine ⟨F, st, r1, R, e1, fun v F1 H1 R1 s1 d1 => ?_⟩
  unfold dJoin at e3
  split at e3
  · rename_i a' h1
    rw [h1] at d1
    rw [dp_str d1]
    refine ⟨⟨_, rfl⟩, F1, r1.2, r2, R1, e2, fun w F2 H2 R2 s2 d2 => ?_⟩
    split at e3
    · rename_i xs h2
      rw [h2] at d2
      obtain ⟨p, vs, rfl, g1, g2⟩ := dp_list d2
      obtain ⟨ys, e4, e5⟩ := Option.bind_eq_some_iff.mp e3
      rw [strsOf_dp g2 e4] at g1
      split at e5
      · rename_i hl
        cases e5
        exact ⟨a', p, ys, rfl, rfl, .inl (R2.fh.seq g1), hl, k _ F2 H2 R2 (s1.trans s2) (.str _)⟩
      · cases e5
    · rename_i xs h2
      rw [h2] at d2
      obtain ⟨p, vs, rfl, g1, g2⟩ := dp_tup d2
      obtain ⟨ys, e4, e5⟩ := Option.bind_eq_some_iff.mp e3
      rw [strsOf_dp g2 e4] at g1
      split at e5
      · rename_i hl
        cases e5
        exact ⟨a', p, ys, rfl, rfl, .inr (sameT R2.fh g1), hl, k _ F2 H2 R2 (s1.trans s2) (.str _)⟩
      · cases e5
    · cases e3
  · cases e3
/-! ### truth -/
def truD : D → Option Bool
  | .none => some false
  | .bool b => some b
  | .int i => some (i != 0)
  | .str z => if (codes z).length ≤ sizeLine then some (((codes z).length : Int) != 0) else none
  | .list xs => some (!xs.isEmpty)
  | .tuple xs => some (!xs.isEmpty)
  | _ => none
theorem dpa_empty {K : PySem.W.Frag} {F : Hp} {vs : List V} {xs : List D} (h : DpAll K F vs xs) : vs.isEmpty = xs.isEmpty := by cases h <;> rfl
theorem dt_tru (ha : DE X W a f) (he : ∀ whole, isTrue a X.env whole = (do let v ← whole; standAt a.pos; holding [v] (truthy v)) := by intro _; rfl) : DT X W a (bUn truD f) := pt_imp (pt_truth ha he) fun σ H Q ⟨F, st, z, R, e, k⟩ => by
  unfold bUn at e
  obtain ⟨r1, e1, e⟩ := Option.bind_eq_some_iff.mp e
  obtain ⟨c, e2, e⟩ := Option.map_eq_some_iff.mp e
  cases e
  refine ⟨F, st, r1, R, e1, fun x F1 H1 R1 s1 d1 => ⟨c, ?_, k F1 H1 R1 s1⟩⟩
  obtain ⟨r1a, r1b⟩ := r1
  cases d1 with
  | non => cases e2; rfl
  | bl b => cases e2; rfl
  | int i => cases e2; rfl
  | str z =>
    unfold truD at e2
    dsimp only at e2
    split at e2
    · rename_i hl
      cases e2
      exact ⟨by rw [codes_len]; exact hl, by rw [codes_len]⟩
    · cases e2
  | lst h1 h2 =>
    cases e2
    exact .inl ⟨_, R1.fh.seq h1, by rw [dpa_empty h2]⟩
  | tup h1 h2 =>
    cases e2
    exact .inr (.inl ⟨_, sameT R1.fh h1, by rw [dpa_empty h2]⟩)
/-! ### isinstance -/
def tyD : D → Option String
  | .none => some "NoneType"
  | .bool _ => some "bool"
  | .int _ => some "int"
  | .str _ => some "str"
  | .list _ => some "list"
  | .tuple _ => some "tuple"
  | _ => none
theorem tyD_dp {K : PySem.W.Frag} {F H : Hp} {v : V} {x : D} {n : String} (s : Same F H) (h : Dp K F v x) (e : tyD x = some n) : TyX K H v (.type n) := by
  cases h with
  | non => cases e; exact .base .non
  | bl b => cases e; exact .base (.bl b)
  | int i => cases e; exact .base (.int i)
  | str z => cases e; exact .base (.str z)
  | lst h1 h2 =>
    cases e
    rcases h1 with (h1 | ⟨o, h1⟩) | ⟨o, its, m, hk, hc, _⟩
    · exact .base (.lst (s _ _ h1))
    · exact .base (.frz (s _ _ h1))
    · exact .kList hk hc
  | tup h1 h2 =>
    cases e
    rcases h1 with (h1 | ⟨o, h1⟩) | ⟨o, its, m, hk, hc, _⟩
    · exact .base (.tup (s _ _ h1))
    · exact .fTuple (s _ _ h1)
    · exact .kTuple hk hc
def dIsi (T : String) (x : D) : Option D := (tyD x).bind fun n => (kitB n T).map PyData.bool
theorem de_isi {T : String} {y : Str} {py : Pos} (hg : Gl X "isinstance") (hm : X.mg "isinstance" = none) (hv : bootBuiltins "isinstance" = some (.builtin "isinstance")) (ha : DE X W a f) (hgy : Gl X y) (hmy : X.mg y = none) (hvy : bootBuiltins y = some (.type T))
    (hny : y ≠ "__name__" := by decide) (hdy : (y == ("__debug__" : Str)) = false := by decide) (hs : starEach [(.Name y py : Expr)] X.env = (false, eval (.Name y py) X.env) :: starEach [] X.env := by rfl)
    (he : starEach [a, .Name y py] X.env = (false, eval a X.env) :: starEach [(.Name y py : Expr)] X.env := by rfl) (hpl : (backTo pos (starEach [(.Name y py : Expr)] X.env)).any (·.1) = false := by rfl) :
    DE X W (.Call (.Name "isinstance" p) [a, .Name y py] [] pos) (eUn (dIsi T) f) := pe_imp (pe_callB call_isi hg hm hv (pa_cons ha (pa_cons (pe_bltn (v := .ty T) hgy hmy hvy rfl hny hdy) pa_nil hs) he) (by decide) (by decide) he hpl) fun σ H Q ⟨F, st, z, R, e, k⟩ => by
  unfold eUn at e
  obtain ⟨r1, e1, e⟩ := Option.bind_eq_some_iff.mp e
  obtain ⟨c, e2, e⟩ := Option.map_eq_some_iff.mp e
  cases e
  refine ⟨F, st, r1, R, e1, fun x F1 H1 R1 s1 d1 => ?_⟩
  obtain ⟨n, e3, e4⟩ := Option.bind_eq_some_iff.mp e2
  obtain ⟨b, e5, rfl⟩ := Option.map_eq_some_iff.mp e4
  exact ⟨x, .ty T, .type n, .type T, b, rfl, .ty T, tyD_dp R1.fh d1 e3, kit_ty e5, k _ F1 H1 R1 s1 (.bl b)⟩
def dIsi2 (T U : String) (x : D) : Option D := (tyD x).bind fun n => (kitB n T).bind fun b => (kitB n U).map fun c => .bool (b || c)
theorem de_isi2 {T U : String} {y z : Str} {py pz pt : Pos} {kt : Nat} (hg : Gl X "isinstance") (hm : X.mg "isinstance" = none) (hv : bootBuiltins "isinstance" = some (.builtin "isinstance")) (ha : DE X W a f) (hgy : Gl X y) (hmy : X.mg y = none) (hvy : bootBuiltins y = some (.type T))
    (hgz : Gl X z) (hmz : X.mg z = none) (hvz : bootBuiltins z = some (.type U))
    (hny : y ≠ "__name__" := by decide) (hdy : (y == ("__debug__" : Str)) = false := by decide) (hnz : z ≠ "__name__" := by decide) (hdz : (z == ("__debug__" : Str)) = false := by decide)
    (h1 : starEach [(.Name z pz : Expr)] X.env = (false, eval (.Name z pz) X.env) :: starEach [] X.env := by rfl)
    (h2 : starEach [(.Name y py : Expr), .Name z pz] X.env = (false, eval (.Name y py) X.env) :: starEach [(.Name z pz : Expr)] X.env := by rfl)
    (hs : starEach [(.Tuple [.Name y py, .Name z pz] kt pt : Expr)] X.env = (false, eval (.Tuple [.Name y py, .Name z pz] kt pt) X.env) :: starEach [] X.env := by rfl)
    (he : starEach [a, .Tuple [.Name y py, .Name z pz] kt pt] X.env = (false, eval a X.env) :: starEach [(.Tuple [.Name y py, .Name z pz] kt pt : Expr)] X.env := by rfl) (hpl : (backTo pos (starEach [(.Tuple [.Name y py, .Name z pz] kt pt : Expr)] X.env)).any (·.1) = false := by rfl) :
    DE X W (.Call (.Name "isinstance" p) [a, .Tuple [.Name y py, .Name z pz] kt pt] [] pos) (eUn (dIsi2 T U) f) :=
  pe_imp (pe_callB call_isiT hg hm hv (pa_cons ha (pa_cons (pe_tup (pa_cons (pe_bltn (v := .ty T) hgy hmy hvy rfl hny hdy) (pa_cons (pe_bltn (v := .ty U) hgz hmz hvz rfl hnz hdz) pa_nil h1) h2)) pa_nil hs) he) (by decide) (by decide) he hpl) fun σ H Q ⟨F, st, zz, R, e, k⟩ => by
  unfold eUn at e
  obtain ⟨r1, e1, e⟩ := Option.bind_eq_some_iff.mp e
  obtain ⟨c, e2, e⟩ := Option.map_eq_some_iff.mp e
  cases e
  refine ⟨F, st, r1, R, e1, fun x F1 H1 R1 s1 d1 => ⟨by show 2 ≤ sizeLine; decide, fun tp htp => ?_⟩⟩
  obtain ⟨n, e3, e4⟩ := Option.bind_eq_some_iff.mp e2
  obtain ⟨b, e5, e6⟩ := Option.bind_eq_some_iff.mp e4
  obtain ⟨c', e7, rfl⟩ := Option.map_eq_some_iff.mp e6
  have R2 := R1.laid (o := .tup [.ty T, .ty U]) htp
  have e9 : Same F1 (upd F1 tp (.tup [.ty T, .ty U])) := same_upd (R1.fh.free htp)
  have q : ∀ b c : Bool, kitB n T = some b → kitB n U = some c → PySem.W.kitAny X.K (.type n) [.type T, .type U] = some (b || c) := fun b c h1 h2 => by
    refine kitAny_cons (b := b) (kit_ty h1) (fun hb => ?_) fun hb => by rw [hb]; rfl
    refine kitAny_cons (b := c) (kit_ty h2) (fun hc => ?_) fun hc => by rw [hc, Bool.or_true]
    rw [hb, hc]
    rfl
  exact ⟨x, tp, [.ty T, .ty U], .type n, [.type T, .type U], _, rfl, upd_same, .cons (.ty T) (.cons (.ty U) .nil), tyD_dp R2.fh (dpMono e9 _ _ d1) e3, q b c' e5 e7, k _ _ _ R2 (s1.trans e9) (.bl _)⟩
end
end DL

set_option Elab.async false
set_option linter.all false
set_option maxRecDepth 100000
set_option maxHeartbeats 4000000
namespace DL
open PySem PySem.Spec L2

/-! ### statements -/
inductive Out where
  | nx (st : List Sl)
  | rt (x : D) (st : List Sl)
  | ro (xs : List D) (st : List Sl)
  | bk (st : List Sl)
  | ct (st : List Sl)
abbrev SS := List Sl → Option Out
def EndsOk (K : PySem.W.Frag) (W : Wd) (F : Hp) (D : Ends) : Out → Prop
  | .nx st => ∀ σ' F' H', Rel K W F' H' σ' st → Same F F' → D.nx σ' H'
  | .rt x st => ∀ v σ' F' H', Rel K W F' H' σ' st → Same F F' → Dp K F' v x → D.rt v H'
  | .ro xs st => ∀ a vs σ' F' H', Rel K W F' H' σ' st → Same F F' → H' a = some (.lst vs) → F' a = none → W.H0 a = none → DpAll K F' vs xs → D.rt (.ref a) H'
  | .bk st => ∀ σ' F' H', Rel K W F' H' σ' st → Same F F' → D.bk σ' H'
  | .ct st => ∀ σ' F' H', Rel K W F' H' σ' st → Same F F' → D.ct σ' H'
theorem EndsOk.mono {K : PySem.W.Frag} {W : Wd} {F F1 : Hp} {D : Ends} {o : Out} (e : Same F F1) (h : EndsOk K W F D o) : EndsOk K W F1 D o := by
  cases o with
  | nx st => exact fun σ' F' H' R s => h σ' F' H' R (e.trans s)
  | rt x st => exact fun v σ' F' H' R s => h v σ' F' H' R (e.trans s)
  | ro xs st => exact fun a vs σ' F' H' R s => h a vs σ' F' H' R (e.trans s)
  | bk st => exact fun σ' F' H' R s => h σ' F' H' R (e.trans s)
  | ct st => exact fun σ' F' H' R s => h σ' F' H' R (e.trans s)
def tS (K : PySem.W.Frag) (W : Wd) (g : SS) : TS := fun D σ H => ∃ F st o, Rel K W F H σ st ∧ g st = some o ∧ EndsOk K W F D o
abbrev DS (X : Cx) (W : Wd) (s : Stmt) (g : SS) : Prop := PS X s (tS X.K W g)
abbrev DSs (X : Cx) (W : Wd) (s : List Stmt) (g : SS) : Prop := PSs X s (tS X.K W g)

def sNone : SS := fun _ => none
def sNext : SS := fun st => some (.nx st)
def sBrk : SS := fun st => some (.bk st)
def sCnt : SS := fun st => some (.ct st)
def sSeq (f g : SS) : SS := fun st => (f st).bind fun o => match o with
  | .nx st' => g st'
  | o => some o
def sIf (c : BS) (f g : SS) : SS := fun st => (c st).bind fun r => if r.1 then f r.2 else g r.2
def sRet (f : ES) : SS := fun st => (f st).map fun r => .rt r.1 r.2
def sRetO (f : OS) : SS := fun st => (f st).map fun r => .ro r.1 r.2
def sRetN : SS := fun st => some (.rt .none st)
def sDrop (f : ES) : SS := fun st => (f st).map fun r => .nx r.2
def sSet (i : Nat) (f : ES) : SS := fun st => (f st).map fun r => .nx (r.2.set i (.d r.1))
def sSetO (i : Nat) (f : OS) : SS := fun st => (f st).map fun r => .nx (r.2.set i (.own r.1))
section
variable {X : Cx} {W : Wd} {s : Stmt} {rest : List Stmt} {a b e : Expr} {f g : SS} {u v : ES} {c : BS} {o : OS} {pos : Pos}
theorem ds_never : DS X W s sNone := ps_imp ps_never fun _ _ _ ⟨_, _, _, _, e, _⟩ => by cases e
theorem dss_never : DSs X W rest sNone := pss_imp pss_never fun _ _ _ ⟨_, _, _, _, e, _⟩ => by cases e
theorem dss_nil : DSs X W [] sNext := pss_imp pss_nil fun D σ H ⟨F, st, o, R, e, k⟩ => by
  cases e
  exact k σ F H R (Same.refl _)
theorem dss_cons (h1 : DS X W s f) (h2 : DSs X W rest g) : DSs X W (s :: rest) (sSeq f g) := pss_imp (pss_cons h1 h2) fun D σ H ⟨F, st, o, R, e, k⟩ => by
  unfold sSeq at e
  obtain ⟨o1, e1, e⟩ := Option.bind_eq_some_iff.mp e
  refine ⟨F, st, o1, R, e1, ?_⟩
  cases o1 with
  | nx st' => exact fun σ' F' H' R' s' => ⟨F', st', o, R', e, k.mono s'⟩
  | rt x st => cases e; exact k
  | ro xs st => cases e; exact k
  | bk st => cases e; exact k
  | ct st => cases e; exact k
theorem dss_one (h1 : DS X W s f) : DSs X W [s] f := pss_one h1
theorem ds_pass : DS X W (.Pass pos) sNext := ps_imp ps_pass fun D σ H ⟨F, st, o, R, e, k⟩ => by
  cases e
  exact k σ F H R (Same.refl _)
theorem ds_break : DS X W (.Break pos) sBrk := ps_imp ps_break fun D σ H ⟨F, st, o, R, e, k⟩ => by
  cases e
  exact k σ F H R (Same.refl _)
theorem ds_continue : DS X W (.Continue pos) sCnt := ps_imp ps_continue fun D σ H ⟨F, st, o, R, e, k⟩ => by
  cases e
  exact k σ F H R (Same.refl _)
theorem ds_if {c' : Expr} {x y : List Stmt} (hc : DT X W c' c) (ha : DSs X W x f) (hb : DSs X W y g) : DS X W (.If c' x y pos) (sIf c f g) := ps_imp (ps_if hc ha hb) fun D σ H ⟨F, st, o, R, e, k⟩ => by
  unfold sIf at e
  obtain ⟨r1, e1, e⟩ := Option.bind_eq_some_iff.mp e
  refine ⟨F, st, r1, R, e1, fun F1 H1 R1 s1 => ?_⟩
  obtain ⟨d, r1b⟩ := r1
  cases d with
  | true => exact ⟨F1, r1b, o, R1, e, k.mono s1⟩
  | false => exact ⟨F1, r1b, o, R1, e, k.mono s1⟩
theorem ds_ret (h : DE X W a u) : DS X W (.Return (some a) pos) (sRet u) := ps_imp (ps_ret h) fun D σ H ⟨F, st, o, R, e, k⟩ => by
  unfold sRet at e
  obtain ⟨r1, e1, e⟩ := Option.map_eq_some_iff.mp e
  cases e
  exact ⟨F, st, r1, R, e1, fun v F1 H1 R1 s1 d1 => k v σ F1 H1 R1 s1 d1⟩
theorem ds_retO (h : DO X W a o) : DS X W (.Return (some a) pos) (sRetO o) := ps_imp (ps_ret h) fun D σ H ⟨F, st, o', R, e, k⟩ => by
  unfold sRetO at e
  obtain ⟨r1, e1, e⟩ := Option.map_eq_some_iff.mp e
  cases e
  exact ⟨F, st, r1, R, e1, fun v vs F1 H1 R1 s1 h1 fr d1 => k v vs σ F1 H1 R1 s1 h1 fr.1 fr.2.1 d1⟩
/-- return x, x a list of one's own (not a parameter) -/
theorem ds_retNm (i : Nat) {x : Str} {px : Pos} (hP : W.P i = none) (hN : X.N[i]? = some x := by rfl) (hv : Vis X.env.scope x := by first | exact Or.inl rfl | exact Or.inr (Or.inl rfl) | exact Or.inr (Or.inr rfl)) (hd : (x == ("__debug__" : Str)) = false := by decide)
    (hcd : (x == ("__classdict__" : Str)) = false := by decide) : DS X W (.Return (some (.Name x px)) pos) (sRetO (oNm i)) := ps_imp (ps_ret (pe_var (i := i) hN hv hd hcd)) fun D σ H ⟨F, st, o', R, e, k⟩ => by
  unfold sRetO at e
  obtain ⟨r1, e1, e⟩ := Option.map_eq_some_iff.mp e
  cases e
  unfold oNm at e1
  split at e1
  · rename_i xs hx
    cases e1
    obtain ⟨a, vs, h1, h2, h3, h4, h5⟩ := R.own i xs hx
    refine ⟨_, h1, k a vs σ F H R (Same.refl _) h2 h3 ?_ h4⟩
    rcases h5 with h5 | h5
    · rw [hP] at h5; cases h5
    · exact h5
  · cases e1
theorem ds_retN : DS X W (.Return none pos) sRetN := ps_imp ps_retN fun D σ H ⟨F, st, o, R, e, k⟩ => by
  cases e
  exact k _ σ F H R (Same.refl _) .non
theorem ds_doc {x j pos pos'} : DS X W (.Expr (.Constant (.str x) j pos) pos') sNext := ps_imp ps_doc fun D σ H ⟨F, st, o, R, e, k⟩ => by
  cases e
  exact k σ F H R (Same.refl _)
theorem ds_drop (h : DE X W a u) (hs : swapsWith a none pos.line X.env = pure false := by rfl) : DS X W (.Expr a pos) (sDrop u) := ps_imp (ps_expr h hs) fun D σ H ⟨F, st, o, R, e, k⟩ => by
  unfold sDrop at e
  obtain ⟨r1, e1, e⟩ := Option.map_eq_some_iff.mp e
  cases e
  exact ⟨F, st, r1, R, e1, fun v F1 H1 R1 s1 d1 => k σ F1 H1 R1 s1⟩
theorem ds_set (i : Nat) {x : Str} {pos' : Pos} (hP : W.P i = none) (hN : X.N.Nodup) (h : DE X W a u) (hi : X.N[i]? = some x := by rfl) (hx : Loc X.env.scope x := by first | exact Or.inl rfl | exact Or.inr rfl) (hs : swapsWith a (some (.Name x pos')) pos.line X.env = pure false := by rfl)
    (hf : X.fn x = true ∨ X.env.scope.names.lookup x = some .local := by first | exact .inl rfl | exact .inr rfl | assumption) : DS X W (.Assign [.Name x pos'] a pos) (sSet i u) := ps_imp (ps_set (i := i) hN hi hx h hs hf) fun D σ H ⟨F, st, o, R, e, k⟩ => by
  unfold sSet at e
  obtain ⟨r1, e1, e⟩ := Option.map_eq_some_iff.mp e
  cases e
  exact ⟨F, st, r1, R, e1, fun v F1 H1 R1 s1 d1 => k _ F1 H1 (R1.setD hP d1) s1⟩
theorem ds_setO (i : Nat) {x : Str} {pos' : Pos} (hP : W.P i = none) (hN : X.N.Nodup) (h : DO X W a o) (hi : X.N[i]? = some x := by rfl) (hx : Loc X.env.scope x := by first | exact Or.inl rfl | exact Or.inr rfl) (hs : swapsWith a (some (.Name x pos')) pos.line X.env = pure false := by rfl)
    (hf : X.fn x = true ∨ X.env.scope.names.lookup x = some .local := by first | exact .inl rfl | exact .inr rfl | assumption) : DS X W (.Assign [.Name x pos'] a pos) (sSetO i o) := ps_imp (ps_set (i := i) hN hi hx h hs hf) fun D σ H ⟨F, st, o', R, e, k⟩ => by
  unfold sSetO at e
  obtain ⟨r1, e1, e⟩ := Option.map_eq_some_iff.mp e
  cases e
  exact ⟨F, st, r1, R, e1, fun v vs F1 H1 R1 s1 h1 fr d1 => k _ F1 H1 (R1.setO hP h1 fr.1 fr.2.1 d1 fr.2.2) s1⟩
/-! ### a list of one's own is changed -/
def sApp (i : Nat) (u : ES) : SS := fun st => match st[i]? with
  | some (.own _) => (u st).bind fun r => match r.2[i]? with
    | some (.own xs) => if xs.length < 16000000 then some (.nx (r.2.set i (.own (xs ++ [r.1])))) else none
    | _ => none
  | _ => none
theorem small16 {n : Nat} (h : n < 16000000) : n < sizeLine := Nat.lt_of_lt_of_le h (by decide)
theorem ds_app (i : Nat) {x : Str} {px apos cpos : Pos} (he : DE X W e u) (hN : X.N[i]? = some x := by rfl) (hv : Vis X.env.scope x := by first | exact Or.inl rfl | exact Or.inr (Or.inl rfl) | exact Or.inr (Or.inr rfl)) (hd : (x == ("__debug__" : Str)) = false := by decide)
    (hcd : (x == ("__classdict__" : Str)) = false := by decide) (hs' : starEach [e] X.env = (false, eval e X.env) :: starEach [] X.env := by rfl)
    (hbase : attributeBase (.Name x px) "append" X.env (eval (.Name x px) X.env) = eval (.Name x px) X.env := by rfl)
    (hfew : ((backTo cpos (starEach [e] X.env)).all (fun x => !x.1) && (backToKw cpos (keywordEach [] X.env)).all (fun x => x.1.isSome)
      && decide ([e].length + ([] : List Keyword).length + (if ([] : List Keyword).isEmpty then 0 else 1) < 30)) = true := by rfl)
    (hline : (apos.endLine == cpos.line) = true := by rfl) (hplain : (backTo cpos (starEach [] X.env)).any (·.1) = false := by rfl)
    (hs : swapsWith (.Call (.Attribute (.Name x px) "append" apos) [e] [] cpos) none pos.line X.env = pure false := by rfl) : DS X W (.Expr (.Call (.Attribute (.Name x px) "append" apos) [e] [] cpos) pos) (sApp i u) :=
  ps_imp (ps_expr (pe_bm PySem.F.plainAttrs_list PySem.F.slot_list_append PySem.F.type_list_append mt_append (pe_var (i := i) hN hv hd hcd) (pa_cons he pa_nil hs') hbase hfew hline hs' hplain) hs) fun D σ H ⟨F, st, o, R, e, k⟩ => by
  unfold sApp at e
  split at e
  · rename_i ys hy
    obtain ⟨a, vs, h1, h2, _⟩ := R.own i ys hy
    obtain ⟨r1, e1, e⟩ := Option.bind_eq_some_iff.mp e
    refine ⟨_, h1, .inl ⟨rfl, _, SqL.of h2⟩, F, st, r1, R, e1, fun w F1 H1 R1 s1 d1 => ?_⟩
    split at e
    · rename_i xs hx
      split at e
      · rename_i hl
        cases e
        obtain ⟨a', ws, g1, g2, g3, g4, _⟩ := R1.own i xs hx
        rw [h1] at g1
        cases g1
        exact ⟨a, ws, w, rfl, rfl, g2, by rw [DpAll.length g4]; exact small16 hl, k _ F1 _ (R1.change hx h1 (DpAll.append g4 (.cons d1 .nil))) s1⟩
      · cases e
    · cases e
  · cases e
def sRev (i : Nat) : SS := fun st => match st[i]? with
  | some (.own xs) => some (.nx (st.set i (.own xs.reverse)))
  | _ => none
theorem ds_rev (i : Nat) {x : Str} {px apos cpos : Pos} (hN : X.N[i]? = some x := by rfl) (hv : Vis X.env.scope x := by first | exact Or.inl rfl | exact Or.inr (Or.inl rfl) | exact Or.inr (Or.inr rfl)) (hd : (x == ("__debug__" : Str)) = false := by decide)
    (hcd : (x == ("__classdict__" : Str)) = false := by decide)
    (hbase : attributeBase (.Name x px) "reverse" X.env (eval (.Name x px) X.env) = eval (.Name x px) X.env := by rfl)
    (hline : (apos.endLine == cpos.line) = true := by rfl)
    (hs : swapsWith (.Call (.Attribute (.Name x px) "reverse" apos) [] [] cpos) none pos.line X.env = pure false := by rfl) : DS X W (.Expr (.Call (.Attribute (.Name x px) "reverse" apos) [] [] cpos) pos) (sRev i) :=
  ps_imp (ps_expr (pe_bm0 PySem.F.plainAttrs_list PySem.F.slot_list_reverse PySem.F.type_list_reverse mt_reverse (pe_var (i := i) hN hv hd hcd) hbase hline) hs) fun D σ H ⟨F, st, o, R, e, k⟩ => by
  unfold sRev at e
  split at e
  · rename_i xs hx
    cases e
    obtain ⟨a, vs, h1, h2, h3, h4, _⟩ := R.own i xs hx
    exact ⟨_, h1, .inl ⟨rfl, _, SqL.of h2⟩, a, vs, rfl, rfl, h2, k _ F _ (R.change hx h1 (DpAll.rev h4)) (Same.refl _)⟩
  · cases e
/-- x[i] = e -/
def sSetI (i : Nat) (ix : ES) (u : ES) : SS := fun st => (u st).bind fun r => match r.2[i]? with
  | some (.own _) => (ix r.2).bind fun q => match q.2[i]? with
    | some (.own xs) => match q.1 with
      | .int z => (ixN xs.length z).map fun j => .nx (q.2.set i (.own (xs.set j r.1)))
      | _ => none
    | _ => none
  | _ => none
theorem ds_setI (i : Nat) {x : Str} {ie : Expr} {ix : ES} {px tpos : Pos} (he : DE X W e u) (hi : DE X W ie ix) (hN : X.N[i]? = some x := by rfl) (hv : Vis X.env.scope x := by first | exact Or.inl rfl | exact Or.inr (Or.inl rfl) | exact Or.inr (Or.inr rfl)) (hd : (x == ("__debug__" : Str)) = false := by decide)
    (hcd : (x == ("__classdict__" : Str)) = false := by decide)
    (ha : ∀ v, assign (.Subscript (.Name x px) ie tpos) X.env v = (do
      let ov ← holding [v] (eval (.Name x px) X.env)
      let iv ← holding [v, ov] (eval ie X.env)
      standAt tpos
      holding [v, ov, iv] (setItem ov iv v)
      release [v, ov, iv] []) := by intro _; rfl)
    (hs : swapsWithSole [.Subscript (.Name x px) ie tpos] e pos.line X.env = pure false := by rfl) (hw : swappedStores [.Subscript (.Name x px) ie tpos] e X.env = pure none := by rfl)
    (h1 : (assignEach [.Subscript (.Name x px) ie tpos] X.env).map (·.2) = [assign (.Subscript (.Name x px) ie tpos) X.env] := by rfl) : DS X W (.Assign [.Subscript (.Name x px) ie tpos] e pos) (sSetI i ix u) :=
  ps_imp (ps_asg he (pg_sub (pe_var (i := i) hN hv hd hcd) hi set_list ha) hs hw h1) fun D σ H ⟨F, st, o, R, e, k⟩ => by
  unfold sSetI at e
  obtain ⟨r1, e1, e⟩ := Option.bind_eq_some_iff.mp e
  refine ⟨F, st, r1, R, e1, fun w F1 H1 R1 s1 d1 => ?_⟩
  split at e
  · rename_i ys hy
    obtain ⟨a, vs, h1, h2, _⟩ := R1.own i ys hy
    obtain ⟨r2, e2, e⟩ := Option.bind_eq_some_iff.mp e
    refine ⟨_, h1, F1, r1.2, r2, R1, e2, fun z F2 H2 R2 s2 d2 => ?_⟩
    split at e
    · rename_i xs hx
      split at e
      · rename_i zi hz
        obtain ⟨j, e3, e⟩ := Option.map_eq_some_iff.mp e
        cases e
        obtain ⟨a', ws, g1, g2, g3, g4, _⟩ := R2.own i xs hx
        rw [h1] at g1
        cases g1
        rw [hz] at d2
        exact ⟨a, ws, zi, j, rfl, dp_int d2, g2, by rw [DpAll.length g4]; exact e3, k _ F2 _ (R2.change hx h1 (DpAll.set (dpMono s2 _ _ d1) j g4)) (s1.trans s2)⟩
      · cases e
    · cases e
  · cases e
end

/-! ### targets, what is walked, for -/
abbrev GS := D → List Sl → Option (List Sl)
def DG (X : Cx) (W : Wd) (tg : Expr) (t : GS) : Prop := ∃ g : TG, PG X tg g ∧ ∀ F H σ st v x st' (Q : L2.St → Hp → Prop), Rel X.K W F H σ st → Dp X.K F v x → t x st = some st' → (∀ σ' F' H', Rel X.K W F' H' σ' st' → Same F F' → Q σ' H') → g v σ H Q
def DGs (X : Cx) (W : Wd) (tg : List Expr) (t : List D → List Sl → Option (List Sl)) : Prop := ∃ g : TGs, PGs X tg g ∧ ∀ F H σ st v x st' (Q : L2.St → Hp → Prop), Rel X.K W F H σ st → DpAll X.K F v x → t x st = some st' → (∀ σ' F' H', Rel X.K W F' H' σ' st' → Same F F' → Q σ' H') → g v σ H Q
def gNm (i : Nat) : GS := fun x st => some (st.set i (.d x))
def gsNil : List D → List Sl → Option (List Sl)
  | [], st => some st
  | _, _ => none
def gsCons (t : GS) (u : List D → List Sl → Option (List Sl)) : List D → List Sl → Option (List Sl)
  | x :: r, st => (t x st).bind fun st' => u r st'
  | _, _ => none
def gTupD (u : List D → List Sl → Option (List Sl)) : GS := fun x st => match x with
  | .tuple xs => u xs st
  | _ => none
section
variable {X : Cx} {W : Wd} {tg iter : Expr} {t : GS} {pos : Pos}
theorem dg_nm (i : Nat) {x : Str} (hP : W.P i = none) (hN : X.N.Nodup) (hi : X.N[i]? = some x := by rfl) (hx : Loc X.env.scope x := by first | exact Or.inl rfl | exact Or.inr rfl) (hf : X.fn x = true ∨ X.env.scope.names.lookup x = some .local := by first | exact .inl rfl | exact .inr rfl | assumption) : DG X W (.Name x pos) (gNm i) :=
  ⟨gName i, pg_name hN hi hx hf, fun F H σ st v x st' Q R d e k => by
    cases e
    exact k _ F H (R.setD hP d) (Same.refl _)⟩
theorem dgs_nil : DGs X W [] gsNil := ⟨gNil, pgs_nil, fun F H σ st v x st' Q R d e k => by
  cases d with
  | nil => cases e; exact ⟨rfl, k _ F H R (Same.refl _)⟩
  | cons _ _ => cases e⟩
theorem dgs_cons {e : Expr} {es : List Expr} {u : List D → List Sl → Option (List Sl)} (h1 : DG X W e t) (h2 : DGs X W es u) (hs : (assignEach (e :: es) X.env).map (·.2) = assign e X.env :: (assignEach es X.env).map (·.2) := by rfl) : DGs X W (e :: es) (gsCons t u) := by
  obtain ⟨g1, p1, k1⟩ := h1
  obtain ⟨g2, p2, k2⟩ := h2
  refine ⟨gCons g1 g2, pgs_cons p1 p2 hs, fun F H σ st v x st' Q R d e k => ?_⟩
  cases d with
  | nil => cases e
  | cons d1 d2 =>
    obtain ⟨st1, e1, e2⟩ := Option.bind_eq_some_iff.mp e
    exact ⟨_, _, rfl, k1 F H σ st _ _ st1 _ R d1 e1 fun σ1 F1 H1 R1 s1 => k2 F1 H1 σ1 st1 _ _ st' _ R1 (dpAllMono s1 _ _ d2) e2 fun σ2 F2 H2 R2 s2 => k σ2 F2 H2 R2 (s1.trans s2)⟩
theorem dg_tup {es : List Expr} {kk : Nat} {u : List D → List Sl → Option (List Sl)} {n : Nat} (hc : X.calm = true) (h : DGs X W es u) (hu : ∀ xs st st', u xs st = some st' → xs.length = n) (hn : (assignEach es X.env).length = n := by rfl)
    (hst : (assignEach es X.env).findIdx? (·.1) = none := by rfl) : DG X W (.Tuple es kk pos) (gTupD u) := by
  obtain ⟨g1, p1, k1⟩ := h
  refine ⟨gTup X.K n g1, pg_tup hc p1 hn hst, fun F H σ st v x st' Q R d e k => ?_⟩
  unfold gTupD at e
  split at e
  · rename_i xs
    obtain ⟨a, vs, rfl, h1, h2⟩ := dp_tup d
    exact ⟨a, vs, rfl, sameT R.fh h1, by rw [DpAll.length h2]; exact hu _ _ _ e, k1 F H σ st _ _ st' Q R h2 e k⟩
  · cases e
theorem gs2_len {t t' : GS} : ∀ xs st st', gsCons t (gsCons t' gsNil) xs st = some st' → xs.length = 2
  | [], _, _, e => by cases e
  | [a], st, st', e => by
    obtain ⟨s1, _, e2⟩ := Option.bind_eq_some_iff.mp e
    cases e2
  | [a, b], _, _, _ => rfl
  | a :: b :: c :: r, st, st', e => by
    obtain ⟨s1, _, e2⟩ := Option.bind_eq_some_iff.mp e
    obtain ⟨s2, _, e3⟩ := Option.bind_eq_some_iff.mp e2
    cases e3
/-- a, b = e -/
def sAsg (t : GS) (f : ES) : SS := fun st => (f st).bind fun r => (t r.1 r.2).map Out.nx
theorem ds_asg {e : Expr} {f : ES} (he : DE X W e f) (hg : DG X W tg t) (hs : swapsWithSole [tg] e pos.line X.env = pure false := by rfl) (hw : swappedStores [tg] e X.env = pure none := by rfl)
    (h1 : (assignEach [tg] X.env).map (·.2) = [assign tg X.env] := by rfl) : DS X W (.Assign [tg] e pos) (sAsg t f) := by
  obtain ⟨g1, p1, k1⟩ := hg
  refine ps_imp (ps_asg he p1 hs hw h1) fun D σ H ⟨F, st, o, R, e, k⟩ => ?_
  unfold sAsg at e
  obtain ⟨r1, e1, e⟩ := Option.bind_eq_some_iff.mp e
  obtain ⟨st', e2, e⟩ := Option.map_eq_some_iff.mp e
  cases e
  exact ⟨F, st, r1, R, e1, fun w F1 H1 R1 s1 d1 => k1 F1 H1 σ r1.2 w r1.1 st' _ R1 d1 e2 fun σ2 F2 H2 R2 s2 => k σ2 F2 H2 R2 (s1.trans s2)⟩

structure Wk (K : PySem.W.Frag) (W : Wd) (J : It) (F0 : Hp) (ds : List D) : Prop where
  go : ∀ i F H σ st, Rel K W F H σ st → Same F0 F → i < ds.length → J.go i H
  stop : ∀ i F H σ st, Rel K W F H σ st → Same F0 F → ds.length ≤ i → J.stop i H
  yld : ∀ i x F H H' σ st, Rel K W F H σ st → Same F0 F → J.yld i H x H' → ∀ d, ds[i]? = some d → ∃ F', (∀ (W' : Wd) (σ' : L2.St) (st' : List Sl), Rel K W' F H σ' st' → Rel K W' F' H' σ' st') ∧ Same F F' ∧ Dp K F' x d ∧ ∀ a o, H a = some o → H' a = some o
def DI (X : Cx) (W : Wd) (tg iter : Expr) (f : AS) : Prop := ∃ wi : TI, PI X tg iter wi ∧ ∀ σ H R F st r, Rel X.K W F H σ st → f st = some r → (∀ J F' H', Rel X.K W F' H' σ r.2 → Same F F' → Wk X.K W J F' r.1 → R J H') → wi σ H R
theorem wk_list {K : PySem.W.Frag} {a : Addr} {F : Hp} {vs : List V} {ds : List D} (h : SqL K F a vs) (d : DpAll K F vs ds) : Wk K W (Itl K a) F ds where
  go := fun i F' H σ st R s hi => by
    rw [← DpAll.length d] at hi
    exact ⟨vs, vs[i], R.fh.seq (s.seq h), List.getElem?_eq_getElem hi⟩
  stop := fun i F' H σ st R s hi => ⟨vs, R.fh.seq (s.seq h), by rw [DpAll.length d]; exact hi⟩
  yld := fun i x F' H H' σ st R s y e he => by
    obtain ⟨rfl, y⟩ := y
    obtain ⟨v, h1, h2⟩ := DpAll.get d he
    have q := y vs (R.fh.seq (s.seq h))
    rw [h1] at q
    cases q
    exact ⟨F', fun _ _ _ r => r, Same.refl _, dpMono s _ _ h2, fun _ _ z => z⟩
theorem wk_tup {K : PySem.W.Frag} {a : Addr} {F : Hp} {vs : List V} {ds : List D} (h : SqT K F a vs) (d : DpAll K F vs ds) : Wk K W (Itt K a) F ds where
  go := fun i F' H σ st R s hi => by
    rw [← DpAll.length d] at hi
    exact ⟨vs, vs[i], sameT R.fh (sameT s h), List.getElem?_eq_getElem hi⟩
  stop := fun i F' H σ st R s hi => ⟨vs, sameT R.fh (sameT s h), by rw [DpAll.length d]; exact hi⟩
  yld := fun i x F' H H' σ st R s y e he => by
    obtain ⟨rfl, y⟩ := y
    obtain ⟨v, h1, h2⟩ := DpAll.get d he
    have q := y vs (sameT R.fh (sameT s h))
    rw [h1] at q
    cases q
    exact ⟨F', fun _ _ _ r => r, Same.refl _, dpMono s _ _ h2, fun _ _ z => z⟩
def chars (z : Str) : List D := (codes z).map fun c => ds [c]
theorem chars_len (z : Str) : (chars z).length = z.cps.size := by simp [chars, codes]
theorem wk_str {K : PySem.W.Frag} {F : Hp} (z : Str) : Wk K W (Its z) F (chars z) where
  go := fun i F' H σ st R s hi => by
    rw [chars_len] at hi
    exact hi
  stop := fun i F' H σ st R s hi => by
    rw [chars_len] at hi
    exact hi
  yld := fun i x F' H H' σ st R s y e he => by
    obtain ⟨rfl, c, hc, rfl⟩ := y
    unfold chars at he
    rw [List.getElem?_map] at he
    have : (codes z)[i]? = some c := by
      unfold codes
      rw [Array.getElem?_toList]
      exact hc
    rw [this] at he
    cases he
    exact ⟨F', fun _ _ _ r => r, Same.refl _, .str _, fun _ _ z => z⟩
def rints (lo : Int) (n : Nat) : List D := (List.range n).map fun k => .int (lo + (k : Nat))
theorem rints_len (lo : Int) (n : Nat) : (rints lo n).length = n := by simp [rints]
theorem wk_rng {K : PySem.W.Frag} {F : Hp} (lo : Int) (n : Nat) : Wk K W (Itr lo n) F (rints lo n) where
  go := fun i F' H σ st R s hi => by
    rw [rints_len] at hi
    exact hi
  stop := fun i F' H σ st R s hi => by
    rw [rints_len] at hi
    exact hi
  yld := fun i x F' H H' σ st R s y e he => by
    obtain ⟨rfl, rfl⟩ := y
    have hi : i < n := by
      have := (List.getElem?_eq_some_iff.mp he).1
      rw [rints_len] at this
      exact this
    unfold rints at he
    rw [List.getElem?_map, List.getElem?_range hi] at he
    cases he
    exact ⟨F', fun _ _ _ r => r, Same.refl _, .int _, fun _ _ z => z⟩
def enums : Nat → List D → List D
  | _, [] => []
  | n, x :: r => .tuple [.int (n : Nat), x] :: enums (n + 1) r
theorem enums_len : ∀ (n : Nat) (xs : List D), (enums n xs).length = xs.length
  | _, [] => rfl
  | n, _ :: r => congrArg (· + 1) (enums_len (n + 1) r)
theorem enums_get : ∀ (n i : Nat) (xs : List D) (d : D), (enums n xs)[i]? = some d → ∃ x, xs[i]? = some x ∧ d = .tuple [.int ((n + i : Nat) : Int), x]
  | _, _, [], _, e => by simp [enums] at e
  | n, 0, x :: r, d, e => by
    simp [enums] at e
    exact ⟨x, rfl, e.symm⟩
  | n, i + 1, x :: r, d, e => by
    have e' : (enums (n + 1) r)[i]? = some d := by simpa [enums] using e
    obtain ⟨y, h1, h2⟩ := enums_get (n + 1) i r d e'
    refine ⟨y, by simpa using h1, ?_⟩
    rw [h2]
    have : n + 1 + i = n + (i + 1) := by omega
    rw [this]
theorem wk_enum {K : PySem.W.Frag} {a : Addr} {F : Hp} {vs : List V} {ds : List D} (h : SqL K F a vs) (d : DpAll K F vs ds) : Wk K W (Ite K a) F (enums 0 ds) where
  go := fun i F' H σ st R s hi => by
    rw [enums_len, ← DpAll.length d] at hi
    exact ⟨vs, vs[i], R.fh.seq (s.seq h), List.getElem?_eq_getElem hi⟩
  stop := fun i F' H σ st R s hi => ⟨vs, R.fh.seq (s.seq h), by rw [enums_len] at hi; rw [DpAll.length d]; exact hi⟩
  yld := fun i x F' H H' σ st R s y e he => by
    obtain ⟨T, w, rfl, hT, rfl, y⟩ := y
    obtain ⟨z, g1, rfl⟩ := enums_get 0 i ds e he
    obtain ⟨v, h1, h2⟩ := DpAll.get d g1
    have q := y vs (R.fh.seq (s.seq h))
    rw [h1] at q
    cases q
    have e5 : Same F' (upd F' T (.tup [.int (i : Nat), w])) := same_upd (R.fh.free hT)
    refine ⟨_, fun _ _ _ r => r.laid hT, e5, .tup (.inl (.inl upd_same)) (.cons ?_ (.cons (dpMono (s.trans e5) _ _ h2) .nil)), fun b u q => by rw [upd_ne (ne_of_none q hT)]; exact q⟩
    rw [Nat.zero_add]
    exact .int _
/-- the items of a list, a tuple or a text -/
def itemsD : D → Option (List D)
  | .list xs => some xs
  | .tuple xs => some xs
  | .str z => some (chars z)
  | _ => none
def iAny (f : ES) : AS := fun st => (f st).bind fun r => (itemsD r.1).map fun xs => (xs, r.2)
theorem pi_or {wi wi' : TI} (h : PI X tg iter wi) (h' : PI X tg iter wi') : PI X tg iter (fun σ H R => wi σ H R ∨ wi' σ H R) := ⟨fun pins s σ H R I q => by
  rcases q with q | q
  · exact h.run pins s σ H R I q
  · exact h'.run pins s σ H R I q⟩
theorem di_any {f : ES} (h : DE X W iter f) : DI X W tg iter (iAny f) := ⟨_, pi_or (pi_list h) (pi_or (pi_tup h) (pi_str h)), fun σ H R F st r Re e k => by
  unfold iAny at e
  obtain ⟨r1, e1, e⟩ := Option.bind_eq_some_iff.mp e
  obtain ⟨xs, e2, e⟩ := Option.map_eq_some_iff.mp e
  cases e
  obtain ⟨r1a, r1b⟩ := r1
  unfold itemsD at e2
  dsimp only at e2
  split at e2
  · cases e2
    refine .inl ⟨F, st, _, Re, e1, fun v F1 H1 R1 s1 d1 => ?_⟩
    obtain ⟨a, vs, rfl, h1, h2⟩ := dp_list d1
    exact ⟨a, rfl, ⟨vs, R1.fh.seq h1⟩, k _ F1 H1 R1 s1 (wk_list h1 h2)⟩
  · cases e2
    refine .inr (.inl ⟨F, st, _, Re, e1, fun v F1 H1 R1 s1 d1 => ?_⟩)
    obtain ⟨a, vs, rfl, h1, h2⟩ := dp_tup d1
    exact ⟨a, rfl, ⟨vs, sameT R1.fh h1⟩, k _ F1 H1 R1 s1 (wk_tup h1 h2)⟩
  · cases e2
    refine .inr (.inr ⟨F, st, _, Re, e1, fun v F1 H1 R1 s1 d1 => ?_⟩)
    rename_i z _
    rw [dp_str d1]
    exact ⟨z, rfl, k _ F1 H1 R1 s1 (wk_str z)⟩
  · cases e2⟩
def iRng (f : AS) : AS := fun st => (f st).bind fun r => match r.1 with
  | [.int j] => if -(2 ^ 62) ≤ j ∧ j < 2 ^ 62 then some (rints 0 j.toNat, r.2) else none
  | _ => none
theorem di_rng {a : Expr} {f : AS} {p : Pos} (hg : Gl X "range") (hm : X.mg "range" = none) (ha : DA X W [a] f) (hs : starEach [a] X.env = [(false, eval a X.env)] := by rfl) : DI X W tg (.Call (.Name "range" p) [a] [] pos) (iRng f) := ⟨_, pi_range1 hg hm ha hs, fun σ H R F st r Re e k => by
  unfold iRng at e
  obtain ⟨r1, e1, e⟩ := Option.bind_eq_some_iff.mp e
  refine ⟨F, st, r1, Re, e1, fun vs F1 H1 R1 s1 d1 => ?_⟩
  split at e
  · rename_i j hj
    split at e
    · rename_i hb
      cases e
      rw [hj] at d1
      obtain ⟨v, rfl, d⟩ := dpa1 d1
      rw [dp_int d]
      exact ⟨j, rfl, hb.1, hb.2, k _ F1 H1 R1 s1 (wk_rng 0 j.toNat)⟩
    · cases e
  · cases e⟩
def iEnu (f : AS) : AS := fun st => (f st).bind fun r => match r.1 with
  | [.list xs] => some (enums 0 xs, r.2)
  | _ => none
theorem di_enum {a : Expr} {f : AS} {p tpos : Pos} {elts : List Expr} {kk : Nat} (hg : Gl X "enumerate") (hm : X.mg "enumerate" = none) (ha : DA X W [a] f) (hs : starEach [a] X.env = [(false, eval a X.env)] := by rfl) : DI X W (.Tuple elts kk tpos) (.Call (.Name "enumerate" p) [a] [] pos) (iEnu f) := ⟨_, pi_enum hg hm ha hs, fun σ H R F st r Re e k => by
  unfold iEnu at e
  obtain ⟨r1, e1, e⟩ := Option.bind_eq_some_iff.mp e
  refine ⟨F, st, r1, Re, e1, fun vs F1 H1 R1 s1 d1 => ?_⟩
  split at e
  · rename_i xs hj
    cases e
    rw [hj] at d1
    obtain ⟨v, rfl, d⟩ := dpa1 d1
    obtain ⟨a, ws, rfl, h1, h2⟩ := dp_list d
    exact ⟨a, ws, rfl, R1.fh.seq h1, k _ F1 H1 R1 s1 (wk_enum h1 h2)⟩
  · cases e⟩
/-- for -/
def forS (t : GS) (body : SS) : List D → SS
  | [], st => some (.nx st)
  | x :: xs, st => (t x st).bind fun st1 => (body st1).bind fun o => match o with
    | .nx st' => forS t body xs st'
    | .ct st' => forS t body xs st'
    | .bk st' => some (.nx st')
    | o => some o
def sFor (t : GS) (it : AS) (body : SS) : SS := fun st => (it st).bind fun r => forS t body r.1 r.2
theorem ds_for {body : List Stmt} {it : AS} {g : SS} (hp : PassesOwn (model X.prog X.w) X.A X.env X.xe) (hc : X.calm = true) (hi : DI X W tg iter it) (hg : DG X W tg t) (hb : DSs X W body g) (hs : ∀ x, foldedSetIterable iter X.env x = pure x := by intro _; rfl) :
    DS X W (.For tg iter body [] pos) (sFor t it g) := by
  obtain ⟨wi, pi, ki⟩ := hi
  obtain ⟨gg, pg, kg⟩ := hg
  refine ps_imp (ps_for hp hc pi pg hb hs) fun D σ H ⟨F, st, o, R, e, k⟩ => ?_
  unfold sFor at e
  obtain ⟨r1, e1, e⟩ := Option.bind_eq_some_iff.mp e
  refine ki σ H _ F st r1 R e1 fun J F1 H1 R1 s1 wk => ?_
  refine ⟨fun i m σ H => m = r1.1.length - i ∧ i ≤ r1.1.length ∧ ∃ F st, Rel X.K W F H σ st ∧ Same F1 F ∧ forS t g (r1.1.drop i) st = some o, ⟨r1.1.length, by simp, Nat.zero_le _, F1, r1.2, R1, Same.refl _, e⟩, ?_⟩
  rintro i m σ2 H2 ⟨rfl, hi, F2, st2, R2, s2, e2⟩
  by_cases hlt : i < r1.1.length
  · rw [List.drop_eq_getElem_cons hlt] at e2
    obtain ⟨st3, e3, e2⟩ := Option.bind_eq_some_iff.mp e2
    obtain ⟨o3, e4, e2⟩ := Option.bind_eq_some_iff.mp e2
    refine .inr ⟨wk.go i F2 H2 σ2 st2 R2 s2 hlt, fun σ H => i + 1 ≤ r1.1.length ∧ ∃ F st, Rel X.K W F H σ st ∧ Same F1 F ∧ forS t g (r1.1.drop (i + 1)) st = some o, fun σ' H' ⟨q1, q2⟩ => ⟨r1.1.length - (i + 1), by omega, rfl, q1, q2⟩, fun x H3 y => ?_⟩
    obtain ⟨F3, up, s3, d3, _⟩ := wk.yld i x F2 H2 H3 σ2 st2 R2 s2 y _ (List.getElem?_eq_getElem hlt)
    refine kg F3 H3 σ2 st2 x _ st3 _ (up _ _ _ R2) d3 e3 fun σ4 F4 H4 R4 s4 => ?_
    refine ⟨F4, st3, o3, R4, e4, ?_⟩
    have s14 : Same F1 F4 := s2.trans (s3.trans s4)
    cases o3 with
    | nx st' => exact fun σ' F' H' R' s' => ⟨hlt, F', st', R', s14.trans s', e2⟩
    | ct st' => exact fun σ' F' H' R' s' => ⟨hlt, F', st', R', s14.trans s', e2⟩
    | bk st' =>
      cases e2
      exact fun σ' F' H' R' s' => k σ' F' H' R' (s1.trans (s14.trans s'))
    | rt x st' =>
      cases e2
      exact (k.mono (s1.trans s14) : EndsOk X.K W F4 D (.rt x st'))
    | ro xs st' =>
      cases e2
      exact (k.mono (s1.trans s14) : EndsOk X.K W F4 D (.ro xs st'))
  · have e5 : i = r1.1.length := by omega
    subst e5
    rw [List.drop_length] at e2
    cases e2
    exact .inl ⟨wk.stop _ F2 H2 σ2 st2 R2 s2 (Nat.le_refl _), k σ2 F2 H2 R2 (s1.trans s2)⟩
end
end DL

set_option Elab.async false
set_option linter.all false
set_option maxRecDepth 100000
set_option maxHeartbeats 4000000
namespace DL
open PySem PySem.Spec L2

/-! ### the entry moved -/
section
variable {K : PySem.W.Frag} {W : Wd} {F H : Hp} {σ : L2.St} {st : List Sl}
theorem Rel.h0 (R : Rel K W F H σ st) {b : Addr} (h : H b = none) : W.H0 b = none := by
  cases q : W.H0 b with
  | none => rfl
  | some u =>
    refine absurd (R.frm b u q fun i e => ?_) (by rw [h]; intro z; cases z)
    obtain ⟨⟨xs, h1⟩, h2⟩ := R.par i b e
    obtain ⟨a, vs, h3, h4, _⟩ := R.own i xs h1
    rw [h2] at h3
    cases h3
    rw [h] at h4
    cases h4
def ownAt (σ : L2.St) (st : List Sl) (i : Nat) : Option Addr := match st[i]?, σ[i]? with
  | some (.own _), some (some (.ref a)) => some a
  | _, _ => none
theorem ownAt_of {i : Nat} {a : Addr} (h : ownAt σ st i = some a) : (∃ xs, st[i]? = some (.own xs)) ∧ σ[i]? = some (some (.ref a)) := by
  unfold ownAt at h
  split at h
  · rename_i xs b h1 h2
    cases h
    exact ⟨⟨xs, h1⟩, h2⟩
  · cases h
theorem ownAt_is {i : Nat} {a : Addr} {xs : List D} (h1 : st[i]? = some (.own xs)) (h2 : σ[i]? = some (some (.ref a))) : ownAt σ st i = some a := by
  unfold ownAt
  rw [h1, h2]
def shift (F H : Hp) (σ : L2.St) (st : List Sl) : Wd := ⟨F, H, ownAt σ st⟩
theorem Rel.shift (R : Rel K W F H σ st) : Rel K (shift F H σ st) F H σ st :=
  ⟨R.fh, Same.refl _, fun b o e => .inl e, fun b o e _ => e, R.len, R.val, fun i xs e => by
    obtain ⟨a, vs, h1, h2, h3, h4, _⟩ := R.own i xs e
    exact ⟨a, vs, h1, h2, h3, h4, .inl (ownAt_is e h1)⟩, R.apart, fun i a e => ownAt_of e⟩
theorem Rel.back {F2 H2 : Hp} {st2 : List Sl} (R : Rel K W F H σ st) (R2 : Rel K (DL.shift F H σ st) F2 H2 σ st2) : Rel K W F2 H2 σ st2 := by
  have no : ∀ b o, W.H0 b = some o → (∀ i, W.P i ≠ some b) → ∀ i, ownAt σ st i ≠ some b := fun b o e f i z => by
    obtain ⟨⟨xs, h1⟩, h2⟩ := ownAt_of z
    obtain ⟨a, vs, h3, _, _, _, h4⟩ := R.own i xs h1
    rw [h2] at h3
    cases h3
    rcases h4 with h4 | h4
    · exact f i h4
    · rw [e] at h4; cases h4
  refine ⟨R2.fh, R.ff.trans R2.ff, fun b o e => ?_, fun b o e f => R2.frm b o (R.frm b o e f) (no b o e f), R2.len, R2.val, fun i xs e => ?_, R2.apart, fun i a e => ?_⟩
  · rcases R2.new b o e with h | h
    · exact R.new b o h
    · exact .inr (R.h0 h)
  · obtain ⟨a, vs, h1, h2, h3, h4, h5⟩ := R2.own i xs e
    refine ⟨a, vs, h1, h2, h3, h4, ?_⟩
    rcases h5 with h5 | h5
    · obtain ⟨⟨ys, g1⟩, g2⟩ := ownAt_of (show ownAt σ st i = some a from h5)
      obtain ⟨a', ws, g3, _, _, _, g4⟩ := R.own i ys g1
      rw [g2] at g3
      cases g3
      exact g4
    · exact .inr (R.h0 h5)
  · obtain ⟨⟨xs, h1⟩, h2⟩ := R.par i a e
    exact R2.par i a (ownAt_is h1 h2)
/-- what the shifted entry keeps -/
theorem Rel.kept {F2 H2 : Hp} {σ2 : L2.St} {st2 : List Sl} {b : Addr} {o : HO} (R2 : Rel K (DL.shift F H σ st) F2 H2 σ2 st2) (h : H b = some o) (hF : F b = none) (hno : ∀ (i : Nat) (xs : List D), st[i]? = some (.own xs) → σ[i]? ≠ some (some (.ref b))) : H2 b = some o ∧ F2 b = none := by
  refine ⟨R2.frm b o h fun i z => ?_, ?_⟩
  · obtain ⟨⟨xs, h1⟩, h2⟩ := ownAt_of (show ownAt σ st i = some b from z)
    exact hno i xs h1 h2
  · cases q : F2 b with
    | none => rfl
    | some u =>
      rcases R2.new b u q with z | z
      · have z' : F b = some u := z
        rw [hF] at z'; cases z'
      · have z' : H b = none := z
        rw [h] at z'; cases z'
end

/-! ### list comprehensions -/
def wipeD (st : List Sl) : List Nat → List Sl
  | [] => st
  | v :: vs => (wipeD st vs).set v .no
def notOwn (st : List Sl) (i : Nat) : Bool := match st[i]? with
  | some (.own _) => false
  | _ => true
/-- items, target's slot, test, element -/
def compS (i : Nat) (c : BS) (f : ES) : List D → OS
  | [], st => some ([], st)
  | x :: xs, st => (c (st.set i (.d x))).bind fun p => if p.1 then (f p.2).bind fun q => (compS i c f xs (q.2.set i .no)).map fun r => (q.1 :: r.1, r.2) else compS i c f xs (p.2.set i .no)
def oComp (i : Nat) (c : BS) (f : ES) (it : AS) : OS := fun st => (it st).bind fun r => if notOwn r.2 i && decide (r.1.length ≤ 1000000) then compS i c f r.1 (r.2.set i .no) else none
def bYes : BS := fun st => some (true, st)
section
variable {X : Cx} {W : Wd}
abbrev DTs (X : Cx) (W : Wd) (ifs : List Expr) (c : BS) : Prop := PTs X ifs (tT X.K W c)
theorem pts_imp {ifs : List Expr} {t t' : TT} (h : PTs X ifs t) (i : ∀ σ H Q, t' σ H Q → t σ H Q) : PTs X ifs t' := ⟨fun pins s σ H Q I q => h.run pins s σ H Q I (i σ H Q q)⟩
theorem dts_nil : DTs X W [] bYes := pts_imp pts_nil fun σ H Q ⟨F, st, r, R, e, k⟩ => by
  cases e
  exact k F H R (Same.refl _)
theorem dts_one {c' : Expr} {c : BS} (h : DT X W c' c) : DTs X W [c'] c := pts_one h
theorem compS_len {i : Nat} {c : BS} {f : ES} : ∀ {xs : List D} {st : List Sl} {r : List D × List Sl}, compS i c f xs st = some r → r.1.length ≤ xs.length
  | [], st, r, e => by cases e; exact Nat.le_refl _
  | x :: xs, st, r, e => by
    obtain ⟨p, e1, e⟩ := Option.bind_eq_some_iff.mp e
    split at e
    · obtain ⟨q, e2, e⟩ := Option.bind_eq_some_iff.mp e
      obtain ⟨r', e3, e⟩ := Option.map_eq_some_iff.mp e
      cases e
      exact Nat.succ_le_succ (compS_len e3)
    · exact Nat.le_succ_of_le (compS_len e)
theorem set_set {α : Type} (l : List α) (i : Nat) (a b : α) : (l.set i a).set i b = l.set i b := List.set_set ..
/-- slots that part in one place only -/
theorem Rel.other {K : PySem.W.Frag} {F H : Hp} {σ σ2 : L2.St} {st : List Sl} {i : Nat} (R : Rel K W F H σ2 st) (hP : W.P i = none) (e : σ2.set i none = σ.set i none) : Rel K W F H σ (st.set i .no) := by
  have R1 := R.forget (i := i) (u := none) hP
  rw [e] at R1
  have hl : σ.length = σ2.length := by have := congrArg List.length e; rw [List.length_set, List.length_set] at this; exact this.symm
  have at_ : ∀ (j : Nat) (s : Sl), s ≠ .no → (st.set i .no)[j]? = some s → j ≠ i := fun j s hs q hj => by
    subst hj
    by_cases hl : j < st.length
    · rw [List.getElem?_set_self hl] at q; exact hs (Option.some.inj q).symm
    · rw [List.getElem?_eq_none (by rw [List.length_set]; omega)] at q; cases q
  have up : ∀ (j : Nat), j ≠ i → (σ.set i none)[j]? = σ[j]? := fun j hj => List.getElem?_set_ne (Ne.symm hj)
  refine ⟨R1.fh, R1.ff, R1.new, R1.frm, by have := R1.len; rw [List.length_set] at this ⊢; rw [List.length_set] at this; exact this, fun j x q => ?_, fun j xs q => ?_, fun j k xs ys a hjk q1 q2 q3 => ?_, fun j a q => ?_⟩
  · obtain ⟨v, h1, h2⟩ := R1.val j x q
    rw [up j (at_ j _ (by intro z; cases z) q)] at h1
    exact ⟨v, h1, h2⟩
  · obtain ⟨a, vs, h1, h2⟩ := R1.own j xs q
    rw [up j (at_ j _ (by intro z; cases z) q)] at h1
    exact ⟨a, vs, h1, h2⟩
  · have hj := at_ j _ (by intro z; cases z) q1
    have hk := at_ k _ (by intro z; cases z) q2
    rw [← up j hj] at q3
    rw [← up k hk]
    exact R1.apart j k xs ys a hjk q1 q2 q3
  · obtain ⟨h1, h2⟩ := R1.par j a q
    have hj : j ≠ i := fun z => by rw [z, hP] at q; cases q
    rw [up j hj] at h2
    exact ⟨h1, h2⟩
theorem noP {K : PySem.W.Frag} {F H : Hp} {σ : L2.St} {st : List Sl} {i : Nat} (R : Rel K W F H σ st) (h : notOwn st i = true) : W.P i = none := by
  cases q : W.P i with
  | none => rfl
  | some a =>
    obtain ⟨⟨xs, h1⟩, _⟩ := R.par i a q
    unfold notOwn at h
    rw [h1] at h
    cases h
/-- an object that nothing leans on changes -/
theorem Rel.outside {K : PySem.W.Frag} {F H : Hp} {σ : L2.St} {st : List Sl} {a : Addr} {o : HO} (R : Rel K W F H σ st) (hF : F a = none) (h0 : W.H0 a = none) (hno : ∀ (j : Nat) (xs : List D), st[j]? = some (.own xs) → σ[j]? ≠ some (some (.ref a))) : Rel K W F (upd H a o) σ st := by
  refine ⟨fun b u e => ?_, R.ff, R.new, fun b u e f => ?_, R.len, R.val, fun j xs e => ?_, R.apart, R.par⟩
  · rw [upd_ne (ne_of_none e hF)]; exact R.fh b u e
  · rw [upd_ne (ne_of_none e h0)]; exact R.frm b u e f
  · obtain ⟨c, vs, h1, h2, h3⟩ := R.own j xs e
    refine ⟨c, vs, h1, ?_, h3⟩
    rw [upd_ne (fun z => hno j xs e (by rw [h1, z]))]
    exact h2
def tTx (K : PySem.W.Frag) (f : BS) : TT := fun σ H Q => ∃ W, tT K W f σ H Q
def tDx (K : PySem.W.Frag) (f : ES) : TE := fun σ H Q => ∃ W, tD K W f σ H Q
theorem lc_of {i : Nat} {wi : TI} {it : AS} {c : BS} {f : ES}
    (ki : ∀ (σ : L2.St) (H : Hp) (R : It → Hp → Prop) (F : Hp) (st : List Sl) (r : List D × List Sl), Rel X.K W F H σ st → it st = some r → (∀ J F' H', Rel X.K W F' H' σ r.2 → Same F F' → Wk X.K W J F' r.1 → R J H') → wi σ H R) :
    ∀ σ H Q, tO X.K W (oComp i c f it) σ H Q → tLc wi (gName i) (tTx X.K c) (tDx X.K f) [i] σ H Q := by
  intro σ H Q ⟨F, st, r, R, e, k⟩
  unfold oComp at e
  obtain ⟨r1, e1, e⟩ := Option.bind_eq_some_iff.mp e
  split at e
  · rename_i hchk
    obtain ⟨hno, hlen⟩ := Bool.and_eq_true_iff.mp hchk
    have hlen := of_decide_eq_true hlen
    refine ki σ H _ F st r1 R e1 fun J F1 H1 R1 s1 wk => ?_
    intro D hD
    have hP : W.P i = none := noP R1 hno
    have hw : wipe σ [i] = σ.set i none := rfl
    obtain ⟨⟨f1, f2, f3⟩, R1'⟩ := R1.fresh (o := .lst []) hD
    have own_i : ∀ (st : List Sl) (j : Nat) (xs : List DL.D), (st.set i .no)[j]? = some (.own xs) → j ≠ i ∧ st[j]? = some (.own xs) := fun st j xs q => by
      by_cases hj : j = i
      · subst hj
        by_cases hl : j < st.length
        · rw [List.getElem?_set_self hl] at q; cases q
        · rw [List.getElem?_eq_none (by rw [List.length_set]; omega)] at q; cases q
      · rw [List.getElem?_set_ne (Ne.symm hj)] at q; exact ⟨hj, q⟩
    refine ⟨fun n m H => m = r1.1.length - n ∧ n ≤ r1.1.length ∧ ∃ F st accV acc rest, Rel X.K W F H (σ.set i none) st ∧ st.set i .no = st ∧ Same F1 F ∧ H D = some (.lst accV) ∧ F D = none ∧
        (∀ (j : Nat) (xs : List DL.D), st[j]? = some (.own xs) → (σ.set i none)[j]? ≠ some (some (.ref D))) ∧ DpAll X.K F accV acc ∧ compS i c f (r1.1.drop n) st = some rest ∧ r = (acc ++ rest.1, rest.2) ∧ acc.length ≤ n,
      ⟨r1.1.length, by simp, Nat.zero_le _, F1, r1.2.set i .no, [], [], r, R1'.forget hP, set_set .., Same.refl _, upd_same, f1, fun j xs q => ?_, .nil, e, rfl, Nat.le_refl _⟩, ?_⟩
    · obtain ⟨hj, q⟩ := own_i _ j xs q
      rw [List.getElem?_set_ne (Ne.symm hj)]
      exact f3 j xs q
    · rintro n m H2 ⟨rfl, hn, F2, st2, accV, acc, rest, R2, hst, s2, hD2, hF2, hno2, dacc, ec, er, hacc⟩
      by_cases hlt : n < r1.1.length
      · rw [List.drop_eq_getElem_cons hlt] at ec
        obtain ⟨p, ec1, ec⟩ := Option.bind_eq_some_iff.mp ec
        refine .inr ⟨wk.go n F2 H2 _ st2 R2 s2 hlt, fun H => n + 1 ≤ r1.1.length ∧ ∃ F st accV acc rest, Rel X.K W F H (σ.set i none) st ∧ st.set i .no = st ∧ Same F1 F ∧ H D = some (.lst accV) ∧ F D = none ∧
          (∀ (j : Nat) (xs : List DL.D), st[j]? = some (.own xs) → (σ.set i none)[j]? ≠ some (some (.ref D))) ∧ DpAll X.K F accV acc ∧ compS i c f (r1.1.drop (n + 1)) st = some rest ∧ r = (acc ++ rest.1, rest.2) ∧ acc.length ≤ n + 1,
          fun H' ⟨q1, q2⟩ => ⟨r1.1.length - (n + 1), by omega, rfl, q1, q2⟩, fun x H3 y => ?_⟩
        obtain ⟨F3, up, s3, d3, _⟩ := wk.yld n x F2 H2 H3 _ st2 R2 s2 y _ (List.getElem?_eq_getElem hlt)
        have R3 := up _ _ _ R2.shift
        have hPs : (shift F2 H2 (σ.set i none) st2).P i = none := by
          show ownAt (σ.set i none) st2 i = none
          cases q : ownAt (σ.set i none) st2 i with
          | none => rfl
          | some a =>
            obtain ⟨⟨xs, h1⟩, _⟩ := ownAt_of q
            rw [← hst] at h1
            exact absurd rfl (own_i st2 i xs h1).1
        have R3' := R3.setD (v := x) hPs d3
        refine ⟨by show ((σ.set i none).set i (some x)).set i none = σ.set i none; exact (set_set ..).trans (set_set ..), shift F2 H2 (σ.set i none) st2, F3, _, p, R3', ec1, fun F4 H4 R4 s4 => ?_⟩
        have wipe2 : ((σ.set i none).set i (some x)).set i none = (σ.set i none).set i none := set_set ..
        -- behind a test or an element: back to the loop's own entry
        have again : ∀ {F5 H5 : Hp} {st5 : List Sl}, Rel X.K (shift F2 H2 (σ.set i none) st2) F5 H5 ((σ.set i none).set i (some x)) st5 → Rel X.K W F5 H5 (σ.set i none) (st5.set i .no) ∧ H5 D = some (.lst accV) ∧ F5 D = none ∧
            (∀ (j : Nat) (xs : List DL.D), (st5.set i .no)[j]? = some (.own xs) → (σ.set i none)[j]? ≠ some (some (.ref D))) := fun {F5 H5 st5} R5 => by
          have R6 := Rel.other R5 hPs wipe2
          obtain ⟨g1, g2⟩ := Rel.kept R5 hD2 hF2 hno2
          refine ⟨R2.back R6, g1, g2, fun j xs q z => ?_⟩
          obtain ⟨a, vs, h1, _, _, _, h5⟩ := R6.own j xs q
          rw [z] at h1
          cases h1
          rcases h5 with h5 | h5
          · obtain ⟨⟨ys, q1⟩, q2⟩ := ownAt_of (show ownAt (σ.set i none) st2 j = some D from h5)
            exact hno2 j ys q1 q2
          · have h5' : H2 D = none := h5
            rw [hD2] at h5'; cases h5'
        obtain ⟨b, p2⟩ := p
        cases b with
        | true =>
          obtain ⟨q, ec2, ec⟩ := Option.bind_eq_some_iff.mp ec
          obtain ⟨rest', ec3, ec⟩ := Option.map_eq_some_iff.mp ec
          cases ec
          refine ⟨shift F2 H2 (σ.set i none) st2, F4, p2, q, R4, ec2, fun y F5 H5 R5 s5 d5 => ?_⟩
          obtain ⟨R7, g1, g2, g3⟩ := again R5
          refine ⟨accV, g1, ?_, hlt, F5, q.2.set i .no, accV ++ [y], acc ++ [q.1], rest', R7.outside g2 f2 g3, set_set .., s2.trans (s3.trans (s4.trans s5)), upd_same, g2, g3, ?_, ec3, ?_, ?_⟩
          · rw [DpAll.length dacc]
            have : acc.length < 1000000 := by omega
            exact Nat.lt_trans this (by decide)
          · exact DpAll.append (dpAllMono (s3.trans (s4.trans s5)) _ _ dacc) (.cons d5 .nil)
          · rw [er, List.append_assoc]
            rfl
          · rw [List.length_append, List.length_singleton]
            omega
        | false =>
          obtain ⟨R7, g1, g2, g3⟩ := again R4
          exact ⟨hlt, F4, p2.set i .no, accV, acc, rest, R7, set_set .., s2.trans (s3.trans s4), g1, g2, g3, dpAllMono (s3.trans s4) _ _ dacc, ec, er, by omega⟩
      · have e5 : n = r1.1.length := by omega
        subst e5
        rw [List.drop_length] at ec
        cases ec
        subst er
        refine .inl ⟨wk.stop _ F2 H2 _ st2 R2 s2 (Nat.le_refl _), ?_⟩
        have R8 : Rel X.K W F2 H2 σ (st2.set i .no) := Rel.other R2 hP (set_set ..)
        rw [hst] at R8
        refine k D accV F2 H2 R8 (s1.trans s2) hD2 ⟨hF2, f2, fun j xs q => ?_⟩ (by rw [List.append_nil]; exact dacc)
        have hj := (own_i st2 j xs (by rw [hst]; exact q)).1
        have := hno2 j xs q
        rw [List.getElem?_set_ne (Ne.symm hj)] at this
        exact this
  · cases e
theorem do_lc (i : Nat) {x : Str} {own : List (Str × Nat)} {elt iter : Expr} {ifs : List Expr} {scope : Scope} {pos px : Pos} {it : AS} {c : BS} {f : ES} (hc : X.calm = true) (hN : X.N.Nodup) (hi : DI X W (.Name x px) iter it) (ok : BlkOk X.N X.env.scope scope own)
    (hg : ∀ (s : Shared) (H : Hp) (C : Addr) (cl : List (Str × Addr)) (fp : List Addr), PG (X.blk s H scope (compEnvC scope cl C X.env) fp) (.Name x px) (gName i))
    (ht : ∀ (W : Wd) (s : Shared) (H : Hp) (C : Addr) (cl : List (Str × Addr)) (fp : List Addr), DTs (X.blk s H scope (compEnvC scope cl C X.env) fp) W ifs c)
    (he : ∀ (W : Wd) (s : Shared) (H : Hp) (C : Addr) (cl : List (Str × Addr)) (fp : List Addr), DE (X.blk s H scope (compEnvC scope cl C X.env) fp) W elt f)
    (ho : own.map (·.2) = [i] := by rfl) (hs : ∀ x, foldedSetIterable iter X.env x = pure x := by intro _; rfl) : DO X W (.ListComp elt [⟨.Name x px, iter, ifs, 0⟩] scope pos) (oComp i c f it) := by
  obtain ⟨wi, pi, ki⟩ := hi
  refine pe_imp (pe_lc (tt := tTx X.K c) (te := tDx X.K f) hc hN pi ok hg (fun s H C cl fp => ⟨fun pins s' σ H' Q I ⟨W', q⟩ => (ht W' s H C cl fp).run pins s' σ H' Q I q⟩) (fun s H C cl fp => ⟨fun pins s' σ H' Q I ⟨W', q⟩ => (he W' s H C cl fp).run pins s' σ H' Q I q⟩) hs) ?_
  rw [ho]
  exact lc_of ki
theorem tO_of_fz {K : PySem.W.Frag} {o : OS} : ∀ σ H Q, tD K W (eFz o) σ H Q → tO K W o σ H Q := fun σ H Q ⟨F, st, z, R, e, k⟩ => by
  unfold eFz at e
  obtain ⟨r1, e1, e⟩ := Option.map_eq_some_iff.mp e
  cases e
  refine ⟨F, st, r1, R, e1, fun a vs F1 H1 R1 s1 ha fr d1 => ?_⟩
  have e1 : Same F1 (upd F1 a (.lst vs)) := same_upd fr.1
  exact k _ _ H1 (R1.freeze ha fr.1 fr.2.1 fr.2.2) (s1.trans e1) (.lst (.inl (.inl upd_same)) (dpAllMono e1 _ _ d1))
/-- name = [..] on one line, the name a local: it stands still from then on -/
theorem ds_setLc (j : Nat) (i : Nat) {x y : Str} {own : List (Str × Nat)} {elt iter : Expr} {ifs : List Expr} {scope : Scope} {pos spos px py : Pos} {it : AS} {c : BS} {f : ES} (hP : W.P j = none) (hc : X.calm = true) (hN : X.N.Nodup) (hi : DI X W (.Name x px) iter it) (ok : BlkOk X.N X.env.scope scope own)
    (hg : ∀ (s : Shared) (H : Hp) (C : Addr) (cl : List (Str × Addr)) (fp : List Addr), PG (X.blk s H scope (compEnvC scope cl C X.env) fp) (.Name x px) (gName i))
    (ht : ∀ (W : Wd) (s : Shared) (H : Hp) (C : Addr) (cl : List (Str × Addr)) (fp : List Addr), DTs (X.blk s H scope (compEnvC scope cl C X.env) fp) W ifs c)
    (he : ∀ (W : Wd) (s : Shared) (H : Hp) (C : Addr) (cl : List (Str × Addr)) (fp : List Addr), DE (X.blk s H scope (compEnvC scope cl C X.env) fp) W elt f)
    (hsw : swapsWith (.ListComp elt [⟨.Name x px, iter, ifs, 0⟩] scope pos) (some (.Name y py)) spos.line X.env = pure true) (hy : X.N[j]? = some y := by rfl) (hyl : X.env.scope.names.lookup y = some .local := by rfl)
    (ho : own.map (·.2) = [i] := by rfl) (hs : ∀ x, foldedSetIterable iter X.env x = pure x := by intro _; rfl) : DS X W (.Assign [.Name y py] (.ListComp elt [⟨.Name x px, iter, ifs, 0⟩] scope pos) spos) (sSet j (eFz (oComp i c f it))) := by
  obtain ⟨wi, pi, ki⟩ := hi
  refine ps_imp (ps_setLc (tt := tTx X.K c) (te := tDx X.K f) hc hN hy hyl hsw pi ok hg (fun s H C cl fp => ⟨fun pins s' σ H' Q I ⟨W', q⟩ => (ht W' s H C cl fp).run pins s' σ H' Q I q⟩) (fun s H C cl fp => ⟨fun pins s' σ H' Q I ⟨W', q⟩ => (he W' s H C cl fp).run pins s' σ H' Q I q⟩) hs) fun D σ H ⟨F, st, o, R, e, k⟩ => ?_
  rw [ho]
  unfold sSet at e
  obtain ⟨r1, e1, e⟩ := Option.map_eq_some_iff.mp e
  cases e
  exact lc_of ki σ H _ (tO_of_fz σ H _ ⟨F, st, r1, R, e1, fun v F1 H1 R1 s1 d1 => k _ F1 H1 (R1.setD hP d1) s1⟩)
end
end DL

set_option Elab.async false
set_option linter.all false
set_option maxRecDepth 100000
set_option maxHeartbeats 4000000
namespace DL
open PySem PySem.Spec L2
open PyProof.Rows (envOfC)

/-! ### what a def promises -/
inductive Res where
  | d (x : D)
  | o (xs : List D)
abbrev PF := List D → Option Res
/-- a def whose first parameter is a list that it may change -/
abbrev SF := List D → List D → Option (Res × List D)
def ResOk (K : PySem.W.Frag) (F' H' H : Hp) (v : V) : Res → Prop
  | .d x => Dp K F' v x
  | .o xs => ∃ a vs, v = .ref a ∧ H' a = some (.lst vs) ∧ F' a = none ∧ H a = none ∧ DpAll K F' vs xs
def spP (K : PySem.W.Frag) (n : Nat) (g : PF) : Sp := fun vs H Q _ => vs.length = n ∧ ∃ F ds r, Same F H ∧ DpAll K F vs ds ∧ g ds = some r ∧
  ∀ v F' H', Same F F' → Same F' H' → (∀ b o, F' b = some o → F b = some o ∨ H b = none) → Same H H' → ResOk K F' H' H v r → Q v H'
def spS (K : PySem.W.Frag) (n : Nat) (g : SF) : Sp := fun vs H Q _ => vs.length = n ∧ ∃ F a us ws s ds r, vs = .ref a :: us ∧ Same F H ∧ H a = some (.lst ws) ∧ F a = none ∧ DpAll K F ws s ∧ DpAll K F us ds ∧ g s ds = some r ∧
  ∀ v F' H' ws', Same F F' → Same F' H' → (∀ b o, F' b = some o → F b = some o ∨ H b = none) → (∀ b o, H b = some o → b ≠ a → H' b = some o) → H' a = some (.lst ws') → F' a = none → DpAll K F' ws' r.2 → ResOk K F' H' H v r.1 → Q v H'
def startD (m : Nat) (ds : List D) : List Sl := ds.map Sl.d ++ List.replicate (m - ds.length) .no
def outP : Out → Option Res
  | .nx _ => some (.d .none)
  | .rt x _ => some (.d x)
  | .ro xs _ => some (.o xs)
  | _ => none
def runP (m n : Nat) (g : SS) : PF := fun ds => if ds.length = n then (g (startD m ds)).bind outP else none
def own0 (st : List Sl) : Option (List D) := match st with
  | .own xs :: _ => some xs
  | _ => none
def outS : Out → Option (Res × List D)
  | .nx st => (own0 st).map fun s => (.d .none, s)
  | .rt x st => (own0 st).map fun s => (.d x, s)
  | .ro xs st => (own0 st).map fun s => (.o xs, s)
  | _ => none
def runS (m n : Nat) (g : SS) : SF := fun s ds => if ds.length + 1 = n then (g (.own s :: startD (m - 1) ds)).bind outS else none

section
variable {P : Program} {w : World} {K : PySem.W.Frag} {mg : Str → Option Value} {base : Heap} {x qual : Str} {st : Stmt} {f : Addr} {fd : FuncData} {N ps : List Str} {k : Nat} {g : SS}
theorem pre_le (S : FnScope N ps (defScope st)) : ps.length ≤ N.length := by
  have := congrArg List.length S.pre
  rw [List.length_take] at this
  omega
theorem start_len {vs : List V} (h : vs.length ≤ N.length) : (L2.start N vs).length = N.length := by
  unfold L2.start
  rw [List.length_append, List.length_map, List.length_replicate]
  omega
theorem startD_len {m : Nat} {ds : List D} (h : ds.length ≤ m) : (startD m ds).length = m := by
  unfold startD
  rw [List.length_append, List.length_map, List.length_replicate]
  omega
theorem start_at {vs : List V} {i : Nat} {v : V} (h : vs[i]? = some v) : (L2.start N vs)[i]? = some (some v) := by
  unfold L2.start
  rw [List.getElem?_append_left (by rw [List.length_map]; exact (List.getElem?_eq_some_iff.mp h).1), List.getElem?_map, h]
  rfl
theorem startD_at {m : Nat} {ds : List D} {i : Nat} {s : Sl} (h : (startD m ds)[i]? = some s) : s = .no ∨ ∃ x, ds[i]? = some x ∧ s = .d x := by
  unfold startD at h
  by_cases hi : i < ds.length
  · rw [List.getElem?_append_left (by rw [List.length_map]; exact hi), List.getElem?_map, List.getElem?_eq_getElem hi] at h
    cases h
    exact .inr ⟨_, List.getElem?_eq_getElem hi, rfl⟩
  · rw [List.getElem?_append_right (by rw [List.length_map]; omega), List.getElem?_replicate] at h
    split at h <;> cases h
    exact .inl rfl
theorem okP (F : Fun K x qual st f fd) (S : FnScope N ps (defScope st))
    (hb : ∀ (cdv : Value) (A : Around) (outer : List Env) (s : Shared) (H : Hp) (E : XK) (W : Wd), Room k (A.deeper (envOfC qual (defScope st) s.heap.objs.size f cdv)) → (∀ i, W.P i = none) →
      DSs (cxOf CX0 P w K mg base N qual (defScope st) f cdv A outer s H E).nox W (defBody st) g) : FnOk P w K mg base CX0 (k + 1) f fd ps (spP K ps.length (runP N.length ps.length g)) := by
  refine F.ok S (fun vs H Q E h => h.1) (fun cdv A outer s H vs Q E hr h => ?_)
  obtain ⟨hl, F0, ds, r, sm, dp, e, k'⟩ := h
  unfold runP at e
  split at e
  · rename_i hds
    obtain ⟨o, e1, e2⟩ := Option.bind_eq_some_iff.mp e
    refine ⟨_, hb cdv A outer s H E ⟨F0, H, fun _ => none⟩ hr (fun _ => rfl), F0, startD N.length ds, o, ?_, e1, ?_⟩
    · refine ⟨sm, Same.refl _, fun b o e => .inl e, fun b o e _ => e, ?_, fun i x q => ?_, fun i xs q => ?_, fun i j xs ys a _ q _ _ => ?_, fun i a q => by cases q⟩
      · rw [start_len (by rw [hl]; exact pre_le S), startD_len (by rw [hds]; exact pre_le S)]
      · rcases startD_at q with z | ⟨y, q1, z⟩
        · cases z
        · cases z
          obtain ⟨v, h1, h2⟩ := DpAll.get dp q1
          exact ⟨v, start_at h1, h2⟩
      · rcases startD_at q with z | ⟨y, q1, z⟩ <;> cases z
      · rcases startD_at q with z | ⟨y, q1, z⟩ <;> cases z
    · cases o with
      | nx st' =>
        cases e2
        exact fun σ' F' H' R' s' => k' .non F' H' s' R'.fh R'.new (fun b o e => R'.frm b o e fun i z => by cases z) .non
      | rt x st' =>
        cases e2
        exact fun v σ' F' H' R' s' d' => k' v F' H' s' R'.fh R'.new (fun b o e => R'.frm b o e fun i z => by cases z) d'
      | ro xs st' =>
        cases e2
        exact fun a vs' σ' F' H' R' s' h1 h2 h3 d' => k' (.ref a) F' H' s' R'.fh R'.new (fun b o e => R'.frm b o e fun i z => by cases z) ⟨a, vs', rfl, h1, h2, h3, d'⟩
      | bk st' => cases e2
      | ct st' => cases e2
  · cases e
theorem okS (F : Fun K x qual st f fd) (S : FnScope N ps (defScope st)) (hn : 0 < ps.length)
    (hb : ∀ (cdv : Value) (A : Around) (outer : List Env) (s : Shared) (H : Hp) (E : XK) (W : Wd), Room k (A.deeper (envOfC qual (defScope st) s.heap.objs.size f cdv)) → (∀ i, i ≠ 0 → W.P i = none) →
      DSs (cxOf CX0 P w K mg base N qual (defScope st) f cdv A outer s H E).nox W (defBody st) g) : FnOk P w K mg base CX0 (k + 1) f fd ps (spS K ps.length (runS N.length ps.length g)) := by
  refine F.ok S (fun vs H Q E h => h.1) (fun cdv A outer s H vs Q E hr h => ?_)
  obtain ⟨hl, F0, a, us, ws, sl, ds, r, rfl, sm, ha, hF, dw, dp, e, k'⟩ := h
  unfold runS at e
  split at e
  · rename_i hds
    obtain ⟨o, e1, e2⟩ := Option.bind_eq_some_iff.mp e
    have hus : us.length = ds.length := DpAll.length dp
    have hpl := pre_le S
    have up0 : ∀ {i : Nat} {s : Sl}, (Sl.own sl :: startD (N.length - 1) ds)[i]? = some s → (i = 0 ∧ s = .own sl) ∨ s = .no ∨ ∃ j x, i = j + 1 ∧ ds[j]? = some x ∧ s = .d x := fun {i s} q => by
      cases i with
      | zero => exact .inl ⟨rfl, by simpa using q.symm⟩
      | succ j =>
        rw [List.getElem?_cons_succ] at q
        rcases startD_at q with z | ⟨y, q1, z⟩
        · exact .inr (.inl z)
        · exact .inr (.inr ⟨j, y, rfl, q1, z⟩)
    refine ⟨_, hb cdv A outer s H E ⟨F0, H, fun i => if i = 0 then some a else none⟩ hr (fun i hi => if_neg hi), F0, .own sl :: startD (N.length - 1) ds, o, ?_, e1, ?_⟩
    · refine ⟨sm, Same.refl _, fun b o e => .inl e, fun b o e _ => e, ?_, fun i x q => ?_, fun i xs q => ?_, fun i j xs ys b hij q1 q2 _ => ?_, fun i b q => ?_⟩
      · rw [start_len (by rw [hl]; exact hpl), List.length_cons, startD_len (by omega)]
        omega
      · rcases up0 q with ⟨_, z⟩ | z | ⟨j, y, rfl, q1, z⟩
        · cases z
        · cases z
        · cases z
          obtain ⟨v, h1, h2⟩ := DpAll.get dp q1
          exact ⟨v, start_at (by rw [List.getElem?_cons_succ]; exact h1), h2⟩
      · rcases up0 q with ⟨rfl, z⟩ | z | ⟨j, y, rfl, q1, z⟩
        · cases z
          exact ⟨a, ws, start_at rfl, ha, hF, dw, .inl rfl⟩
        · cases z
        · cases z
      · rcases up0 q1 with ⟨rfl, z⟩ | z | ⟨_, y, _, _, z⟩
        · rcases up0 q2 with ⟨rfl, z'⟩ | z' | ⟨_, y, _, _, z'⟩
          · exact absurd rfl hij
          · cases z'
          · cases z'
        · cases z
        · cases z
      · have hi : i = 0 := by
          by_cases h : i = 0
          · exact h
          · have q' : (if i = 0 then some a else none) = some b := q
            rw [if_neg h] at q'; cases q'
        subst hi
        have q' : some a = some b := q
        cases q'
        exact ⟨⟨sl, rfl⟩, start_at rfl⟩
    · have fin : ∀ {σ' : L2.St} {F' H' : Hp} {st' : List Sl} {s' : List D}, Rel K ⟨F0, H, fun i => if i = 0 then some a else none⟩ F' H' σ' st' → own0 st' = some s' →
          (∀ b o, H b = some o → b ≠ a → H' b = some o) ∧ ∃ ws', H' a = some (.lst ws') ∧ F' a = none ∧ DpAll K F' ws' s' := fun {σ' F' H' st' s'} R' q => by
        refine ⟨fun b o e hb => R'.frm b o e fun i z => ?_, ?_⟩
        · have z' : (if i = 0 then some a else none) = some b := z
          by_cases h : i = 0
          · rw [if_pos h] at z'; cases z'; exact hb rfl
          · rw [if_neg h] at z'; cases z'
        · obtain ⟨⟨xs, h1⟩, h2⟩ := R'.par 0 a rfl
          have : xs = s' := by
            unfold own0 at q
            split at q
            · cases q
              rw [List.getElem?_cons_zero] at h1
              cases h1
              rfl
            · cases q
          subst this
          obtain ⟨b, vs', g1, g2, g3, g4, _⟩ := R'.own 0 xs h1
          rw [h2] at g1
          cases g1
          exact ⟨vs', g2, g3, g4⟩
      cases o with
      | nx st' =>
        obtain ⟨s', q1, q2⟩ := Option.map_eq_some_iff.mp e2
        cases q2
        exact fun σ' F' H' R' sF => by
          obtain ⟨h1, ws', h2, h3, h4⟩ := fin R' q1
          exact k' .non F' H' ws' sF R'.fh R'.new h1 h2 h3 h4 .non
      | rt x st' =>
        obtain ⟨s', q1, q2⟩ := Option.map_eq_some_iff.mp e2
        cases q2
        exact fun v σ' F' H' R' sF d' => by
          obtain ⟨h1, ws', h2, h3, h4⟩ := fin R' q1
          exact k' v F' H' ws' sF R'.fh R'.new h1 h2 h3 h4 d'
      | ro xs st' =>
        obtain ⟨s', q1, q2⟩ := Option.map_eq_some_iff.mp e2
        cases q2
        exact fun b vs' σ' F' H' R' sF g1 g2 g3 d' => by
          obtain ⟨h1, ws', h2, h3, h4⟩ := fin R' q1
          exact k' (.ref b) F' H' ws' sF R'.fh R'.new h1 h2 h3 h4 ⟨b, vs', rfl, g1, g2, g3, d'⟩
      | bk st' => cases e2
      | ct st' => cases e2
  · cases e
/-- no promise -/
theorem FnOk.nothing {ps : List Str} {j : Nat} {f : Addr} {fd : FuncData} : FnOk P w K mg base CX0 j f fd ps (spP K ps.length fun _ => none) :=
  ⟨fun vs H Q E h => h.1, fun A outer s H args us vs Q E _ _ _ _ h => by obtain ⟨_, _, _, _, _, _, e, _⟩ := h; cases e⟩
end

/-! ### calls -/
section
variable {X : Cx} {W : Wd} {k : Nat} {f : Addr} {fd : FuncData} {ps : List Str} {g : PF} {gs : SF} {x : Str} {p pos : Pos} {e : Expr} {es : List Expr} {u : AS}
def eCallP (g : PF) (u : AS) : ES := fun st => (u st).bind fun r => (g r.1).bind fun q => match q with
  | .d x => some (x, r.2)
  | .o _ => none
def oCallP (g : PF) (u : AS) : OS := fun st => (u st).bind fun r => (g r.1).bind fun q => match q with
  | .d _ => none
  | .o xs => some (xs, r.2)
theorem Rel.behind {K : PySem.W.Frag} {F H F' H' : Hp} {σ : L2.St} {st : List Sl} (R : Rel K W F H σ st) (s1 : Same F F') (s2 : Same F' H') (new : ∀ b o, F' b = some o → F b = some o ∨ H b = none) (s3 : Same H H') : Rel K W F' H' σ st := by
  refine ⟨s2, R.ff.trans s1, fun b o e => ?_, fun b o e h => s3 b o (R.frm b o e h), R.len, fun i x e => ?_, fun i xs e => ?_, R.apart, R.par⟩
  · rcases new b o e with h | h
    · exact R.new b o h
    · exact .inr (R.h0 h)
  · obtain ⟨v, h1, h2⟩ := R.val i x e
    exact ⟨v, h1, dpMono s1 _ _ h2⟩
  · obtain ⟨a, vs, h1, h2, h3, h4, h5⟩ := R.own i xs e
    refine ⟨a, vs, h1, s3 _ _ h2, ?_, dpAllMono s1 _ _ h4, h5⟩
    cases q : F' a with
    | none => rfl
    | some o =>
      rcases new a o q with h | h
      · rw [h3] at h; cases h
      · rw [h2] at h; cases h
theorem fresh_of {K : PySem.W.Frag} {F H F' H' : Hp} {σ : L2.St} {st : List Sl} {a : Addr} (R : Rel K W F H σ st) (hF : F' a = none) (hH : H a = none) : Fresh W F' H' σ st a := by
  refine ⟨hF, R.h0 hH, fun i xs e z => ?_⟩
  obtain ⟨b, vs, h1, h2, _⟩ := R.own i xs e
  rw [z] at h1
  cases h1
  rw [hH] at h2
  cases h2
theorem spP_d {K : PySem.W.Frag} {n : Nat} {F1 H1 : Hp} {σ : L2.St} {st : List Sl} {vs : List V} {ds : List D} {y : D} {Q : VK} (hn : ds.length = n) (R1 : Rel K W F1 H1 σ st) (d1 : DpAll K F1 vs ds) (e : g ds = some (.d y))
    (k : ∀ v F' H', Rel K W F' H' σ st → Same F1 F' → Dp K F' v y → Q v H') : spP K n g (vs ++ []) H1 Q E0 := by
  rw [List.append_nil]
  refine ⟨by rw [DpAll.length d1]; exact hn, F1, ds, .d y, R1.fh, d1, e, fun v F' H' s1 s2 new s3 r => k v F' H' (R1.behind s1 s2 new s3) s1 r⟩
theorem spP_o {K : PySem.W.Frag} {n : Nat} {F1 H1 : Hp} {σ : L2.St} {st : List Sl} {vs : List V} {ds : List D} {ys : List D} {Q : VK} (hn : ds.length = n) (R1 : Rel K W F1 H1 σ st) (d1 : DpAll K F1 vs ds) (e : g ds = some (.o ys))
    (k : ∀ a vs F' H', Rel K W F' H' σ st → Same F1 F' → H' a = some (.lst vs) → Fresh W F' H' σ st a → DpAll K F' vs ys → Q (.ref a) H') : spP K n g (vs ++ []) H1 Q E0 := by
  rw [List.append_nil]
  refine ⟨by rw [DpAll.length d1]; exact hn, F1, ds, .o ys, R1.fh, d1, e, fun v F' H' s1 s2 new s3 r => ?_⟩
  obtain ⟨a, vs', rfl, h1, h2, h3, h4⟩ := r
  exact k a vs' F' H' (R1.behind s1 s2 new s3) s1 h1 (fresh_of R1 h2 h3) h4
/-- the def is a function of so many arguments -/
def Ar (n : Nat) (g : PF) : Prop := ∀ ds r, g ds = some r → ds.length = n
theorem ar_run {m n : Nat} {b : SS} : Ar n (runP m n b) := fun ds r e => by
  unfold runP at e
  split at e
  · assumption
  · cases e
theorem ar_none {n : Nat} : Ar n (fun _ => none) := fun ds r e => by cases e
theorem de_call (F : FnOk X.prog X.w X.K X.mg X.base CX0 k f fd ps (spP X.K ps.length g)) (hr : Room k X.A) (hm : X.mg x = some (.ref f)) (hk : PySem.W.keepIn X.K (.ref f) = true) (hb : Binds X.K fd ps []) (ar : Ar ps.length g) (ha : DA X W (e :: es) u) (hg : Gl X x := by rfl)
    (hdb : (x == ("__debug__" : Str)) = false := by decide) (he : starEach (e :: es) X.env = (false, eval e X.env) :: starEach es X.env := by rfl) (hpl : (backTo pos (starEach es X.env)).any (·.1) = false := by rfl) :
    DE X W (.Call (.Name x p) (e :: es) [] pos) (eCallP g u) := pe_imp (pe_call F hr hg hm hk hb .nil pass0 ha hdb he hpl) fun σ H Q ⟨F, st, z, R, e, k⟩ => by
  unfold eCallP at e
  obtain ⟨r1, e1, e⟩ := Option.bind_eq_some_iff.mp e
  obtain ⟨q, e2, e⟩ := Option.bind_eq_some_iff.mp e
  refine ⟨F, st, r1, R, e1, fun vs F1 H1 R1 s1 d1 => ?_⟩
  cases q with
  | d y =>
    cases e
    exact spP_d (ar _ _ e2) R1 d1 e2 fun v F' H' R' s' => k v F' H' R' (s1.trans s')
  | o ys => cases e
theorem do_call (F : FnOk X.prog X.w X.K X.mg X.base CX0 k f fd ps (spP X.K ps.length g)) (hr : Room k X.A) (hm : X.mg x = some (.ref f)) (hk : PySem.W.keepIn X.K (.ref f) = true) (hb : Binds X.K fd ps []) (ar : Ar ps.length g) (ha : DA X W (e :: es) u) (hg : Gl X x := by rfl)
    (hdb : (x == ("__debug__" : Str)) = false := by decide) (he : starEach (e :: es) X.env = (false, eval e X.env) :: starEach es X.env := by rfl) (hpl : (backTo pos (starEach es X.env)).any (·.1) = false := by rfl) :
    DO X W (.Call (.Name x p) (e :: es) [] pos) (oCallP g u) := pe_imp (pe_call F hr hg hm hk hb .nil pass0 ha hdb he hpl) fun σ H Q ⟨F, st, z, R, e, k⟩ => by
  unfold oCallP at e
  obtain ⟨r1, e1, e⟩ := Option.bind_eq_some_iff.mp e
  obtain ⟨q, e2, e⟩ := Option.bind_eq_some_iff.mp e
  refine ⟨F, st, r1, R, e1, fun vs F1 H1 R1 s1 d1 => ?_⟩
  cases q with
  | d y => cases e
  | o ys =>
    cases e
    exact spP_o (ar _ _ e2) R1 d1 e2 fun a vs F' H' R' s' => k a vs F' H' R' (s1.trans s')
theorem de_call0 (F : FnOk X.prog X.w X.K X.mg X.base CX0 k f fd ps (spP X.K ps.length g)) (hr : Room k X.A) (hm : X.mg x = some (.ref f)) (hk : PySem.W.keepIn X.K (.ref f) = true) (hb : Binds X.K fd ps []) (ar : Ar ps.length g) (hg : Gl X x := by rfl)
    (hdb : (x == ("__debug__" : Str)) = false := by decide) : DE X W (.Call (.Name x p) [] [] pos) (eCallP g aNil) := pe_imp (pe_call0 F hr hg hm hk hb .nil pass0 hdb) fun σ H Q ⟨F, st, z, R, e, k⟩ => by
  unfold eCallP at e
  obtain ⟨r1, e1, e⟩ := Option.bind_eq_some_iff.mp e
  obtain ⟨q, e2, e⟩ := Option.bind_eq_some_iff.mp e
  cases e1
  cases q with
  | d y =>
    cases e
    exact spP_d (vs := []) (ar _ _ e2) R .nil e2 fun v F' H' R' s' => k v F' H' R' s'
  | o ys => cases e
theorem do_call0 (F : FnOk X.prog X.w X.K X.mg X.base CX0 k f fd ps (spP X.K ps.length g)) (hr : Room k X.A) (hm : X.mg x = some (.ref f)) (hk : PySem.W.keepIn X.K (.ref f) = true) (hb : Binds X.K fd ps []) (ar : Ar ps.length g) (hg : Gl X x := by rfl)
    (hdb : (x == ("__debug__" : Str)) = false := by decide) : DO X W (.Call (.Name x p) [] [] pos) (oCallP g aNil) := pe_imp (pe_call0 F hr hg hm hk hb .nil pass0 hdb) fun σ H Q ⟨F, st, z, R, e, k⟩ => by
  unfold oCallP at e
  obtain ⟨r1, e1, e⟩ := Option.bind_eq_some_iff.mp e
  obtain ⟨q, e2, e⟩ := Option.bind_eq_some_iff.mp e
  cases e1
  cases q with
  | d y => cases e
  | o ys =>
    cases e
    exact spP_o (vs := []) (ar _ _ e2) R .nil e2 fun a vs F' H' R' s' => k a vs F' H' R' s'
/-! a call with a list that may change ahead -/
def callS (gs : SF) (i : Nat) (u : AS) : List Sl → Option (Res × List Sl) := fun st => match st[i]? with
  | some (.own _) => (u st).bind fun r => match r.2[i]? with
    | some (.own s) => (gs s r.1).map fun q => (q.1, r.2.set i (.own q.2))
    | _ => none
  | _ => none
def eCallS (gs : SF) (i : Nat) (u : AS) : ES := fun st => (callS gs i u st).bind fun q => match q.1 with
  | .d x => some (x, q.2)
  | .o _ => none
def oCallS (gs : SF) (i : Nat) (u : AS) : OS := fun st => (callS gs i u st).bind fun q => match q.1 with
  | .d _ => none
  | .o xs => some (xs, q.2)
def ArS (n : Nat) (g : SF) : Prop := ∀ s ds r, g s ds = some r → ds.length + 1 = n
theorem ars_run {m n : Nat} {b : SS} : ArS n (runS m n b) := fun s ds r e => by
  unfold runS at e
  split at e
  · assumption
  · cases e
/-- behind a call that changes the list of slot i -/
theorem Rel.behindS {K : PySem.W.Frag} {F H F' H' : Hp} {σ : L2.St} {st : List Sl} {i : Nat} {a : Addr} {s s' : List D} {ws' : List V} (R : Rel K W F H σ st) (hi : st[i]? = some (.own s)) (ha : σ[i]? = some (some (.ref a))) (s1 : Same F F') (s2 : Same F' H')
    (new : ∀ b o, F' b = some o → F b = some o ∨ H b = none) (keep : ∀ b o, H b = some o → b ≠ a → H' b = some o) (h1 : H' a = some (.lst ws')) (h2 : F' a = none) (h3 : DpAll K F' ws' s') : Rel K W F' H' σ (st.set i (.own s')) := by
  obtain ⟨c, vs, g1, g2, g3, g4, g5⟩ := R.own i s hi
  rw [ha] at g1
  cases g1
  have hil : i < st.length := (List.getElem?_eq_some_iff.mp hi).1
  have sw : ∀ (j : Nat) (zs : List D), (st.set i (.own s'))[j]? = some (.own zs) → ∃ zs', st[j]? = some (.own zs') := fun j zs q => by
    by_cases hj : j = i
    · subst hj; exact ⟨s, hi⟩
    · rw [List.getElem?_set_ne (Ne.symm hj)] at q; exact ⟨zs, q⟩
  refine ⟨s2, R.ff.trans s1, fun b o e => ?_, fun b o e h => ?_, by rw [List.length_set]; exact R.len, fun j x q => ?_, fun j zs q => ?_, fun j k zs zs' b hjk q1 q2 => ?_, fun j b q => ?_⟩
  · rcases new b o e with h | h
    · exact R.new b o h
    · exact .inr (R.h0 h)
  · refine keep b o (R.frm b o e h) fun z => ?_
    subst z
    rcases g5 with g5 | g5
    · exact h i g5
    · rw [e] at g5; cases g5
  · by_cases hj : j = i
    · subst hj; rw [List.getElem?_set_self hil] at q; cases q
    · rw [List.getElem?_set_ne (Ne.symm hj)] at q
      obtain ⟨v, h4, h5⟩ := R.val j x q
      exact ⟨v, h4, dpMono s1 _ _ h5⟩
  · by_cases hj : j = i
    · subst hj
      rw [List.getElem?_set_self hil] at q
      cases q
      exact ⟨a, ws', ha, h1, h2, h3, g5⟩
    · rw [List.getElem?_set_ne (Ne.symm hj)] at q
      obtain ⟨c, vs', q1, q2, q3, q4, q5⟩ := R.own j zs q
      have hca : c ≠ a := fun z => by subst z; exact R.apart j i zs s c hj q hi q1 ha
      refine ⟨c, vs', q1, keep c _ q2 hca, ?_, dpAllMono s1 _ _ q4, q5⟩
      cases z : F' c with
      | none => rfl
      | some o =>
        rcases new c o z with h | h
        · rw [q3] at h; cases h
        · rw [q2] at h; cases h
  · obtain ⟨w1, q1'⟩ := sw j zs q1
    obtain ⟨w2, q2'⟩ := sw k zs' q2
    exact R.apart j k w1 w2 b hjk q1' q2'
  · obtain ⟨⟨zs, q1⟩, q2⟩ := R.par j b q
    refine ⟨?_, q2⟩
    by_cases hj : j = i
    · subst hj; exact ⟨s', by rw [List.getElem?_set_self hil]⟩
    · exact ⟨zs, by rw [List.getElem?_set_ne (Ne.symm hj)]; exact q1⟩
theorem callS_of {n i : Nat} {σ : L2.St} {H : Hp} {Q : VK} {F : Hp} {st : List Sl} {z : Res × List Sl} (ar : ArS n gs) (R : Rel X.K W F H σ st) (e : callS gs i u st = some z)
    (k : ∀ v F' H', Rel X.K W F' H' σ z.2 → Same F F' → (match z.1 with
      | .d x => Dp X.K F' v x
      | .o xs => ∃ a vs, v = .ref a ∧ H' a = some (.lst vs) ∧ Fresh W F' H' σ z.2 a ∧ DpAll X.K F' vs xs) → Q v H') : tCall (spS X.K n gs) [] E0 (tCons (tVar i) (tA X.K W u)) σ H Q := by
  unfold callS at e
  split at e
  · rename_i ys hy
    obtain ⟨a, vs, h1, h2, _⟩ := R.own i ys hy
    obtain ⟨r1, e1, e⟩ := Option.bind_eq_some_iff.mp e
    refine ⟨_, h1, F, st, r1, R, e1, fun us F1 H1 R1 s1 d1 => ?_⟩
    split at e
    · rename_i s hs
      obtain ⟨q, e2, e⟩ := Option.map_eq_some_iff.mp e
      cases e
      obtain ⟨a', ws, g1, g2, g3, g4, g5⟩ := R1.own i s hs
      rw [h1] at g1
      cases g1
      rw [List.append_nil]
      refine ⟨by rw [List.length_cons, DpAll.length d1]; exact ar _ _ _ e2, F1, a, us, ws, s, r1.1, q, rfl, R1.fh, g2, g3, g4, d1, e2, fun v F' H' ws' t1 t2 new keep j1 j2 j3 res => ?_⟩
      have R2 := R1.behindS hs h1 t1 t2 new keep j1 j2 j3
      refine k v F' H' R2 (s1.trans t1) ?_
      obtain ⟨qa, qb⟩ := q
      cases qa with
      | d x => exact res
      | o xs =>
        obtain ⟨b, vs', rfl, i1, i2, i3, i4⟩ := res
        refine ⟨b, vs', rfl, i1, ⟨i2, R1.h0 i3, fun j zs q z => ?_⟩, i4⟩
        obtain ⟨c, vs'', m1, m2, _⟩ := R2.own j zs q
        rw [z] at m1
        cases m1
        by_cases hj : j = i
        · subst hj
          rw [h1] at z
          cases z
          rw [g2] at i3; cases i3
        · rw [List.getElem?_set_ne (Ne.symm hj)] at q
          obtain ⟨c', _, m1', m2', _⟩ := R1.own j zs q
          rw [z] at m1'
          cases m1'
          rw [i3] at m2'; cases m2'
    · cases e
  · cases e
theorem de_callS (i : Nat) {y : Str} {py : Pos} (F : FnOk X.prog X.w X.K X.mg X.base CX0 k f fd ps (spS X.K ps.length gs)) (hr : Room k X.A) (hm : X.mg x = some (.ref f)) (hk : PySem.W.keepIn X.K (.ref f) = true) (hb : Binds X.K fd ps []) (ar : ArS ps.length gs) (ha : DA X W es u) (hg : Gl X x := by rfl)
    (hN : X.N[i]? = some y := by rfl) (hv : Vis X.env.scope y := by first | exact Or.inl rfl | exact Or.inr (Or.inl rfl) | exact Or.inr (Or.inr rfl)) (hd : (y == ("__debug__" : Str)) = false := by decide)
    (hcd : (y == ("__classdict__" : Str)) = false := by decide)
    (hdb : (x == ("__debug__" : Str)) = false := by decide) (he : starEach (.Name y py :: es) X.env = (false, eval (.Name y py) X.env) :: starEach es X.env := by rfl) (hpl : (backTo pos (starEach es X.env)).any (·.1) = false := by rfl) :
    DE X W (.Call (.Name x p) (.Name y py :: es) [] pos) (eCallS gs i u) := pe_imp (pe_call F hr hg hm hk hb .nil pass0 (pa_cons (pe_var (i := i) hN hv hd hcd) ha he) hdb he hpl) fun σ H Q ⟨F, st, z, R, e, k⟩ => by
  unfold eCallS at e
  obtain ⟨q, e1, e⟩ := Option.bind_eq_some_iff.mp e
  obtain ⟨qa, qb⟩ := q
  cases qa with
  | d y =>
    cases e
    exact callS_of ar R e1 fun v F' H' R' s' d' => k v F' H' R' s' d'
  | o ys => cases e
theorem do_callS (i : Nat) {y : Str} {py : Pos} (F : FnOk X.prog X.w X.K X.mg X.base CX0 k f fd ps (spS X.K ps.length gs)) (hr : Room k X.A) (hm : X.mg x = some (.ref f)) (hk : PySem.W.keepIn X.K (.ref f) = true) (hb : Binds X.K fd ps []) (ar : ArS ps.length gs) (ha : DA X W es u) (hg : Gl X x := by rfl)
    (hN : X.N[i]? = some y := by rfl) (hv : Vis X.env.scope y := by first | exact Or.inl rfl | exact Or.inr (Or.inl rfl) | exact Or.inr (Or.inr rfl)) (hd : (y == ("__debug__" : Str)) = false := by decide)
    (hcd : (y == ("__classdict__" : Str)) = false := by decide)
    (hdb : (x == ("__debug__" : Str)) = false := by decide) (he : starEach (.Name y py :: es) X.env = (false, eval (.Name y py) X.env) :: starEach es X.env := by rfl) (hpl : (backTo pos (starEach es X.env)).any (·.1) = false := by rfl) :
    DO X W (.Call (.Name x p) (.Name y py :: es) [] pos) (oCallS gs i u) := pe_imp (pe_call F hr hg hm hk hb .nil pass0 (pa_cons (pe_var (i := i) hN hv hd hcd) ha he) hdb he hpl) fun σ H Q ⟨F, st, z, R, e, k⟩ => by
  unfold oCallS at e
  obtain ⟨q, e1, e⟩ := Option.bind_eq_some_iff.mp e
  obtain ⟨qa, qb⟩ := q
  cases qa with
  | d y => cases e
  | o ys =>
    cases e
    exact callS_of ar R e1 fun v F' H' R' s' d' => by
      obtain ⟨a, vs, rfl, h1, h2, h3⟩ := d'
      exact k a vs F' H' R' s' h1 h2 h3
/-! a call that is handed a list of one's own for a look, and gives a plain value -/
def eCallB (g : PF) (i : Nat) (u : AS) : ES := fun st => match st[i]? with
  | some (.own _) => (u st).bind fun r => match r.2[i]? with
    | some (.own xs) => (g (.list xs :: r.1)).bind fun q => match q with
      | .d x => if (scV x).isSome then some (x, r.2) else none
      | .o _ => none
    | _ => none
  | _ => none
theorem dp_flat {K : PySem.W.Frag} {F F' : Hp} {v : V} {x : D} (h : Dp K F v x) (e : (scV x).isSome = true) : Dp K F' v x := by
  cases h with
  | non => exact .non
  | bl b => exact .bl b
  | int i => exact .int i
  | str z => exact .str z
  | lst _ _ => cases e
  | tup _ _ => cases e
theorem de_callB1 (i : Nat) {y : Str} {py : Pos} (F : FnOk X.prog X.w X.K X.mg X.base CX0 k f fd ps (spP X.K ps.length g)) (hr : Room k X.A) (hm : X.mg x = some (.ref f)) (hk : PySem.W.keepIn X.K (.ref f) = true) (hb : Binds X.K fd ps []) (ar : Ar ps.length g) (ha : DA X W es u) (hg : Gl X x := by rfl)
    (hN : X.N[i]? = some y := by rfl) (hv : Vis X.env.scope y := by first | exact Or.inl rfl | exact Or.inr (Or.inl rfl) | exact Or.inr (Or.inr rfl)) (hd : (y == ("__debug__" : Str)) = false := by decide)
    (hcd : (y == ("__classdict__" : Str)) = false := by decide)
    (hdb : (x == ("__debug__" : Str)) = false := by decide) (he : starEach (.Name y py :: es) X.env = (false, eval (.Name y py) X.env) :: starEach es X.env := by rfl) (hpl : (backTo pos (starEach es X.env)).any (·.1) = false := by rfl) :
    DE X W (.Call (.Name x p) (.Name y py :: es) [] pos) (eCallB g i u) := pe_imp (pe_call F hr hg hm hk hb .nil pass0 (pa_cons (pe_var (i := i) hN hv hd hcd) ha he) hdb he hpl) fun σ H Q ⟨F, st, z, R, e, k⟩ => by
  unfold eCallB at e
  split at e
  · rename_i ys hy
    obtain ⟨a, vs, h1, h2, _⟩ := R.own i ys hy
    obtain ⟨r1, e1, e⟩ := Option.bind_eq_some_iff.mp e
    refine ⟨_, h1, F, st, r1, R, e1, fun us F1 H1 R1 s1 d1 => ?_⟩
    split at e
    · rename_i xs hs
      obtain ⟨q, e2, e⟩ := Option.bind_eq_some_iff.mp e
      obtain ⟨a', ws, g1, g2, g3, g4, g5⟩ := R1.own i xs hs
      rw [h1] at g1
      cases g1
      obtain ⟨F2, t1, t2, d2⟩ := R1.moment g2 g4
      cases q with
      | d x' =>
        dsimp only at e
        split at e
        · rename_i hsc
          cases e
          rw [List.append_nil]
          have hl := ar _ _ e2
          refine ⟨by rw [List.length_cons, DpAll.length d1]; exact hl, F2, .list xs :: r1.1, _, t2, .cons d2 (dpAllMono t1 _ _ d1), e2, fun v F' H' u1 u2 new u3 res => ?_⟩
          exact k v F1 H' (R1.behind (Same.refl _) (R1.fh.trans u3) (fun b o e => .inl e) u3) s1 (dp_flat res hsc)
        · cases e
      | o _ => cases e
    · cases e
  · cases e
end
end DL

set_option Elab.async false
set_option linter.all false
set_option maxRecDepth 100000
set_option maxHeartbeats 4000000
namespace DL
open PySem PySem.Spec L2

/-- a written text's codes -/
def cs (s : String) : List Nat := s.toList.map Char.toNat
theorem de_cs {X : Cx} {W : Wd} {s : String} {j pos} : DE X W (.Constant (.str (Str.ofString s)) j pos) (eK (ds (cs s))) := de_str (Str.ofString_eq_toList s)
/-- a name of the module that stands for data -/
def GlobK (K : PySem.W.Frag) (mg : Str → Option Value) (x : Str) (d : D) : Prop := ∃ v u, mg x = some u ∧ RelV v u ∧ Dp K (fun _ => none) v d
theorem de_g {X : Cx} {W : Wd} {x : Str} {d : D} {pos : Pos} (h : GlobK X.K X.mg x d) (hg : Gl X x := by rfl) (hd : (x == ("__debug__" : Str)) = false := by decide) : DE X W (.Name x pos) (eK d) := by
  obtain ⟨v, u, h1, h2, h3⟩ := h
  exact de_c (pe_glob hg h1 h2 hd) h3
/-- a written dict with text keys and ints -/
def TabK (w : World) (K : PySem.W.Frag) (mg : Str → Option Value) (x : Str) (kvs : List (List Nat × Int)) : Prop := ∃ a, mg x = some (.ref a) ∧ ∀ k i, kvs.lookup k = some i → KDct K w a ⟨k.toArray⟩ (.int i)
def dTab (kvs : List (List Nat × Int)) : D → Option D
  | .str z => (kvs.lookup (codes z)).map PyData.int
  | _ => none
theorem de_tab {X : Cx} {W : Wd} {x : Str} {kvs : List (List Nat × Int)} {b : Expr} {f : ES} {pos px : Pos} (h : TabK X.w X.K X.mg x kvs) (hb : DE X W b f) (hg : Gl X x := by rfl) (hd : (x == ("__debug__" : Str)) = false := by decide) (hp : PlainIx b := by exact fun _ _ => rfl) :
    DE X W (.Subscript (.Name x px) b pos) (eUn (dTab kvs) f) := by
  obtain ⟨a, h1, h2⟩ := h
  refine pe_imp (pe_ix ix_kdict (pe_glob (v := .ref a) hg h1 rfl hd) hb hp) fun σ H Q ⟨F, st, z, R, e, k⟩ => ?_
  unfold eUn at e
  obtain ⟨r1, e1, e⟩ := Option.bind_eq_some_iff.mp e
  obtain ⟨c, e2, e⟩ := Option.map_eq_some_iff.mp e
  cases e
  refine ⟨F, st, r1, R, e1, fun y F1 H1 R1 s1 d1 => ?_⟩
  unfold dTab at e2
  split at e2
  · rename_i zz hz
    obtain ⟨i, e3, rfl⟩ := Option.map_eq_some_iff.mp e2
    rw [hz] at d1
    exact ⟨a, zz, .int i, rfl, dp_str d1, h2 _ _ e3, k _ F1 H1 R1 s1 (.int i)⟩
  · cases e2
/-- a def of the text as it stands behind the top -/
structure Dfn (K : PySem.W.Frag) (mg : Str → Option Value) (x : Str) (st : Stmt) (ps : List Str) (f : Addr) (fd : FuncData) : Prop where
  F : Fun K x x st f fd
  m : mg x = some (.ref f)
  b : Binds K fd ps []
theorem bb_len : bootBuiltins "len" = some (.builtin "len") := by decide +kernel
theorem bb_abs : bootBuiltins "abs" = some (.builtin "abs") := by decide +kernel
theorem bb_min : bootBuiltins "min" = some (.builtin "min") := by decide +kernel
theorem bb_all : bootBuiltins "all" = some (.builtin "all") := by decide +kernel
theorem bb_isinstance : bootBuiltins "isinstance" = some (.builtin "isinstance") := by decide +kernel
theorem bb_int : bootBuiltins "int" = some (.type "int") := by decide +kernel
theorem bb_str : bootBuiltins "str" = some (.type "str") := by decide +kernel
theorem bb_bool : bootBuiltins "bool" = some (.type "bool") := by decide +kernel
theorem bb_tuple : bootBuiltins "tuple" = some (.type "tuple") := by decide +kernel
theorem bb_list : bootBuiltins "list" = some (.type "list") := by decide +kernel
theorem bb_dict : bootBuiltins "dict" = some (.type "dict") := by decide +kernel

/-! ### split_tokens: what it computes -/
def splitL (m : Str) : List Str → List (List Str) → List Str → List (List Str)
  | [], acc, cur => acc ++ [cur]
  | t :: r, acc, cur => if t = m then splitL m r (acc ++ [cur]) [] else splitL m r acc (cur ++ [t])
def f_split_tokens : PF
  | [.list ts, .str m] => (strsOf ts).bind fun ys => if ys.length ≤ 100000 then some (.d (.list ((splitL m ys [] []).map fun p => .list (p.map PyData.str)))) else none
  | _ => none
theorem ar_split_tokens : Ar 2 f_split_tokens := fun ds r e => by
  unfold f_split_tokens at e
  split at e
  · rfl
  · cases e
end DL

set_option Elab.async false
set_option linter.all false
set_option maxRecDepth 100000
set_option maxHeartbeats 4000000
namespace DL
open PySem PySem.Spec L2
section
variable {K : PySem.W.Frag} {h : Heap} {mg : Str → Option Value} {x : Str} {st : Stmt} {ps : List Str}
theorem dfn_go {C : Prop} {f : Addr} {oc : Value} {od an : Option Addr} {osl : Array (Option Value)} {kV doc pm cdv ct : Value} (KX : K.In h) (G : h.Ns mainGlobals mg)
    (a : PySem.W.nsIn K mainGlobals x = some (some (.ref f))) (l : K.lookup f = some ⟨oc, od, .func (PySem.W.fnOf x x (defArgs st) (defBody st) (defScope st) .none kV doc pm an cdv ct), osl⟩)
    (c : PySem.W.codeIn K cdv x = true) (k : PySem.W.keepIn K (.ref f) = true)
    (b : ∀ (kV doc pm : Value) (an : Option Addr) (cdv ct : Value) (us : List Value), us.length = ps.length → bindArgs (PySem.W.fnOf x x (defArgs st) (defBody st) (defScope st) .none kV doc pm an cdv ct) ⟨us, []⟩ = pure (ps.zip us))
    (go : ∀ f fd, Dfn K mg x st ps f fd → C) : C :=
  go f _ ⟨fun_mk l c k, PySem.W.mg_of KX G a, (fun_mk l c k).binds b⟩
/-- the law's own def: its arguments bind at any state -/
theorem dfn_law {C : Prop} {f : Addr} {oc : Value} {od an : Option Addr} {osl : Array (Option Value)} {kV doc pm cdv ct : Value} (KX : K.In h) (G : h.Ns mainGlobals mg)
    (a : PySem.W.nsIn K mainGlobals x = some (some (.ref f))) (l : K.lookup f = some ⟨oc, od, .func (PySem.W.fnOf x x (defArgs st) (defBody st) (defScope st) .none kV doc pm an cdv ct), osl⟩)
    (c : PySem.W.codeIn K cdv x = true) (k : PySem.W.keepIn K (.ref f) = true)
    (b : ∀ (kV doc pm : Value) (an : Option Addr) (cdv ct : Value) (us : List Value), us.length = ps.length → bindArgs (PySem.W.fnOf x x (defArgs st) (defBody st) (defScope st) .none kV doc pm an cdv ct) ⟨us, []⟩ = pure (ps.zip us))
    (go : ∀ f fd, Dfn K mg x st ps f fd → (∀ (s : Shared) (us : List Value), us.length = ps.length → BindsTo s fd ⟨us, []⟩ (ps.zip us)) → C) : C :=
  go f _ ⟨fun_mk l c k, PySem.W.mg_of KX G a, (fun_mk l c k).binds b⟩ fun s us hl => .of_eq (b _ _ _ _ _ _ us hl)
theorem glob_str {z : Str} {t : Tok} {l : List Nat} (KX : K.In h) (G : h.Ns mainGlobals mg) (a : PySem.W.nsIn K mainGlobals x = some (some (.str z t))) (e : codes z = l) : GlobK K mg x (ds l) :=
  ⟨.str z, _, PySem.W.mg_of KX G a, ⟨t, rfl⟩, by subst e; exact .str z⟩
theorem glob_int {z : Int} {t : Tok} (KX : K.In h) (G : h.Ns mainGlobals mg) (a : PySem.W.nsIn K mainGlobals x = some (some (.int z t))) : GlobK K mg x (.int z) :=
  ⟨.int z, _, PySem.W.mg_of KX G a, ⟨t, rfl⟩, .int z⟩
def strsV : List Value → Option (List (List Nat))
  | [] => some []
  | .str z _ :: r => (strsV r).map (codes z :: ·)
  | _ => none
theorem strsV_vals : ∀ {us : List Value} {ls : List (List Nat)}, strsV us = some ls → Vals (ls.map fun l => V.str ⟨l.toArray⟩) us
  | [], ls, e => by cases e; exact .nil
  | .str z t :: r, ls, e => by
    obtain ⟨q, e1, rfl⟩ := Option.map_eq_some_iff.mp e
    exact .cons ⟨t, rfl⟩ (strsV_vals e1)
  | .none :: _, _, e => by cases e
  | .bool _ :: _, _, e => by cases e
  | .int _ _ :: _, _, e => by cases e
  | .ref _ :: _, _, e => by cases e
  | .type _ :: _, _, e => by cases e
  | .builtin _ :: _, _, e => by cases e
  | .bytes _ _ :: _, _, e => by cases e
  | .float _ _ :: _, _, e => by cases e
  | .ellipsis :: _, _, e => by cases e
  | .notImplemented :: _, _, e => by cases e
theorem dpa_ds {F : Hp} : ∀ ls : List (List Nat), DpAll K F (ls.map fun l => V.str ⟨l.toArray⟩) (ls.map fun l => ds l)
  | [] => .nil
  | _ :: r => .cons (.str _) (dpa_ds r)
theorem glob_tup {p : Addr} {od : Option Addr} {its : Array Value} {n : Nat} {sl : Array (Option Value)} {ls : List (List Nat)} (KX : K.In h) (G : h.Ns mainGlobals mg) (a : PySem.W.nsIn K mainGlobals x = some (some (.ref p)))
    (l : K.lookup p = some ⟨.type "tuple", od, .seq its n, sl⟩) (e : strsV its.toList = some ls) (z : its.size ≤ 1000) : GlobK K mg x (.tuple (ls.map fun l => ds l)) :=
  ⟨.ref p, _, PySem.W.mg_of KX G a, rfl, .tup (.inr ⟨_, its, n, l, rfl, rfl, le1000 z, strsV_vals e⟩) (dpa_ds ls)⟩
theorem glob_str_go {C : Prop} {z : Str} {t : Tok} {l : List Nat} (KX : K.In h) (G : h.Ns mainGlobals mg) (a : PySem.W.nsIn K mainGlobals x = some (some (.str z t))) (e : codes z = l) (go : GlobK K mg x (ds l) → C) : C := go (glob_str KX G a e)
theorem glob_int_go {C : Prop} {z : Int} {t : Tok} (KX : K.In h) (G : h.Ns mainGlobals mg) (a : PySem.W.nsIn K mainGlobals x = some (some (.int z t))) (go : GlobK K mg x (.int z) → C) : C := go (glob_int KX G a)
theorem glob_tup_go {C : Prop} {p : Addr} {od : Option Addr} {its : Array Value} {n : Nat} {sl : Array (Option Value)} {ls : List (List Nat)} (KX : K.In h) (G : h.Ns mainGlobals mg) (a : PySem.W.nsIn K mainGlobals x = some (some (.ref p)))
    (l : K.lookup p = some ⟨.type "tuple", od, .seq its n, sl⟩) (e : strsV its.toList = some ls) (z : its.size ≤ 1000) (go : GlobK K mg x (.tuple (ls.map fun l => ds l)) → C) : C := go (glob_tup KX G a l e z)
theorem tab_go {C : Prop} {w : World} {p : Addr} {kvs : List (List Nat × Int)} (KX : K.In h) (G : h.Ns mainGlobals mg) (a : PySem.W.nsIn K mainGlobals x = some (some (.ref p))) (r : ∀ k i, kvs.lookup k = some i → KDct K w p ⟨k.toArray⟩ (.int i)) (go : TabK w K mg x kvs → C) : C :=
  go ⟨p, PySem.W.mg_of KX G a, r⟩
theorem tab_cons {w : World} {p : Addr} {es : Array DictEntry} {n : Nat} {k : List Nat} {i : Int} {t : Tok} {kvs : List (List Nat × Int)}
    (l : K.lookup p = some ⟨.type "dict", none, .dict es n, #[]⟩) (hk : PySem.W.KeysLit w.params es.toList) (e : PySem.W.nsIn K p ⟨k.toArray⟩ = some (some (.int i t)))
    (r : ∀ k i, kvs.lookup k = some i → KDct K w p ⟨k.toArray⟩ (.int i)) : ∀ k' i', ((k, i) :: kvs).lookup k' = some i' → KDct K w p ⟨k'.toArray⟩ (.int i') := fun k' i' q => by
  rw [List.lookup_cons] at q
  split at q
  · rename_i hb
    cases q
    rw [eq_of_beq hb]
    exact ⟨es, n, _, l, hk, e, ⟨t, rfl⟩⟩
  · exact r k' i' q
theorem walk_law {l : PySem.W.OpenLaw} {q : Program} {loose : List Str} {XP : (Str → Option Value) → Heap → Prop} {YP : World → Heap → Prop} {d : DefRec} {K : Params → PySem.W.Frag} {k : Nat} {g : PF} (hn : l.most = some 63) (hdf : d.params.defaults = []) (hr : Room k callerA)
    (hY : ∀ (w : World) (h : Heap), YP w h → (K w.params).In h)
    (F : ∀ (w : World) (mg : Str → Option Value) (fa : Addr) (h : Heap), (K w.params).In h → h.Ns mainGlobals mg → mg d.name = some (.ref fa) →
      ∃ fd : FuncData, (∀ (s : Shared) (u : Value), BindsTo s fd ⟨[u], []⟩ [("script", u)]) ∧ ∀ base : Heap, FnOk l.prog w (K w.params) mg base CX0 k fa fd ["script"] (spP (K w.params) 1 g))
    (law : ∀ ns : List Int, ns.length ≤ 63 → g [.list (ns.map PyData.int)] = some (.d (.bool true))) :
    PySem.W.WalkO q loose XP YP l.row.toRowW d [] (fun f vs => PySem.call f vs) := by
  refine L2.walk_of (n := 63) (k := k) (x := "script") (CX := fun _ => CX0) (sp := fun w => spP (K w.params) 1 g) hn (by decide) hdf hr hY (fun w mg fa h h1 h2 h3 => ?_) (fun w H a ns hl _ hS => ?_) fun _ _ _ _ _ z => z
  · obtain ⟨fd, b, f⟩ := F w mg fa h h1 h2 h3
    exact ⟨fd, b, fun base _ _ => f base⟩
  · have dpi : ∀ ns : List Int, DpAll (K w.params) H (ns.map V.int) (ns.map PyData.int) := fun ns => by
      induction ns with
      | nil => exact .nil
      | cons n r ih => exact .cons (.int n) ih
    exact ⟨rfl, H, [.list (ns.map PyData.int)], _, Same.refl _, .cons (.lst hS (dpi ns)) .nil, law ns hl, fun v F' H' _ _ _ _ r => dp_bool r⟩
end
end DL

set_option Elab.async false
set_option linter.all false
set_option maxRecDepth 100000
set_option maxHeartbeats 4000000
namespace DL
open PySem PySem.Spec L2
def k_LETTERS : D := (ds (cs "abcdefghijklmnopqrstuvwxyz"))
def k_FIGURES : D := (ds (cs "0123456789"))
def k_SIGNS : D := (ds (cs "abcdefghijklmnopqrstuvwxyz0123456789 .,:+"))
def k_KEPT : D := (.tuple [(ds (cs "name")), (ds (cs "hidden")), (ds (cs "release")), (ds (cs "feature")), (ds (cs "row")), (ds (cs "start")), (ds (cs "later")), (ds (cs "signer")), (ds (cs "book")), (ds (cs "end")), (ds (cs "after")), (ds (cs "up")), (ds (cs "down")), (ds (cs "never")), (ds (cs "from")), (ds (cs "not")), (ds (cs "at")), (ds (cs "none")), (ds (cs "on")), (ds (cs "need")), (ds (cs "clash")), (ds (cs "either")), (ds (cs "same")), (ds (cs "most")), (ds (cs "least")), (ds (cs "of")), (ds (cs "and")), (ds (cs "or")), (ds (cs "come")), (ds (cs "go")), (ds (cs "publish")), (ds (cs "withdraw")), (ds (cs "answer")), (ds (cs "letter")), (ds (cs "heard"))])
def k_GREATEST_PRICE : D := (.int 1000000000)
def k_FIRST_WORDS : D := (.tuple [(ds (cs "name")), (ds (cs "hidden")), (ds (cs "release")), (ds (cs "feature")), (ds (cs "row")), (ds (cs "start")), (ds (cs "later")), (ds (cs "signer")), (ds (cs "book")), (ds (cs "end"))])
def k_LIMITS : List (List Nat × Int) := [(cs "lines", 900), (cs "signs", 400)]
def b_sign_fault : SS :=
  (sSeq (sIf (bBin dEq (eNm 0) (eK (ds (cs ""))))
  (sRet (eK (ds (cs "empty"))))
  sNext)
  (sSeq (sFor (gNm 1) (iAny (eNm 0))
  (sIf (bBin dNotIn (eNm 1) (eK k_SIGNS))
  (sRet (eK (ds (cs "sign"))))
  sNext))
  (sSeq (sIf (bOr (bBin dEq (eBin dIx (eNm 0) (eK (.int 0))) (eK (ds (cs " ")))) (bOr (bBin dEq (eBin dIx (eNm 0) (eUn dNeg (eK (.int 1)))) (eK (ds (cs " ")))) (bBin dIn (eK (ds (cs "  "))) (eNm 0))))
  (sRet (eK (ds (cs "sign"))))
  sNext)
  (sRet (eK (ds (cs "")))))))
def f_sign_fault : PF := runP 2 1 b_sign_fault
def b_is_figures : SS :=
  (sSeq (sIf (bOr (bBin dEq (eNm 0) (eK (ds (cs "")))) (bAnd (bBin dEq (eBin dIx (eNm 0) (eK (.int 0))) (eK (ds (cs "0")))) (bBin dNe (eNm 0) (eK (ds (cs "0"))))))
  (sRet (eK (.bool false)))
  sNext)
  (sSeq (sFor (gNm 1) (iAny (eNm 0))
  (sIf (bBin dNotIn (eNm 1) (eK k_FIGURES))
  (sRet (eK (.bool false)))
  sNext))
  (sRet (eK (.bool true)))))
def f_is_figures : PF := runP 2 1 b_is_figures
def b_is_number : SS :=
  (sSeq (sIf (bOr (bNot (bUn truD (eCallP f_is_figures (aCons (eNm 0) aNil)))) (bBin dGt (eCall fLen (aCons (eNm 0) aNil)) (eK (.int 10))))
  (sRet (eK (.bool false)))
  sNext)
  (sRet (eB (bChain dLe dLe (eNm 1) (eCall fInt (aCons (eNm 0) aNil)) (eNm 2)))))
def f_is_number : PF := runP 3 3 b_is_number
def b_is_word : SS :=
  (sSeq (sIf (bOr (bBin dEq (eNm 0) (eK (ds (cs "")))) (bOr (bBin dGt (eCall fLen (aCons (eNm 0) aNil)) (eK (.int 12))) (bBin dNotIn (eBin dIx (eNm 0) (eK (.int 0))) (eK k_LETTERS))))
  (sRet (eK (.bool false)))
  sNext)
  (sSeq (sFor (gNm 1) (iAny (eNm 0))
  (sIf (bAnd (bBin dNotIn (eNm 1) (eK k_LETTERS)) (bBin dNotIn (eNm 1) (eK k_FIGURES)))
  (sRet (eK (.bool false)))
  sNext))
  (sRet (eB (bBin dNotIn (eNm 0) (eK k_KEPT))))))
def f_is_word : PF := runP 2 1 b_is_word
def b_is_version : SS :=
  (sSeq (sSet 1 (eFz (oSplit (eNm 0) (eK (ds (cs "."))))))
  (sSeq (sIf (bBin dGt (eCall fLen (aCons (eNm 1) aNil)) (eK (.int 3)))
  (sRet (eK (.bool false)))
  sNext)
  (sSeq (sFor (gNm 2) (iAny (eNm 1))
  (sIf (bNot (bUn truD (eCallP f_is_number (aCons (eNm 2) (aCons (eK (.int 0)) (aCons (eK (.int 999)) aNil))))))
  (sRet (eK (.bool false)))
  sNext))
  (sRet (eK (.bool true))))))
def f_is_version : PF := runP 3 1 b_is_version
def b_is_release : SS :=
  (sRet (eOr (eB (bBin dEq (eNm 0) (eK (ds (cs "on"))))) (eCallP f_is_version (aCons (eNm 0) aNil))))
def f_is_release : PF := runP 1 1 b_is_release
def b_is_price : SS :=
  (sRet (eOr (eB (bBin dEq (eNm 0) (eK (ds (cs "never"))))) (eCallP f_is_number (aCons (eNm 0) (aCons (eK (.int 1)) (aCons (eK k_GREATEST_PRICE) aNil))))))
def f_is_price : PF := runP 1 1 b_is_price
def b_price_of : SS :=
  (sSeq (sIf (bBin dEq (eNm 0) (eK (ds (cs "never"))))
  (sRet (eK .none))
  sNext)
  (sRet (eCall fInt (aCons (eNm 0) aNil))))
def f_price_of : PF := runP 1 1 b_price_of
def b_price_word : SS :=
  (sSeq (sIf (bUn dIsN (eNm 0))
  (sRet (eK (ds (cs "never"))))
  sNext)
  (sRet (eCall fStr (aCons (eNm 0) aNil))))
def f_price_word : PF := runP 1 1 b_price_word
def b_is_short_name : SS :=
  (sSeq (sSet 1 (eFz (oSplit (eNm 0) (eK (ds (cs "+"))))))
  (sSeq (sIf (bBin dGt (eCall fLen (aCons (eNm 1) aNil)) (eK (.int 2)))
  (sRet (eK (.bool false)))
  sNext)
  (sSeq (sFor (gNm 2) (iAny (eNm 1))
  (sIf (bNot (bUn truD (eCallP f_is_word (aCons (eNm 2) aNil))))
  (sRet (eK (.bool false)))
  sNext))
  (sRet (eK (.bool true))))))
def f_is_short_name : PF := runP 3 1 b_is_short_name
def b_is_whole_name : SS :=
  (sSeq (sSet 1 (eFz (oSplit (eNm 0) (eK (ds (cs "."))))))
  (sSeq (sIf (bBin dEq (eCall fLen (aCons (eNm 1) aNil)) (eK (.int 1)))
  (sRet (eCallP f_is_short_name (aCons (eNm 0) aNil)))
  sNext)
  (sRet (eAnd (eB (bBin dEq (eCall fLen (aCons (eNm 1) aNil)) (eK (.int 2)))) (eAnd (eCallP f_is_word (aCons (eBin dIx (eNm 1) (eK (.int 0))) aNil)) (eCallP f_is_short_name (aCons (eBin dIx (eNm 1) (eK (.int 1))) aNil)))))))
def f_is_whole_name : PF := runP 2 1 b_is_whole_name
def b_read_condition : SS :=
  (sSeq (sIf (bOr (bBin dLt (eCall fLen (aCons (eNm 0) aNil)) (eK (.int 2))) (bBin dGt (eCall fLen (aCons (eNm 0) aNil)) (eK (.int 4))))
  (sRet (eK .none))
  sNext)
  (sSeq (sSet 2 (eBin dIx (eNm 0) (eK (.int 0))))
  (sSeq (sIf (bUn truD (eNm 1))
  (sIf (bNot (bUn truD (eCallP f_is_whole_name (aCons (eNm 2) aNil))))
  (sRet (eK .none))
  sNext)
  (sIf (bNot (bUn truD (eCallP f_is_short_name (aCons (eNm 2) aNil))))
  (sRet (eK .none))
  sNext))
  (sSeq (sIf (bBin dEq (eCall fLen (aCons (eNm 0) aNil)) (eK (.int 2)))
  (sSeq (sIf (bBin dEq (eBin dIx (eNm 0) (eK (.int 1))) (eK (ds (cs "none"))))
  (sRet (eTup (aCons (eNm 2) (aCons (eK (ds (cs "none"))) aNil))))
  sNext)
  (sRet (eK .none)))
  sNext)
  (sSeq (sIf (bNot (bUn truD (eCallP f_is_release (aCons (eBin dIx (eNm 0) (eUn dNeg (eK (.int 1)))) aNil))))
  (sRet (eK .none))
  sNext)
  (sSeq (sIf (bBin dEq (eCall fLen (aCons (eNm 0) aNil)) (eK (.int 4)))
  (sSeq (sIf (bAnd (bBin dEq (eBin dIx (eNm 0) (eK (.int 1))) (eK (ds (cs "not")))) (bBin dEq (eBin dIx (eNm 0) (eK (.int 2))) (eK (ds (cs "from")))))
  (sRet (eTup (aCons (eNm 2) (aCons (eK (ds (cs "not"))) (aCons (eBin dIx (eNm 0) (eK (.int 3))) aNil)))))
  sNext)
  (sRet (eK .none)))
  sNext)
  (sSeq (sIf (bOr (bBin dEq (eBin dIx (eNm 0) (eK (.int 1))) (eK (ds (cs "from")))) (bBin dEq (eBin dIx (eNm 0) (eK (.int 1))) (eK (ds (cs "at")))))
  (sRet (eTup (aCons (eNm 2) (aCons (eBin dIx (eNm 0) (eK (.int 1))) (aCons (eBin dIx (eNm 0) (eK (.int 2))) aNil)))))
  sNext)
  (sRet (eK .none)))))))))
def f_read_condition : PF := runP 3 2 b_read_condition
def b_read_conditions : SS :=
  (sSeq (sSet 4 (eCallP f_split_tokens (aCons (eNm 0) (aCons (eNm 1) aNil))))
  (sSeq (sIf (bNot (bChain dLe dLe (eNm 2) (eCall fLen (aCons (eNm 4) aNil)) (eNm 3)))
  (sRet (eK .none))
  sNext)
  (sSeq (sSetO 5 (oLst aNil))
  (sSeq (sFor (gNm 6) (iAny (eNm 4))
  (sSeq (sSet 7 (eCallP f_read_condition (aCons (eNm 6) (aCons (eK (.bool false)) aNil))))
  (sSeq (sIf (bUn dIsN (eNm 7))
  (sRet (eK .none))
  sNext)
  (sApp 5 (eNm 7)))))
  (sRet (eCallV fTuple (oNm 5)))))))
def f_read_conditions : PF := runP 8 4 b_read_conditions
def b_read_need : SS :=
  (sSeq (sSet 1 (eCallP f_split_tokens (aCons (eNm 0) (aCons (eK (ds (cs ":"))) aNil))))
  (sSeq (sIf (bBin dNe (eCall fLen (aCons (eNm 1) aNil)) (eK (.int 2)))
  (sRet (eK .none))
  sNext)
  (sSeq (sSet 2 (eCallP f_read_conditions (aCons (eBin dIx (eNm 1) (eK (.int 0))) (aCons (eK (ds (cs "and"))) (aCons (eK (.int 1)) (aCons (eK (.int 4)) aNil))))))
  (sSeq (sSet 3 (eCallP f_read_conditions (aCons (eBin dIx (eNm 1) (eK (.int 1))) (aCons (eK (ds (cs "or"))) (aCons (eK (.int 1)) (aCons (eK (.int 6)) aNil))))))
  (sSeq (sIf (bOr (bUn dIsN (eNm 2)) (bUn dIsN (eNm 3)))
  (sRet (eK .none))
  sNext)
  (sRet (eTup (aCons (eK (ds (cs "need"))) (aCons (eNm 2) (aCons (eNm 3) aNil))))))))))
def f_read_need : PF := runP 4 1 b_read_need
def b_read_counted : SS :=
  (sSeq (sIf (bOr (bBin dLt (eCall fLen (aCons (eNm 0) aNil)) (eK (.int 4))) (bOr (bNot (bUn truD (eCallP f_is_number (aCons (eBin dIx (eNm 0) (eK (.int 1))) (aCons (eK (.int 0)) (aCons (eK (.int 6)) aNil)))))) (bBin dNe (eBin dIx (eNm 0) (eK (.int 2))) (eK (ds (cs "of"))))))
  (sRet (eK .none))
  sNext)
  (sSeq (sSet 1 (eCallP f_read_conditions (aCons (eSl (eNm 0) (pYes (eK (.int 3))) pNo) (aCons (eK (ds (cs ","))) (aCons (eK (.int 1)) (aCons (eK (.int 6)) aNil))))))
  (sSeq (sIf (bUn dIsN (eNm 1))
  (sRet (eK .none))
  sNext)
  (sRet (eTup (aCons (eBin dIx (eNm 0) (eK (.int 0))) (aCons (eCall fInt (aCons (eBin dIx (eNm 0) (eK (.int 1))) aNil)) (aCons (eNm 1) aNil))))))))
def f_read_counted : PF := runP 2 1 b_read_counted
def b_read_form : SS :=
  (sSeq (sIf (bBin dEq (eNm 0) (eFz (oLst aNil)))
  (sRet (eK .none))
  sNext)
  (sSeq (sIf (bBin dEq (eBin dIx (eNm 0) (eK (.int 0))) (eK (ds (cs "need"))))
  (sRet (eCallP f_read_need (aCons (eSl (eNm 0) (pYes (eK (.int 1))) pNo) aNil)))
  sNext)
  (sSeq (sIf (bOr (bBin dEq (eBin dIx (eNm 0) (eK (.int 0))) (eK (ds (cs "most")))) (bBin dEq (eBin dIx (eNm 0) (eK (.int 0))) (eK (ds (cs "least")))))
  (sRet (eCallP f_read_counted (aCons (eNm 0) aNil)))
  sNext)
  (sSeq (sIf (bOr (bBin dEq (eBin dIx (eNm 0) (eK (.int 0))) (eK (ds (cs "clash")))) (bBin dEq (eBin dIx (eNm 0) (eK (.int 0))) (eK (ds (cs "either")))))
  (sSeq (sSet 1 (eCallP f_read_conditions (aCons (eSl (eNm 0) (pYes (eK (.int 1))) pNo) (aCons (eK (ds (cs ","))) (aCons (eIf (bBin dEq (eBin dIx (eNm 0) (eK (.int 0))) (eK (ds (cs "clash")))) (eK (.int 2)) (eK (.int 1))) (aCons (eK (.int 6)) aNil))))))
  (sSeq (sIf (bUn dIsN (eNm 1))
  (sRet (eK .none))
  sNext)
  (sRet (eTup (aCons (eBin dIx (eNm 0) (eK (.int 0))) (aCons (eNm 1) aNil))))))
  sNext)
  (sSeq (sIf (bBin dEq (eBin dIx (eNm 0) (eK (.int 0))) (eK (ds (cs "same"))))
  (sSeq (sSet 1 (eCallP f_read_conditions (aCons (eSl (eNm 0) (pYes (eK (.int 1))) pNo) (aCons (eK (ds (cs ","))) (aCons (eK (.int 2)) (aCons (eK (.int 2)) aNil))))))
  (sSeq (sIf (bUn dIsN (eNm 1))
  (sRet (eK .none))
  sNext)
  (sRet (eTup (aCons (eK (ds (cs "same"))) (aCons (eBin dIx (eNm 1) (eK (.int 0))) (aCons (eBin dIx (eNm 1) (eK (.int 1))) aNil)))))))
  sNext)
  (sRet (eK .none)))))))
def f_read_form : PF := runP 2 1 b_read_form
def b_condition_words : SS :=
  (sSeq (sIf (bBin dEq (eBin dIx (eNm 0) (eK (.int 1))) (eK (ds (cs "none"))))
  (sRet (eBin dAdd (eBin dIx (eNm 0) (eK (.int 0))) (eK (ds (cs " none")))))
  sNext)
  (sSeq (sIf (bBin dEq (eBin dIx (eNm 0) (eK (.int 1))) (eK (ds (cs "not"))))
  (sRet (eBin dAdd (eBin dAdd (eBin dIx (eNm 0) (eK (.int 0))) (eK (ds (cs " not from ")))) (eBin dIx (eNm 0) (eK (.int 2)))))
  sNext)
  (sRet (eBin dAdd (eBin dAdd (eBin dAdd (eBin dAdd (eBin dIx (eNm 0) (eK (.int 0))) (eK (ds (cs " ")))) (eBin dIx (eNm 0) (eK (.int 1)))) (eK (ds (cs " ")))) (eBin dIx (eNm 0) (eK (.int 2)))))))
def f_condition_words : PF := runP 1 1 b_condition_words
def b_many_words : SS :=
  (sRet (eBin dJoin (eNm 1) (eFz (oComp 2 bYes (eCallP f_condition_words (aCons (eNm 2) aNil)) (iAny (eNm 0))))))
def f_many_words : PF := runP 3 2 b_many_words
def b_form_words : SS :=
  (sSeq (sIf (bBin dEq (eBin dIx (eNm 0) (eK (.int 0))) (eK (ds (cs "need"))))
  (sRet (eBin dAdd (eBin dAdd (eBin dAdd (eK (ds (cs "need "))) (eCallP f_many_words (aCons (eBin dIx (eNm 0) (eK (.int 1))) (aCons (eK (ds (cs " and "))) aNil)))) (eK (ds (cs " : ")))) (eCallP f_many_words (aCons (eBin dIx (eNm 0) (eK (.int 2))) (aCons (eK (ds (cs " or "))) aNil)))))
  sNext)
  (sSeq (sIf (bBin dEq (eBin dIx (eNm 0) (eK (.int 0))) (eK (ds (cs "same"))))
  (sRet (eBin dAdd (eK (ds (cs "same "))) (eCallP f_many_words (aCons (eSl (eNm 0) (pYes (eK (.int 1))) pNo) (aCons (eK (ds (cs " , "))) aNil)))))
  sNext)
  (sSeq (sIf (bOr (bBin dEq (eBin dIx (eNm 0) (eK (.int 0))) (eK (ds (cs "most")))) (bBin dEq (eBin dIx (eNm 0) (eK (.int 0))) (eK (ds (cs "least")))))
  (sRet (eBin dAdd (eBin dAdd (eBin dAdd (eBin dAdd (eBin dIx (eNm 0) (eK (.int 0))) (eK (ds (cs " ")))) (eCall fStr (aCons (eBin dIx (eNm 0) (eK (.int 1))) aNil))) (eK (ds (cs " of ")))) (eCallP f_many_words (aCons (eBin dIx (eNm 0) (eK (.int 2))) (aCons (eK (ds (cs " , "))) aNil)))))
  sNext)
  (sRet (eBin dAdd (eBin dAdd (eBin dIx (eNm 0) (eK (.int 0))) (eK (ds (cs " ")))) (eCallP f_many_words (aCons (eBin dIx (eNm 0) (eK (.int 1))) (aCons (eK (ds (cs " , "))) aNil))))))))
def f_form_words : PF := runP 1 1 b_form_words
def b_bound_check : SS :=
  (sIf (bBin dGt (eNm 1) (eUn (dTab k_LIMITS) (eNm 0)))
  sNone
  sNext)
def f_bound_check : PF := runP 2 2 b_bound_check
def b_text_rows : SS :=
  (sSeq (sSet 1 (eFz (oSplit (eNm 0) (eK (ds (cs "\n"))))))
  (sSeq (sIf (bBin dEq (eBin dIx (eNm 1) (eUn dNeg (eK (.int 1)))) (eK (ds (cs ""))))
  (sRet (eSl (eNm 1) pNo (pYes (eUn dNeg (eK (.int 1))))))
  sNext)
  (sRet (eNm 1))))
def f_text_rows : PF := runP 2 1 b_text_rows
def b_checked_rows : SS :=
  (sSeq (sSet 1 (eCallP f_text_rows (aCons (eNm 0) aNil)))
  (sSeq (sDrop (eCallP f_bound_check (aCons (eK (ds (cs "lines"))) (aCons (eCall fLen (aCons (eNm 1) aNil)) aNil))))
  (sSeq (sFor (gNm 2) (iAny (eNm 1))
  (sDrop (eCallP f_bound_check (aCons (eK (ds (cs "signs"))) (aCons (eCall fLen (aCons (eNm 2) aNil)) aNil)))))
  (sRet (eNm 1)))))
def f_checked_rows : PF := runP 3 1 b_checked_rows
def b_read_release : SS :=
  (sSeq (sIf (bOr (bBin dNe (eCall fLen (aCons (eNm 0) aNil)) (eK (.int 9))) (bOr (bNot (bUn truD (eCallP f_is_word (aCons (eBin dIx (eNm 0) (eK (.int 1))) aNil)))) (bNot (bUn truD (eCallP f_is_version (aCons (eBin dIx (eNm 0) (eK (.int 2))) aNil))))))
  (sRet (eK .none))
  sNext)
  (sSeq (sIf (bOr (bBin dNe (eBin dIx (eNm 0) (eK (.int 3))) (eK (ds (cs "after")))) (bOr (bBin dNe (eBin dIx (eNm 0) (eK (.int 5))) (eK (ds (cs "up")))) (bBin dNe (eBin dIx (eNm 0) (eK (.int 7))) (eK (ds (cs "down"))))))
  (sRet (eK .none))
  sNext)
  (sSeq (sIf (bAnd (bBin dNe (eBin dIx (eNm 0) (eK (.int 4))) (eK (ds (cs "none")))) (bNot (bUn truD (eCallP f_is_version (aCons (eBin dIx (eNm 0) (eK (.int 4))) aNil)))))
  (sRet (eK .none))
  sNext)
  (sSeq (sIf (bOr (bNot (bUn truD (eCallP f_is_price (aCons (eBin dIx (eNm 0) (eK (.int 6))) aNil)))) (bNot (bUn truD (eCallP f_is_price (aCons (eBin dIx (eNm 0) (eK (.int 8))) aNil)))))
  (sRet (eK .none))
  sNext)
  (sRet (eTup (aCons (eK (ds (cs "release"))) (aCons (eBin dIx (eNm 0) (eK (.int 1))) (aCons (eBin dIx (eNm 0) (eK (.int 2))) (aCons (eBin dIx (eNm 0) (eK (.int 4))) (aCons (eCallP f_price_of (aCons (eBin dIx (eNm 0) (eK (.int 6))) aNil)) (aCons (eCallP f_price_of (aCons (eBin dIx (eNm 0) (eK (.int 8))) aNil)) aNil))))))))))))
def f_read_release : PF := runP 1 1 b_read_release
def b_read_feature : SS :=
  (sSeq (sIf (bOr (bBin dNe (eCall fLen (aCons (eNm 0) aNil)) (eK (.int 9))) (bOr (bNot (bUn truD (eCallP f_is_word (aCons (eBin dIx (eNm 0) (eK (.int 1))) aNil)))) (bOr (bNot (bUn truD (eCallP f_is_word (aCons (eBin dIx (eNm 0) (eK (.int 2))) aNil)))) (bNot (bUn truD (eCallP f_is_version (aCons (eBin dIx (eNm 0) (eK (.int 4))) aNil)))))))
  (sRet (eK .none))
  sNext)
  (sSeq (sIf (bOr (bBin dNe (eBin dIx (eNm 0) (eK (.int 3))) (eK (ds (cs "from")))) (bOr (bBin dNe (eBin dIx (eNm 0) (eK (.int 5))) (eK (ds (cs "up")))) (bBin dNe (eBin dIx (eNm 0) (eK (.int 7))) (eK (ds (cs "down"))))))
  (sRet (eK .none))
  sNext)
  (sSeq (sIf (bOr (bNot (bUn truD (eCallP f_is_price (aCons (eBin dIx (eNm 0) (eK (.int 6))) aNil)))) (bNot (bUn truD (eCallP f_is_price (aCons (eBin dIx (eNm 0) (eK (.int 8))) aNil)))))
  (sRet (eK .none))
  sNext)
  (sRet (eTup (aCons (eK (ds (cs "feature"))) (aCons (eBin dIx (eNm 0) (eK (.int 1))) (aCons (eBin dIx (eNm 0) (eK (.int 2))) (aCons (eBin dIx (eNm 0) (eK (.int 4))) (aCons (eCallP f_price_of (aCons (eBin dIx (eNm 0) (eK (.int 6))) aNil)) (aCons (eCallP f_price_of (aCons (eBin dIx (eNm 0) (eK (.int 8))) aNil)) aNil)))))))))))
def f_read_feature : PF := runP 1 1 b_read_feature
def b_read_signer : SS :=
  (sSeq (sIf (bOr (bBin dLt (eCall fLen (aCons (eNm 0) aNil)) (eK (.int 5))) (bOr (bNot (bUn truD (eCallP f_is_word (aCons (eBin dIx (eNm 0) (eK (.int 1))) aNil)))) (bOr (bNot (bUn truD (eCallP f_is_number (aCons (eBin dIx (eNm 0) (eK (.int 2))) (aCons (eK (.int 1)) (aCons (eK (.int 99)) aNil)))))) (bBin dNe (eBin dIx (eNm 0) (eK (.int 3))) (eK (ds (cs ":")))))))
  (sRet (eK .none))
  sNext)
  (sSeq (sFor (gNm 1) (iAny (eSl (eNm 0) (pYes (eK (.int 4))) pNo))
  (sIf (bNot (bUn truD (eCallP f_is_short_name (aCons (eNm 1) aNil))))
  (sRet (eK .none))
  sNext))
  (sRet (eTup (aCons (eK (ds (cs "signer"))) (aCons (eBin dIx (eNm 0) (eK (.int 1))) (aCons (eCall fInt (aCons (eBin dIx (eNm 0) (eK (.int 2))) aNil)) (aCons (eCall fTuple (aCons (eSl (eNm 0) (pYes (eK (.int 4))) pNo) aNil)) aNil))))))))
def f_read_signer : PF := runP 2 1 b_read_signer
def b_read_line : SS :=
  (sSeq (sSet 1 (eBin dIx (eNm 0) (eK (.int 0))))
  (sSeq (sIf (bBin dEq (eNm 1) (eK (ds (cs "release"))))
  (sRet (eCallP f_read_release (aCons (eNm 0) aNil)))
  sNext)
  (sSeq (sIf (bBin dEq (eNm 1) (eK (ds (cs "feature"))))
  (sRet (eCallP f_read_feature (aCons (eNm 0) aNil)))
  sNext)
  (sSeq (sIf (bBin dEq (eNm 1) (eK (ds (cs "signer"))))
  (sRet (eCallP f_read_signer (aCons (eNm 0) aNil)))
  sNext)
  (sSeq (sIf (bBin dEq (eNm 1) (eK (ds (cs "row"))))
  (sSeq (sSet 2 (eCallP f_read_form (aCons (eSl (eNm 0) (pYes (eK (.int 1))) pNo) aNil)))
  (sSeq (sIf (bUn dIsN (eNm 2))
  (sRet (eK .none))
  sNext)
  (sRet (eTup (aCons (eK (ds (cs "row"))) (aCons (eNm 2) aNil))))))
  sNext)
  (sSeq (sIf (bBin dEq (eNm 1) (eK (ds (cs "end"))))
  (sRet (eIf (bBin dEq (eCall fLen (aCons (eNm 0) aNil)) (eK (.int 1))) (eTup (aCons (eK (ds (cs "end"))) aNil)) (eK .none)))
  sNext)
  (sSeq (sIf (bOr (bBin dEq (eNm 1) (eK (ds (cs "start")))) (bBin dEq (eNm 1) (eK (ds (cs "later")))))
  (sSeq (sIf (bAnd (bBin dEq (eCall fLen (aCons (eNm 0) aNil)) (eK (.int 3))) (bAnd (bUn truD (eCallP f_is_short_name (aCons (eBin dIx (eNm 0) (eK (.int 1))) aNil))) (bUn truD (eCallP f_is_release (aCons (eBin dIx (eNm 0) (eK (.int 2))) aNil)))))
  (sRet (eCall fTuple (aCons (eNm 0) aNil)))
  sNext)
  (sRet (eK .none)))
  sNext)
  (sSeq (sIf (bAnd (bBin dEq (eCall fLen (aCons (eNm 0) aNil)) (eK (.int 2))) (bUn truD (eCallP f_is_word (aCons (eBin dIx (eNm 0) (eK (.int 1))) aNil))))
  (sRet (eCall fTuple (aCons (eNm 0) aNil)))
  sNext)
  (sRet (eK .none))))))))))
def f_read_line : PF := runP 3 1 b_read_line
def b_read_lines : SS :=
  (sSeq (sSet 1 (eCallP f_checked_rows (aCons (eNm 0) aNil)))
  (sSeq (sSetO 2 (oLst aNil))
  (sSeq (sFor (gTupD (gsCons (gNm 3) (gsCons (gNm 4) gsNil))) (iEnu (aCons (eNm 1) aNil))
  (sSeq (sSet 5 (eCallP f_sign_fault (aCons (eNm 4) aNil)))
  (sSeq (sIf (bBin dNe (eNm 5) (eK (ds (cs ""))))
  sNone
  sNext)
  (sSeq (sSet 6 (eFz (oSplit (eNm 4) (eK (ds (cs " "))))))
  (sSeq (sIf (bBin dNotIn (eBin dIx (eNm 6) (eK (.int 0))) (eK k_FIRST_WORDS))
  sNone
  sNext)
  (sSeq (sSet 7 (eCallP f_read_line (aCons (eNm 6) aNil)))
  (sSeq (sIf (bUn dIsN (eNm 7))
  sNone
  sNext)
  (sApp 2 (eNm 7)))))))))
  (sRetO (oNm 2)))))
def f_read_lines : PF := runP 8 1 b_read_lines
def b_line_words : SS :=
  (sSeq (sSet 1 (eBin dIx (eNm 0) (eK (.int 0))))
  (sSeq (sIf (bBin dEq (eNm 1) (eK (ds (cs "release"))))
  (sSeq (sSet 2 (eBin dAdd (eBin dAdd (eBin dAdd (eK (ds (cs " up "))) (eCallP f_price_word (aCons (eBin dIx (eNm 0) (eK (.int 4))) aNil))) (eK (ds (cs " down ")))) (eCallP f_price_word (aCons (eBin dIx (eNm 0) (eK (.int 5))) aNil))))
  (sRet (eBin dAdd (eBin dAdd (eBin dAdd (eBin dAdd (eBin dAdd (eBin dAdd (eK (ds (cs "release "))) (eBin dIx (eNm 0) (eK (.int 1)))) (eK (ds (cs " ")))) (eBin dIx (eNm 0) (eK (.int 2)))) (eK (ds (cs " after ")))) (eBin dIx (eNm 0) (eK (.int 3)))) (eNm 2))))
  sNext)
  (sSeq (sIf (bBin dEq (eNm 1) (eK (ds (cs "feature"))))
  (sSeq (sSet 2 (eBin dAdd (eBin dAdd (eBin dAdd (eK (ds (cs " up "))) (eCallP f_price_word (aCons (eBin dIx (eNm 0) (eK (.int 4))) aNil))) (eK (ds (cs " down ")))) (eCallP f_price_word (aCons (eBin dIx (eNm 0) (eK (.int 5))) aNil))))
  (sRet (eBin dAdd (eBin dAdd (eBin dAdd (eBin dAdd (eBin dAdd (eBin dAdd (eK (ds (cs "feature "))) (eBin dIx (eNm 0) (eK (.int 1)))) (eK (ds (cs " ")))) (eBin dIx (eNm 0) (eK (.int 2)))) (eK (ds (cs " from ")))) (eBin dIx (eNm 0) (eK (.int 3)))) (eNm 2))))
  sNext)
  (sSeq (sIf (bBin dEq (eNm 1) (eK (ds (cs "signer"))))
  (sRet (eBin dAdd (eBin dAdd (eBin dAdd (eBin dAdd (eBin dAdd (eK (ds (cs "signer "))) (eBin dIx (eNm 0) (eK (.int 1)))) (eK (ds (cs " ")))) (eCall fStr (aCons (eBin dIx (eNm 0) (eK (.int 2))) aNil))) (eK (ds (cs " : ")))) (eBin dJoin (eK (ds (cs " "))) (eBin dIx (eNm 0) (eK (.int 3))))))
  sNext)
  (sSeq (sIf (bBin dEq (eNm 1) (eK (ds (cs "row"))))
  (sRet (eBin dAdd (eK (ds (cs "row "))) (eCallP f_form_words (aCons (eBin dIx (eNm 0) (eK (.int 1))) aNil))))
  sNext)
  (sRet (eBin dJoin (eK (ds (cs " "))) (eNm 0))))))))
def f_line_words : PF := runP 3 1 b_line_words
def b_print_lines : SS :=
  (sRet (eBin dJoin (eK (ds (cs ""))) (eFz (oComp 1 bYes (eBin dAdd (eCallP f_line_words (aCons (eNm 1) aNil)) (eK (ds (cs "\n")))) (iAny (eNm 0))))))
def f_print_lines : PF := runP 2 1 b_print_lines
def b_law_cell : SS :=
  (sRet (eIf (bBin dLt (eNm 1) (eCall fLen (aCons (eNm 0) aNil))) (eCall fInt (aCons (eBin dIx (eNm 0) (eNm 1)) aNil)) (eK (.int 0))))
def f_law_cell : PF := runP 2 2 b_law_cell
def b_law_source : SS :=
  (sSeq (sSet 2 (eBin dAdd (eK (.int 1009)) (eBin dMul (eNm 1) (eK (.int 7919)))))
  (sSeq (sFor (gNm 3) (iAny (eSl (eNm 0) pNo (pYes (eK (.int 63)))))
  (sSet 2 (eBin dMod (eBin dAdd (eBin dAdd (eBin dAdd (eBin dMul (eNm 2) (eK (.int 69621))) (eBin dMul (eBin dMod (eCall fAbs (aCons (eCall fInt (aCons (eNm 3) aNil)) aNil)) (eK (.int 1000003))) (eK (.int 2)))) (eCall fInt (aCons (eB (bBin dLt (eNm 3) (eK (.int 0)))) aNil))) (eK (.int 17))) (eK (.int 2147483647)))))
  (sSeq (sSet 3 (eCall fAbs (aCons (eCallP f_law_cell (aCons (eNm 0) (aCons (eNm 1) aNil))) aNil)))
  (sSeq (sSet 4 (eIf (bBin dGe (eNm 3) (eBin dPow (eK (.int 10)) (eK (.int 18)))) (eNm 3) (eK (.int 0))))
  (sRetO (oLst (aCons (eNm 4) (aCons (eNm 2) (aCons (eBin dMod (eBin dAdd (eBin dAdd (eBin dMul (eNm 2) (eK (.int 48271))) (eBin dMod (eNm 3) (eK (.int 1000033)))) (eK (.int 5))) (eK (.int 2147483629))) (aCons (eK (.int 0)) aNil))))))))))
def f_law_source : PF := runP 5 2 b_law_source
def b_law_pick : SS :=
  (sSeq (sIf (bBin dLe (eNm 1) (eK (.int 1)))
  (sRet (eK (.int 0)))
  sNext)
  (sSeq (sIf (bBin dGt (eIxO 0 (eK (.int 0))) (eK (.int 0)))
  (sSeq (sSet 2 (eBin dMod (eCall fInt (aCons (eIxO 0 (eK (.int 0))) aNil)) (eNm 1)))
  (sSeq (sSetI 0 (eK (.int 0)) (eBin dDiv (eCall fInt (aCons (eIxO 0 (eK (.int 0))) aNil)) (eNm 1)))
  (sRet (eNm 2))))
  sNext)
  (sSeq (sSetI 0 (eK (.int 3)) (eBin dAdd (eIxO 0 (eK (.int 3))) (eK (.int 1))))
  (sSeq (sSetI 0 (eK (.int 1)) (eBin dMod (eBin dAdd (eBin dAdd (eBin dMul (eIxO 0 (eK (.int 1))) (eK (.int 48271))) (eBin dMul (eIxO 0 (eK (.int 3))) (eK (.int 7919)))) (eK (.int 11))) (eK (.int 2147483647))))
  (sSeq (sSetI 0 (eK (.int 2)) (eBin dMod (eBin dAdd (eBin dAdd (eBin dMul (eIxO 0 (eK (.int 2))) (eK (.int 69621))) (eBin dMod (eIxO 0 (eK (.int 1))) (eK (.int 65521)))) (eIxO 0 (eK (.int 3)))) (eK (.int 2147483629))))
  (sRet (eBin dMod (eBin dAdd (eBin dDiv (eIxO 0 (eK (.int 1))) (eK (.int 8))) (eBin dDiv (eIxO 0 (eK (.int 2))) (eK (.int 16)))) (eNm 1))))))))
def f_law_pick : SF := runS 3 2 b_law_pick
def b_law_number : SS :=
  (sSeq (sSet 2 (eCallS f_law_pick 0 (aCons (eK (.int 4)) aNil)))
  (sSeq (sIf (bBin dEq (eNm 2) (eK (.int 0)))
  (sRet (eCallS f_law_pick 0 (aCons (eCall fMin (aCons (eNm 1) (aCons (eK (.int 12)) aNil))) aNil)))
  sNext)
  (sSeq (sIf (bBin dEq (eNm 2) (eK (.int 1)))
  (sRet (eBin dSub (eBin dSub (eNm 1) (eK (.int 1))) (eCallS f_law_pick 0 (aCons (eCall fMin (aCons (eNm 1) (aCons (eK (.int 12)) aNil))) aNil))))
  sNext)
  (sSeq (sSet 3 (eK (.int 0)))
  (sSeq (sFor (gNm 4) (iRng (aCons (eK (.int 4)) aNil))
  (sSet 3 (eBin dAdd (eBin dMul (eNm 3) (eK (.int 1000003))) (eCallS f_law_pick 0 (aCons (eK (.int 1000003)) aNil)))))
  (sRet (eBin dMod (eNm 3) (eNm 1))))))))
def f_law_number : SF := runS 5 2 b_law_number
def b_law_kept : SS :=
  (sSeq (sSet 0 (eK (ds (cs "name hidden release feature row start later signer book end after up down never from not at none on need"))))
  (sSeq (sSet 0 (eBin dAdd (eNm 0) (eK (ds (cs " clash either same most least of and or come go publish withdraw answer letter heard")))))
  (sRet (eFz (oSplit (eNm 0) (eK (ds (cs " "))))))))
def f_law_kept : PF := runP 1 0 b_law_kept
def b_law_words : SS :=
  (sSeq (sSet 2 (eK (ds (cs "abcdefghijklmnopqrstuvwxyz"))))
  (sSeq (sSet 3 (eBin dAdd (eNm 2) (eK (ds (cs "0123456789")))))
  (sSeq (sSetO 4 (oLst aNil))
  (sSeq (sSet 5 (eCallP f_law_kept aNil))
  (sSeq (sSet 6 (eB (bBin dEq (eCallS f_law_pick 0 (aCons (eK (.int 3)) aNil)) (eK (.int 0)))))
  (sSeq (sSet 7 (eBin dAdd (eBin dAdd (eBin dIx (eNm 2) (eCallS f_law_pick 0 (aCons (eK (.int 26)) aNil))) (eBin dIx (eNm 3) (eCallS f_law_pick 0 (aCons (eK (.int 36)) aNil)))) (eBin dIx (eNm 3) (eCallS f_law_pick 0 (aCons (eK (.int 36)) aNil)))))
  (sSeq (sFor (gNm 8) (iRng (aCons (eNm 1) aNil))
  (sSeq (sSet 9 (eIf (bUn truD (eNm 6)) (eNm 7) (eBin dIx (eNm 2) (eCallS f_law_pick 0 (aCons (eK (.int 26)) aNil)))))
  (sSeq (sFor (gNm 10) (iRng (aCons (eIf (bUn truD (eNm 6)) (eK (.int 2)) (eIf (bBin dEq (eCallS f_law_pick 0 (aCons (eK (.int 5)) aNil)) (eK (.int 0))) (eCallS f_law_pick 0 (aCons (eK (.int 12)) aNil)) (eCallS f_law_pick 0 (aCons (eK (.int 4)) aNil)))) aNil))
  (sSet 9 (eBin dAdd (eNm 9) (eBin dIx (eNm 3) (eCallS f_law_pick 0 (aCons (eK (.int 36)) aNil))))))
  (sSeq (sFor (gNm 10) (iRng (aCons (eBin dAdd (eNm 1) (eK (.int 40))) aNil))
  (sSeq (sIf (bAnd (bBin dNotIn (eNm 9) (eNm 5)) (bBinV dNotIn (eNm 9) (oNm 4)))
  sBrk
  sNext)
  (sSet 9 (eBin dAdd (eBin dAdd (eBin dAdd (eK (ds (cs "z"))) (eCall fStr (aCons (eNm 10) aNil))) (eK (ds (cs "x")))) (eCall fStr (aCons (eNm 8) aNil))))))
  (sApp 4 (eNm 9))))))
  (sRetO (oNm 4)))))))))
def f_law_words : SF := runS 11 2 b_law_words
def b_law_same (self : PF) : SS :=
  (sSeq (sIf (bUn truD (eUn (dIsi2 "tuple" "list") (eNm 1)))
  (sSeq (sIf (bOr (bNot (bUn truD (eUn (dIsi2 "tuple" "list") (eNm 0)))) (bOr (bBin dNe (eUn (dIsi "list") (eNm 0)) (eUn (dIsi "list") (eNm 1))) (bBin dNe (eCall fLen (aCons (eNm 0) aNil)) (eCall fLen (aCons (eNm 1) aNil)))))
  (sRet (eK (.bool false)))
  sNext)
  (sRet (eCall fAll (aCons (eFz (oComp 2 bYes (eCallP self (aCons (eBin dIx (eNm 0) (eNm 2)) (aCons (eBin dIx (eNm 1) (eNm 2)) aNil))) (iRng (aCons (eCall fLen (aCons (eNm 1) aNil)) aNil)))) aNil))))
  sNext)
  (sSeq (sIf (bUn truD (eUn (dIsi "dict") (eNm 1)))
  (sRet (eAnd (eUn (dIsi "dict") (eNm 0)) (eAnd (eB (bBin dEq (eCall fLen (aCons (eNm 0) aNil)) (eCall fLen (aCons (eNm 1) aNil)))) (eCall fAll (aCons (eFz (oComp 3 bYes (eAnd (eB (bBin dIn (eNm 3) (eNm 0))) (eCallP self (aCons (eBin dIx (eNm 0) (eNm 3)) (aCons (eBin dIx (eNm 1) (eNm 3)) aNil)))) (iAny (eNm 1)))) aNil)))))
  sNext)
  (sSeq (sSet 4 (eAnd (eB (bBin dEq (eUn (dIsi "bool") (eNm 0)) (eUn (dIsi "bool") (eNm 1)))) (eB (bBin dEq (eUn (dIsi "int") (eNm 0)) (eUn (dIsi "int") (eNm 1))))))
  (sRet (eAnd (eNm 4) (eAnd (eB (bBin dEq (eUn (dIsi "str") (eNm 0)) (eUn (dIsi "str") (eNm 1)))) (eB (bBin dEq (eNm 0) (eNm 1)))))))))
def f_law_same : Nat → PF
  | 0 => fun _ => none
  | n + 1 => runP 5 2 (b_law_same (f_law_same n))
theorem ar_law_same : ∀ n, Ar 2 (f_law_same n)
  | 0 => ar_none
  | n + 1 => ar_run
def b_law_condition_words : SS :=
  (sSeq (sIf (bBin dEq (eBin dIx (eNm 0) (eK (.int 1))) (eK (ds (cs "none"))))
  (sRet (eBin dAdd (eBin dIx (eNm 0) (eK (.int 0))) (eK (ds (cs " none")))))
  sNext)
  (sSeq (sIf (bBin dEq (eBin dIx (eNm 0) (eK (.int 1))) (eK (ds (cs "not"))))
  (sRet (eBin dAdd (eBin dAdd (eBin dIx (eNm 0) (eK (.int 0))) (eK (ds (cs " not from ")))) (eBin dIx (eNm 0) (eK (.int 2)))))
  sNext)
  (sRet (eBin dAdd (eBin dAdd (eBin dAdd (eBin dAdd (eBin dIx (eNm 0) (eK (.int 0))) (eK (ds (cs " ")))) (eBin dIx (eNm 0) (eK (.int 1)))) (eK (ds (cs " ")))) (eBin dIx (eNm 0) (eK (.int 2)))))))
def f_law_condition_words : PF := runP 1 1 b_law_condition_words
def b_law_parts : SS :=
  (sSeq (sIf (bBin dEq (eBin dIx (eNm 0) (eK (.int 0))) (eK (ds (cs "need"))))
  (sRet (eFz (oCat (oCall fList (aCons (eBin dIx (eNm 0) (eK (.int 1))) aNil)) (oCall fList (aCons (eBin dIx (eNm 0) (eK (.int 2))) aNil)))))
  sNext)
  (sRet (eFz (oIf (bBin dEq (eBin dIx (eNm 0) (eK (.int 0))) (eK (ds (cs "same")))) (oLst (aCons (eBin dIx (eNm 0) (eK (.int 1))) (aCons (eBin dIx (eNm 0) (eK (.int 2))) aNil))) (oCall fList (aCons (eBin dIx (eNm 0) (eUn dNeg (eK (.int 1)))) aNil))))))
def f_law_parts : PF := runP 1 1 b_law_parts
def b_law_form_words : SS :=
  (sSeq (sSet 1 (eFz (oComp 2 bYes (eCallP f_law_condition_words (aCons (eNm 2) aNil)) (iAny (eCallP f_law_parts (aCons (eNm 0) aNil))))))
  (sSeq (sIf (bBin dEq (eBin dIx (eNm 0) (eK (.int 0))) (eK (ds (cs "need"))))
  (sRet (eBin dAdd (eBin dAdd (eBin dAdd (eK (ds (cs "need "))) (eBin dJoin (eK (ds (cs " and "))) (eSl (eNm 1) pNo (pYes (eCall fLen (aCons (eBin dIx (eNm 0) (eK (.int 1))) aNil)))))) (eK (ds (cs " : ")))) (eBin dJoin (eK (ds (cs " or "))) (eSl (eNm 1) (pYes (eCall fLen (aCons (eBin dIx (eNm 0) (eK (.int 1))) aNil))) pNo))))
  sNext)
  (sRet (eBin dAdd (eBin dAdd (eBin dIx (eNm 0) (eK (.int 0))) (eIf (bOr (bBin dEq (eBin dIx (eNm 0) (eK (.int 0))) (eK (ds (cs "most")))) (bBin dEq (eBin dIx (eNm 0) (eK (.int 0))) (eK (ds (cs "least"))))) (eBin dAdd (eBin dAdd (eK (ds (cs " "))) (eCall fStr (aCons (eBin dIx (eNm 0) (eK (.int 1))) aNil))) (eK (ds (cs " of ")))) (eK (ds (cs " "))))) (eBin dJoin (eK (ds (cs " , "))) (eNm 1))))))
def f_law_form_words : PF := runP 3 1 b_law_form_words
def b_law_price_word : SS :=
  (sRet (eIf (bUn dIsN (eNm 0)) (eK (ds (cs "never"))) (eCall fStr (aCons (eNm 0) aNil))))
def f_law_price_word : PF := runP 1 1 b_law_price_word
def b_law_line_words : SS :=
  (sSeq (sIf (bOr (bBin dEq (eBin dIx (eNm 0) (eK (.int 0))) (eK (ds (cs "release")))) (bBin dEq (eBin dIx (eNm 0) (eK (.int 0))) (eK (ds (cs "feature")))))
  (sSeq (sSet 1 (eBin dAdd (eBin dAdd (eBin dJoin (eK (ds (cs " "))) (eSl (eNm 0) pNo (pYes (eK (.int 3))))) (eIf (bBin dEq (eBin dIx (eNm 0) (eK (.int 0))) (eK (ds (cs "release")))) (eK (ds (cs " after "))) (eK (ds (cs " from "))))) (eBin dIx (eNm 0) (eK (.int 3)))))
  (sRet (eBin dAdd (eBin dAdd (eBin dAdd (eBin dAdd (eNm 1) (eK (ds (cs " up ")))) (eCallP f_law_price_word (aCons (eBin dIx (eNm 0) (eK (.int 4))) aNil))) (eK (ds (cs " down ")))) (eCallP f_law_price_word (aCons (eBin dIx (eNm 0) (eK (.int 5))) aNil)))))
  sNext)
  (sSeq (sIf (bBin dEq (eBin dIx (eNm 0) (eK (.int 0))) (eK (ds (cs "signer"))))
  (sRet (eBin dAdd (eBin dAdd (eBin dAdd (eBin dAdd (eBin dAdd (eK (ds (cs "signer "))) (eBin dIx (eNm 0) (eK (.int 1)))) (eK (ds (cs " ")))) (eCall fStr (aCons (eBin dIx (eNm 0) (eK (.int 2))) aNil))) (eK (ds (cs " : ")))) (eBin dJoin (eK (ds (cs " "))) (eBin dIx (eNm 0) (eK (.int 3))))))
  sNext)
  (sRet (eIf (bBin dEq (eBin dIx (eNm 0) (eK (.int 0))) (eK (ds (cs "row")))) (eBin dAdd (eK (ds (cs "row "))) (eCallP f_law_form_words (aCons (eBin dIx (eNm 0) (eK (.int 1))) aNil))) (eBin dJoin (eK (ds (cs " "))) (eNm 0))))))
def f_law_line_words : PF := runP 2 1 b_law_line_words
def b_law_show : SS :=
  (sRet (eBin dJoin (eK (ds (cs ""))) (eFz (oComp 1 bYes (eBin dAdd (eCallP f_law_line_words (aCons (eNm 1) aNil)) (eK (ds (cs "\n")))) (iAny (eNm 0))))))
def f_law_show : PF := runP 2 1 b_law_show
def b_law_a_version : SS :=
  (sSeq (sSet 1 (eCall fStr (aCons (eCallS f_law_pick 0 (aCons (eK (.int 1000)) aNil)) aNil)))
  (sSeq (sFor (gNm 2) (iRng (aCons (eCallS f_law_pick 0 (aCons (eK (.int 3)) aNil)) aNil))
  (sSet 1 (eBin dAdd (eBin dAdd (eNm 1) (eK (ds (cs ".")))) (eCall fStr (aCons (eIf (bBin dEq (eCallS f_law_pick 0 (aCons (eK (.int 2)) aNil)) (eK (.int 0))) (eCallS f_law_pick 0 (aCons (eK (.int 1000)) aNil)) (eCallS f_law_pick 0 (aCons (eK (.int 3)) aNil))) aNil)))))
  (sRet (eNm 1))))
def f_law_a_version : SF := runS 3 1 b_law_a_version
def b_law_a_release : SS :=
  (sRet (eIf (bBin dEq (eCallS f_law_pick 0 (aCons (eK (.int 5)) aNil)) (eK (.int 0))) (eK (ds (cs "on"))) (eCallS f_law_a_version 0 aNil)))
def f_law_a_release : SF := runS 1 1 b_law_a_release
def b_law_a_name : SS :=
  (sSeq (sSet 2 (eBin dIx (eNm 1) (eCallS f_law_pick 0 (aCons (eCall fLen (aCons (eNm 1) aNil)) aNil))))
  (sRet (eIf (bBin dEq (eCallS f_law_pick 0 (aCons (eK (.int 5)) aNil)) (eK (.int 0))) (eBin dAdd (eBin dAdd (eNm 2) (eK (ds (cs "+")))) (eBin dIx (eNm 1) (eCallS f_law_pick 0 (aCons (eCall fLen (aCons (eNm 1) aNil)) aNil)))) (eNm 2))))
def f_law_a_name : SF := runS 3 2 b_law_a_name
def b_law_a_price : SS :=
  (sRet (eIf (bBin dEq (eCallS f_law_pick 0 (aCons (eK (.int 5)) aNil)) (eK (.int 0))) (eK .none) (eBin dAdd (eK (.int 1)) (eCallS f_law_number 0 (aCons (eBin dPow (eK (.int 10)) (eK (.int 9))) aNil)))))
def f_law_a_price : SF := runS 1 1 b_law_a_price
def b_law_a_condition : SS :=
  (sSeq (sSet 2 (eCallS f_law_pick 0 (aCons (eK (.int 4)) aNil)))
  (sSeq (sSet 3 (eCallS f_law_a_name 0 (aCons (eNm 1) aNil)))
  (sSeq (sIf (bBin dEq (eNm 2) (eK (.int 3)))
  (sRet (eTup (aCons (eNm 3) (aCons (eK (ds (cs "none"))) aNil))))
  sNext)
  (sRet (eTup (aCons (eNm 3) (aCons (eBin dIx (eFz (oLst (aCons (eK (ds (cs "from"))) (aCons (eK (ds (cs "not"))) (aCons (eK (ds (cs "at"))) aNil))))) (eNm 2)) (aCons (eCallS f_law_a_release 0 aNil) aNil))))))))
def f_law_a_condition : SF := runS 4 2 b_law_a_condition
def b_law_a_conditions : SS :=
  (sRet (eCall fTuple (aCons (eFz (oComp 4 bYes (eCallS f_law_a_condition 0 (aCons (eNm 1) aNil)) (iRng (aCons (eBin dAdd (eNm 2) (eCallS f_law_pick 0 (aCons (eBin dAdd (eBin dSub (eNm 3) (eNm 2)) (eK (.int 1))) aNil))) aNil)))) aNil)))
def f_law_a_conditions : SF := runS 5 4 b_law_a_conditions
def b_law_a_form : SS :=
  (sSeq (sSet 2 (eCallS f_law_pick 0 (aCons (eK (.int 6)) aNil)))
  (sSeq (sIf (bBin dEq (eNm 2) (eK (.int 0)))
  (sRet (eTup (aCons (eK (ds (cs "need"))) (aCons (eCallS f_law_a_conditions 0 (aCons (eNm 1) (aCons (eK (.int 1)) (aCons (eK (.int 4)) aNil)))) (aCons (eCallS f_law_a_conditions 0 (aCons (eNm 1) (aCons (eK (.int 1)) (aCons (eK (.int 6)) aNil)))) aNil)))))
  sNext)
  (sSeq (sIf (bBin dEq (eNm 2) (eK (.int 1)))
  (sRet (eTup (aCons (eK (ds (cs "clash"))) (aCons (eCallS f_law_a_conditions 0 (aCons (eNm 1) (aCons (eK (.int 2)) (aCons (eK (.int 6)) aNil)))) aNil))))
  sNext)
  (sSeq (sIf (bBin dEq (eNm 2) (eK (.int 2)))
  (sRet (eTup (aCons (eK (ds (cs "either"))) (aCons (eCallS f_law_a_conditions 0 (aCons (eNm 1) (aCons (eK (.int 1)) (aCons (eK (.int 6)) aNil)))) aNil))))
  sNext)
  (sSeq (sIf (bBin dEq (eNm 2) (eK (.int 3)))
  (sRet (eTup (aCons (eK (ds (cs "same"))) (aCons (eCallS f_law_a_condition 0 (aCons (eNm 1) aNil)) (aCons (eCallS f_law_a_condition 0 (aCons (eNm 1) aNil)) aNil)))))
  sNext)
  (sRet (eTup (aCons (eBin dIx (eFz (oLst (aCons (eK (ds (cs "most"))) (aCons (eK (ds (cs "least"))) aNil)))) (eBin dSub (eNm 2) (eK (.int 4)))) (aCons (eCallS f_law_pick 0 (aCons (eK (.int 7)) aNil)) (aCons (eCallS f_law_a_conditions 0 (aCons (eNm 1) (aCons (eK (.int 1)) (aCons (eK (.int 6)) aNil)))) aNil))))))))))
def f_law_a_form : SF := runS 3 2 b_law_a_form
def b_law_a_line : SS :=
  (sSeq (sSet 2 (eCallS f_law_pick 0 (aCons (eK (.int 12)) aNil)))
  (sSeq (sSet 3 (eBin dIx (eNm 1) (eCallS f_law_pick 0 (aCons (eCall fLen (aCons (eNm 1) aNil)) aNil))))
  (sSeq (sIf (bBin dLt (eNm 2) (eK (.int 3)))
  (sRet (eTup (aCons (eK (ds (cs "row"))) (aCons (eCallS f_law_a_form 0 (aCons (eNm 1) aNil)) aNil))))
  sNext)
  (sSeq (sIf (bBin dEq (eNm 2) (eK (.int 3)))
  (sSeq (sSet 4 (eIf (bBin dEq (eCallS f_law_pick 0 (aCons (eK (.int 2)) aNil)) (eK (.int 0))) (eK (ds (cs "none"))) (eCallS f_law_a_version 0 aNil)))
  (sRet (eTup (aCons (eK (ds (cs "release"))) (aCons (eNm 3) (aCons (eCallS f_law_a_version 0 aNil) (aCons (eNm 4) (aCons (eCallS f_law_a_price 0 aNil) (aCons (eCallS f_law_a_price 0 aNil) aNil)))))))))
  sNext)
  (sSeq (sIf (bBin dEq (eNm 2) (eK (.int 4)))
  (sSeq (sSet 5 (eBin dIx (eNm 1) (eCallS f_law_pick 0 (aCons (eCall fLen (aCons (eNm 1) aNil)) aNil))))
  (sRet (eTup (aCons (eK (ds (cs "feature"))) (aCons (eNm 3) (aCons (eNm 5) (aCons (eCallS f_law_a_version 0 aNil) (aCons (eCallS f_law_a_price 0 aNil) (aCons (eCallS f_law_a_price 0 aNil) aNil)))))))))
  sNext)
  (sSeq (sIf (bBin dLt (eNm 2) (eK (.int 7)))
  (sRet (eTup (aCons (eBin dIx (eFz (oLst (aCons (eK (ds (cs "start"))) (aCons (eK (ds (cs "later"))) aNil)))) (eBin dSub (eNm 2) (eK (.int 5)))) (aCons (eCallS f_law_a_name 0 (aCons (eNm 1) aNil)) (aCons (eCallS f_law_a_release 0 aNil) aNil)))))
  sNext)
  (sSeq (sIf (bBin dEq (eNm 2) (eK (.int 7)))
  (sSeq (sSet 6 (eFz (oComp 7 bYes (eCallS f_law_a_name 0 (aCons (eNm 1) aNil)) (iRng (aCons (eBin dAdd (eK (.int 1)) (eCallS f_law_pick 0 (aCons (eK (.int 8)) aNil))) aNil)))))
  (sRet (eTup (aCons (eK (ds (cs "signer"))) (aCons (eNm 3) (aCons (eBin dAdd (eK (.int 1)) (eCallS f_law_pick 0 (aCons (eK (.int 99)) aNil))) (aCons (eCall fTuple (aCons (eNm 6) aNil)) aNil)))))))
  sNext)
  (sSeq (sIf (bBin dEq (eNm 2) (eK (.int 8)))
  (sRet (eTup (aCons (eK (ds (cs "end"))) aNil)))
  sNext)
  (sRet (eTup (aCons (eBin dIx (eFz (oLst (aCons (eK (ds (cs "name"))) (aCons (eK (ds (cs "hidden"))) (aCons (eK (ds (cs "book"))) aNil))))) (eBin dSub (eNm 2) (eK (.int 9)))) (aCons (eNm 3) aNil))))))))))))
def f_law_a_line : SF := runS 8 2 b_law_a_line
def b_law_a_lines : SS :=
  (sSeq (sSet 2 (eFz (oCallS f_law_words 0 (aCons (eK (.int 6)) aNil))))
  (sSeq (sSetO 3 (oLst aNil))
  (sSeq (sFor (gNm 4) (iRng (aCons (eNm 1) aNil))
  (sSeq (sSet 5 (eCallS f_law_a_line 0 (aCons (eNm 2) aNil)))
  (sApp 3 (eIf (bBin dLe (eCall fLen (aCons (eCallP f_law_line_words (aCons (eNm 5) aNil)) aNil)) (eK (.int 400))) (eNm 5) (eTup (aCons (eK (ds (cs "end"))) aNil))))))
  (sRetO (oNm 3)))))
def f_law_a_lines : SF := runS 6 2 b_law_a_lines
def b_law_a_size : SS :=
  (sSeq (sSet 1 (eCallS f_law_pick 0 (aCons (eK (.int 12)) aNil)))
  (sRet (eIf (bBin dEq (eCallS f_law_pick 0 (aCons (eK (.int 8)) aNil)) (eK (.int 0))) (eBin dAdd (eNm 1) (eK (.int 60))) (eNm 1))))
def f_law_a_size : SF := runS 2 1 b_law_a_size
def b_law : SS :=
  (sSeq (sSetO 1 (oCallP f_law_source (aCons (eNm 0) (aCons (eK (.int 0)) aNil))))
  (sSeq (sSet 2 (eFz (oCallS f_law_a_lines 1 (aCons (eCallS f_law_a_size 1 aNil) aNil))))
  (sSeq (sSetO 3 (oCallP f_law_source (aCons (eNm 0) (aCons (eK (.int 1)) aNil))))
  (sSeq (sSet 4 (eFz (oCallS f_law_a_lines 3 (aCons (eCallS f_law_a_size 3 aNil) aNil))))
  (sSeq (sSet 5 (eCallP f_law_show (aCons (eNm 2) aNil)))
  (sSeq (sIf (bAnd (bBin dEq (eCallS f_law_pick 3 (aCons (eK (.int 2)) aNil)) (eK (.int 0))) (bUn truD (eNm 2)))
  (sSet 5 (eSl (eNm 5) pNo (pYes (eUn dNeg (eK (.int 1))))))
  sNext)
  (sSeq (sSetO 6 (oCallP f_read_lines (aCons (eNm 5) aNil)))
  (sSeq (sIf (bNot (bUn truD (eCallB (f_law_same 10) 6 (aCons (eNm 2) aNil))))
  (sRet (eK (.bool false)))
  sNext)
  (sSeq (sIf (bNot (bUn truD (eCallP (f_law_same 10) (aCons (eFz (oCallP f_read_lines (aCons (eCallP f_law_show (aCons (eNm 4) aNil)) aNil))) (aCons (eNm 4) aNil)))))
  (sRet (eK (.bool false)))
  sNext)
  (sSeq (sApp 6 (eTup (aCons (eK (ds (cs "end"))) aNil)))
  (sSeq (sRev 6)
  (sSeq (sIf (bNot (bUn truD (eCallP (f_law_same 10) (aCons (eFz (oCallP f_read_lines (aCons (eNm 5) aNil))) (aCons (eNm 2) aNil)))))
  (sRet (eK (.bool false)))
  sNext)
  (sSeq (sSet 7 (eFz (oCall fList (aCons (eNm 4) aNil))))
  (sSeq (sSet 8 (eCallP f_print_lines (aCons (eNm 7) aNil)))
  (sSeq (sIf (bOr (bNot (bUn truD (eCallP (f_law_same 10) (aCons (eNm 7) (aCons (eNm 4) aNil))))) (bNot (bUn truD (eCallP (f_law_same 10) (aCons (eNm 8) (aCons (eCallP f_law_show (aCons (eNm 4) aNil)) aNil))))))
  (sRet (eK (.bool false)))
  sNext)
  (sRet (eCallP (f_law_same 10) (aCons (eCallP f_print_lines (aCons (eCall fTuple (aCons (eNm 2) aNil)) aNil)) (aCons (eCallP f_law_show (aCons (eNm 2) aNil)) aNil)))))))))))))))))))
def f_law : PF := runP 9 1 b_law
end DL

set_option Elab.async false
set_option linter.all false
set_option maxRecDepth 100000
set_option maxHeartbeats 4000000
namespace DL
open PySem PySem.Spec L2
def top (i : Nat) : Stmt := PySem.Challenge.pw_mustask_k00_lines_there_and_back.main.body.getD i (.Pass ⟨0, 0, 0, 0⟩)
abbrev s_sign_fault : Stmt := top 10
abbrev s_is_figures : Stmt := top 11
abbrev s_is_number : Stmt := top 12
abbrev s_is_word : Stmt := top 13
abbrev s_is_version : Stmt := top 14
abbrev s_is_release : Stmt := top 15
abbrev s_is_price : Stmt := top 16
abbrev s_price_of : Stmt := top 17
abbrev s_price_word : Stmt := top 18
abbrev s_is_short_name : Stmt := top 19
abbrev s_is_whole_name : Stmt := top 20
abbrev s_split_tokens : Stmt := top 21
abbrev s_read_condition : Stmt := top 23
abbrev s_read_conditions : Stmt := top 24
abbrev s_read_need : Stmt := top 25
abbrev s_read_counted : Stmt := top 26
abbrev s_read_form : Stmt := top 27
abbrev s_condition_words : Stmt := top 28
abbrev s_many_words : Stmt := top 29
abbrev s_form_words : Stmt := top 30
abbrev s_bound_check : Stmt := top 33
abbrev s_text_rows : Stmt := top 36
abbrev s_checked_rows : Stmt := top 37
abbrev s_read_release : Stmt := top 38
abbrev s_read_feature : Stmt := top 39
abbrev s_read_signer : Stmt := top 40
abbrev s_read_line : Stmt := top 41
abbrev s_read_lines : Stmt := top 42
abbrev s_line_words : Stmt := top 43
abbrev s_print_lines : Stmt := top 44
abbrev s_law_cell : Stmt := top 46
abbrev s_law_source : Stmt := top 47
abbrev s_law_pick : Stmt := top 48
abbrev s_law_number : Stmt := top 49
abbrev s_law_kept : Stmt := top 50
abbrev s_law_words : Stmt := top 51
abbrev s_law_same : Stmt := top 52
abbrev s_law_condition_words : Stmt := top 53
abbrev s_law_parts : Stmt := top 58
abbrev s_law_form_words : Stmt := top 54
abbrev s_law_price_word : Stmt := top 55
abbrev s_law_line_words : Stmt := top 56
abbrev s_law_show : Stmt := top 57
abbrev s_law_a_version : Stmt := top 59
abbrev s_law_a_release : Stmt := top 60
abbrev s_law_a_name : Stmt := top 61
abbrev s_law_a_price : Stmt := top 62
abbrev s_law_a_condition : Stmt := top 63
abbrev s_law_a_conditions : Stmt := top 64
abbrev s_law_a_form : Stmt := top 65
abbrev s_law_a_line : Stmt := top 66
abbrev s_law_a_lines : Stmt := top 67
abbrev s_law_a_size : Stmt := top 68
abbrev s_law : Stmt := top 69
structure Txt (w : World) (K : PySem.W.Frag) (mg : Str → Option Value) where
  a_sign_fault : Addr
  t_sign_fault : FuncData
  d_sign_fault : Dfn K mg "sign_fault" s_sign_fault ["line"] a_sign_fault t_sign_fault
  a_is_figures : Addr
  t_is_figures : FuncData
  d_is_figures : Dfn K mg "is_figures" s_is_figures ["token"] a_is_figures t_is_figures
  a_is_number : Addr
  t_is_number : FuncData
  d_is_number : Dfn K mg "is_number" s_is_number ["token", "least", "most"] a_is_number t_is_number
  a_is_word : Addr
  t_is_word : FuncData
  d_is_word : Dfn K mg "is_word" s_is_word ["token"] a_is_word t_is_word
  a_is_version : Addr
  t_is_version : FuncData
  d_is_version : Dfn K mg "is_version" s_is_version ["token"] a_is_version t_is_version
  a_is_release : Addr
  t_is_release : FuncData
  d_is_release : Dfn K mg "is_release" s_is_release ["token"] a_is_release t_is_release
  a_is_price : Addr
  t_is_price : FuncData
  d_is_price : Dfn K mg "is_price" s_is_price ["token"] a_is_price t_is_price
  a_price_of : Addr
  t_price_of : FuncData
  d_price_of : Dfn K mg "price_of" s_price_of ["token"] a_price_of t_price_of
  a_price_word : Addr
  t_price_word : FuncData
  d_price_word : Dfn K mg "price_word" s_price_word ["worth"] a_price_word t_price_word
  a_is_short_name : Addr
  t_is_short_name : FuncData
  d_is_short_name : Dfn K mg "is_short_name" s_is_short_name ["token"] a_is_short_name t_is_short_name
  a_is_whole_name : Addr
  t_is_whole_name : FuncData
  d_is_whole_name : Dfn K mg "is_whole_name" s_is_whole_name ["token"] a_is_whole_name t_is_whole_name
  a_split_tokens : Addr
  t_split_tokens : FuncData
  d_split_tokens : Dfn K mg "split_tokens" s_split_tokens ["tokens", "mark"] a_split_tokens t_split_tokens
  a_read_condition : Addr
  t_read_condition : FuncData
  d_read_condition : Dfn K mg "read_condition" s_read_condition ["tokens", "whole"] a_read_condition t_read_condition
  a_read_conditions : Addr
  t_read_conditions : FuncData
  d_read_conditions : Dfn K mg "read_conditions" s_read_conditions ["tokens", "mark", "least", "most"] a_read_conditions t_read_conditions
  a_read_need : Addr
  t_read_need : FuncData
  d_read_need : Dfn K mg "read_need" s_read_need ["tokens"] a_read_need t_read_need
  a_read_counted : Addr
  t_read_counted : FuncData
  d_read_counted : Dfn K mg "read_counted" s_read_counted ["tokens"] a_read_counted t_read_counted
  a_read_form : Addr
  t_read_form : FuncData
  d_read_form : Dfn K mg "read_form" s_read_form ["tokens"] a_read_form t_read_form
  a_condition_words : Addr
  t_condition_words : FuncData
  d_condition_words : Dfn K mg "condition_words" s_condition_words ["condition"] a_condition_words t_condition_words
  a_many_words : Addr
  t_many_words : FuncData
  d_many_words : Dfn K mg "many_words" s_many_words ["conditions", "mark"] a_many_words t_many_words
  a_form_words : Addr
  t_form_words : FuncData
  d_form_words : Dfn K mg "form_words" s_form_words ["form"] a_form_words t_form_words
  a_bound_check : Addr
  t_bound_check : FuncData
  d_bound_check : Dfn K mg "bound_check" s_bound_check ["what", "number"] a_bound_check t_bound_check
  a_text_rows : Addr
  t_text_rows : FuncData
  d_text_rows : Dfn K mg "text_rows" s_text_rows ["text"] a_text_rows t_text_rows
  a_checked_rows : Addr
  t_checked_rows : FuncData
  d_checked_rows : Dfn K mg "checked_rows" s_checked_rows ["text"] a_checked_rows t_checked_rows
  a_read_release : Addr
  t_read_release : FuncData
  d_read_release : Dfn K mg "read_release" s_read_release ["tokens"] a_read_release t_read_release
  a_read_feature : Addr
  t_read_feature : FuncData
  d_read_feature : Dfn K mg "read_feature" s_read_feature ["tokens"] a_read_feature t_read_feature
  a_read_signer : Addr
  t_read_signer : FuncData
  d_read_signer : Dfn K mg "read_signer" s_read_signer ["tokens"] a_read_signer t_read_signer
  a_read_line : Addr
  t_read_line : FuncData
  d_read_line : Dfn K mg "read_line" s_read_line ["tokens"] a_read_line t_read_line
  a_read_lines : Addr
  t_read_lines : FuncData
  d_read_lines : Dfn K mg "read_lines" s_read_lines ["text"] a_read_lines t_read_lines
  a_line_words : Addr
  t_line_words : FuncData
  d_line_words : Dfn K mg "line_words" s_line_words ["line"] a_line_words t_line_words
  a_print_lines : Addr
  t_print_lines : FuncData
  d_print_lines : Dfn K mg "print_lines" s_print_lines ["lines"] a_print_lines t_print_lines
  a_law_cell : Addr
  t_law_cell : FuncData
  d_law_cell : Dfn K mg "_law_cell" s_law_cell ["script", "at"] a_law_cell t_law_cell
  a_law_source : Addr
  t_law_source : FuncData
  d_law_source : Dfn K mg "_law_source" s_law_source ["script", "at"] a_law_source t_law_source
  a_law_pick : Addr
  t_law_pick : FuncData
  d_law_pick : Dfn K mg "_law_pick" s_law_pick ["s", "many"] a_law_pick t_law_pick
  a_law_number : Addr
  t_law_number : FuncData
  d_law_number : Dfn K mg "_law_number" s_law_number ["s", "limit"] a_law_number t_law_number
  a_law_kept : Addr
  t_law_kept : FuncData
  d_law_kept : Dfn K mg "_law_kept" s_law_kept [] a_law_kept t_law_kept
  a_law_words : Addr
  t_law_words : FuncData
  d_law_words : Dfn K mg "_law_words" s_law_words ["s", "many"] a_law_words t_law_words
  a_law_same : Addr
  t_law_same : FuncData
  d_law_same : Dfn K mg "_law_same" s_law_same ["answer", "due"] a_law_same t_law_same
  a_law_condition_words : Addr
  t_law_condition_words : FuncData
  d_law_condition_words : Dfn K mg "_law_condition_words" s_law_condition_words ["c"] a_law_condition_words t_law_condition_words
  a_law_parts : Addr
  t_law_parts : FuncData
  d_law_parts : Dfn K mg "_law_parts" s_law_parts ["form"] a_law_parts t_law_parts
  a_law_form_words : Addr
  t_law_form_words : FuncData
  d_law_form_words : Dfn K mg "_law_form_words" s_law_form_words ["form"] a_law_form_words t_law_form_words
  a_law_price_word : Addr
  t_law_price_word : FuncData
  d_law_price_word : Dfn K mg "_law_price_word" s_law_price_word ["price"] a_law_price_word t_law_price_word
  a_law_line_words : Addr
  t_law_line_words : FuncData
  d_law_line_words : Dfn K mg "_law_line_words" s_law_line_words ["line"] a_law_line_words t_law_line_words
  a_law_show : Addr
  t_law_show : FuncData
  d_law_show : Dfn K mg "_law_show" s_law_show ["lines"] a_law_show t_law_show
  a_law_a_version : Addr
  t_law_a_version : FuncData
  d_law_a_version : Dfn K mg "_law_a_version" s_law_a_version ["s"] a_law_a_version t_law_a_version
  a_law_a_release : Addr
  t_law_a_release : FuncData
  d_law_a_release : Dfn K mg "_law_a_release" s_law_a_release ["s"] a_law_a_release t_law_a_release
  a_law_a_name : Addr
  t_law_a_name : FuncData
  d_law_a_name : Dfn K mg "_law_a_name" s_law_a_name ["s", "words"] a_law_a_name t_law_a_name
  a_law_a_price : Addr
  t_law_a_price : FuncData
  d_law_a_price : Dfn K mg "_law_a_price" s_law_a_price ["s"] a_law_a_price t_law_a_price
  a_law_a_condition : Addr
  t_law_a_condition : FuncData
  d_law_a_condition : Dfn K mg "_law_a_condition" s_law_a_condition ["s", "words"] a_law_a_condition t_law_a_condition
  a_law_a_conditions : Addr
  t_law_a_conditions : FuncData
  d_law_a_conditions : Dfn K mg "_law_a_conditions" s_law_a_conditions ["s", "words", "least", "most"] a_law_a_conditions t_law_a_conditions
  a_law_a_form : Addr
  t_law_a_form : FuncData
  d_law_a_form : Dfn K mg "_law_a_form" s_law_a_form ["s", "words"] a_law_a_form t_law_a_form
  a_law_a_line : Addr
  t_law_a_line : FuncData
  d_law_a_line : Dfn K mg "_law_a_line" s_law_a_line ["s", "words"] a_law_a_line t_law_a_line
  a_law_a_lines : Addr
  t_law_a_lines : FuncData
  d_law_a_lines : Dfn K mg "_law_a_lines" s_law_a_lines ["s", "many"] a_law_a_lines t_law_a_lines
  a_law_a_size : Addr
  t_law_a_size : FuncData
  d_law_a_size : Dfn K mg "_law_a_size" s_law_a_size ["s"] a_law_a_size t_law_a_size
  a_law : Addr
  t_law : FuncData
  d_law : Dfn K mg "law" s_law ["script"] a_law t_law
  k_LETTERS : GlobK K mg "LETTERS" k_LETTERS
  k_FIGURES : GlobK K mg "FIGURES" k_FIGURES
  k_SIGNS : GlobK K mg "SIGNS" k_SIGNS
  k_KEPT : GlobK K mg "KEPT" k_KEPT
  k_GREATEST_PRICE : GlobK K mg "GREATEST_PRICE" k_GREATEST_PRICE
  k_FIRST_WORDS : GlobK K mg "FIRST_WORDS" k_FIRST_WORDS
  k_LIMITS : TabK w K mg "LIMITS" k_LIMITS
  z_abs : mg "abs" = none
  z_all : mg "all" = none
  z_bool : mg "bool" = none
  z_dict : mg "dict" = none
  z_enumerate : mg "enumerate" = none
  z_int : mg "int" = none
  z_isinstance : mg "isinstance" = none
  z_len : mg "len" = none
  z_list : mg "list" = none
  z_min : mg "min" = none
  z_range : mg "range" = none
  z_str : mg "str" = none
  z_tuple : mg "tuple" = none
end DL

set_option Elab.async false
set_option linter.all false
set_option maxRecDepth 100000
set_option maxHeartbeats 4000000
namespace DL
open PySem PySem.Spec L2
section
variable {P : Program} {w : World} {K : PySem.W.Frag} {mg : Str → Option Value} {base : Heap}
/-- the parts stand at p, each at its own place; what stood stands -/
structure PartsAt (H0 H : Hp) (p : Addr) (as : List Addr) (ps : List (List Str)) : Prop where
  same : Same H0 H
  p0 : H0 p = none
  a0 : ∀ a ∈ as, H0 a = none
  nd : (p :: as).Nodup
  hp : H p = some (.lst (as.map V.ref))
  len : as.length = ps.length
  each : ∀ (k : Nat) a, as[k]? = some a → ∃ q, ps[k]? = some q ∧ H a = some (.lst (q.map V.str))
theorem PartsAt.more {H0 H : Hp} {p : Addr} {as : List Addr} {ps : List (List Str)} (h : PartsAt H0 H p as ps) {l : Addr} (hl : H l = none) : PartsAt H0 (upd (upd H l (.lst [])) p (.lst (as.map V.ref ++ [.ref l]))) p (as ++ [l]) (ps ++ [[]]) := by
  have hlp : l ≠ p := fun z => by rw [z, h.hp] at hl; cases hl
  have hla : ∀ a ∈ as, l ≠ a := fun a ha z => by
    subst z
    obtain ⟨k, hk⟩ := List.getElem?_of_mem ha
    obtain ⟨q, _, e⟩ := h.each k _ hk
    rw [hl] at e; cases e
  obtain ⟨np, na⟩ := List.nodup_cons.mp h.nd
  refine ⟨fun b o e => ?_, h.p0, fun a ha => ?_, ?_, ?_, ?_, fun k a hk => ?_⟩
  · rw [upd_ne (ne_of_none e h.p0), upd_ne (ne_of_none (h.same b o e) hl)]
    exact h.same b o e
  · rcases List.mem_append.mp ha with ha | ha
    · exact h.a0 a ha
    · rw [List.mem_singleton.mp ha]; exact h.same.free hl
  · refine List.nodup_cons.mpr ⟨fun z => ?_, List.nodup_append.mpr ⟨na, by simp, fun a ha b hb => ?_⟩⟩
    · rcases List.mem_append.mp z with z | z
      · exact np z
      · exact hlp (List.mem_singleton.mp z).symm
    · rw [List.mem_singleton.mp hb]; exact (hla a ha).symm
  · rw [upd_same, List.map_append]; rfl
  · rw [List.length_append, List.length_append, h.len]; rfl
  · by_cases hk' : k < as.length
    · rw [List.getElem?_append_left hk'] at hk
      obtain ⟨q, e1, e2⟩ := h.each k a hk
      refine ⟨q, by rw [List.getElem?_append_left (by rw [← h.len]; exact hk')]; exact e1, ?_⟩
      rw [upd_ne (fun (z : a = p) => np (by rw [← z]; exact List.mem_of_getElem? hk)), upd_ne (hla a (List.mem_of_getElem? hk)).symm]
      exact e2
    · rw [List.getElem?_append_right (by omega)] at hk
      have hk0 : k - as.length = 0 := by
        cases q : k - as.length with
        | zero => rfl
        | succ j => rw [q] at hk; simp at hk
      rw [hk0] at hk
      have : l = a := by simpa using hk
      subst this
      refine ⟨[], ?_, by rw [upd_ne hlp, upd_same]; rfl⟩
      rw [List.getElem?_append_right (by rw [← h.len]; omega), ← h.len, hk0]
      rfl
theorem PartsAt.last {H0 H : Hp} {p : Addr} {as : List Addr} {l : Addr} {ps : List (List Str)} {q : List Str} {t : Str} (h : PartsAt H0 H p (as ++ [l]) (ps ++ [q])) : PartsAt H0 (upd H l (.lst ((q ++ [t]).map V.str))) p (as ++ [l]) (ps ++ [q ++ [t]]) := by
  have hlen : as.length = ps.length := by have := h.len; rw [List.length_append, List.length_append] at this; simpa using this
  obtain ⟨np, na⟩ := List.nodup_cons.mp h.nd
  have hlp : p ≠ l := fun z => np (by rw [z]; simp)
  have h0l : H0 l = none := h.a0 l (by simp)
  refine ⟨fun b o e => ?_, h.p0, h.a0, h.nd, ?_, by rw [List.length_append, List.length_append, hlen]; rfl, fun k a hk => ?_⟩
  · rw [upd_ne (ne_of_none e h0l)]; exact h.same b o e
  · rw [upd_ne hlp]; exact h.hp
  · by_cases hk' : k < as.length
    · have hk2 := hk
      rw [List.getElem?_append_left hk'] at hk2
      obtain ⟨q', e1, e2⟩ := h.each k a hk
      have hal : a ≠ l := fun z => by
        subst z
        exact (List.nodup_append.mp na).2.2 a (List.mem_of_getElem? hk2) a (by simp) rfl
      refine ⟨q', ?_, by rw [upd_ne hal]; exact e2⟩
      rw [List.getElem?_append_left (by omega)] at e1 ⊢
      exact e1
    · rw [List.getElem?_append_right (by omega)] at hk
      have hk0 : k - as.length = 0 := by
        cases q : k - as.length with
        | zero => rfl
        | succ j => rw [q] at hk; simp at hk
      rw [hk0] at hk
      have : l = a := by simpa using hk
      subst this
      refine ⟨q ++ [t], ?_, upd_same⟩
      rw [List.getElem?_append_right (by omega), ← hlen, hk0]
      rfl
theorem dpa_strs' {F : Hp} : ∀ ys : List Str, DpAll K F (ys.map V.str) (ys.map PyData.str)
  | [] => .nil
  | y :: r => .cons (.str y) (dpa_strs' r)
theorem parts_dp {F : Hp} : ∀ {as : List Addr} {ps : List (List Str)}, as.length = ps.length → (∀ (k : Nat) a, as[k]? = some a → ∃ q, ps[k]? = some q ∧ F a = some (.lst (q.map V.str))) → DpAll K F (as.map V.ref) (ps.map fun p => .list (p.map PyData.str))
  | [], [], _, _ => .nil
  | [], _ :: _, h, _ => by cases h
  | _ :: _, [], h, _ => by cases h
  | a :: as, p :: ps, h, e => by
    obtain ⟨q, e1, e2⟩ := e 0 a rfl
    have : p = q := by simpa using e1
    subst this
    exact .cons (.lst (SqL.of e2) (dpa_strs' p)) (parts_dp (by simpa using h) fun k b hk => e (k + 1) b (by simpa using hk))
/-- what stands still, with all that was made -/
def over (F H : Hp) (as : List Addr) : Hp := fun b => if b ∈ as then H b else F b
theorem sc_split_tokens : FnScope ["tokens", "mark", "parts", "token"] ["tokens", "mark"] (defScope s_split_tokens) := ⟨rfl, rfl, rfl, by decide +kernel, rfl, by decide +kernel, by decide +kernel⟩
theorem ok_split_tokens (T : Txt w K mg) : FnOk P w K mg base CX0 1 T.a_split_tokens T.t_split_tokens ["tokens", "mark"] (spP K 2 f_split_tokens) := by
  have sc := sc_split_tokens
  refine T.d_split_tokens.F.ok sc (fun vs H Q E h => h.1) (fun cdv A outer s H vs Q E hr h => ?_)
  obtain ⟨hl, F, ds, r, sm, dp, e, k⟩ := h
  unfold f_split_tokens at e
  split at e
  · rename_i ts m
    obtain ⟨ys, e1, e2⟩ := Option.bind_eq_some_iff.mp e
    split at e2
    · rename_i hlen
      cases e2
      obtain ⟨v1, v2, rfl, d1, d2⟩ := dpa2 dp
      rw [dp_str d2]
      obtain ⟨a, xs, rfl, hs, dx⟩ := dp_list d1
      rw [strsOf_dp dx e1] at hs
      refine ⟨_, pss_cons (ps_set (i := 2) sc.nd rfl (Or.inl rfl) (pe_lst (pa_cons (pe_lst pa_nil) pa_nil)))
        (pss_cons (ps_for PassesOwn.never rfl (pi_list (pv 0)) (pg_name (i := 3) sc.nd rfl (Or.inl rfl))
          (pss_one (ps_if (pt_cmpR op_eq (pv 3) (pv 1) (nomark _))
            (pss_one (ps_expr (pe_bm PySem.F.plainAttrs_list PySem.F.slot_list_append PySem.F.type_list_append mt_append (pv 2) (pa_cons (pe_lst pa_nil) pa_nil))))
            (pss_one (ps_expr (pe_bm PySem.F.plainAttrs_list PySem.F.slot_list_append PySem.F.type_list_append mt_append (pe_ix ix_list (pv 2) (pe_un un_neg pe_int) (fun _ _ => rfl)) (pa_cons (pv 3) pa_nil)))))))
        (pss_one (ps_ret (pv 2)))), ?_⟩
      refine ⟨Nat.zero_le _, fun l hl0 => ⟨by show 1 ≤ sizeLine; decide, fun p hp => ?_⟩⟩
      have hlp : l ≠ p := fun z => by rw [z, upd_same] at hp; cases hp
      have hp0 : H p = none := by rw [upd_ne hlp.symm] at hp; exact hp
      have start0 : PartsAt H (upd (upd H l (.lst [])) p (.lst [.ref l])) p [l] [[]] := by
        refine ⟨fun b o e => ?_, hp0, fun b hb => by rw [List.mem_singleton.mp hb]; exact hl0, List.nodup_cons.mpr ⟨fun z => hlp (List.mem_singleton.mp z).symm, by simp⟩, upd_same, rfl, fun j b hj => ?_⟩
        · rw [upd_ne (ne_of_none e hp0), upd_ne (ne_of_none e hl0)]; exact e
        · cases j with
          | zero =>
            have : l = b := by simpa using hj
            subst this
            exact ⟨[], rfl, by rw [upd_ne hlp, upd_same]; rfl⟩
          | succ j => simp at hj
      refine ⟨_, rfl, a, rfl, ⟨_, start0.same.seq (sm.seq hs)⟩, for_list (K := K) (a := a) (xs := ys.map V.str) (fun i σ H' => ∃ (as : List Addr) (la : Addr) (acc : List (List Str)) (cur : List Str) (v : Option V), σ = [some (.ref a), some (.str m), some (.ref p), v] ∧
          PartsAt H H' p (as ++ [la]) (acc ++ [cur]) ∧ splitL m (ys.drop i) acc cur = splitL m ys [] [] ∧ (as ++ [la]).length ≤ i + 1 ∧ cur.length ≤ i)
        ⟨[], l, [], [], none, rfl, start0, rfl, Nat.le_refl _, Nat.le_refl _⟩ (fun i σ H' _ ⟨_, _, _, _, _, _, R, _⟩ => R.same.seq (sm.seq hs)) ?_ ?_⟩
      · rintro i y σ H' hi ⟨as, la, acc, cur, v, rfl, R, eq, hn, hc⟩
        have hi2 : i < ys.length := by
          have q := (List.getElem?_eq_some_iff.mp hi).1
          rw [List.length_map] at q
          exact q
        rw [List.getElem?_map, List.getElem?_eq_getElem hi2] at hi
        cases hi
        rw [List.drop_eq_getElem_cons hi2] at eq
        refine ⟨_, rfl, _, rfl, rfl, _, rfl, ?_⟩
        refine ite2 (fun ht => ?_) (fun ht => ?_)
        · have ht' : ys[i] = m := V.str.inj (of_decide_eq_true ht)
          refine ⟨_, rfl, .inl ⟨rfl, _, SqL.of R.hp⟩, Nat.zero_le _, fun l2 hl2 => ?_⟩
          have hne : p ≠ l2 := fun z => by rw [← z, R.hp] at hl2; cases hl2
          refine ⟨p, _, _, rfl, rfl, (by rw [upd_ne hne]; exact R.hp), ?_, ?_⟩
          · rw [List.length_map]
            have : sizeLine = 16777216 := sizeLine_eq
            omega
          refine ⟨as ++ [la], l2, acc ++ [cur], [], some (.str ys[i]), rfl, R.more hl2, ?_, by rw [List.length_append, List.length_singleton]; omega, Nat.zero_le _⟩
          rw [← eq]
          unfold splitL
          rw [if_pos ht']
          cases ys.drop (i + 1) <;> rfl
        · have ht' : ¬ ys[i] = m := fun z => ht (decide_eq_true (by rw [z]))
          have hlast : H' la = some (.lst (cur.map V.str)) := by
            have hl' : as.length = acc.length := by have := R.len; rw [List.length_append, List.length_append] at this; simpa using this
            obtain ⟨q, e3, e4⟩ := R.each as.length la (by simp)
            rw [hl'] at e3
            have : cur = q := by simpa using e3
            rw [this]; exact e4
          refine ⟨_, rfl, _, rfl, p, _, (-1 : Int), .ref la, rfl, rfl, SqL.of R.hp, ?_, .inl ⟨rfl, _, SqL.of hlast⟩, _, rfl, la, _, _, rfl, rfl, hlast, ?_, ?_⟩
          · rw [List.map_append]
            exact atI_last _ _
          · rw [List.length_map]
            have : sizeLine = 16777216 := sizeLine_eq
            omega
          · refine ⟨as, la, acc, cur ++ [ys[i]], some (.str ys[i]), rfl, ?_, ?_, by omega, by rw [List.length_append, List.length_singleton]; omega⟩
            · have := R.last (t := ys[i])
              rw [List.map_append] at this
              exact this
            · rw [← eq]
              conv => rhs; unfold splitL
              rw [if_neg ht']
      · rintro σ H' ⟨as, la, acc, cur, v, rfl, R, eq, hn, hc⟩
        rw [List.length_map, List.drop_length] at eq
        have eq' : acc ++ [cur] = splitL m ys [] [] := eq
        refine ⟨_, rfl, ?_⟩
        rw [eq'] at R
        have inb : ∀ b ∈ p :: (as ++ [la]), H b = none := fun b hb => by
          rcases List.mem_cons.mp hb with z | z
          · rw [z]; exact R.p0
          · exact R.a0 b z
        have notF : ∀ b o, F b = some o → b ∉ p :: (as ++ [la]) := fun b o e z => by
          have := inb b z
          rw [sm b o e] at this; cases this
        refine k (.ref p) (over F H' (p :: (as ++ [la]))) H' (fun b o e => ?_) (fun b o e => ?_) (fun b o e => ?_) R.same ?_
        · unfold over; rw [if_neg (notF b o e)]; exact e
        · unfold over at e
          split at e
          · exact e
          · exact R.same _ _ (sm b o e)
        · unfold over at e
          split at e
          · rename_i hb; exact .inr (inb b hb)
          · exact .inl e
        · refine .lst (SqL.of (?_ : over F H' (p :: (as ++ [la])) p = _)) (parts_dp R.len fun j b hj => ?_)
          · unfold over; rw [if_pos List.mem_cons_self]; exact R.hp
          · obtain ⟨q, g1, g2⟩ := R.each j b hj
            refine ⟨q, g1, ?_⟩
            unfold over; rw [if_pos (List.mem_cons_of_mem _ (List.mem_of_getElem? hj))]; exact g2
    · cases e2
  · cases e
end
end DL

set_option Elab.async false
set_option linter.all false
set_option maxRecDepth 100000
set_option maxHeartbeats 4000000
namespace DL
open PySem PySem.Spec L2
section
variable {P : Program} {w : World} {K : PySem.W.Frag} {mg : Str → Option Value} {base : Heap}
theorem sc_sign_fault : FnScope ["line", "sign"] ["line"] (defScope s_sign_fault) := ⟨rfl, rfl, rfl, by decide +kernel, rfl, by decide +kernel, by decide +kernel⟩
theorem ok_sign_fault (T : Txt w K mg) : FnOk P w K mg base CX0 1 T.a_sign_fault T.t_sign_fault ["line"] (spP K 1 f_sign_fault) := by
  have sc := sc_sign_fault
  exact okP T.d_sign_fault.F sc (fun cdv A outer s H E W hr hP =>
    (dss_cons (ds_if (dt_cmp (op_eqq hr.units) sEq (de_nm 0) de_cs)
    (dss_one (ds_ret de_cs))
    dss_nil)
    (dss_cons (ds_for PassesOwn.never rfl (di_any (de_nm 0)) (dg_nm 1 (hP 1) sc.nd)
    (dss_one (ds_if (dt_cmp op_notInn sNotIn (de_nm 1) (de_g T.k_SIGNS))
    (dss_one (ds_ret de_cs))
    dss_nil)))
    (dss_cons (ds_if (PW.pt (dw_or (dt_cmp (op_eqq hr.units) sEq (de_ix ix_seq sIx (de_nm 0) de_int) de_cs) (dw_or (dt_cmp (op_eqq hr.units) sEq (de_ix ix_seq sIx (de_nm 0) (de_neg de_int)) de_cs) (dw_or1 (dt_cmp op_inn sIn de_cs (de_nm 0))))))
    (dss_one (ds_ret de_cs))
    dss_nil)
    (dss_one (ds_ret de_cs))))))
theorem sc_is_figures : FnScope ["token", "sign"] ["token"] (defScope s_is_figures) := ⟨rfl, rfl, rfl, by decide +kernel, rfl, by decide +kernel, by decide +kernel⟩
theorem ok_is_figures (T : Txt w K mg) : FnOk P w K mg base CX0 1 T.a_is_figures T.t_is_figures ["token"] (spP K 1 f_is_figures) := by
  have sc := sc_is_figures
  exact okP T.d_is_figures.F sc (fun cdv A outer s H E W hr hP =>
    (dss_cons (ds_if (PW.pt (dw_or (dt_cmp (op_eqq hr.units) sEq (de_nm 0) de_cs) (dw_or1 (PW.pt (dw_and (dt_cmp (op_eqq hr.units) sEq (de_ix ix_seq sIx (de_nm 0) de_int) de_cs) (dw_and1 (dt_cmp (op_nee hr.units) sNe (de_nm 0) de_cs)))))))
    (dss_one (ds_ret de_bl))
    dss_nil)
    (dss_cons (ds_for PassesOwn.never rfl (di_any (de_nm 0)) (dg_nm 1 (hP 1) sc.nd)
    (dss_one (ds_if (dt_cmp op_notInn sNotIn (de_nm 1) (de_g T.k_FIGURES))
    (dss_one (ds_ret de_bl))
    dss_nil)))
    (dss_one (ds_ret de_bl)))))
theorem sc_is_number : FnScope ["token", "least", "most"] ["token", "least", "most"] (defScope s_is_number) := ⟨rfl, rfl, rfl, by decide +kernel, rfl, by decide +kernel, by decide +kernel⟩
theorem ok_is_number (T : Txt w K mg) : FnOk P w K mg base CX0 2 T.a_is_number T.t_is_number ["token", "least", "most"] (spP K 3 f_is_number) := by
  have sc := sc_is_number
  exact okP T.d_is_number.F sc (fun cdv A outer s H E W hr hP =>
    (dss_cons (ds_if (PW.pt (dw_or (dt_not (dt_tru (de_call (ok_is_figures T) (hr.mono (by decide)) T.d_is_figures.m T.d_is_figures.F.kp T.d_is_figures.b ar_run (da_cons (de_nm 0) da_nil)))) (dw_or1 (dt_cmp op_gt sCmp (de_callB c_len s_len (by rfl) T.z_len bb_len (da_cons (de_nm 0) da_nil)) de_int))))
    (dss_one (ds_ret de_bl))
    dss_nil)
    (dss_one (ds_ret (de_chain op_le op_le sCmp sCmp (de_nm 1) (de_callTy c_int s_int (by rfl) T.z_int bb_int (da_cons (de_nm 0) da_nil)) (de_nm 2))))))
theorem sc_is_word : FnScope ["token", "sign"] ["token"] (defScope s_is_word) := ⟨rfl, rfl, rfl, by decide +kernel, rfl, by decide +kernel, by decide +kernel⟩
theorem ok_is_word (T : Txt w K mg) : FnOk P w K mg base CX0 1 T.a_is_word T.t_is_word ["token"] (spP K 1 f_is_word) := by
  have sc := sc_is_word
  exact okP T.d_is_word.F sc (fun cdv A outer s H E W hr hP =>
    (dss_cons (ds_if (PW.pt (dw_or (dt_cmp (op_eqq hr.units) sEq (de_nm 0) de_cs) (dw_or (dt_cmp op_gt sCmp (de_callB c_len s_len (by rfl) T.z_len bb_len (da_cons (de_nm 0) da_nil)) de_int) (dw_or1 (dt_cmp op_notInn sNotIn (de_ix ix_seq sIx (de_nm 0) de_int) (de_g T.k_LETTERS))))))
    (dss_one (ds_ret de_bl))
    dss_nil)
    (dss_cons (ds_for PassesOwn.never rfl (di_any (de_nm 0)) (dg_nm 1 (hP 1) sc.nd)
    (dss_one (ds_if (PW.pt (dw_and (dt_cmp op_notInn sNotIn (de_nm 1) (de_g T.k_LETTERS)) (dw_and1 (dt_cmp op_notInn sNotIn (de_nm 1) (de_g T.k_FIGURES)))))
    (dss_one (ds_ret de_bl))
    dss_nil)))
    (dss_one (ds_ret (de_cmp op_notInn sNotIn (de_nm 0) (de_g T.k_KEPT)))))))
theorem sc_is_version : FnScope ["token", "parts", "part"] ["token"] (defScope s_is_version) := ⟨rfl, rfl, rfl, by decide +kernel, rfl, by decide +kernel, by decide +kernel⟩
theorem ok_is_version (T : Txt w K mg) : FnOk P w K mg base CX0 3 T.a_is_version T.t_is_version ["token"] (spP K 1 f_is_version) := by
  have sc := sc_is_version
  exact okP T.d_is_version.F sc (fun cdv A outer s H E W hr hP =>
    (dss_cons (ds_set 1 (hP 1) sc.nd (de_fz (do_split (de_nm 0) de_cs)))
    (dss_cons (ds_if (dt_cmp op_gt sCmp (de_callB c_len s_len (by rfl) T.z_len bb_len (da_cons (de_nm 1) da_nil)) de_int)
    (dss_one (ds_ret de_bl))
    dss_nil)
    (dss_cons (ds_for PassesOwn.never rfl (di_any (de_nm 1)) (dg_nm 2 (hP 2) sc.nd)
    (dss_one (ds_if (dt_not (dt_tru (de_call (ok_is_number T) (hr.mono (by decide)) T.d_is_number.m T.d_is_number.F.kp T.d_is_number.b ar_run (da_cons (de_nm 2) (da_cons de_int (da_cons de_int da_nil))))))
    (dss_one (ds_ret de_bl))
    dss_nil)))
    (dss_one (ds_ret de_bl))))))
theorem sc_is_release : FnScope ["token"] ["token"] (defScope s_is_release) := ⟨rfl, rfl, rfl, by decide +kernel, rfl, by decide +kernel, by decide +kernel⟩
theorem ok_is_release (T : Txt w K mg) : FnOk P w K mg base CX0 4 T.a_is_release T.t_is_release ["token"] (spP K 1 f_is_release) := by
  have sc := sc_is_release
  exact okP T.d_is_release.F sc (fun cdv A outer s H E W hr hP =>
    (dss_one (ds_ret (de_or (de_cmp (op_eqq hr.units) sEq (de_nm 0) de_cs) (de_one (de_call (ok_is_version T) (hr.mono (by decide)) T.d_is_version.m T.d_is_version.F.kp T.d_is_version.b ar_run (da_cons (de_nm 0) da_nil)))))))
theorem sc_is_price : FnScope ["token"] ["token"] (defScope s_is_price) := ⟨rfl, rfl, rfl, by decide +kernel, rfl, by decide +kernel, by decide +kernel⟩
theorem ok_is_price (T : Txt w K mg) : FnOk P w K mg base CX0 3 T.a_is_price T.t_is_price ["token"] (spP K 1 f_is_price) := by
  have sc := sc_is_price
  exact okP T.d_is_price.F sc (fun cdv A outer s H E W hr hP =>
    (dss_one (ds_ret (de_or (de_cmp (op_eqq hr.units) sEq (de_nm 0) de_cs) (de_one (de_call (ok_is_number T) (hr.mono (by decide)) T.d_is_number.m T.d_is_number.F.kp T.d_is_number.b ar_run (da_cons (de_nm 0) (da_cons de_int (da_cons (de_g T.k_GREATEST_PRICE) da_nil)))))))))
theorem sc_price_of : FnScope ["token"] ["token"] (defScope s_price_of) := ⟨rfl, rfl, rfl, by decide +kernel, rfl, by decide +kernel, by decide +kernel⟩
theorem ok_price_of (T : Txt w K mg) : FnOk P w K mg base CX0 1 T.a_price_of T.t_price_of ["token"] (spP K 1 f_price_of) := by
  have sc := sc_price_of
  exact okP T.d_price_of.F sc (fun cdv A outer s H E W hr hP =>
    (dss_cons (ds_if (dt_cmp (op_eqq hr.units) sEq (de_nm 0) de_cs)
    (dss_one (ds_ret de_non))
    dss_nil)
    (dss_one (ds_ret (de_callTy c_int s_int (by rfl) T.z_int bb_int (da_cons (de_nm 0) da_nil))))))
theorem sc_price_word : FnScope ["worth"] ["worth"] (defScope s_price_word) := ⟨rfl, rfl, rfl, by decide +kernel, rfl, by decide +kernel, by decide +kernel⟩
theorem ok_price_word (T : Txt w K mg) : FnOk P w K mg base CX0 1 T.a_price_word T.t_price_word ["worth"] (spP K 1 f_price_word) := by
  have sc := sc_price_word
  exact okP T.d_price_word.F sc (fun cdv A outer s H E W hr hP =>
    (dss_cons (ds_if (dt_isN (de_nm 0))
    (dss_one (ds_ret de_cs))
    dss_nil)
    (dss_one (ds_ret (de_callTy call_str_int s_str (by rfl) T.z_str bb_str (da_cons (de_nm 0) da_nil))))))
theorem sc_is_short_name : FnScope ["token", "parts", "part"] ["token"] (defScope s_is_short_name) := ⟨rfl, rfl, rfl, by decide +kernel, rfl, by decide +kernel, by decide +kernel⟩
theorem ok_is_short_name (T : Txt w K mg) : FnOk P w K mg base CX0 2 T.a_is_short_name T.t_is_short_name ["token"] (spP K 1 f_is_short_name) := by
  have sc := sc_is_short_name
  exact okP T.d_is_short_name.F sc (fun cdv A outer s H E W hr hP =>
    (dss_cons (ds_set 1 (hP 1) sc.nd (de_fz (do_split (de_nm 0) de_cs)))
    (dss_cons (ds_if (dt_cmp op_gt sCmp (de_callB c_len s_len (by rfl) T.z_len bb_len (da_cons (de_nm 1) da_nil)) de_int)
    (dss_one (ds_ret de_bl))
    dss_nil)
    (dss_cons (ds_for PassesOwn.never rfl (di_any (de_nm 1)) (dg_nm 2 (hP 2) sc.nd)
    (dss_one (ds_if (dt_not (dt_tru (de_call (ok_is_word T) (hr.mono (by decide)) T.d_is_word.m T.d_is_word.F.kp T.d_is_word.b ar_run (da_cons (de_nm 2) da_nil))))
    (dss_one (ds_ret de_bl))
    dss_nil)))
    (dss_one (ds_ret de_bl))))))
theorem sc_is_whole_name : FnScope ["token", "parts"] ["token"] (defScope s_is_whole_name) := ⟨rfl, rfl, rfl, by decide +kernel, rfl, by decide +kernel, by decide +kernel⟩
theorem ok_is_whole_name (T : Txt w K mg) : FnOk P w K mg base CX0 3 T.a_is_whole_name T.t_is_whole_name ["token"] (spP K 1 f_is_whole_name) := by
  have sc := sc_is_whole_name
  exact okP T.d_is_whole_name.F sc (fun cdv A outer s H E W hr hP =>
    (dss_cons (ds_set 1 (hP 1) sc.nd (de_fz (do_split (de_nm 0) de_cs)))
    (dss_cons (ds_if (dt_cmp (op_eqq hr.units) sEq (de_callB c_len s_len (by rfl) T.z_len bb_len (da_cons (de_nm 1) da_nil)) de_int)
    (dss_one (ds_ret (de_call (ok_is_short_name T) (hr.mono (by decide)) T.d_is_short_name.m T.d_is_short_name.F.kp T.d_is_short_name.b ar_run (da_cons (de_nm 0) da_nil))))
    dss_nil)
    (dss_one (ds_ret (de_and (de_cmp (op_eqq hr.units) sEq (de_callB c_len s_len (by rfl) T.z_len bb_len (da_cons (de_nm 1) da_nil)) de_int) (de_and (de_call (ok_is_word T) (hr.mono (by decide)) T.d_is_word.m T.d_is_word.F.kp T.d_is_word.b ar_run (da_cons (de_ix ix_seq sIx (de_nm 1) de_int) da_nil)) (de_one (de_call (ok_is_short_name T) (hr.mono (by decide)) T.d_is_short_name.m T.d_is_short_name.F.kp T.d_is_short_name.b ar_run (da_cons (de_ix ix_seq sIx (de_nm 1) de_int) da_nil))))))))))
theorem sc_read_condition : FnScope ["tokens", "whole", "name"] ["tokens", "whole"] (defScope s_read_condition) := ⟨rfl, rfl, rfl, by decide +kernel, rfl, by decide +kernel, by decide +kernel⟩
theorem ok_read_condition (T : Txt w K mg) : FnOk P w K mg base CX0 5 T.a_read_condition T.t_read_condition ["tokens", "whole"] (spP K 2 f_read_condition) := by
  have sc := sc_read_condition
  exact okP T.d_read_condition.F sc (fun cdv A outer s H E W hr hP =>
    (dss_cons (ds_if (PW.pt (dw_or (dt_cmp op_lt sCmp (de_callB c_len s_len (by rfl) T.z_len bb_len (da_cons (de_nm 0) da_nil)) de_int) (dw_or1 (dt_cmp op_gt sCmp (de_callB c_len s_len (by rfl) T.z_len bb_len (da_cons (de_nm 0) da_nil)) de_int))))
    (dss_one (ds_ret de_non))
    dss_nil)
    (dss_cons (ds_set 2 (hP 2) sc.nd (de_ix ix_seq sIx (de_nm 0) de_int))
    (dss_cons (ds_if (dt_tru (de_nm 1))
    (dss_one (ds_if (dt_not (dt_tru (de_call (ok_is_whole_name T) (hr.mono (by decide)) T.d_is_whole_name.m T.d_is_whole_name.F.kp T.d_is_whole_name.b ar_run (da_cons (de_nm 2) da_nil))))
    (dss_one (ds_ret de_non))
    dss_nil))
    (dss_one (ds_if (dt_not (dt_tru (de_call (ok_is_short_name T) (hr.mono (by decide)) T.d_is_short_name.m T.d_is_short_name.F.kp T.d_is_short_name.b ar_run (da_cons (de_nm 2) da_nil))))
    (dss_one (ds_ret de_non))
    dss_nil)))
    (dss_cons (ds_if (dt_cmp (op_eqq hr.units) sEq (de_callB c_len s_len (by rfl) T.z_len bb_len (da_cons (de_nm 0) da_nil)) de_int)
    (dss_cons (ds_if (dt_cmp (op_eqq hr.units) sEq (de_ix ix_seq sIx (de_nm 0) de_int) de_cs)
    (dss_one (ds_ret (de_tup (da_cons (de_nm 2) (da_cons de_cs da_nil)))))
    dss_nil)
    (dss_one (ds_ret de_non)))
    dss_nil)
    (dss_cons (ds_if (dt_not (dt_tru (de_call (ok_is_release T) (hr.mono (by decide)) T.d_is_release.m T.d_is_release.F.kp T.d_is_release.b ar_run (da_cons (de_ix ix_seq sIx (de_nm 0) (de_neg de_int)) da_nil))))
    (dss_one (ds_ret de_non))
    dss_nil)
    (dss_cons (ds_if (dt_cmp (op_eqq hr.units) sEq (de_callB c_len s_len (by rfl) T.z_len bb_len (da_cons (de_nm 0) da_nil)) de_int)
    (dss_cons (ds_if (PW.pt (dw_and (dt_cmp (op_eqq hr.units) sEq (de_ix ix_seq sIx (de_nm 0) de_int) de_cs) (dw_and1 (dt_cmp (op_eqq hr.units) sEq (de_ix ix_seq sIx (de_nm 0) de_int) de_cs))))
    (dss_one (ds_ret (de_tup (da_cons (de_nm 2) (da_cons de_cs (da_cons (de_ix ix_seq sIx (de_nm 0) de_int) da_nil))))))
    dss_nil)
    (dss_one (ds_ret de_non)))
    dss_nil)
    (dss_cons (ds_if (PW.pt (dw_or (dt_cmp (op_eqq hr.units) sEq (de_ix ix_seq sIx (de_nm 0) de_int) de_cs) (dw_or1 (dt_cmp (op_eqq hr.units) sEq (de_ix ix_seq sIx (de_nm 0) de_int) de_cs))))
    (dss_one (ds_ret (de_tup (da_cons (de_nm 2) (da_cons (de_ix ix_seq sIx (de_nm 0) de_int) (da_cons (de_ix ix_seq sIx (de_nm 0) de_int) da_nil))))))
    dss_nil)
    (dss_one (ds_ret de_non))))))))))
theorem sc_read_conditions : FnScope ["tokens", "mark", "least", "most", "parts", "found", "part", "condition"] ["tokens", "mark", "least", "most"] (defScope s_read_conditions) := ⟨rfl, rfl, rfl, by decide +kernel, rfl, by decide +kernel, by decide +kernel⟩
theorem ok_read_conditions (T : Txt w K mg) : FnOk P w K mg base CX0 6 T.a_read_conditions T.t_read_conditions ["tokens", "mark", "least", "most"] (spP K 4 f_read_conditions) := by
  have sc := sc_read_conditions
  exact okP T.d_read_conditions.F sc (fun cdv A outer s H E W hr hP =>
    (dss_cons (ds_set 4 (hP 4) sc.nd (de_call (ok_split_tokens T) (hr.mono (by decide)) T.d_split_tokens.m T.d_split_tokens.F.kp T.d_split_tokens.b ar_split_tokens (da_cons (de_nm 0) (da_cons (de_nm 1) da_nil))))
    (dss_cons (ds_if (dt_not (dt_chain op_le op_le sCmp sCmp (de_nm 2) (de_callB c_len s_len (by rfl) T.z_len bb_len (da_cons (de_nm 4) da_nil)) (de_nm 3)))
    (dss_one (ds_ret de_non))
    dss_nil)
    (dss_cons (ds_setO 5 (hP 5) sc.nd (do_lst da_nil))
    (dss_cons (ds_for PassesOwn.never rfl (di_any (de_nm 4)) (dg_nm 6 (hP 6) sc.nd)
    (dss_cons (ds_set 7 (hP 7) sc.nd (de_call (ok_read_condition T) (hr.mono (by decide)) T.d_read_condition.m T.d_read_condition.F.kp T.d_read_condition.b ar_run (da_cons (de_nm 6) (da_cons de_bl da_nil))))
    (dss_cons (ds_if (dt_isN (de_nm 7))
    (dss_one (ds_ret de_non))
    dss_nil)
    (dss_one (ds_app 5 (de_nm 7))))))
    (dss_one (ds_ret (de_tupleV (by rfl) T.z_tuple bb_tuple (dv_nm 5)))))))))
theorem sc_read_need : FnScope ["tokens", "halves", "left", "right"] ["tokens"] (defScope s_read_need) := ⟨rfl, rfl, rfl, by decide +kernel, rfl, by decide +kernel, by decide +kernel⟩
theorem ok_read_need (T : Txt w K mg) : FnOk P w K mg base CX0 7 T.a_read_need T.t_read_need ["tokens"] (spP K 1 f_read_need) := by
  have sc := sc_read_need
  exact okP T.d_read_need.F sc (fun cdv A outer s H E W hr hP =>
    (dss_cons (ds_set 1 (hP 1) sc.nd (de_call (ok_split_tokens T) (hr.mono (by decide)) T.d_split_tokens.m T.d_split_tokens.F.kp T.d_split_tokens.b ar_split_tokens (da_cons (de_nm 0) (da_cons de_cs da_nil))))
    (dss_cons (ds_if (dt_cmp (op_nee hr.units) sNe (de_callB c_len s_len (by rfl) T.z_len bb_len (da_cons (de_nm 1) da_nil)) de_int)
    (dss_one (ds_ret de_non))
    dss_nil)
    (dss_cons (ds_set 2 (hP 2) sc.nd (de_call (ok_read_conditions T) (hr.mono (by decide)) T.d_read_conditions.m T.d_read_conditions.F.kp T.d_read_conditions.b ar_run (da_cons (de_ix ix_seq sIx (de_nm 1) de_int) (da_cons de_cs (da_cons de_int (da_cons de_int da_nil))))))
    (dss_cons (ds_set 3 (hP 3) sc.nd (de_call (ok_read_conditions T) (hr.mono (by decide)) T.d_read_conditions.m T.d_read_conditions.F.kp T.d_read_conditions.b ar_run (da_cons (de_ix ix_seq sIx (de_nm 1) de_int) (da_cons de_cs (da_cons de_int (da_cons de_int da_nil))))))
    (dss_cons (ds_if (PW.pt (dw_or (dt_isN (de_nm 2)) (dw_or1 (dt_isN (de_nm 3)))))
    (dss_one (ds_ret de_non))
    dss_nil)
    (dss_one (ds_ret (de_tup (da_cons de_cs (da_cons (de_nm 2) (da_cons (de_nm 3) da_nil))))))))))))
theorem sc_read_counted : FnScope ["tokens", "told"] ["tokens"] (defScope s_read_counted) := ⟨rfl, rfl, rfl, by decide +kernel, rfl, by decide +kernel, by decide +kernel⟩
theorem ok_read_counted (T : Txt w K mg) : FnOk P w K mg base CX0 7 T.a_read_counted T.t_read_counted ["tokens"] (spP K 1 f_read_counted) := by
  have sc := sc_read_counted
  exact okP T.d_read_counted.F sc (fun cdv A outer s H E W hr hP =>
    (dss_cons (ds_if (PW.pt (dw_or (dt_cmp op_lt sCmp (de_callB c_len s_len (by rfl) T.z_len bb_len (da_cons (de_nm 0) da_nil)) de_int) (dw_or (dt_not (dt_tru (de_call (ok_is_number T) (hr.mono (by decide)) T.d_is_number.m T.d_is_number.F.kp T.d_is_number.b ar_run (da_cons (de_ix ix_seq sIx (de_nm 0) de_int) (da_cons de_int (da_cons de_int da_nil)))))) (dw_or1 (dt_cmp (op_nee hr.units) sNe (de_ix ix_seq sIx (de_nm 0) de_int) de_cs)))))
    (dss_one (ds_ret de_non))
    dss_nil)
    (dss_cons (ds_set 1 (hP 1) sc.nd (de_call (ok_read_conditions T) (hr.mono (by decide)) T.d_read_conditions.m T.d_read_conditions.F.kp T.d_read_conditions.b ar_run (da_cons (de_sl (de_nm 0) (dp_yes de_int) dp_no) (da_cons de_cs (da_cons de_int (da_cons de_int da_nil))))))
    (dss_cons (ds_if (dt_isN (de_nm 1))
    (dss_one (ds_ret de_non))
    dss_nil)
    (dss_one (ds_ret (de_tup (da_cons (de_ix ix_seq sIx (de_nm 0) de_int) (da_cons (de_callTy c_int s_int (by rfl) T.z_int bb_int (da_cons (de_ix ix_seq sIx (de_nm 0) de_int) da_nil)) (da_cons (de_nm 1) da_nil))))))))))
theorem sc_read_form : FnScope ["tokens", "told"] ["tokens"] (defScope s_read_form) := ⟨rfl, rfl, rfl, by decide +kernel, rfl, by decide +kernel, by decide +kernel⟩
theorem ok_read_form (T : Txt w K mg) : FnOk P w K mg base CX0 8 T.a_read_form T.t_read_form ["tokens"] (spP K 1 f_read_form) := by
  have sc := sc_read_form
  exact okP T.d_read_form.F sc (fun cdv A outer s H E W hr hP =>
    (dss_cons (ds_if (dt_cmp (op_eqq hr.units) sEq (de_nm 0) (de_fz (do_lst da_nil)))
    (dss_one (ds_ret de_non))
    dss_nil)
    (dss_cons (ds_if (dt_cmp (op_eqq hr.units) sEq (de_ix ix_seq sIx (de_nm 0) de_int) de_cs)
    (dss_one (ds_ret (de_call (ok_read_need T) (hr.mono (by decide)) T.d_read_need.m T.d_read_need.F.kp T.d_read_need.b ar_run (da_cons (de_sl (de_nm 0) (dp_yes de_int) dp_no) da_nil))))
    dss_nil)
    (dss_cons (ds_if (PW.pt (dw_or (dt_cmp (op_eqq hr.units) sEq (de_ix ix_seq sIx (de_nm 0) de_int) de_cs) (dw_or1 (dt_cmp (op_eqq hr.units) sEq (de_ix ix_seq sIx (de_nm 0) de_int) de_cs))))
    (dss_one (ds_ret (de_call (ok_read_counted T) (hr.mono (by decide)) T.d_read_counted.m T.d_read_counted.F.kp T.d_read_counted.b ar_run (da_cons (de_nm 0) da_nil))))
    dss_nil)
    (dss_cons (ds_if (PW.pt (dw_or (dt_cmp (op_eqq hr.units) sEq (de_ix ix_seq sIx (de_nm 0) de_int) de_cs) (dw_or1 (dt_cmp (op_eqq hr.units) sEq (de_ix ix_seq sIx (de_nm 0) de_int) de_cs))))
    (dss_cons (ds_set 1 (hP 1) sc.nd (de_call (ok_read_conditions T) (hr.mono (by decide)) T.d_read_conditions.m T.d_read_conditions.F.kp T.d_read_conditions.b ar_run (da_cons (de_sl (de_nm 0) (dp_yes de_int) dp_no) (da_cons de_cs (da_cons (de_if (dt_cmp (op_eqq hr.units) sEq (de_ix ix_seq sIx (de_nm 0) de_int) de_cs) de_int de_int) (da_cons de_int da_nil))))))
    (dss_cons (ds_if (dt_isN (de_nm 1))
    (dss_one (ds_ret de_non))
    dss_nil)
    (dss_one (ds_ret (de_tup (da_cons (de_ix ix_seq sIx (de_nm 0) de_int) (da_cons (de_nm 1) da_nil)))))))
    dss_nil)
    (dss_cons (ds_if (dt_cmp (op_eqq hr.units) sEq (de_ix ix_seq sIx (de_nm 0) de_int) de_cs)
    (dss_cons (ds_set 1 (hP 1) sc.nd (de_call (ok_read_conditions T) (hr.mono (by decide)) T.d_read_conditions.m T.d_read_conditions.F.kp T.d_read_conditions.b ar_run (da_cons (de_sl (de_nm 0) (dp_yes de_int) dp_no) (da_cons de_cs (da_cons de_int (da_cons de_int da_nil))))))
    (dss_cons (ds_if (dt_isN (de_nm 1))
    (dss_one (ds_ret de_non))
    dss_nil)
    (dss_one (ds_ret (de_tup (da_cons de_cs (da_cons (de_ix ix_seq sIx (de_nm 1) de_int) (da_cons (de_ix ix_seq sIx (de_nm 1) de_int) da_nil))))))))
    dss_nil)
    (dss_one (ds_ret de_non))))))))
theorem sc_condition_words : FnScope ["condition"] ["condition"] (defScope s_condition_words) := ⟨rfl, rfl, rfl, by decide +kernel, rfl, by decide +kernel, by decide +kernel⟩
theorem ok_condition_words (T : Txt w K mg) : FnOk P w K mg base CX0 1 T.a_condition_words T.t_condition_words ["condition"] (spP K 1 f_condition_words) := by
  have sc := sc_condition_words
  exact okP T.d_condition_words.F sc (fun cdv A outer s H E W hr hP =>
    (dss_cons (ds_if (dt_cmp (op_eqq hr.units) sEq (de_ix ix_seq sIx (de_nm 0) de_int) de_cs)
    (dss_one (ds_ret (de_bin op_addD sAdd (de_ix ix_seq sIx (de_nm 0) de_int) de_cs)))
    dss_nil)
    (dss_cons (ds_if (dt_cmp (op_eqq hr.units) sEq (de_ix ix_seq sIx (de_nm 0) de_int) de_cs)
    (dss_one (ds_ret (de_bin op_addD sAdd (de_bin op_addD sAdd (de_ix ix_seq sIx (de_nm 0) de_int) de_cs) (de_ix ix_seq sIx (de_nm 0) de_int))))
    dss_nil)
    (dss_one (ds_ret (de_bin op_addD sAdd (de_bin op_addD sAdd (de_bin op_addD sAdd (de_bin op_addD sAdd (de_ix ix_seq sIx (de_nm 0) de_int) de_cs) (de_ix ix_seq sIx (de_nm 0) de_int)) de_cs) (de_ix ix_seq sIx (de_nm 0) de_int)))))))
theorem sc_many_words : FnScope ["conditions", "mark", "condition"] ["conditions", "mark"] (defScope s_many_words) := ⟨rfl, rfl, rfl, by decide +kernel, rfl, by decide +kernel, by decide +kernel⟩
theorem ok_many_words (T : Txt w K mg) : FnOk P w K mg base CX0 2 T.a_many_words T.t_many_words ["conditions", "mark"] (spP K 2 f_many_words) := by
  have sc := sc_many_words
  exact okP T.d_many_words.F sc (fun cdv A outer s H E W hr hP =>
    (dss_one (ds_ret (de_join (de_nm 1) (de_fz (do_lc 2 rfl sc.nd (di_any (de_nm 0)) (blkOk_by (own := [("condition", 2)]) (N := ["conditions", "mark", "condition"]) (sc := defScope s_many_words) (by decide +kernel)) (fun _ _ _ _ _ => pg_name (i := 2) sc.nd rfl (Or.inl rfl)) (fun _ _ _ _ _ _ => dts_nil) (fun _ _ _ _ _ _ => (de_call (ok_condition_words T) (hr.mono (by decide)) T.d_condition_words.m T.d_condition_words.F.kp T.d_condition_words.b ar_run (da_cons (de_nm 2) da_nil)))))))))
theorem sc_form_words : FnScope ["form"] ["form"] (defScope s_form_words) := ⟨rfl, rfl, rfl, by decide +kernel, rfl, by decide +kernel, by decide +kernel⟩
theorem ok_form_words (T : Txt w K mg) : FnOk P w K mg base CX0 3 T.a_form_words T.t_form_words ["form"] (spP K 1 f_form_words) := by
  have sc := sc_form_words
  exact okP T.d_form_words.F sc (fun cdv A outer s H E W hr hP =>
    (dss_cons (ds_if (dt_cmp (op_eqq hr.units) sEq (de_ix ix_seq sIx (de_nm 0) de_int) de_cs)
    (dss_one (ds_ret (de_bin op_addD sAdd (de_bin op_addD sAdd (de_bin op_addD sAdd de_cs (de_call (ok_many_words T) (hr.mono (by decide)) T.d_many_words.m T.d_many_words.F.kp T.d_many_words.b ar_run (da_cons (de_ix ix_seq sIx (de_nm 0) de_int) (da_cons de_cs da_nil)))) de_cs) (de_call (ok_many_words T) (hr.mono (by decide)) T.d_many_words.m T.d_many_words.F.kp T.d_many_words.b ar_run (da_cons (de_ix ix_seq sIx (de_nm 0) de_int) (da_cons de_cs da_nil))))))
    dss_nil)
    (dss_cons (ds_if (dt_cmp (op_eqq hr.units) sEq (de_ix ix_seq sIx (de_nm 0) de_int) de_cs)
    (dss_one (ds_ret (de_bin op_addD sAdd de_cs (de_call (ok_many_words T) (hr.mono (by decide)) T.d_many_words.m T.d_many_words.F.kp T.d_many_words.b ar_run (da_cons (de_sl (de_nm 0) (dp_yes de_int) dp_no) (da_cons de_cs da_nil))))))
    dss_nil)
    (dss_cons (ds_if (PW.pt (dw_or (dt_cmp (op_eqq hr.units) sEq (de_ix ix_seq sIx (de_nm 0) de_int) de_cs) (dw_or1 (dt_cmp (op_eqq hr.units) sEq (de_ix ix_seq sIx (de_nm 0) de_int) de_cs))))
    (dss_one (ds_ret (de_bin op_addD sAdd (de_bin op_addD sAdd (de_bin op_addD sAdd (de_bin op_addD sAdd (de_ix ix_seq sIx (de_nm 0) de_int) de_cs) (de_callTy call_str_int s_str (by rfl) T.z_str bb_str (da_cons (de_ix ix_seq sIx (de_nm 0) de_int) da_nil))) de_cs) (de_call (ok_many_words T) (hr.mono (by decide)) T.d_many_words.m T.d_many_words.F.kp T.d_many_words.b ar_run (da_cons (de_ix ix_seq sIx (de_nm 0) de_int) (da_cons de_cs da_nil))))))
    dss_nil)
    (dss_one (ds_ret (de_bin op_addD sAdd (de_bin op_addD sAdd (de_ix ix_seq sIx (de_nm 0) de_int) de_cs) (de_call (ok_many_words T) (hr.mono (by decide)) T.d_many_words.m T.d_many_words.F.kp T.d_many_words.b ar_run (da_cons (de_ix ix_seq sIx (de_nm 0) de_int) (da_cons de_cs da_nil))))))))))
theorem sc_bound_check : FnScope ["what", "number"] ["what", "number"] (defScope s_bound_check) := ⟨rfl, rfl, rfl, by decide +kernel, rfl, by decide +kernel, by decide +kernel⟩
theorem ok_bound_check (T : Txt w K mg) : FnOk P w K mg base CX0 1 T.a_bound_check T.t_bound_check ["what", "number"] (spP K 2 f_bound_check) := by
  have sc := sc_bound_check
  exact okP T.d_bound_check.F sc (fun cdv A outer s H E W hr hP =>
    (dss_one (ds_if (dt_cmp op_gt sCmp (de_nm 1) (de_tab T.k_LIMITS (de_nm 0)))
    (dss_one ds_never)
    dss_nil)))
theorem sc_text_rows : FnScope ["text", "rows"] ["text"] (defScope s_text_rows) := ⟨rfl, rfl, rfl, by decide +kernel, rfl, by decide +kernel, by decide +kernel⟩
theorem ok_text_rows (T : Txt w K mg) : FnOk P w K mg base CX0 1 T.a_text_rows T.t_text_rows ["text"] (spP K 1 f_text_rows) := by
  have sc := sc_text_rows
  exact okP T.d_text_rows.F sc (fun cdv A outer s H E W hr hP =>
    (dss_cons (ds_set 1 (hP 1) sc.nd (de_fz (do_split (de_nm 0) de_cs)))
    (dss_cons (ds_if (dt_cmp (op_eqq hr.units) sEq (de_ix ix_seq sIx (de_nm 1) (de_neg de_int)) de_cs)
    (dss_one (ds_ret (de_sl (de_nm 1) dp_no (dp_yes (de_neg de_int)))))
    dss_nil)
    (dss_one (ds_ret (de_nm 1))))))
theorem sc_checked_rows : FnScope ["text", "rows", "row"] ["text"] (defScope s_checked_rows) := ⟨rfl, rfl, rfl, by decide +kernel, rfl, by decide +kernel, by decide +kernel⟩
theorem ok_checked_rows (T : Txt w K mg) : FnOk P w K mg base CX0 2 T.a_checked_rows T.t_checked_rows ["text"] (spP K 1 f_checked_rows) := by
  have sc := sc_checked_rows
  exact okP T.d_checked_rows.F sc (fun cdv A outer s H E W hr hP =>
    (dss_cons (ds_set 1 (hP 1) sc.nd (de_call (ok_text_rows T) (hr.mono (by decide)) T.d_text_rows.m T.d_text_rows.F.kp T.d_text_rows.b ar_run (da_cons (de_nm 0) da_nil)))
    (dss_cons (ds_drop (de_call (ok_bound_check T) (hr.mono (by decide)) T.d_bound_check.m T.d_bound_check.F.kp T.d_bound_check.b ar_run (da_cons de_cs (da_cons (de_callB c_len s_len (by rfl) T.z_len bb_len (da_cons (de_nm 1) da_nil)) da_nil))))
    (dss_cons (ds_for PassesOwn.never rfl (di_any (de_nm 1)) (dg_nm 2 (hP 2) sc.nd)
    (dss_one (ds_drop (de_call (ok_bound_check T) (hr.mono (by decide)) T.d_bound_check.m T.d_bound_check.F.kp T.d_bound_check.b ar_run (da_cons de_cs (da_cons (de_callB c_len s_len (by rfl) T.z_len bb_len (da_cons (de_nm 2) da_nil)) da_nil))))))
    (dss_one (ds_ret (de_nm 1)))))))
theorem sc_read_release : FnScope ["tokens"] ["tokens"] (defScope s_read_release) := ⟨rfl, rfl, rfl, by decide +kernel, rfl, by decide +kernel, by decide +kernel⟩
theorem ok_read_release (T : Txt w K mg) : FnOk P w K mg base CX0 4 T.a_read_release T.t_read_release ["tokens"] (spP K 1 f_read_release) := by
  have sc := sc_read_release
  exact okP T.d_read_release.F sc (fun cdv A outer s H E W hr hP =>
    (dss_cons (ds_if (PW.pt (dw_or (dt_cmp (op_nee hr.units) sNe (de_callB c_len s_len (by rfl) T.z_len bb_len (da_cons (de_nm 0) da_nil)) de_int) (dw_or (dt_not (dt_tru (de_call (ok_is_word T) (hr.mono (by decide)) T.d_is_word.m T.d_is_word.F.kp T.d_is_word.b ar_run (da_cons (de_ix ix_seq sIx (de_nm 0) de_int) da_nil)))) (dw_or1 (dt_not (dt_tru (de_call (ok_is_version T) (hr.mono (by decide)) T.d_is_version.m T.d_is_version.F.kp T.d_is_version.b ar_run (da_cons (de_ix ix_seq sIx (de_nm 0) de_int) da_nil))))))))
    (dss_one (ds_ret de_non))
    dss_nil)
    (dss_cons (ds_if (PW.pt (dw_or (dt_cmp (op_nee hr.units) sNe (de_ix ix_seq sIx (de_nm 0) de_int) de_cs) (dw_or (dt_cmp (op_nee hr.units) sNe (de_ix ix_seq sIx (de_nm 0) de_int) de_cs) (dw_or1 (dt_cmp (op_nee hr.units) sNe (de_ix ix_seq sIx (de_nm 0) de_int) de_cs)))))
    (dss_one (ds_ret de_non))
    dss_nil)
    (dss_cons (ds_if (PW.pt (dw_and (dt_cmp (op_nee hr.units) sNe (de_ix ix_seq sIx (de_nm 0) de_int) de_cs) (dw_and1 (dt_not (dt_tru (de_call (ok_is_version T) (hr.mono (by decide)) T.d_is_version.m T.d_is_version.F.kp T.d_is_version.b ar_run (da_cons (de_ix ix_seq sIx (de_nm 0) de_int) da_nil)))))))
    (dss_one (ds_ret de_non))
    dss_nil)
    (dss_cons (ds_if (PW.pt (dw_or (dt_not (dt_tru (de_call (ok_is_price T) (hr.mono (by decide)) T.d_is_price.m T.d_is_price.F.kp T.d_is_price.b ar_run (da_cons (de_ix ix_seq sIx (de_nm 0) de_int) da_nil)))) (dw_or1 (dt_not (dt_tru (de_call (ok_is_price T) (hr.mono (by decide)) T.d_is_price.m T.d_is_price.F.kp T.d_is_price.b ar_run (da_cons (de_ix ix_seq sIx (de_nm 0) de_int) da_nil)))))))
    (dss_one (ds_ret de_non))
    dss_nil)
    (dss_one (ds_ret (de_tup (da_cons de_cs (da_cons (de_ix ix_seq sIx (de_nm 0) de_int) (da_cons (de_ix ix_seq sIx (de_nm 0) de_int) (da_cons (de_ix ix_seq sIx (de_nm 0) de_int) (da_cons (de_call (ok_price_of T) (hr.mono (by decide)) T.d_price_of.m T.d_price_of.F.kp T.d_price_of.b ar_run (da_cons (de_ix ix_seq sIx (de_nm 0) de_int) da_nil)) (da_cons (de_call (ok_price_of T) (hr.mono (by decide)) T.d_price_of.m T.d_price_of.F.kp T.d_price_of.b ar_run (da_cons (de_ix ix_seq sIx (de_nm 0) de_int) da_nil)) da_nil))))))))))))))
theorem sc_read_feature : FnScope ["tokens"] ["tokens"] (defScope s_read_feature) := ⟨rfl, rfl, rfl, by decide +kernel, rfl, by decide +kernel, by decide +kernel⟩
theorem ok_read_feature (T : Txt w K mg) : FnOk P w K mg base CX0 4 T.a_read_feature T.t_read_feature ["tokens"] (spP K 1 f_read_feature) := by
  have sc := sc_read_feature
  exact okP T.d_read_feature.F sc (fun cdv A outer s H E W hr hP =>
    (dss_cons (ds_if (PW.pt (dw_or (dt_cmp (op_nee hr.units) sNe (de_callB c_len s_len (by rfl) T.z_len bb_len (da_cons (de_nm 0) da_nil)) de_int) (dw_or (dt_not (dt_tru (de_call (ok_is_word T) (hr.mono (by decide)) T.d_is_word.m T.d_is_word.F.kp T.d_is_word.b ar_run (da_cons (de_ix ix_seq sIx (de_nm 0) de_int) da_nil)))) (dw_or (dt_not (dt_tru (de_call (ok_is_word T) (hr.mono (by decide)) T.d_is_word.m T.d_is_word.F.kp T.d_is_word.b ar_run (da_cons (de_ix ix_seq sIx (de_nm 0) de_int) da_nil)))) (dw_or1 (dt_not (dt_tru (de_call (ok_is_version T) (hr.mono (by decide)) T.d_is_version.m T.d_is_version.F.kp T.d_is_version.b ar_run (da_cons (de_ix ix_seq sIx (de_nm 0) de_int) da_nil)))))))))
    (dss_one (ds_ret de_non))
    dss_nil)
    (dss_cons (ds_if (PW.pt (dw_or (dt_cmp (op_nee hr.units) sNe (de_ix ix_seq sIx (de_nm 0) de_int) de_cs) (dw_or (dt_cmp (op_nee hr.units) sNe (de_ix ix_seq sIx (de_nm 0) de_int) de_cs) (dw_or1 (dt_cmp (op_nee hr.units) sNe (de_ix ix_seq sIx (de_nm 0) de_int) de_cs)))))
    (dss_one (ds_ret de_non))
    dss_nil)
    (dss_cons (ds_if (PW.pt (dw_or (dt_not (dt_tru (de_call (ok_is_price T) (hr.mono (by decide)) T.d_is_price.m T.d_is_price.F.kp T.d_is_price.b ar_run (da_cons (de_ix ix_seq sIx (de_nm 0) de_int) da_nil)))) (dw_or1 (dt_not (dt_tru (de_call (ok_is_price T) (hr.mono (by decide)) T.d_is_price.m T.d_is_price.F.kp T.d_is_price.b ar_run (da_cons (de_ix ix_seq sIx (de_nm 0) de_int) da_nil)))))))
    (dss_one (ds_ret de_non))
    dss_nil)
    (dss_one (ds_ret (de_tup (da_cons de_cs (da_cons (de_ix ix_seq sIx (de_nm 0) de_int) (da_cons (de_ix ix_seq sIx (de_nm 0) de_int) (da_cons (de_ix ix_seq sIx (de_nm 0) de_int) (da_cons (de_call (ok_price_of T) (hr.mono (by decide)) T.d_price_of.m T.d_price_of.F.kp T.d_price_of.b ar_run (da_cons (de_ix ix_seq sIx (de_nm 0) de_int) da_nil)) (da_cons (de_call (ok_price_of T) (hr.mono (by decide)) T.d_price_of.m T.d_price_of.F.kp T.d_price_of.b ar_run (da_cons (de_ix ix_seq sIx (de_nm 0) de_int) da_nil)) da_nil)))))))))))))
theorem sc_read_signer : FnScope ["tokens", "token"] ["tokens"] (defScope s_read_signer) := ⟨rfl, rfl, rfl, by decide +kernel, rfl, by decide +kernel, by decide +kernel⟩
theorem ok_read_signer (T : Txt w K mg) : FnOk P w K mg base CX0 3 T.a_read_signer T.t_read_signer ["tokens"] (spP K 1 f_read_signer) := by
  have sc := sc_read_signer
  exact okP T.d_read_signer.F sc (fun cdv A outer s H E W hr hP =>
    (dss_cons (ds_if (PW.pt (dw_or (dt_cmp op_lt sCmp (de_callB c_len s_len (by rfl) T.z_len bb_len (da_cons (de_nm 0) da_nil)) de_int) (dw_or (dt_not (dt_tru (de_call (ok_is_word T) (hr.mono (by decide)) T.d_is_word.m T.d_is_word.F.kp T.d_is_word.b ar_run (da_cons (de_ix ix_seq sIx (de_nm 0) de_int) da_nil)))) (dw_or (dt_not (dt_tru (de_call (ok_is_number T) (hr.mono (by decide)) T.d_is_number.m T.d_is_number.F.kp T.d_is_number.b ar_run (da_cons (de_ix ix_seq sIx (de_nm 0) de_int) (da_cons de_int (da_cons de_int da_nil)))))) (dw_or1 (dt_cmp (op_nee hr.units) sNe (de_ix ix_seq sIx (de_nm 0) de_int) de_cs))))))
    (dss_one (ds_ret de_non))
    dss_nil)
    (dss_cons (ds_for PassesOwn.never rfl (di_any (de_sl (de_nm 0) (dp_yes de_int) dp_no)) (dg_nm 1 (hP 1) sc.nd)
    (dss_one (ds_if (dt_not (dt_tru (de_call (ok_is_short_name T) (hr.mono (by decide)) T.d_is_short_name.m T.d_is_short_name.F.kp T.d_is_short_name.b ar_run (da_cons (de_nm 1) da_nil))))
    (dss_one (ds_ret de_non))
    dss_nil)))
    (dss_one (ds_ret (de_tup (da_cons de_cs (da_cons (de_ix ix_seq sIx (de_nm 0) de_int) (da_cons (de_callTy c_int s_int (by rfl) T.z_int bb_int (da_cons (de_ix ix_seq sIx (de_nm 0) de_int) da_nil)) (da_cons (de_callTy call_tuple_of s_tuple (by rfl) T.z_tuple bb_tuple (da_cons (de_sl (de_nm 0) (dp_yes de_int) dp_no) da_nil)) da_nil))))))))))
theorem sc_read_line : FnScope ["tokens", "first", "form"] ["tokens"] (defScope s_read_line) := ⟨rfl, rfl, rfl, by decide +kernel, rfl, by decide +kernel, by decide +kernel⟩
theorem ok_read_line (T : Txt w K mg) : FnOk P w K mg base CX0 9 T.a_read_line T.t_read_line ["tokens"] (spP K 1 f_read_line) := by
  have sc := sc_read_line
  exact okP T.d_read_line.F sc (fun cdv A outer s H E W hr hP =>
    (dss_cons (ds_set 1 (hP 1) sc.nd (de_ix ix_seq sIx (de_nm 0) de_int))
    (dss_cons (ds_if (dt_cmp (op_eqq hr.units) sEq (de_nm 1) de_cs)
    (dss_one (ds_ret (de_call (ok_read_release T) (hr.mono (by decide)) T.d_read_release.m T.d_read_release.F.kp T.d_read_release.b ar_run (da_cons (de_nm 0) da_nil))))
    dss_nil)
    (dss_cons (ds_if (dt_cmp (op_eqq hr.units) sEq (de_nm 1) de_cs)
    (dss_one (ds_ret (de_call (ok_read_feature T) (hr.mono (by decide)) T.d_read_feature.m T.d_read_feature.F.kp T.d_read_feature.b ar_run (da_cons (de_nm 0) da_nil))))
    dss_nil)
    (dss_cons (ds_if (dt_cmp (op_eqq hr.units) sEq (de_nm 1) de_cs)
    (dss_one (ds_ret (de_call (ok_read_signer T) (hr.mono (by decide)) T.d_read_signer.m T.d_read_signer.F.kp T.d_read_signer.b ar_run (da_cons (de_nm 0) da_nil))))
    dss_nil)
    (dss_cons (ds_if (dt_cmp (op_eqq hr.units) sEq (de_nm 1) de_cs)
    (dss_cons (ds_set 2 (hP 2) sc.nd (de_call (ok_read_form T) (hr.mono (by decide)) T.d_read_form.m T.d_read_form.F.kp T.d_read_form.b ar_run (da_cons (de_sl (de_nm 0) (dp_yes de_int) dp_no) da_nil)))
    (dss_cons (ds_if (dt_isN (de_nm 2))
    (dss_one (ds_ret de_non))
    dss_nil)
    (dss_one (ds_ret (de_tup (da_cons de_cs (da_cons (de_nm 2) da_nil)))))))
    dss_nil)
    (dss_cons (ds_if (dt_cmp (op_eqq hr.units) sEq (de_nm 1) de_cs)
    (dss_one (ds_ret (de_if (dt_cmp (op_eqq hr.units) sEq (de_callB c_len s_len (by rfl) T.z_len bb_len (da_cons (de_nm 0) da_nil)) de_int) (de_tup (da_cons de_cs da_nil)) de_non)))
    dss_nil)
    (dss_cons (ds_if (PW.pt (dw_or (dt_cmp (op_eqq hr.units) sEq (de_nm 1) de_cs) (dw_or1 (dt_cmp (op_eqq hr.units) sEq (de_nm 1) de_cs))))
    (dss_cons (ds_if (PW.pt (dw_and (dt_cmp (op_eqq hr.units) sEq (de_callB c_len s_len (by rfl) T.z_len bb_len (da_cons (de_nm 0) da_nil)) de_int) (dw_and (dt_tru (de_call (ok_is_short_name T) (hr.mono (by decide)) T.d_is_short_name.m T.d_is_short_name.F.kp T.d_is_short_name.b ar_run (da_cons (de_ix ix_seq sIx (de_nm 0) de_int) da_nil))) (dw_and1 (dt_tru (de_call (ok_is_release T) (hr.mono (by decide)) T.d_is_release.m T.d_is_release.F.kp T.d_is_release.b ar_run (da_cons (de_ix ix_seq sIx (de_nm 0) de_int) da_nil)))))))
    (dss_one (ds_ret (de_callTy call_tuple_of s_tuple (by rfl) T.z_tuple bb_tuple (da_cons (de_nm 0) da_nil))))
    dss_nil)
    (dss_one (ds_ret de_non)))
    dss_nil)
    (dss_cons (ds_if (PW.pt (dw_and (dt_cmp (op_eqq hr.units) sEq (de_callB c_len s_len (by rfl) T.z_len bb_len (da_cons (de_nm 0) da_nil)) de_int) (dw_and1 (dt_tru (de_call (ok_is_word T) (hr.mono (by decide)) T.d_is_word.m T.d_is_word.F.kp T.d_is_word.b ar_run (da_cons (de_ix ix_seq sIx (de_nm 0) de_int) da_nil))))))
    (dss_one (ds_ret (de_callTy call_tuple_of s_tuple (by rfl) T.z_tuple bb_tuple (da_cons (de_nm 0) da_nil))))
    dss_nil)
    (dss_one (ds_ret de_non)))))))))))
theorem sc_read_lines : FnScope ["text", "rows", "found", "at", "row", "fault", "tokens", "line"] ["text"] (defScope s_read_lines) := ⟨rfl, rfl, rfl, by decide +kernel, rfl, by decide +kernel, by decide +kernel⟩
theorem ok_read_lines (T : Txt w K mg) : FnOk P w K mg base CX0 10 T.a_read_lines T.t_read_lines ["text"] (spP K 1 f_read_lines) := by
  have sc := sc_read_lines
  exact okP T.d_read_lines.F sc (fun cdv A outer s H E W hr hP =>
    (dss_cons (ds_set 1 (hP 1) sc.nd (de_call (ok_checked_rows T) (hr.mono (by decide)) T.d_checked_rows.m T.d_checked_rows.F.kp T.d_checked_rows.b ar_run (da_cons (de_nm 0) da_nil)))
    (dss_cons (ds_setO 2 (hP 2) sc.nd (do_lst da_nil))
    (dss_cons (ds_for PassesOwn.never rfl (di_enum (by rfl) T.z_enumerate (da_cons (de_nm 1) da_nil)) (dg_tup rfl (dgs_cons (dg_nm 3 (hP 3) sc.nd) (dgs_cons (dg_nm 4 (hP 4) sc.nd) dgs_nil)) gs2_len)
    (dss_cons (ds_set 5 (hP 5) sc.nd (de_call (ok_sign_fault T) (hr.mono (by decide)) T.d_sign_fault.m T.d_sign_fault.F.kp T.d_sign_fault.b ar_run (da_cons (de_nm 4) da_nil)))
    (dss_cons (ds_if (dt_cmp (op_nee hr.units) sNe (de_nm 5) de_cs)
    (dss_one ds_never)
    dss_nil)
    (dss_cons (ds_set 6 (hP 6) sc.nd (de_fz (do_split (de_nm 4) de_cs)))
    (dss_cons (ds_if (dt_cmp op_notInn sNotIn (de_ix ix_seq sIx (de_nm 6) de_int) (de_g T.k_FIRST_WORDS))
    (dss_one ds_never)
    dss_nil)
    (dss_cons (ds_set 7 (hP 7) sc.nd (de_call (ok_read_line T) (hr.mono (by decide)) T.d_read_line.m T.d_read_line.F.kp T.d_read_line.b ar_run (da_cons (de_nm 6) da_nil)))
    (dss_cons (ds_if (dt_isN (de_nm 7))
    (dss_one ds_never)
    dss_nil)
    (dss_one (ds_app 2 (de_nm 7))))))))))
    (dss_one (ds_retNm 2 (hP 2)))))))
theorem sc_line_words : FnScope ["line", "first", "prices"] ["line"] (defScope s_line_words) := ⟨rfl, rfl, rfl, by decide +kernel, rfl, by decide +kernel, by decide +kernel⟩
theorem ok_line_words (T : Txt w K mg) : FnOk P w K mg base CX0 4 T.a_line_words T.t_line_words ["line"] (spP K 1 f_line_words) := by
  have sc := sc_line_words
  exact okP T.d_line_words.F sc (fun cdv A outer s H E W hr hP =>
    (dss_cons (ds_set 1 (hP 1) sc.nd (de_ix ix_seq sIx (de_nm 0) de_int))
    (dss_cons (ds_if (dt_cmp (op_eqq hr.units) sEq (de_nm 1) de_cs)
    (dss_cons (ds_set 2 (hP 2) sc.nd (de_bin op_addD sAdd (de_bin op_addD sAdd (de_bin op_addD sAdd de_cs (de_call (ok_price_word T) (hr.mono (by decide)) T.d_price_word.m T.d_price_word.F.kp T.d_price_word.b ar_run (da_cons (de_ix ix_seq sIx (de_nm 0) de_int) da_nil))) de_cs) (de_call (ok_price_word T) (hr.mono (by decide)) T.d_price_word.m T.d_price_word.F.kp T.d_price_word.b ar_run (da_cons (de_ix ix_seq sIx (de_nm 0) de_int) da_nil))))
    (dss_one (ds_ret (de_bin op_addD sAdd (de_bin op_addD sAdd (de_bin op_addD sAdd (de_bin op_addD sAdd (de_bin op_addD sAdd (de_bin op_addD sAdd de_cs (de_ix ix_seq sIx (de_nm 0) de_int)) de_cs) (de_ix ix_seq sIx (de_nm 0) de_int)) de_cs) (de_ix ix_seq sIx (de_nm 0) de_int)) (de_nm 2)))))
    dss_nil)
    (dss_cons (ds_if (dt_cmp (op_eqq hr.units) sEq (de_nm 1) de_cs)
    (dss_cons (ds_set 2 (hP 2) sc.nd (de_bin op_addD sAdd (de_bin op_addD sAdd (de_bin op_addD sAdd de_cs (de_call (ok_price_word T) (hr.mono (by decide)) T.d_price_word.m T.d_price_word.F.kp T.d_price_word.b ar_run (da_cons (de_ix ix_seq sIx (de_nm 0) de_int) da_nil))) de_cs) (de_call (ok_price_word T) (hr.mono (by decide)) T.d_price_word.m T.d_price_word.F.kp T.d_price_word.b ar_run (da_cons (de_ix ix_seq sIx (de_nm 0) de_int) da_nil))))
    (dss_one (ds_ret (de_bin op_addD sAdd (de_bin op_addD sAdd (de_bin op_addD sAdd (de_bin op_addD sAdd (de_bin op_addD sAdd (de_bin op_addD sAdd de_cs (de_ix ix_seq sIx (de_nm 0) de_int)) de_cs) (de_ix ix_seq sIx (de_nm 0) de_int)) de_cs) (de_ix ix_seq sIx (de_nm 0) de_int)) (de_nm 2)))))
    dss_nil)
    (dss_cons (ds_if (dt_cmp (op_eqq hr.units) sEq (de_nm 1) de_cs)
    (dss_one (ds_ret (de_bin op_addD sAdd (de_bin op_addD sAdd (de_bin op_addD sAdd (de_bin op_addD sAdd (de_bin op_addD sAdd de_cs (de_ix ix_seq sIx (de_nm 0) de_int)) de_cs) (de_callTy call_str_int s_str (by rfl) T.z_str bb_str (da_cons (de_ix ix_seq sIx (de_nm 0) de_int) da_nil))) de_cs) (de_join de_cs (de_ix ix_seq sIx (de_nm 0) de_int)))))
    dss_nil)
    (dss_cons (ds_if (dt_cmp (op_eqq hr.units) sEq (de_nm 1) de_cs)
    (dss_one (ds_ret (de_bin op_addD sAdd de_cs (de_call (ok_form_words T) (hr.mono (by decide)) T.d_form_words.m T.d_form_words.F.kp T.d_form_words.b ar_run (da_cons (de_ix ix_seq sIx (de_nm 0) de_int) da_nil)))))
    dss_nil)
    (dss_one (ds_ret (de_join de_cs (de_nm 0))))))))))
theorem sc_print_lines : FnScope ["lines", "line"] ["lines"] (defScope s_print_lines) := ⟨rfl, rfl, rfl, by decide +kernel, rfl, by decide +kernel, by decide +kernel⟩
theorem ok_print_lines (T : Txt w K mg) : FnOk P w K mg base CX0 5 T.a_print_lines T.t_print_lines ["lines"] (spP K 1 f_print_lines) := by
  have sc := sc_print_lines
  exact okP T.d_print_lines.F sc (fun cdv A outer s H E W hr hP =>
    (dss_one (ds_ret (de_join de_cs (de_fz (do_lc 1 rfl sc.nd (di_any (de_nm 0)) (blkOk_by (own := [("line", 1)]) (N := ["lines", "line"]) (sc := defScope s_print_lines) (by decide +kernel)) (fun _ _ _ _ _ => pg_name (i := 1) sc.nd rfl (Or.inl rfl)) (fun _ _ _ _ _ _ => dts_nil) (fun _ _ _ _ _ _ => (de_bin op_addD sAdd (de_call (ok_line_words T) (hr.mono (by decide)) T.d_line_words.m T.d_line_words.F.kp T.d_line_words.b ar_run (da_cons (de_nm 1) da_nil)) de_cs))))))))
theorem sc_law_cell : FnScope ["script", "at"] ["script", "at"] (defScope s_law_cell) := ⟨rfl, rfl, rfl, by decide +kernel, rfl, by decide +kernel, by decide +kernel⟩
theorem ok_law_cell (T : Txt w K mg) : FnOk P w K mg base CX0 1 T.a_law_cell T.t_law_cell ["script", "at"] (spP K 2 f_law_cell) := by
  have sc := sc_law_cell
  exact okP T.d_law_cell.F sc (fun cdv A outer s H E W hr hP =>
    (dss_one (ds_ret (de_if (dt_cmp op_lt sCmp (de_nm 1) (de_callB c_len s_len (by rfl) T.z_len bb_len (da_cons (de_nm 0) da_nil))) (de_callTy c_int s_int (by rfl) T.z_int bb_int (da_cons (de_ix ix_seq sIx (de_nm 0) (de_nm 1)) da_nil)) de_int))))
theorem sc_law_source : FnScope ["script", "at", "seed", "cell", "great"] ["script", "at"] (defScope s_law_source) := ⟨rfl, rfl, rfl, by decide +kernel, rfl, by decide +kernel, by decide +kernel⟩
theorem ok_law_source (T : Txt w K mg) : FnOk P w K mg base CX0 2 T.a_law_source T.t_law_source ["script", "at"] (spP K 2 f_law_source) := by
  have sc := sc_law_source
  exact okP T.d_law_source.F sc (fun cdv A outer s H E W hr hP =>
    (dss_cons (ds_set 2 (hP 2) sc.nd (de_bin op_addD sAdd de_int (de_bin op_mul sMul (de_nm 1) de_int)))
    (dss_cons (ds_for PassesOwn.never rfl (di_any (de_sl (de_nm 0) dp_no (dp_yes de_int))) (dg_nm 3 (hP 3) sc.nd)
    (dss_one (ds_set 2 (hP 2) sc.nd (de_bin op_mod sMod (de_bin op_addD sAdd (de_bin op_addD sAdd (de_bin op_addD sAdd (de_bin op_mul sMul (de_nm 2) de_int) (de_bin op_mul sMul (de_bin op_mod sMod (de_callB call_abs s_abs (by rfl) T.z_abs bb_abs (da_cons (de_callTy c_int s_int (by rfl) T.z_int bb_int (da_cons (de_nm 3) da_nil)) da_nil)) de_int) de_int)) (de_callTy c_int s_int (by rfl) T.z_int bb_int (da_cons (de_cmp op_lt sCmp (de_nm 3) de_int) da_nil))) de_int) de_int))))
    (dss_cons (ds_set 3 (hP 3) sc.nd (de_callB call_abs s_abs (by rfl) T.z_abs bb_abs (da_cons (de_call (ok_law_cell T) (hr.mono (by decide)) T.d_law_cell.m T.d_law_cell.F.kp T.d_law_cell.b ar_run (da_cons (de_nm 0) (da_cons (de_nm 1) da_nil))) da_nil)))
    (dss_cons (ds_set 4 (hP 4) sc.nd (de_if (dt_cmp op_ge sCmp (de_nm 3) (de_bin op_pow sPow de_int de_int)) (de_nm 3) de_int))
    (dss_one (ds_retO (do_lst (da_cons (de_nm 4) (da_cons (de_nm 2) (da_cons (de_bin op_mod sMod (de_bin op_addD sAdd (de_bin op_addD sAdd (de_bin op_mul sMul (de_nm 2) de_int) (de_bin op_mod sMod (de_nm 3) de_int)) de_int) de_int) (da_cons de_int da_nil))))))))))))
theorem sc_law_pick : FnScope ["s", "many", "digit"] ["s", "many"] (defScope s_law_pick) := ⟨rfl, rfl, rfl, by decide +kernel, rfl, by decide +kernel, by decide +kernel⟩
theorem ok_law_pick (T : Txt w K mg) : FnOk P w K mg base CX0 1 T.a_law_pick T.t_law_pick ["s", "many"] (spS K 2 f_law_pick) := by
  have sc := sc_law_pick
  exact okS T.d_law_pick.F sc (by decide) (fun cdv A outer s H E W hr hP =>
    (dss_cons (ds_if (dt_cmp op_le sCmp (de_nm 1) de_int)
    (dss_one (ds_ret de_int))
    dss_nil)
    (dss_cons (ds_if (dt_cmp op_gt sCmp (de_ixO 0 de_int) de_int)
    (dss_cons (ds_set 2 (hP 2 (by decide)) sc.nd (de_bin op_mod sMod (de_callTy c_int s_int (by rfl) T.z_int bb_int (da_cons (de_ixO 0 de_int) da_nil)) (de_nm 1)))
    (dss_cons (ds_setI 0 (de_bin op_fdiv sDiv (de_callTy c_int s_int (by rfl) T.z_int bb_int (da_cons (de_ixO 0 de_int) da_nil)) (de_nm 1)) de_int)
    (dss_one (ds_ret (de_nm 2)))))
    dss_nil)
    (dss_cons (ds_setI 0 (de_bin op_addD sAdd (de_ixO 0 de_int) de_int) de_int)
    (dss_cons (ds_setI 0 (de_bin op_mod sMod (de_bin op_addD sAdd (de_bin op_addD sAdd (de_bin op_mul sMul (de_ixO 0 de_int) de_int) (de_bin op_mul sMul (de_ixO 0 de_int) de_int)) de_int) de_int) de_int)
    (dss_cons (ds_setI 0 (de_bin op_mod sMod (de_bin op_addD sAdd (de_bin op_addD sAdd (de_bin op_mul sMul (de_ixO 0 de_int) de_int) (de_bin op_mod sMod (de_ixO 0 de_int) de_int)) (de_ixO 0 de_int)) de_int) de_int)
    (dss_one (ds_ret (de_bin op_mod sMod (de_bin op_addD sAdd (de_bin op_fdiv sDiv (de_ixO 0 de_int) de_int) (de_bin op_fdiv sDiv (de_ixO 0 de_int) de_int)) (de_nm 1))))))))))
theorem sc_law_number : FnScope ["s", "limit", "kind", "told", "k"] ["s", "limit"] (defScope s_law_number) := ⟨rfl, rfl, rfl, by decide +kernel, rfl, by decide +kernel, by decide +kernel⟩
theorem ok_law_number (T : Txt w K mg) : FnOk P w K mg base CX0 2 T.a_law_number T.t_law_number ["s", "limit"] (spS K 2 f_law_number) := by
  have sc := sc_law_number
  exact okS T.d_law_number.F sc (by decide) (fun cdv A outer s H E W hr hP =>
    (dss_cons (ds_set 2 (hP 2 (by decide)) sc.nd (de_callS 0 (ok_law_pick T) (hr.mono (by decide)) T.d_law_pick.m T.d_law_pick.F.kp T.d_law_pick.b ars_run (da_cons de_int da_nil)))
    (dss_cons (ds_if (dt_cmp (op_eqq hr.units) sEq (de_nm 2) de_int)
    (dss_one (ds_ret (de_callS 0 (ok_law_pick T) (hr.mono (by decide)) T.d_law_pick.m T.d_law_pick.F.kp T.d_law_pick.b ars_run (da_cons (de_callB (call_min2 rfl) s_min (by rfl) T.z_min bb_min (da_cons (de_nm 1) (da_cons de_int da_nil))) da_nil))))
    dss_nil)
    (dss_cons (ds_if (dt_cmp (op_eqq hr.units) sEq (de_nm 2) de_int)
    (dss_one (ds_ret (de_bin op_sub sSub (de_bin op_sub sSub (de_nm 1) de_int) (de_callS 0 (ok_law_pick T) (hr.mono (by decide)) T.d_law_pick.m T.d_law_pick.F.kp T.d_law_pick.b ars_run (da_cons (de_callB (call_min2 rfl) s_min (by rfl) T.z_min bb_min (da_cons (de_nm 1) (da_cons de_int da_nil))) da_nil)))))
    dss_nil)
    (dss_cons (ds_set 3 (hP 3 (by decide)) sc.nd de_int)
    (dss_cons (ds_for PassesOwn.never rfl (di_rng (by rfl) T.z_range (da_cons de_int da_nil)) (dg_nm 4 (hP 4 (by decide)) sc.nd)
    (dss_one (ds_set 3 (hP 3 (by decide)) sc.nd (de_bin op_addD sAdd (de_bin op_mul sMul (de_nm 3) de_int) (de_callS 0 (ok_law_pick T) (hr.mono (by decide)) T.d_law_pick.m T.d_law_pick.F.kp T.d_law_pick.b ars_run (da_cons de_int da_nil))))))
    (dss_one (ds_ret (de_bin op_mod sMod (de_nm 3) (de_nm 1))))))))))
theorem sc_law_kept : FnScope ["kept"] [] (defScope s_law_kept) := ⟨rfl, rfl, rfl, by decide +kernel, rfl, by decide +kernel, by decide +kernel⟩
theorem ok_law_kept (T : Txt w K mg) : FnOk P w K mg base CX0 1 T.a_law_kept T.t_law_kept [] (spP K 0 f_law_kept) := by
  have sc := sc_law_kept
  exact okP T.d_law_kept.F sc (fun cdv A outer s H E W hr hP =>
    (dss_cons (ds_set 0 (hP 0) sc.nd de_cs)
    (dss_cons (ds_set 0 (hP 0) sc.nd (de_bin op_addD sAdd (de_nm 0) de_cs))
    (dss_one (ds_ret (de_fz (do_split (de_nm 0) de_cs)))))))
theorem sc_law_words : FnScope ["s", "many", "letters", "signs", "told", "kept", "alike", "stem", "k", "word", "j"] ["s", "many"] (defScope s_law_words) := ⟨rfl, rfl, rfl, by decide +kernel, rfl, by decide +kernel, by decide +kernel⟩
theorem ok_law_words (T : Txt w K mg) : FnOk P w K mg base CX0 2 T.a_law_words T.t_law_words ["s", "many"] (spS K 2 f_law_words) := by
  have sc := sc_law_words
  exact okS T.d_law_words.F sc (by decide) (fun cdv A outer s H E W hr hP =>
    (dss_cons (ds_set 2 (hP 2 (by decide)) sc.nd de_cs)
    (dss_cons (ds_set 3 (hP 3 (by decide)) sc.nd (de_bin op_addD sAdd (de_nm 2) de_cs))
    (dss_cons (ds_setO 4 (hP 4 (by decide)) sc.nd (do_lst da_nil))
    (dss_cons (ds_set 5 (hP 5 (by decide)) sc.nd (de_call0 (ok_law_kept T) (hr.mono (by decide)) T.d_law_kept.m T.d_law_kept.F.kp T.d_law_kept.b ar_run))
    (dss_cons (ds_set 6 (hP 6 (by decide)) sc.nd (de_cmp (op_eqq hr.units) sEq (de_callS 0 (ok_law_pick T) (hr.mono (by decide)) T.d_law_pick.m T.d_law_pick.F.kp T.d_law_pick.b ars_run (da_cons de_int da_nil)) de_int))
    (dss_cons (ds_set 7 (hP 7 (by decide)) sc.nd (de_bin op_addD sAdd (de_bin op_addD sAdd (de_ix ix_seq sIx (de_nm 2) (de_callS 0 (ok_law_pick T) (hr.mono (by decide)) T.d_law_pick.m T.d_law_pick.F.kp T.d_law_pick.b ars_run (da_cons de_int da_nil))) (de_ix ix_seq sIx (de_nm 3) (de_callS 0 (ok_law_pick T) (hr.mono (by decide)) T.d_law_pick.m T.d_law_pick.F.kp T.d_law_pick.b ars_run (da_cons de_int da_nil)))) (de_ix ix_seq sIx (de_nm 3) (de_callS 0 (ok_law_pick T) (hr.mono (by decide)) T.d_law_pick.m T.d_law_pick.F.kp T.d_law_pick.b ars_run (da_cons de_int da_nil)))))
    (dss_cons (ds_for PassesOwn.never rfl (di_rng (by rfl) T.z_range (da_cons (de_nm 1) da_nil)) (dg_nm 8 (hP 8 (by decide)) sc.nd)
    (dss_cons (ds_set 9 (hP 9 (by decide)) sc.nd (de_if (dt_tru (de_nm 6)) (de_nm 7) (de_ix ix_seq sIx (de_nm 2) (de_callS 0 (ok_law_pick T) (hr.mono (by decide)) T.d_law_pick.m T.d_law_pick.F.kp T.d_law_pick.b ars_run (da_cons de_int da_nil)))))
    (dss_cons (ds_for PassesOwn.never rfl (di_rng (by rfl) T.z_range (da_cons (de_if (dt_tru (de_nm 6)) de_int (de_if (dt_cmp (op_eqq hr.units) sEq (de_callS 0 (ok_law_pick T) (hr.mono (by decide)) T.d_law_pick.m T.d_law_pick.F.kp T.d_law_pick.b ars_run (da_cons de_int da_nil)) de_int) (de_callS 0 (ok_law_pick T) (hr.mono (by decide)) T.d_law_pick.m T.d_law_pick.F.kp T.d_law_pick.b ars_run (da_cons de_int da_nil)) (de_callS 0 (ok_law_pick T) (hr.mono (by decide)) T.d_law_pick.m T.d_law_pick.F.kp T.d_law_pick.b ars_run (da_cons de_int da_nil)))) da_nil)) (dg_nm 10 (hP 10 (by decide)) sc.nd)
    (dss_one (ds_set 9 (hP 9 (by decide)) sc.nd (de_bin op_addD sAdd (de_nm 9) (de_ix ix_seq sIx (de_nm 3) (de_callS 0 (ok_law_pick T) (hr.mono (by decide)) T.d_law_pick.m T.d_law_pick.F.kp T.d_law_pick.b ars_run (da_cons de_int da_nil)))))))
    (dss_cons (ds_for PassesOwn.never rfl (di_rng (by rfl) T.z_range (da_cons (de_bin op_addD sAdd (de_nm 1) de_int) da_nil)) (dg_nm 10 (hP 10 (by decide)) sc.nd)
    (dss_cons (ds_if (PW.pt (dw_and (dt_cmp op_notInn sNotIn (de_nm 9) (de_nm 5)) (dw_and1 (dt_cmpV op_notInn sNotIn (de_nm 9) (dv_nm 4)))))
    (dss_one ds_break)
    dss_nil)
    (dss_one (ds_set 9 (hP 9 (by decide)) sc.nd (de_bin op_addD sAdd (de_bin op_addD sAdd (de_bin op_addD sAdd de_cs (de_callTy call_str_int s_str (by rfl) T.z_str bb_str (da_cons (de_nm 10) da_nil))) de_cs) (de_callTy call_str_int s_str (by rfl) T.z_str bb_str (da_cons (de_nm 8) da_nil)))))))
    (dss_one (ds_app 4 (de_nm 9)))))))
    (dss_one (ds_retNm 4 (hP 4 (by decide))))))))))))
theorem sc_law_same : FnScope ["answer", "due", "k", "key", "kinds"] ["answer", "due"] (defScope s_law_same) := ⟨rfl, rfl, rfl, by decide +kernel, rfl, by decide +kernel, by decide +kernel⟩
theorem ok_law_same (T : Txt w K mg) : ∀ n : Nat, FnOk P w K mg base CX0 n T.a_law_same T.t_law_same ["answer", "due"] (spP K 2 (f_law_same n))
  | 0 => FnOk.nothing
  | n + 1 => by
    have sc := sc_law_same
    have ih := ok_law_same T n
    have ar_self := ar_law_same n
    exact okP T.d_law_same.F sc (fun cdv A outer s H E W hr hP =>
    (dss_cons (ds_if (dt_tru (de_isi2 (by rfl) T.z_isinstance bb_isinstance (de_nm 1) (by rfl) T.z_tuple bb_tuple (by rfl) T.z_list bb_list))
    (dss_cons (ds_if (PW.pt (dw_or (dt_not (dt_tru (de_isi2 (by rfl) T.z_isinstance bb_isinstance (de_nm 0) (by rfl) T.z_tuple bb_tuple (by rfl) T.z_list bb_list))) (dw_or (dt_cmp (op_nee hr.units) sNe (de_isi (by rfl) T.z_isinstance bb_isinstance (de_nm 0) (by rfl) T.z_list bb_list) (de_isi (by rfl) T.z_isinstance bb_isinstance (de_nm 1) (by rfl) T.z_list bb_list)) (dw_or1 (dt_cmp (op_nee hr.units) sNe (de_callB c_len s_len (by rfl) T.z_len bb_len (da_cons (de_nm 0) da_nil)) (de_callB c_len s_len (by rfl) T.z_len bb_len (da_cons (de_nm 1) da_nil)))))))
    (dss_one (ds_ret de_bl))
    dss_nil)
    (dss_one (ds_ret (de_callB (cr_all rfl) s_all (by rfl) T.z_all bb_all (da_cons (de_fz (do_lc 2 rfl sc.nd (di_rng (by rfl) T.z_range (da_cons (de_callB c_len s_len (by rfl) T.z_len bb_len (da_cons (de_nm 1) da_nil)) da_nil)) (blkOk_by (own := [("k", 2)]) (N := ["answer", "due", "k", "key", "kinds"]) (sc := defScope s_law_same) (by decide +kernel)) (fun _ _ _ _ _ => pg_name (i := 2) sc.nd rfl (Or.inl rfl)) (fun _ _ _ _ _ _ => dts_nil) (fun _ _ _ _ _ _ => (de_call ih (hr.mono (Nat.le_refl _)) T.d_law_same.m T.d_law_same.F.kp T.d_law_same.b ar_self (da_cons (de_ix ix_seq sIx (de_nm 0) (de_nm 2)) (da_cons (de_ix ix_seq sIx (de_nm 1) (de_nm 2)) da_nil)))))) da_nil)))))
    dss_nil)
    (dss_cons (ds_if (dt_tru (de_isi (by rfl) T.z_isinstance bb_isinstance (de_nm 1) (by rfl) T.z_dict bb_dict))
    (dss_one (ds_ret (de_and (de_isi (by rfl) T.z_isinstance bb_isinstance (de_nm 0) (by rfl) T.z_dict bb_dict) (de_and (de_cmp (op_eqq hr.units) sEq (de_callB c_len s_len (by rfl) T.z_len bb_len (da_cons (de_nm 0) da_nil)) (de_callB c_len s_len (by rfl) T.z_len bb_len (da_cons (de_nm 1) da_nil))) (de_one (de_callB (cr_all rfl) s_all (by rfl) T.z_all bb_all (da_cons (de_fz (do_lc 3 rfl sc.nd (di_any (de_nm 1)) (blkOk_by (own := [("key", 3)]) (N := ["answer", "due", "k", "key", "kinds"]) (sc := defScope s_law_same) (by decide +kernel)) (fun _ _ _ _ _ => pg_name (i := 3) sc.nd rfl (Or.inl rfl)) (fun _ _ _ _ _ _ => dts_nil) (fun _ _ _ _ _ _ => (de_and (de_cmp op_inn sIn (de_nm 3) (de_nm 0)) (de_one (de_call ih (hr.mono (Nat.le_refl _)) T.d_law_same.m T.d_law_same.F.kp T.d_law_same.b ar_self (da_cons (de_ix ix_seq sIx (de_nm 0) (de_nm 3)) (da_cons (de_ix ix_seq sIx (de_nm 1) (de_nm 3)) da_nil)))))))) da_nil)))))))
    dss_nil)
    (dss_cons (ds_set 4 (hP 4) sc.nd (de_and (de_cmp (op_eqq hr.units) sEq (de_isi (by rfl) T.z_isinstance bb_isinstance (de_nm 0) (by rfl) T.z_bool bb_bool) (de_isi (by rfl) T.z_isinstance bb_isinstance (de_nm 1) (by rfl) T.z_bool bb_bool)) (de_one (de_cmp (op_eqq hr.units) sEq (de_isi (by rfl) T.z_isinstance bb_isinstance (de_nm 0) (by rfl) T.z_int bb_int) (de_isi (by rfl) T.z_isinstance bb_isinstance (de_nm 1) (by rfl) T.z_int bb_int)))))
    (dss_one (ds_ret (de_and (de_nm 4) (de_and (de_cmp (op_eqq hr.units) sEq (de_isi (by rfl) T.z_isinstance bb_isinstance (de_nm 0) (by rfl) T.z_str bb_str) (de_isi (by rfl) T.z_isinstance bb_isinstance (de_nm 1) (by rfl) T.z_str bb_str)) (de_one (de_cmp (op_eqq hr.units) sEq (de_nm 0) (de_nm 1)))))))))))
theorem sc_law_condition_words : FnScope ["c"] ["c"] (defScope s_law_condition_words) := ⟨rfl, rfl, rfl, by decide +kernel, rfl, by decide +kernel, by decide +kernel⟩
theorem ok_law_condition_words (T : Txt w K mg) : FnOk P w K mg base CX0 1 T.a_law_condition_words T.t_law_condition_words ["c"] (spP K 1 f_law_condition_words) := by
  have sc := sc_law_condition_words
  exact okP T.d_law_condition_words.F sc (fun cdv A outer s H E W hr hP =>
    (dss_cons (ds_if (dt_cmp (op_eqq hr.units) sEq (de_ix ix_seq sIx (de_nm 0) de_int) de_cs)
    (dss_one (ds_ret (de_bin op_addD sAdd (de_ix ix_seq sIx (de_nm 0) de_int) de_cs)))
    dss_nil)
    (dss_cons (ds_if (dt_cmp (op_eqq hr.units) sEq (de_ix ix_seq sIx (de_nm 0) de_int) de_cs)
    (dss_one (ds_ret (de_bin op_addD sAdd (de_bin op_addD sAdd (de_ix ix_seq sIx (de_nm 0) de_int) de_cs) (de_ix ix_seq sIx (de_nm 0) de_int))))
    dss_nil)
    (dss_one (ds_ret (de_bin op_addD sAdd (de_bin op_addD sAdd (de_bin op_addD sAdd (de_bin op_addD sAdd (de_ix ix_seq sIx (de_nm 0) de_int) de_cs) (de_ix ix_seq sIx (de_nm 0) de_int)) de_cs) (de_ix ix_seq sIx (de_nm 0) de_int)))))))
theorem sc_law_parts : FnScope ["form"] ["form"] (defScope s_law_parts) := ⟨rfl, rfl, rfl, by decide +kernel, rfl, by decide +kernel, by decide +kernel⟩
theorem ok_law_parts (T : Txt w K mg) : FnOk P w K mg base CX0 1 T.a_law_parts T.t_law_parts ["form"] (spP K 1 f_law_parts) := by
  have sc := sc_law_parts
  exact okP T.d_law_parts.F sc (fun cdv A outer s H E W hr hP =>
    (dss_cons (ds_if (dt_cmp (op_eqq hr.units) sEq (de_ix ix_seq sIx (de_nm 0) de_int) de_cs)
    (dss_one (ds_ret (de_fz (do_cat (do_list (by rfl) T.z_list bb_list (da_cons (de_ix ix_seq sIx (de_nm 0) de_int) da_nil)) (dv_o (do_list (by rfl) T.z_list bb_list (da_cons (de_ix ix_seq sIx (de_nm 0) de_int) da_nil)))))))
    dss_nil)
    (dss_one (ds_ret (de_fz (do_if (dt_cmp (op_eqq hr.units) sEq (de_ix ix_seq sIx (de_nm 0) de_int) de_cs) (do_lst (da_cons (de_ix ix_seq sIx (de_nm 0) de_int) (da_cons (de_ix ix_seq sIx (de_nm 0) de_int) da_nil))) (do_list (by rfl) T.z_list bb_list (da_cons (de_ix ix_seq sIx (de_nm 0) (de_neg de_int)) da_nil))))))))
theorem sc_law_form_words : FnScope ["form", "words", "c"] ["form"] (defScope s_law_form_words) := ⟨rfl, rfl, rfl, by decide +kernel, rfl, by decide +kernel, by decide +kernel⟩
theorem ok_law_form_words (T : Txt w K mg) : FnOk P w K mg base CX0 2 T.a_law_form_words T.t_law_form_words ["form"] (spP K 1 f_law_form_words) := by
  have sc := sc_law_form_words
  exact okP T.d_law_form_words.F sc (fun cdv A outer s H E W hr hP =>
    (dss_cons (ds_setLc 1 2 (hP 1) rfl sc.nd (di_any (de_call (ok_law_parts T) (hr.mono (by decide)) T.d_law_parts.m T.d_law_parts.F.kp T.d_law_parts.b ar_run (da_cons (de_nm 0) da_nil))) (blkOk_by (own := [("c", 2)]) (N := ["form", "words", "c"]) (sc := defScope s_law_form_words) (by decide +kernel)) (fun _ _ _ _ _ => pg_name (i := 2) sc.nd rfl (Or.inl rfl)) (fun _ _ _ _ _ _ => dts_nil) (fun _ _ _ _ _ _ => (de_call (ok_law_condition_words T) (hr.mono (by decide)) T.d_law_condition_words.m T.d_law_condition_words.F.kp T.d_law_condition_words.b ar_run (da_cons (de_nm 2) da_nil))) (sw_true rfl rfl rfl (by decide +kernel)))
    (dss_cons (ds_if (dt_cmp (op_eqq hr.units) sEq (de_ix ix_seq sIx (de_nm 0) de_int) de_cs)
    (dss_one (ds_ret (de_bin op_addD sAdd (de_bin op_addD sAdd (de_bin op_addD sAdd de_cs (de_join de_cs (de_sl (de_nm 1) dp_no (dp_yes (de_callB c_len s_len (by rfl) T.z_len bb_len (da_cons (de_ix ix_seq sIx (de_nm 0) de_int) da_nil)))))) de_cs) (de_join de_cs (de_sl (de_nm 1) (dp_yes (de_callB c_len s_len (by rfl) T.z_len bb_len (da_cons (de_ix ix_seq sIx (de_nm 0) de_int) da_nil))) dp_no)))))
    dss_nil)
    (dss_one (ds_ret (de_bin op_addD sAdd (de_bin op_addD sAdd (de_ix ix_seq sIx (de_nm 0) de_int) (de_if (PW.pt (dw_or (dt_cmp (op_eqq hr.units) sEq (de_ix ix_seq sIx (de_nm 0) de_int) de_cs) (dw_or1 (dt_cmp (op_eqq hr.units) sEq (de_ix ix_seq sIx (de_nm 0) de_int) de_cs)))) (de_bin op_addD sAdd (de_bin op_addD sAdd de_cs (de_callTy call_str_int s_str (by rfl) T.z_str bb_str (da_cons (de_ix ix_seq sIx (de_nm 0) de_int) da_nil))) de_cs) de_cs)) (de_join de_cs (de_nm 1))))))))
theorem sc_law_price_word : FnScope ["price"] ["price"] (defScope s_law_price_word) := ⟨rfl, rfl, rfl, by decide +kernel, rfl, by decide +kernel, by decide +kernel⟩
theorem ok_law_price_word (T : Txt w K mg) : FnOk P w K mg base CX0 1 T.a_law_price_word T.t_law_price_word ["price"] (spP K 1 f_law_price_word) := by
  have sc := sc_law_price_word
  exact okP T.d_law_price_word.F sc (fun cdv A outer s H E W hr hP =>
    (dss_one (ds_ret (de_if (dt_isN (de_nm 0)) de_cs (de_callTy call_str_int s_str (by rfl) T.z_str bb_str (da_cons (de_nm 0) da_nil))))))
theorem sc_law_line_words : FnScope ["line", "told"] ["line"] (defScope s_law_line_words) := ⟨rfl, rfl, rfl, by decide +kernel, rfl, by decide +kernel, by decide +kernel⟩
theorem ok_law_line_words (T : Txt w K mg) : FnOk P w K mg base CX0 3 T.a_law_line_words T.t_law_line_words ["line"] (spP K 1 f_law_line_words) := by
  have sc := sc_law_line_words
  exact okP T.d_law_line_words.F sc (fun cdv A outer s H E W hr hP =>
    (dss_cons (ds_if (PW.pt (dw_or (dt_cmp (op_eqq hr.units) sEq (de_ix ix_seq sIx (de_nm 0) de_int) de_cs) (dw_or1 (dt_cmp (op_eqq hr.units) sEq (de_ix ix_seq sIx (de_nm 0) de_int) de_cs))))
    (dss_cons (ds_set 1 (hP 1) sc.nd (de_bin op_addD sAdd (de_bin op_addD sAdd (de_join de_cs (de_sl (de_nm 0) dp_no (dp_yes de_int))) (de_if (dt_cmp (op_eqq hr.units) sEq (de_ix ix_seq sIx (de_nm 0) de_int) de_cs) de_cs de_cs)) (de_ix ix_seq sIx (de_nm 0) de_int)))
    (dss_one (ds_ret (de_bin op_addD sAdd (de_bin op_addD sAdd (de_bin op_addD sAdd (de_bin op_addD sAdd (de_nm 1) de_cs) (de_call (ok_law_price_word T) (hr.mono (by decide)) T.d_law_price_word.m T.d_law_price_word.F.kp T.d_law_price_word.b ar_run (da_cons (de_ix ix_seq sIx (de_nm 0) de_int) da_nil))) de_cs) (de_call (ok_law_price_word T) (hr.mono (by decide)) T.d_law_price_word.m T.d_law_price_word.F.kp T.d_law_price_word.b ar_run (da_cons (de_ix ix_seq sIx (de_nm 0) de_int) da_nil))))))
    dss_nil)
    (dss_cons (ds_if (dt_cmp (op_eqq hr.units) sEq (de_ix ix_seq sIx (de_nm 0) de_int) de_cs)
    (dss_one (ds_ret (de_bin op_addD sAdd (de_bin op_addD sAdd (de_bin op_addD sAdd (de_bin op_addD sAdd (de_bin op_addD sAdd de_cs (de_ix ix_seq sIx (de_nm 0) de_int)) de_cs) (de_callTy call_str_int s_str (by rfl) T.z_str bb_str (da_cons (de_ix ix_seq sIx (de_nm 0) de_int) da_nil))) de_cs) (de_join de_cs (de_ix ix_seq sIx (de_nm 0) de_int)))))
    dss_nil)
    (dss_one (ds_ret (de_if (dt_cmp (op_eqq hr.units) sEq (de_ix ix_seq sIx (de_nm 0) de_int) de_cs) (de_bin op_addD sAdd de_cs (de_call (ok_law_form_words T) (hr.mono (by decide)) T.d_law_form_words.m T.d_law_form_words.F.kp T.d_law_form_words.b ar_run (da_cons (de_ix ix_seq sIx (de_nm 0) de_int) da_nil))) (de_join de_cs (de_nm 0))))))))
theorem sc_law_show : FnScope ["lines", "line"] ["lines"] (defScope s_law_show) := ⟨rfl, rfl, rfl, by decide +kernel, rfl, by decide +kernel, by decide +kernel⟩
theorem ok_law_show (T : Txt w K mg) : FnOk P w K mg base CX0 4 T.a_law_show T.t_law_show ["lines"] (spP K 1 f_law_show) := by
  have sc := sc_law_show
  exact okP T.d_law_show.F sc (fun cdv A outer s H E W hr hP =>
    (dss_one (ds_ret (de_join de_cs (de_fz (do_lc 1 rfl sc.nd (di_any (de_nm 0)) (blkOk_by (own := [("line", 1)]) (N := ["lines", "line"]) (sc := defScope s_law_show) (by decide +kernel)) (fun _ _ _ _ _ => pg_name (i := 1) sc.nd rfl (Or.inl rfl)) (fun _ _ _ _ _ _ => dts_nil) (fun _ _ _ _ _ _ => (de_bin op_addD sAdd (de_call (ok_law_line_words T) (hr.mono (by decide)) T.d_law_line_words.m T.d_law_line_words.F.kp T.d_law_line_words.b ar_run (da_cons (de_nm 1) da_nil)) de_cs))))))))
theorem sc_law_a_version : FnScope ["s", "told", "k"] ["s"] (defScope s_law_a_version) := ⟨rfl, rfl, rfl, by decide +kernel, rfl, by decide +kernel, by decide +kernel⟩
theorem ok_law_a_version (T : Txt w K mg) : FnOk P w K mg base CX0 2 T.a_law_a_version T.t_law_a_version ["s"] (spS K 1 f_law_a_version) := by
  have sc := sc_law_a_version
  exact okS T.d_law_a_version.F sc (by decide) (fun cdv A outer s H E W hr hP =>
    (dss_cons (ds_set 1 (hP 1 (by decide)) sc.nd (de_callTy call_str_int s_str (by rfl) T.z_str bb_str (da_cons (de_callS 0 (ok_law_pick T) (hr.mono (by decide)) T.d_law_pick.m T.d_law_pick.F.kp T.d_law_pick.b ars_run (da_cons de_int da_nil)) da_nil)))
    (dss_cons (ds_for PassesOwn.never rfl (di_rng (by rfl) T.z_range (da_cons (de_callS 0 (ok_law_pick T) (hr.mono (by decide)) T.d_law_pick.m T.d_law_pick.F.kp T.d_law_pick.b ars_run (da_cons de_int da_nil)) da_nil)) (dg_nm 2 (hP 2 (by decide)) sc.nd)
    (dss_one (ds_set 1 (hP 1 (by decide)) sc.nd (de_bin op_addD sAdd (de_bin op_addD sAdd (de_nm 1) de_cs) (de_callTy call_str_int s_str (by rfl) T.z_str bb_str (da_cons (de_if (dt_cmp (op_eqq hr.units) sEq (de_callS 0 (ok_law_pick T) (hr.mono (by decide)) T.d_law_pick.m T.d_law_pick.F.kp T.d_law_pick.b ars_run (da_cons de_int da_nil)) de_int) (de_callS 0 (ok_law_pick T) (hr.mono (by decide)) T.d_law_pick.m T.d_law_pick.F.kp T.d_law_pick.b ars_run (da_cons de_int da_nil)) (de_callS 0 (ok_law_pick T) (hr.mono (by decide)) T.d_law_pick.m T.d_law_pick.F.kp T.d_law_pick.b ars_run (da_cons de_int da_nil))) da_nil))))))
    (dss_one (ds_ret (de_nm 1))))))
theorem sc_law_a_release : FnScope ["s"] ["s"] (defScope s_law_a_release) := ⟨rfl, rfl, rfl, by decide +kernel, rfl, by decide +kernel, by decide +kernel⟩
theorem ok_law_a_release (T : Txt w K mg) : FnOk P w K mg base CX0 3 T.a_law_a_release T.t_law_a_release ["s"] (spS K 1 f_law_a_release) := by
  have sc := sc_law_a_release
  exact okS T.d_law_a_release.F sc (by decide) (fun cdv A outer s H E W hr hP =>
    (dss_one (ds_ret (de_if (dt_cmp (op_eqq hr.units) sEq (de_callS 0 (ok_law_pick T) (hr.mono (by decide)) T.d_law_pick.m T.d_law_pick.F.kp T.d_law_pick.b ars_run (da_cons de_int da_nil)) de_int) de_cs (de_callS 0 (ok_law_a_version T) (hr.mono (by decide)) T.d_law_a_version.m T.d_law_a_version.F.kp T.d_law_a_version.b ars_run da_nil)))))
theorem sc_law_a_name : FnScope ["s", "words", "word"] ["s", "words"] (defScope s_law_a_name) := ⟨rfl, rfl, rfl, by decide +kernel, rfl, by decide +kernel, by decide +kernel⟩
theorem ok_law_a_name (T : Txt w K mg) : FnOk P w K mg base CX0 2 T.a_law_a_name T.t_law_a_name ["s", "words"] (spS K 2 f_law_a_name) := by
  have sc := sc_law_a_name
  exact okS T.d_law_a_name.F sc (by decide) (fun cdv A outer s H E W hr hP =>
    (dss_cons (ds_set 2 (hP 2 (by decide)) sc.nd (de_ix ix_seq sIx (de_nm 1) (de_callS 0 (ok_law_pick T) (hr.mono (by decide)) T.d_law_pick.m T.d_law_pick.F.kp T.d_law_pick.b ars_run (da_cons (de_callB c_len s_len (by rfl) T.z_len bb_len (da_cons (de_nm 1) da_nil)) da_nil))))
    (dss_one (ds_ret (de_if (dt_cmp (op_eqq hr.units) sEq (de_callS 0 (ok_law_pick T) (hr.mono (by decide)) T.d_law_pick.m T.d_law_pick.F.kp T.d_law_pick.b ars_run (da_cons de_int da_nil)) de_int) (de_bin op_addD sAdd (de_bin op_addD sAdd (de_nm 2) de_cs) (de_ix ix_seq sIx (de_nm 1) (de_callS 0 (ok_law_pick T) (hr.mono (by decide)) T.d_law_pick.m T.d_law_pick.F.kp T.d_law_pick.b ars_run (da_cons (de_callB c_len s_len (by rfl) T.z_len bb_len (da_cons (de_nm 1) da_nil)) da_nil)))) (de_nm 2))))))
theorem sc_law_a_price : FnScope ["s"] ["s"] (defScope s_law_a_price) := ⟨rfl, rfl, rfl, by decide +kernel, rfl, by decide +kernel, by decide +kernel⟩
theorem ok_law_a_price (T : Txt w K mg) : FnOk P w K mg base CX0 3 T.a_law_a_price T.t_law_a_price ["s"] (spS K 1 f_law_a_price) := by
  have sc := sc_law_a_price
  exact okS T.d_law_a_price.F sc (by decide) (fun cdv A outer s H E W hr hP =>
    (dss_one (ds_ret (de_if (dt_cmp (op_eqq hr.units) sEq (de_callS 0 (ok_law_pick T) (hr.mono (by decide)) T.d_law_pick.m T.d_law_pick.F.kp T.d_law_pick.b ars_run (da_cons de_int da_nil)) de_int) de_non (de_bin op_addD sAdd de_int (de_callS 0 (ok_law_number T) (hr.mono (by decide)) T.d_law_number.m T.d_law_number.F.kp T.d_law_number.b ars_run (da_cons (de_bin op_pow sPow de_int de_int) da_nil)))))))
theorem sc_law_a_condition : FnScope ["s", "words", "kind", "name"] ["s", "words"] (defScope s_law_a_condition) := ⟨rfl, rfl, rfl, by decide +kernel, rfl, by decide +kernel, by decide +kernel⟩
theorem ok_law_a_condition (T : Txt w K mg) : FnOk P w K mg base CX0 4 T.a_law_a_condition T.t_law_a_condition ["s", "words"] (spS K 2 f_law_a_condition) := by
  have sc := sc_law_a_condition
  exact okS T.d_law_a_condition.F sc (by decide) (fun cdv A outer s H E W hr hP =>
    (dss_cons (ds_set 2 (hP 2 (by decide)) sc.nd (de_callS 0 (ok_law_pick T) (hr.mono (by decide)) T.d_law_pick.m T.d_law_pick.F.kp T.d_law_pick.b ars_run (da_cons de_int da_nil)))
    (dss_cons (ds_set 3 (hP 3 (by decide)) sc.nd (de_callS 0 (ok_law_a_name T) (hr.mono (by decide)) T.d_law_a_name.m T.d_law_a_name.F.kp T.d_law_a_name.b ars_run (da_cons (de_nm 1) da_nil)))
    (dss_cons (ds_if (dt_cmp (op_eqq hr.units) sEq (de_nm 2) de_int)
    (dss_one (ds_ret (de_tup (da_cons (de_nm 3) (da_cons de_cs da_nil)))))
    dss_nil)
    (dss_one (ds_ret (de_tup (da_cons (de_nm 3) (da_cons (de_ix ix_seq sIx (de_fz (do_lst (da_cons de_cs (da_cons de_cs (da_cons de_cs da_nil))))) (de_nm 2)) (da_cons (de_callS 0 (ok_law_a_release T) (hr.mono (by decide)) T.d_law_a_release.m T.d_law_a_release.F.kp T.d_law_a_release.b ars_run da_nil) da_nil))))))))))
theorem sc_law_a_conditions : FnScope ["s", "words", "least", "most", "k"] ["s", "words", "least", "most"] (defScope s_law_a_conditions) := ⟨rfl, rfl, rfl, by decide +kernel, rfl, by decide +kernel, by decide +kernel⟩
theorem ok_law_a_conditions (T : Txt w K mg) : FnOk P w K mg base CX0 5 T.a_law_a_conditions T.t_law_a_conditions ["s", "words", "least", "most"] (spS K 4 f_law_a_conditions) := by
  have sc := sc_law_a_conditions
  exact okS T.d_law_a_conditions.F sc (by decide) (fun cdv A outer s H E W hr hP =>
    (dss_one (ds_ret (de_callTy call_tuple_of s_tuple (by rfl) T.z_tuple bb_tuple (da_cons (de_fz (do_lc 4 rfl sc.nd (di_rng (by rfl) T.z_range (da_cons (de_bin op_addD sAdd (de_nm 2) (de_callS 0 (ok_law_pick T) (hr.mono (by decide)) T.d_law_pick.m T.d_law_pick.F.kp T.d_law_pick.b ars_run (da_cons (de_bin op_addD sAdd (de_bin op_sub sSub (de_nm 3) (de_nm 2)) de_int) da_nil))) da_nil)) (blkOk_by (own := [("k", 4)]) (N := ["s", "words", "least", "most", "k"]) (sc := defScope s_law_a_conditions) (by decide +kernel)) (fun _ _ _ _ _ => pg_name (i := 4) sc.nd rfl (Or.inl rfl)) (fun _ _ _ _ _ _ => dts_nil) (fun _ _ _ _ _ _ => (de_callS 0 (ok_law_a_condition T) (hr.mono (by decide)) T.d_law_a_condition.m T.d_law_a_condition.F.kp T.d_law_a_condition.b ars_run (da_cons (de_nm 1) da_nil))))) da_nil)))))
theorem sc_law_a_form : FnScope ["s", "words", "kind"] ["s", "words"] (defScope s_law_a_form) := ⟨rfl, rfl, rfl, by decide +kernel, rfl, by decide +kernel, by decide +kernel⟩
theorem ok_law_a_form (T : Txt w K mg) : FnOk P w K mg base CX0 6 T.a_law_a_form T.t_law_a_form ["s", "words"] (spS K 2 f_law_a_form) := by
  have sc := sc_law_a_form
  exact okS T.d_law_a_form.F sc (by decide) (fun cdv A outer s H E W hr hP =>
    (dss_cons (ds_set 2 (hP 2 (by decide)) sc.nd (de_callS 0 (ok_law_pick T) (hr.mono (by decide)) T.d_law_pick.m T.d_law_pick.F.kp T.d_law_pick.b ars_run (da_cons de_int da_nil)))
    (dss_cons (ds_if (dt_cmp (op_eqq hr.units) sEq (de_nm 2) de_int)
    (dss_one (ds_ret (de_tup (da_cons de_cs (da_cons (de_callS 0 (ok_law_a_conditions T) (hr.mono (by decide)) T.d_law_a_conditions.m T.d_law_a_conditions.F.kp T.d_law_a_conditions.b ars_run (da_cons (de_nm 1) (da_cons de_int (da_cons de_int da_nil)))) (da_cons (de_callS 0 (ok_law_a_conditions T) (hr.mono (by decide)) T.d_law_a_conditions.m T.d_law_a_conditions.F.kp T.d_law_a_conditions.b ars_run (da_cons (de_nm 1) (da_cons de_int (da_cons de_int da_nil)))) da_nil))))))
    dss_nil)
    (dss_cons (ds_if (dt_cmp (op_eqq hr.units) sEq (de_nm 2) de_int)
    (dss_one (ds_ret (de_tup (da_cons de_cs (da_cons (de_callS 0 (ok_law_a_conditions T) (hr.mono (by decide)) T.d_law_a_conditions.m T.d_law_a_conditions.F.kp T.d_law_a_conditions.b ars_run (da_cons (de_nm 1) (da_cons de_int (da_cons de_int da_nil)))) da_nil)))))
    dss_nil)
    (dss_cons (ds_if (dt_cmp (op_eqq hr.units) sEq (de_nm 2) de_int)
    (dss_one (ds_ret (de_tup (da_cons de_cs (da_cons (de_callS 0 (ok_law_a_conditions T) (hr.mono (by decide)) T.d_law_a_conditions.m T.d_law_a_conditions.F.kp T.d_law_a_conditions.b ars_run (da_cons (de_nm 1) (da_cons de_int (da_cons de_int da_nil)))) da_nil)))))
    dss_nil)
    (dss_cons (ds_if (dt_cmp (op_eqq hr.units) sEq (de_nm 2) de_int)
    (dss_one (ds_ret (de_tup (da_cons de_cs (da_cons (de_callS 0 (ok_law_a_condition T) (hr.mono (by decide)) T.d_law_a_condition.m T.d_law_a_condition.F.kp T.d_law_a_condition.b ars_run (da_cons (de_nm 1) da_nil)) (da_cons (de_callS 0 (ok_law_a_condition T) (hr.mono (by decide)) T.d_law_a_condition.m T.d_law_a_condition.F.kp T.d_law_a_condition.b ars_run (da_cons (de_nm 1) da_nil)) da_nil))))))
    dss_nil)
    (dss_one (ds_ret (de_tup (da_cons (de_ix ix_seq sIx (de_fz (do_lst (da_cons de_cs (da_cons de_cs da_nil)))) (de_bin op_sub sSub (de_nm 2) de_int)) (da_cons (de_callS 0 (ok_law_pick T) (hr.mono (by decide)) T.d_law_pick.m T.d_law_pick.F.kp T.d_law_pick.b ars_run (da_cons de_int da_nil)) (da_cons (de_callS 0 (ok_law_a_conditions T) (hr.mono (by decide)) T.d_law_a_conditions.m T.d_law_a_conditions.F.kp T.d_law_a_conditions.b ars_run (da_cons (de_nm 1) (da_cons de_int (da_cons de_int da_nil)))) da_nil))))))))))))
theorem sc_law_a_line : FnScope ["s", "words", "kind", "word", "elder", "other", "names", "k"] ["s", "words"] (defScope s_law_a_line) := ⟨rfl, rfl, rfl, by decide +kernel, rfl, by decide +kernel, by decide +kernel⟩
theorem ok_law_a_line (T : Txt w K mg) : FnOk P w K mg base CX0 7 T.a_law_a_line T.t_law_a_line ["s", "words"] (spS K 2 f_law_a_line) := by
  have sc := sc_law_a_line
  exact okS T.d_law_a_line.F sc (by decide) (fun cdv A outer s H E W hr hP =>
    (dss_cons (ds_set 2 (hP 2 (by decide)) sc.nd (de_callS 0 (ok_law_pick T) (hr.mono (by decide)) T.d_law_pick.m T.d_law_pick.F.kp T.d_law_pick.b ars_run (da_cons de_int da_nil)))
    (dss_cons (ds_set 3 (hP 3 (by decide)) sc.nd (de_ix ix_seq sIx (de_nm 1) (de_callS 0 (ok_law_pick T) (hr.mono (by decide)) T.d_law_pick.m T.d_law_pick.F.kp T.d_law_pick.b ars_run (da_cons (de_callB c_len s_len (by rfl) T.z_len bb_len (da_cons (de_nm 1) da_nil)) da_nil))))
    (dss_cons (ds_if (dt_cmp op_lt sCmp (de_nm 2) de_int)
    (dss_one (ds_ret (de_tup (da_cons de_cs (da_cons (de_callS 0 (ok_law_a_form T) (hr.mono (by decide)) T.d_law_a_form.m T.d_law_a_form.F.kp T.d_law_a_form.b ars_run (da_cons (de_nm 1) da_nil)) da_nil)))))
    dss_nil)
    (dss_cons (ds_if (dt_cmp (op_eqq hr.units) sEq (de_nm 2) de_int)
    (dss_cons (ds_set 4 (hP 4 (by decide)) sc.nd (de_if (dt_cmp (op_eqq hr.units) sEq (de_callS 0 (ok_law_pick T) (hr.mono (by decide)) T.d_law_pick.m T.d_law_pick.F.kp T.d_law_pick.b ars_run (da_cons de_int da_nil)) de_int) de_cs (de_callS 0 (ok_law_a_version T) (hr.mono (by decide)) T.d_law_a_version.m T.d_law_a_version.F.kp T.d_law_a_version.b ars_run da_nil)))
    (dss_one (ds_ret (de_tup (da_cons de_cs (da_cons (de_nm 3) (da_cons (de_callS 0 (ok_law_a_version T) (hr.mono (by decide)) T.d_law_a_version.m T.d_law_a_version.F.kp T.d_law_a_version.b ars_run da_nil) (da_cons (de_nm 4) (da_cons (de_callS 0 (ok_law_a_price T) (hr.mono (by decide)) T.d_law_a_price.m T.d_law_a_price.F.kp T.d_law_a_price.b ars_run da_nil) (da_cons (de_callS 0 (ok_law_a_price T) (hr.mono (by decide)) T.d_law_a_price.m T.d_law_a_price.F.kp T.d_law_a_price.b ars_run da_nil) da_nil))))))))))
    dss_nil)
    (dss_cons (ds_if (dt_cmp (op_eqq hr.units) sEq (de_nm 2) de_int)
    (dss_cons (ds_set 5 (hP 5 (by decide)) sc.nd (de_ix ix_seq sIx (de_nm 1) (de_callS 0 (ok_law_pick T) (hr.mono (by decide)) T.d_law_pick.m T.d_law_pick.F.kp T.d_law_pick.b ars_run (da_cons (de_callB c_len s_len (by rfl) T.z_len bb_len (da_cons (de_nm 1) da_nil)) da_nil))))
    (dss_one (ds_ret (de_tup (da_cons de_cs (da_cons (de_nm 3) (da_cons (de_nm 5) (da_cons (de_callS 0 (ok_law_a_version T) (hr.mono (by decide)) T.d_law_a_version.m T.d_law_a_version.F.kp T.d_law_a_version.b ars_run da_nil) (da_cons (de_callS 0 (ok_law_a_price T) (hr.mono (by decide)) T.d_law_a_price.m T.d_law_a_price.F.kp T.d_law_a_price.b ars_run da_nil) (da_cons (de_callS 0 (ok_law_a_price T) (hr.mono (by decide)) T.d_law_a_price.m T.d_law_a_price.F.kp T.d_law_a_price.b ars_run da_nil) da_nil))))))))))
    dss_nil)
    (dss_cons (ds_if (dt_cmp op_lt sCmp (de_nm 2) de_int)
    (dss_one (ds_ret (de_tup (da_cons (de_ix ix_seq sIx (de_fz (do_lst (da_cons de_cs (da_cons de_cs da_nil)))) (de_bin op_sub sSub (de_nm 2) de_int)) (da_cons (de_callS 0 (ok_law_a_name T) (hr.mono (by decide)) T.d_law_a_name.m T.d_law_a_name.F.kp T.d_law_a_name.b ars_run (da_cons (de_nm 1) da_nil)) (da_cons (de_callS 0 (ok_law_a_release T) (hr.mono (by decide)) T.d_law_a_release.m T.d_law_a_release.F.kp T.d_law_a_release.b ars_run da_nil) da_nil))))))
    dss_nil)
    (dss_cons (ds_if (dt_cmp (op_eqq hr.units) sEq (de_nm 2) de_int)
    (dss_cons (ds_setLc 6 7 (hP 6 (by decide)) rfl sc.nd (di_rng (by rfl) T.z_range (da_cons (de_bin op_addD sAdd de_int (de_callS 0 (ok_law_pick T) (hr.mono (by decide)) T.d_law_pick.m T.d_law_pick.F.kp T.d_law_pick.b ars_run (da_cons de_int da_nil))) da_nil)) (blkOk_by (own := [("k", 7)]) (N := ["s", "words", "kind", "word", "elder", "other", "names", "k"]) (sc := defScope s_law_a_line) (by decide +kernel)) (fun _ _ _ _ _ => pg_name (i := 7) sc.nd rfl (Or.inl rfl)) (fun _ _ _ _ _ _ => dts_nil) (fun _ _ _ _ _ _ => (de_callS 0 (ok_law_a_name T) (hr.mono (by decide)) T.d_law_a_name.m T.d_law_a_name.F.kp T.d_law_a_name.b ars_run (da_cons (de_nm 1) da_nil))) (sw_true rfl rfl rfl (by decide +kernel)))
    (dss_one (ds_ret (de_tup (da_cons de_cs (da_cons (de_nm 3) (da_cons (de_bin op_addD sAdd de_int (de_callS 0 (ok_law_pick T) (hr.mono (by decide)) T.d_law_pick.m T.d_law_pick.F.kp T.d_law_pick.b ars_run (da_cons de_int da_nil))) (da_cons (de_callTy call_tuple_of s_tuple (by rfl) T.z_tuple bb_tuple (da_cons (de_nm 6) da_nil)) da_nil))))))))
    dss_nil)
    (dss_cons (ds_if (dt_cmp (op_eqq hr.units) sEq (de_nm 2) de_int)
    (dss_one (ds_ret (de_tup (da_cons de_cs da_nil))))
    dss_nil)
    (dss_one (ds_ret (de_tup (da_cons (de_ix ix_seq sIx (de_fz (do_lst (da_cons de_cs (da_cons de_cs (da_cons de_cs da_nil))))) (de_bin op_sub sSub (de_nm 2) de_int)) (da_cons (de_nm 3) da_nil))))))))))))))
theorem sc_law_a_lines : FnScope ["s", "many", "words", "told", "k", "line"] ["s", "many"] (defScope s_law_a_lines) := ⟨rfl, rfl, rfl, by decide +kernel, rfl, by decide +kernel, by decide +kernel⟩
theorem ok_law_a_lines (T : Txt w K mg) : FnOk P w K mg base CX0 8 T.a_law_a_lines T.t_law_a_lines ["s", "many"] (spS K 2 f_law_a_lines) := by
  have sc := sc_law_a_lines
  exact okS T.d_law_a_lines.F sc (by decide) (fun cdv A outer s H E W hr hP =>
    (dss_cons (ds_set 2 (hP 2 (by decide)) sc.nd (de_fz (do_callS 0 (ok_law_words T) (hr.mono (by decide)) T.d_law_words.m T.d_law_words.F.kp T.d_law_words.b ars_run (da_cons de_int da_nil))))
    (dss_cons (ds_setO 3 (hP 3 (by decide)) sc.nd (do_lst da_nil))
    (dss_cons (ds_for PassesOwn.never rfl (di_rng (by rfl) T.z_range (da_cons (de_nm 1) da_nil)) (dg_nm 4 (hP 4 (by decide)) sc.nd)
    (dss_cons (ds_set 5 (hP 5 (by decide)) sc.nd (de_callS 0 (ok_law_a_line T) (hr.mono (by decide)) T.d_law_a_line.m T.d_law_a_line.F.kp T.d_law_a_line.b ars_run (da_cons (de_nm 2) da_nil)))
    (dss_one (ds_app 3 (de_if (dt_cmp op_le sCmp (de_callB c_len s_len (by rfl) T.z_len bb_len (da_cons (de_call (ok_law_line_words T) (hr.mono (by decide)) T.d_law_line_words.m T.d_law_line_words.F.kp T.d_law_line_words.b ar_run (da_cons (de_nm 5) da_nil)) da_nil)) de_int) (de_nm 5) (de_tup (da_cons de_cs da_nil)))))))
    (dss_one (ds_retNm 3 (hP 3 (by decide))))))))
theorem sc_law_a_size : FnScope ["s", "many"] ["s"] (defScope s_law_a_size) := ⟨rfl, rfl, rfl, by decide +kernel, rfl, by decide +kernel, by decide +kernel⟩
theorem ok_law_a_size (T : Txt w K mg) : FnOk P w K mg base CX0 2 T.a_law_a_size T.t_law_a_size ["s"] (spS K 1 f_law_a_size) := by
  have sc := sc_law_a_size
  exact okS T.d_law_a_size.F sc (by decide) (fun cdv A outer s H E W hr hP =>
    (dss_cons (ds_set 1 (hP 1 (by decide)) sc.nd (de_callS 0 (ok_law_pick T) (hr.mono (by decide)) T.d_law_pick.m T.d_law_pick.F.kp T.d_law_pick.b ars_run (da_cons de_int da_nil)))
    (dss_one (ds_ret (de_if (dt_cmp (op_eqq hr.units) sEq (de_callS 0 (ok_law_pick T) (hr.mono (by decide)) T.d_law_pick.m T.d_law_pick.F.kp T.d_law_pick.b ars_run (da_cons de_int da_nil)) de_int) (de_bin op_addD sAdd (de_nm 1) de_int) (de_nm 1))))))
theorem sc_law : FnScope ["script", "s", "one", "more", "other", "text", "told", "handed", "printed"] ["script"] (defScope s_law) := ⟨rfl, rfl, rfl, by decide +kernel, rfl, by decide +kernel, by decide +kernel⟩
theorem ok_law (T : Txt w K mg) : FnOk P w K mg base CX0 11 T.a_law T.t_law ["script"] (spP K 1 f_law) := by
  have sc := sc_law
  exact okP T.d_law.F sc (fun cdv A outer s H E W hr hP =>
    (dss_cons (ds_setO 1 (hP 1) sc.nd (do_call (ok_law_source T) (hr.mono (by decide)) T.d_law_source.m T.d_law_source.F.kp T.d_law_source.b ar_run (da_cons (de_nm 0) (da_cons de_int da_nil))))
    (dss_cons (ds_set 2 (hP 2) sc.nd (de_fz (do_callS 1 (ok_law_a_lines T) (hr.mono (by decide)) T.d_law_a_lines.m T.d_law_a_lines.F.kp T.d_law_a_lines.b ars_run (da_cons (de_callS 1 (ok_law_a_size T) (hr.mono (by decide)) T.d_law_a_size.m T.d_law_a_size.F.kp T.d_law_a_size.b ars_run da_nil) da_nil))))
    (dss_cons (ds_setO 3 (hP 3) sc.nd (do_call (ok_law_source T) (hr.mono (by decide)) T.d_law_source.m T.d_law_source.F.kp T.d_law_source.b ar_run (da_cons (de_nm 0) (da_cons de_int da_nil))))
    (dss_cons (ds_set 4 (hP 4) sc.nd (de_fz (do_callS 3 (ok_law_a_lines T) (hr.mono (by decide)) T.d_law_a_lines.m T.d_law_a_lines.F.kp T.d_law_a_lines.b ars_run (da_cons (de_callS 3 (ok_law_a_size T) (hr.mono (by decide)) T.d_law_a_size.m T.d_law_a_size.F.kp T.d_law_a_size.b ars_run da_nil) da_nil))))
    (dss_cons (ds_set 5 (hP 5) sc.nd (de_call (ok_law_show T) (hr.mono (by decide)) T.d_law_show.m T.d_law_show.F.kp T.d_law_show.b ar_run (da_cons (de_nm 2) da_nil)))
    (dss_cons (ds_if (PW.pt (dw_and (dt_cmp (op_eqq hr.units) sEq (de_callS 3 (ok_law_pick T) (hr.mono (by decide)) T.d_law_pick.m T.d_law_pick.F.kp T.d_law_pick.b ars_run (da_cons de_int da_nil)) de_int) (dw_and1 (dt_tru (de_nm 2)))))
    (dss_one (ds_set 5 (hP 5) sc.nd (de_sl (de_nm 5) dp_no (dp_yes (de_neg de_int)))))
    dss_nil)
    (dss_cons (ds_setO 6 (hP 6) sc.nd (do_call (ok_read_lines T) (hr.mono (by decide)) T.d_read_lines.m T.d_read_lines.F.kp T.d_read_lines.b ar_run (da_cons (de_nm 5) da_nil)))
    (dss_cons (ds_if (dt_not (dt_tru (de_callB1 6 (ok_law_same T 10) (hr.mono (by decide)) T.d_law_same.m T.d_law_same.F.kp T.d_law_same.b (ar_law_same _) (da_cons (de_nm 2) da_nil))))
    (dss_one (ds_ret de_bl))
    dss_nil)
    (dss_cons (ds_if (dt_not (dt_tru (de_call (ok_law_same T 10) (hr.mono (by decide)) T.d_law_same.m T.d_law_same.F.kp T.d_law_same.b (ar_law_same _) (da_cons (de_fz (do_call (ok_read_lines T) (hr.mono (by decide)) T.d_read_lines.m T.d_read_lines.F.kp T.d_read_lines.b ar_run (da_cons (de_call (ok_law_show T) (hr.mono (by decide)) T.d_law_show.m T.d_law_show.F.kp T.d_law_show.b ar_run (da_cons (de_nm 4) da_nil)) da_nil))) (da_cons (de_nm 4) da_nil)))))
    (dss_one (ds_ret de_bl))
    dss_nil)
    (dss_cons (ds_app 6 (de_tup (da_cons de_cs da_nil)))
    (dss_cons (ds_rev 6)
    (dss_cons (ds_if (dt_not (dt_tru (de_call (ok_law_same T 10) (hr.mono (by decide)) T.d_law_same.m T.d_law_same.F.kp T.d_law_same.b (ar_law_same _) (da_cons (de_fz (do_call (ok_read_lines T) (hr.mono (by decide)) T.d_read_lines.m T.d_read_lines.F.kp T.d_read_lines.b ar_run (da_cons (de_nm 5) da_nil))) (da_cons (de_nm 2) da_nil)))))
    (dss_one (ds_ret de_bl))
    dss_nil)
    (dss_cons (ds_set 7 (hP 7) sc.nd (de_fz (do_list (by rfl) T.z_list bb_list (da_cons (de_nm 4) da_nil))))
    (dss_cons (ds_set 8 (hP 8) sc.nd (de_call (ok_print_lines T) (hr.mono (by decide)) T.d_print_lines.m T.d_print_lines.F.kp T.d_print_lines.b ar_run (da_cons (de_nm 7) da_nil)))
    (dss_cons (ds_if (PW.pt (dw_or (dt_not (dt_tru (de_call (ok_law_same T 10) (hr.mono (by decide)) T.d_law_same.m T.d_law_same.F.kp T.d_law_same.b (ar_law_same _) (da_cons (de_nm 7) (da_cons (de_nm 4) da_nil))))) (dw_or1 (dt_not (dt_tru (de_call (ok_law_same T 10) (hr.mono (by decide)) T.d_law_same.m T.d_law_same.F.kp T.d_law_same.b (ar_law_same _) (da_cons (de_nm 8) (da_cons (de_call (ok_law_show T) (hr.mono (by decide)) T.d_law_show.m T.d_law_show.F.kp T.d_law_show.b ar_run (da_cons (de_nm 4) da_nil)) da_nil))))))))
    (dss_one (ds_ret de_bl))
    dss_nil)
    (dss_one (ds_ret (de_call (ok_law_same T 10) (hr.mono (by decide)) T.d_law_same.m T.d_law_same.F.kp T.d_law_same.b (ar_law_same _) (da_cons (de_call (ok_print_lines T) (hr.mono (by decide)) T.d_print_lines.m T.d_print_lines.F.kp T.d_print_lines.b ar_run (da_cons (de_callTy call_tuple_of s_tuple (by rfl) T.z_tuple bb_tuple (da_cons (de_nm 2) da_nil)) da_nil)) (da_cons (de_call (ok_law_show T) (hr.mono (by decide)) T.d_law_show.m T.d_law_show.F.kp T.d_law_show.b ar_run (da_cons (de_nm 2) da_nil)) da_nil)))))))))))))))))))))
end
end DL

set_option Elab.async false
set_option linter.all false
set_option maxRecDepth 100000
set_option maxHeartbeats 4000000
namespace DL
open PySem PySem.Spec L2
section
variable {st : List Sl} {i : Nat}
@[simp] theorem eNm_ap : eNm i st = match st[i]? with | some (.d x) => some (x, st) | _ => none := rfl
@[simp] theorem oNm_ap : oNm i st = match st[i]? with | some (.own xs) => some (xs, st) | _ => none := rfl
@[simp] theorem eK_ap {x : D} : eK x st = some (x, st) := rfl
@[simp] theorem eNone_ap : eNone st = none := rfl
@[simp] theorem bNone_ap : bNone st = none := rfl
@[simp] theorem eBin_ap {op : D → D → Option D} {f g : ES} : eBin op f g st = (f st).bind fun r => (g r.2).bind fun q => (op r.1 q.1).map fun z => (z, q.2) := rfl
@[simp] theorem eUn_ap {op : D → Option D} {f : ES} : eUn op f st = (f st).bind fun r => (op r.1).map fun z => (z, r.2) := rfl
@[simp] theorem eIf_ap {c : BS} {f g : ES} : eIf c f g st = (c st).bind fun r => if r.1 then f r.2 else g r.2 := rfl
@[simp] theorem oIf_ap {c : BS} {f g : OS} : oIf c f g st = (c st).bind fun r => if r.1 then f r.2 else g r.2 := rfl
@[simp] theorem bBin_ap {op : D → D → Option Bool} {f g : ES} : bBin op f g st = (f st).bind fun r => (g r.2).bind fun q => (op r.1 q.1).map fun z => (z, q.2) := rfl
@[simp] theorem bUn_ap {op : D → Option Bool} {f : ES} : bUn op f st = (f st).bind fun r => (op r.1).map fun z => (z, r.2) := rfl
@[simp] theorem bAnd_ap {f g : BS} : bAnd f g st = (f st).bind fun r => if r.1 then g r.2 else some (false, r.2) := rfl
@[simp] theorem bOr_ap {f g : BS} : bOr f g st = (f st).bind fun r => if r.1 then some (true, r.2) else g r.2 := rfl
@[simp] theorem bNot_ap {f : BS} : bNot f st = (f st).map fun r => (!r.1, r.2) := rfl
@[simp] theorem eB_ap {f : BS} : eB f st = (f st).map fun r => (.bool r.1, r.2) := rfl
@[simp] theorem bChain_ap {op op' : D → D → Option Bool} {f g h : ES} : bChain op op' f g h st = (f st).bind fun r => (g r.2).bind fun q => (op r.1 q.1).bind fun k => if k then (h q.2).bind fun z => (op' q.1 z.1).map fun y => (y, z.2) else some (false, q.2) := rfl
@[simp] theorem eFz_ap {f : OS} : eFz f st = (f st).map fun r => (.list r.1, r.2) := rfl
@[simp] theorem eAnd_ap {f g : ES} : eAnd f g st = (f st).bind fun r => (boolOf r.1).bind fun c => if c then g r.2 else some (.bool false, r.2) := rfl
@[simp] theorem eOr_ap {f g : ES} : eOr f g st = (f st).bind fun r => (boolOf r.1).bind fun c => if c then some (.bool true, r.2) else g r.2 := rfl
@[simp] theorem aNil_ap : aNil st = some ([], st) := rfl
@[simp] theorem aCons_ap {f : ES} {g : AS} : aCons f g st = (f st).bind fun r => (g r.2).map fun q => (r.1 :: q.1, q.2) := rfl
@[simp] theorem eTup_ap {u : AS} : eTup u st = (u st).bind fun r => if r.1.length ≤ 1000 then some (.tuple r.1, r.2) else none := rfl
@[simp] theorem oLst_ap {u : AS} : oLst u st = (u st).bind fun r => if r.1.length ≤ 1000 then some r else none := rfl
@[simp] theorem eCall_ap {fn : List D → Option D} {f : AS} : eCall fn f st = (f st).bind fun r => (fn r.1).map fun z => (z, r.2) := rfl
@[simp] theorem oCall_ap {fn : List D → Option (List D)} {f : AS} : oCall fn f st = (f st).bind fun r => (fn r.1).map fun z => (z, r.2) := rfl
@[simp] theorem eCallV_ap {fn : List D → Option D} {o : OS} : eCallV fn o st = (o st).bind fun r => (fn [.list r.1]).map fun z => (z, r.2) := rfl
@[simp] theorem bBinV_ap {op : D → D → Option Bool} {f : ES} {o : OS} : bBinV op f o st = (f st).bind fun r => (o r.2).bind fun q => (op r.1 (.list q.1)).map fun z => (z, q.2) := rfl
@[simp] theorem eIxO_ap {g : ES} : eIxO i g st = match st[i]? with
  | some (.own _) => (g st).bind fun q => match q.2[i]? with
    | some (.own xs) => (dIx (.list xs) q.1).map fun z => (z, q.2)
    | _ => none
  | _ => none := rfl
@[simp] theorem oCat_ap {o o' : OS} : oCat o o' st = (o st).bind fun r => (o' r.2).bind fun q => if r.1.length + q.1.length ≤ sizeLine then some (r.1 ++ q.1, q.2) else none := rfl
@[simp] theorem oSplit_ap {f g : ES} : oSplit f g st = (f st).bind fun r => (g r.2).bind fun q => match r.1, q.1 with
  | .str a, .str b => if (codes b).length ≠ 0 ∧ (codes a).length + 2 ≤ sizeLine then some ((Txt.split a b).map PyData.str, q.2) else none
  | _, _ => none := rfl
@[simp] theorem eSl_ap {f : ES} {lo hi : OPS} : eSl f lo hi st = (f st).bind fun r => (lo r.2).bind fun p => (hi p.2).bind fun q => (dSl r.1 p.1 q.1).map fun z => (z, q.2) := rfl
@[simp] theorem pNo_ap : pNo st = some (none, st) := rfl
@[simp] theorem pYes_ap {f : ES} : pYes f st = (f st).bind fun r => match r.1 with | .int i => some (some i, r.2) | _ => none := rfl
@[simp] theorem sNext_ap : sNext st = some (.nx st) := rfl
@[simp] theorem sNone_ap : sNone st = none := rfl
@[simp] theorem sBrk_ap : sBrk st = some (.bk st) := rfl
@[simp] theorem sSeq_ap {f g : SS} : sSeq f g st = (f st).bind fun o => match o with | .nx st' => g st' | o => some o := rfl
@[simp] theorem sIf_ap {c : BS} {f g : SS} : sIf c f g st = (c st).bind fun r => if r.1 then f r.2 else g r.2 := rfl
@[simp] theorem sRet_ap {f : ES} : sRet f st = (f st).map fun r => .rt r.1 r.2 := rfl
@[simp] theorem sRetO_ap {f : OS} : sRetO f st = (f st).map fun r => .ro r.1 r.2 := rfl
@[simp] theorem sRetN_ap : sRetN st = some (.rt .none st) := rfl
@[simp] theorem sDrop_ap {f : ES} : sDrop f st = (f st).map fun r => .nx r.2 := rfl
@[simp] theorem sSet_ap {f : ES} : sSet i f st = (f st).map fun r => .nx (r.2.set i (.d r.1)) := rfl
@[simp] theorem sSetO_ap {f : OS} : sSetO i f st = (f st).map fun r => .nx (r.2.set i (.own r.1)) := rfl
@[simp] theorem sApp_ap {u : ES} : sApp i u st = match st[i]? with
  | some (.own _) => (u st).bind fun r => match r.2[i]? with
    | some (.own xs) => if xs.length < 16000000 then some (.nx (r.2.set i (.own (xs ++ [r.1])))) else none
    | _ => none
  | _ => none := rfl
@[simp] theorem sRev_ap : sRev i st = match st[i]? with
  | some (.own xs) => some (.nx (st.set i (.own xs.reverse)))
  | _ => none := rfl
@[simp] theorem sSetI_ap {ix u : ES} : sSetI i ix u st = (u st).bind fun r => match r.2[i]? with
  | some (.own _) => (ix r.2).bind fun q => match q.2[i]? with
    | some (.own xs) => match q.1 with
      | .int z => (ixN xs.length z).map fun j => .nx (q.2.set i (.own (xs.set j r.1)))
      | _ => none
    | _ => none
  | _ => none := rfl
@[simp] theorem gNm_ap {x : D} : gNm i x st = some (st.set i (.d x)) := rfl
@[simp] theorem gsNil_ap : gsNil [] st = some st := rfl
@[simp] theorem gsCons_ap {t : GS} {u : List D → List Sl → Option (List Sl)} {x : D} {r : List D} : gsCons t u (x :: r) st = (t x st).bind fun st' => u r st' := rfl
@[simp] theorem gTupD_ap {u : List D → List Sl → Option (List Sl)} {xs : List D} : gTupD u (.tuple xs) st = u xs st := rfl
@[simp] theorem sAsg_ap {t : GS} {f : ES} : sAsg t f st = (f st).bind fun r => (t r.1 r.2).map Out.nx := rfl
@[simp] theorem sFor_ap {t : GS} {it : AS} {body : SS} : sFor t it body st = (it st).bind fun r => forS t body r.1 r.2 := rfl
@[simp] theorem iAny_ap {f : ES} : iAny f st = (f st).bind fun r => (itemsD r.1).map fun xs => (xs, r.2) := rfl
@[simp] theorem iRng_ap {f : AS} : iRng f st = (f st).bind fun r => match r.1 with
  | [.int j] => if -(2 ^ 62) ≤ j ∧ j < 2 ^ 62 then some (rints 0 j.toNat, r.2) else none
  | _ => none := rfl
@[simp] theorem iEnu_ap {f : AS} : iEnu f st = (f st).bind fun r => match r.1 with
  | [.list xs] => some (enums 0 xs, r.2)
  | _ => none := rfl
@[simp] theorem forS_nil {t : GS} {body : SS} : forS t body [] st = some (.nx st) := rfl
theorem forS_cons {t : GS} {body : SS} {x : D} {xs : List D} : forS t body (x :: xs) st = (t x st).bind fun st1 => (body st1).bind fun o => match o with
    | .nx st' => forS t body xs st'
    | .ct st' => forS t body xs st'
    | .bk st' => some (.nx st')
    | o => some o := rfl
@[simp] theorem eCallP_ap {g : PF} {u : AS} : eCallP g u st = (u st).bind fun r => (g r.1).bind fun q => match q with | .d x => some (x, r.2) | .o _ => none := rfl
@[simp] theorem oCallP_ap {g : PF} {u : AS} : oCallP g u st = (u st).bind fun r => (g r.1).bind fun q => match q with | .d _ => none | .o xs => some (xs, r.2) := rfl
@[simp] theorem callS_ap {gs : SF} {u : AS} : callS gs i u st = match st[i]? with
  | some (.own _) => (u st).bind fun r => match r.2[i]? with
    | some (.own s) => (gs s r.1).map fun q => (q.1, r.2.set i (.own q.2))
    | _ => none
  | _ => none := rfl
@[simp] theorem eCallS_ap {gs : SF} {u : AS} : eCallS gs i u st = (callS gs i u st).bind fun q => match q.1 with | .d x => some (x, q.2) | .o _ => none := rfl
@[simp] theorem oCallS_ap {gs : SF} {u : AS} : oCallS gs i u st = (callS gs i u st).bind fun q => match q.1 with | .d _ => none | .o xs => some (xs, q.2) := rfl
@[simp] theorem eCallB_ap {g : PF} {u : AS} : eCallB g i u st = match st[i]? with
  | some (.own _) => (u st).bind fun r => match r.2[i]? with
    | some (.own xs) => (g (.list xs :: r.1)).bind fun q => match q with
      | .d x => if (scV x).isSome then some (x, r.2) else none
      | .o _ => none
    | _ => none
  | _ => none := rfl
@[simp] theorem oComp_ap {c : BS} {f : ES} {it : AS} : oComp i c f it st = (it st).bind fun r => if notOwn r.2 i && decide (r.1.length ≤ 1000000) then compS i c f r.1 (r.2.set i .no) else none := rfl
@[simp] theorem compS_nil {c : BS} {f : ES} : compS i c f [] st = some ([], st) := rfl
theorem compS_cons {c : BS} {f : ES} {x : D} {xs : List D} : compS i c f (x :: xs) st = (c (st.set i (.d x))).bind fun p => if p.1 then (f p.2).bind fun q => (compS i c f xs (q.2.set i .no)).map fun r => (q.1 :: r.1, r.2) else compS i c f xs (p.2.set i .no) := rfl
@[simp] theorem bYes_ap : bYes st = some (true, st) := rfl
@[simp] theorem notOwn_ap : notOwn st i = match st[i]? with | some (.own _) => false | _ => true := rfl
@[simp] theorem outP_nx : outP (.nx st) = some (.d .none) := rfl
@[simp] theorem outP_rt {x : D} : outP (.rt x st) = some (.d x) := rfl
@[simp] theorem outP_ro {x : List D} : outP (.ro x st) = some (.o x) := rfl
@[simp] theorem own0_ap {xs : List D} : own0 (.own xs :: st) = some xs := rfl
@[simp] theorem outS_nx : outS (.nx st) = (own0 st).map fun s => (.d .none, s) := rfl
@[simp] theorem outS_rt {x : D} : outS (.rt x st) = (own0 st).map fun s => (.d x, s) := rfl
@[simp] theorem outS_ro {x : List D} : outS (.ro x st) = (own0 st).map fun s => (.o x, s) := rfl
@[simp] theorem runP_ap {m n : Nat} {g : SS} {ds : List D} : runP m n g ds = if ds.length = n then (g (startD m ds)).bind outP else none := rfl
@[simp] theorem runS_ap {m n : Nat} {g : SS} {s ds : List D} : runS m n g s ds = if ds.length + 1 = n then (g (.own s :: startD (m - 1) ds)).bind outS else none := rfl
@[simp] theorem startD_ap {m : Nat} {ds : List D} : startD m ds = ds.map Sl.d ++ List.replicate (m - ds.length) .no := rfl
end
@[simp] theorem dAdd_ii {i j : Int} : dAdd (.int i) (.int j) = some (.int (i + j)) := rfl
@[simp] theorem dAdd_ss {x y : Str} : dAdd (.str x) (.str y) = if (codes x).length + (codes y).length ≤ sizeLine then some (ds (codes x ++ codes y)) else none := rfl
@[simp] theorem codes_mk {l : List Nat} : codes (⟨l.toArray⟩ : Str) = l := rfl
@[simp] theorem dSub_ii {i j : Int} : dSub (.int i) (.int j) = some (.int (i - j)) := rfl
@[simp] theorem dI_ii {C : Int → Int → Bool} {g : Int → Int → Int} {i j : Int} : dI C g (.int i) (.int j) = if C i j then some (.int (g i j)) else none := rfl
@[simp] theorem dNeg_i {i : Int} : dNeg (.int i) = some (.int (-i)) := rfl
@[simp] theorem dCmp_ii {p : Int → Int → Bool} {i j : Int} : dCmp p (.int i) (.int j) = some (p i j) := rfl
@[simp] theorem dIsN_n : dIsN .none = some true := rfl
@[simp] theorem dIsN_s {x : Str} : dIsN (.str x) = some false := rfl
@[simp] theorem dIsN_i {x : Int} : dIsN (.int x) = some false := rfl
@[simp] theorem dIsN_t {x : List D} : dIsN (.tuple x) = some false := rfl
@[simp] theorem dIsN_l {x : List D} : dIsN (.list x) = some false := rfl
@[simp] theorem dNotN_n : dNotN .none = some false := rfl
@[simp] theorem boolOf_b {b : Bool} : boolOf (.bool b) = some b := rfl
@[simp] theorem truD_b {b : Bool} : truD (.bool b) = some b := rfl
@[simp] theorem truD_l {x : List D} : truD (.list x) = some (!x.isEmpty) := rfl
@[simp] theorem fLen_l {x : List D} : fLen [.list x] = some (.int x.length) := rfl
@[simp] theorem fLen_t {x : List D} : fLen [.tuple x] = some (.int x.length) := rfl
@[simp] theorem fLen_s {x : Str} : fLen [.str x] = if (codes x).length ≤ sizeLine then some (.int (codes x).length) else none := rfl
@[simp] theorem fInt_i {x : Int} : fInt [.int x] = some (.int x) := rfl
@[simp] theorem fInt_b {x : Bool} : fInt [.bool x] = some (.int (if x then 1 else 0)) := rfl
@[simp] theorem fInt_s {x : Str} : fInt [.str x] = if (codes x).length ≤ 640 then (PySem.intText? x).map PyData.int else none := rfl
@[simp] theorem fAbs_i {x : Int} : fAbs [.int x] = some (.int (if x < 0 then -x else x)) := rfl
@[simp] theorem fStr_i {i : Int} : fStr [.int i] = if i.natAbs.log2 < 1920 then some (.str (toString i)) else none := rfl
@[simp] theorem fMin_ii {i j : Int} : fMin [.int i, .int j] = some (.int (if j < i then j else i)) := rfl
@[simp] theorem fTuple_l {x : List D} : fTuple [.list x] = some (.tuple x) := rfl
@[simp] theorem fTuple_t {x : List D} : fTuple [.tuple x] = some (.tuple x) := rfl
@[simp] theorem fList_l {x : List D} : fList [.list x] = some x := rfl
@[simp] theorem fList_t {x : List D} : fList [.tuple x] = some x := rfl
@[simp] theorem fAll_l {x : List D} : fAll [.list x] = (bools x).map fun bs => .bool (bs.all id) := rfl
@[simp] theorem itemsD_l {x : List D} : itemsD (.list x) = some x := rfl
@[simp] theorem itemsD_t {x : List D} : itemsD (.tuple x) = some x := rfl
@[simp] theorem itemsD_s {x : Str} : itemsD (.str x) = some ((codes x).map fun c => ds [c]) := rfl
@[simp] theorem dIx_l {x : List D} {i : Int} : dIx (.list x) (.int i) = atI x i := rfl
@[simp] theorem dIx_t {x : List D} {i : Int} : dIx (.tuple x) (.int i) = atI x i := rfl
@[simp] theorem dIx_s {z : Str} {i : Int} : dIx (.str z) (.int i) = if (codes z).length ≤ sizeLine then (atI (codes z) i).map fun c => ds [c] else none := rfl
@[simp] theorem dEq_ss {x y : List Nat} : dEq (ds x) (ds y) = some (decide (x = y)) := by
  show (if true then some (decide (V.str ⟨x.toArray⟩ = V.str ⟨y.toArray⟩)) else none) = _
  rw [if_pos rfl]
  congr 1
  by_cases h : x = y
  · subst h; simp
  · rw [decide_eq_false h, decide_eq_false]
    intro z
    exact h (congrArg codes (V.str.inj z))
@[simp] theorem dEq_ii {x y : Int} : dEq (.int x) (.int y) = some (decide (x = y)) := by
  show (if true then some (decide (V.int x = V.int y)) else none) = _
  rw [if_pos rfl]
  congr 1
  by_cases h : x = y
  · subst h; simp
  · rw [decide_eq_false h, decide_eq_false]
    intro z
    exact h (V.int.inj z)
@[simp] theorem dNe_def {x y : D} : dNe x y = (dEq x y).map (!·) := rfl
@[simp] theorem dNotIn_def {x y : D} : dNotIn x y = (dIn x y).map (!·) := rfl
@[simp] theorem dIn_one {c : Nat} {z : Str} : dIn (ds [c]) (.str z) = some (decide (c ∈ codes z)) := rfl

def St4 (s : List D) : Prop := ∃ a b c d : Int, s = [.int a, .int b, .int c, .int d]
theorem pick_ok {s : List D} {m : Int} (h : St4 s) (hm : m < 1073741824) : ∃ r s', f_law_pick s [.int m] = some (.d (.int r), s') ∧ St4 s' ∧ 0 ≤ r ∧ (r < m ∨ r = 0) := by
  obtain ⟨a, b, c, d, rfl⟩ := h
  by_cases h1 : m ≤ 1
  · exact ⟨0, [.int a, .int b, .int c, .int d], by simp [f_law_pick, b_law_pick, h1], ⟨_, _, _, _, rfl⟩, by omega, by omega⟩
  · have h0 : ¬ (m = 0) := by omega
    have hp : 0 < m := by omega
    by_cases h2 : 0 < a
    · exact ⟨a % m, [.int (a / m), .int b, .int c, .int d], by simp [f_law_pick, b_law_pick, h1, h2, hp, hm, atI, ixN, List.replicate], ⟨_, _, _, _, rfl⟩, Int.emod_nonneg _ h0, .inl (Int.emod_lt_of_pos _ hp)⟩
    · refine ⟨_, _, by simp [f_law_pick, b_law_pick, h1, h2, hp, hm, atI, ixN, List.replicate]; exact ⟨rfl, rfl, rfl, rfl, rfl⟩, ⟨_, _, _, _, rfl⟩, Int.emod_nonneg _ h0, .inl (Int.emod_lt_of_pos _ hp)⟩
end DL

set_option Elab.async false
set_option linter.all false
set_option maxRecDepth 100000
set_option maxHeartbeats 4000000
namespace DL
open PySem PySem.Spec L2 TL

@[simp] theorem cs_dot : cs "." = [46] := by decide
@[simp] theorem cs_plus : cs "+" = [43] := by decide
@[simp] theorem cs_blank : cs " " = [32] := by decide
@[simp] theorem cs_colon : cs ":" = [58] := by decide
@[simp] theorem cs_comma : cs "," = [44] := by decide
@[simp] theorem cs_nl : cs "\n" = [10] := by decide
@[simp] theorem cs_empty : cs "" = [] := by decide
@[simp] theorem cs_zero : cs "0" = [48] := by decide
theorem szl : sizeLine = 16777216 := sizeLine_eq

/-- a loop that passes all items -/
theorem forS_pass {i : Nat} {body : SS} {st : List Sl} : ∀ (items : List D) (y : Sl), (∀ x ∈ items, body (st.set i (.d x)) = some (.nx (st.set i (.d x)))) → ∃ y', forS (gNm i) body items (st.set i y) = some (.nx (st.set i y'))
  | [], y, _ => ⟨y, rfl⟩
  | x :: r, y, h => by
    rw [forS_cons, gNm_ap, Option.bind_some, List.set_set, h x List.mem_cons_self]
    exact forS_pass r (.d x) fun z hz => h z (List.mem_cons_of_mem _ hz)
theorem set_get (st : List Sl) (i : Nat) : ∃ y, st.set i y = st := by
  by_cases h : i < st.length
  · exact ⟨st[i], List.set_getElem_self h⟩
  · exact ⟨.no, List.set_eq_of_length_le (by omega)⟩
theorem forS_pass' {i : Nat} {body : SS} {st : List Sl} {items : List D} (h : ∀ x ∈ items, body (st.set i (.d x)) = some (.nx (st.set i (.d x)))) : ∃ y', forS (gNm i) body items st = some (.nx (st.set i y')) := by
  obtain ⟨y, e⟩ := set_get st i
  have := forS_pass (i := i) (body := body) (st := st) items y h
  rw [e] at this
  exact this

/-! ### texts: split, join, numbers -/
theorem strsOf_ds : ∀ ls : List (List Nat), strsOf (ls.map ds) = some (ls.map fun l => (⟨l.toArray⟩ : Str))
  | [] => rfl
  | l :: r => by
    show (strsOf (r.map ds)).map _ = _
    rw [strsOf_ds r]
    rfl
theorem tl_of (l : List Nat) : tl (⟨l.toArray⟩ : Str) = l := rfl
theorem map_tl (ls : List (List Nat)) : (ls.map fun l => (⟨l.toArray⟩ : Str)).map tl = ls := by
  rw [List.map_map]
  conv => rhs; rw [← List.map_id ls]
  rfl
theorem splitD {s : Nat} (hs : s < 256) {parts : List (List Nat)} (hne : parts ≠ []) (hp : ∀ p ∈ parts, s ∉ p) : (Txt.split (⟨(joinL [s] parts).toArray⟩ : Str) (⟨[s].toArray⟩ : Str)).map PyData.str = parts.map ds := by
  have h := split_join (y := (⟨[s].toArray⟩ : Str)) (s := s) (S := []) rfl (by simp [hs]) (parts := parts.map fun l => (⟨l.toArray⟩ : Str)) (by simpa using hne) (fun p hp' => by
    obtain ⟨l, hl, rfl⟩ := List.mem_map.mp hp'
    exact hp l hl)
  have e : (Txt.join (⟨[s].toArray⟩ : Str) (parts.map fun l => (⟨l.toArray⟩ : Str))) = ⟨(joinL [s] parts).toArray⟩ := by
    apply ext_tl
    rw [join_eq, tl_join, map_tl]
  rw [e] at h
  rw [h, List.map_map]
  rfl
theorem joinD {m : List Nat} {parts : List (List Nat)} (h : (parts.map List.length).sum + parts.length * m.length ≤ 16777216) : (strsOf (parts.map ds)).bind (fun ys => if (ys.map (·.length)).sum + ys.length * (⟨m.toArray⟩ : Str).length ≤ 16777216 then some (.str (Txt.join ⟨m.toArray⟩ ys)) else none) = some (ds (joinL m parts)) := by
  rw [strsOf_ds, Option.bind_some, List.map_map, List.length_map]
  have e1 : ((fun (x : Str) => x.length) ∘ fun l => (⟨l.toArray⟩ : Str)) = List.length := by
    funext l
    simp [Str.length]
  rw [e1, if_pos (by simpa [Str.length] using h)]
  congr 2
  apply ext_tl
  rw [join_eq, tl_join, map_tl]
theorem dJoin_l {m : List Nat} {parts : List (List Nat)} (h : (parts.map List.length).sum + parts.length * m.length ≤ 16777216) : dJoin (ds m) (.list (parts.map ds)) = some (ds (joinL m parts)) := joinD h
theorem dJoin_t {m : List Nat} {parts : List (List Nat)} (h : (parts.map List.length).sum + parts.length * m.length ≤ 16777216) : dJoin (ds m) (.tuple (parts.map ds)) = some (ds (joinL m parts)) := joinD h
theorem num_str (n : Nat) : Str.ofString (toString ((n : Nat) : Int)) = (⟨(numL n).toArray⟩ : Str) := ext_tl (tl_num n)
theorem fStr_nat {n : Nat} (h : n < 2 ^ 64) : fStr [.int (n : Int)] = some (ds (numL n)) := by
  rw [fStr_i]
  have e : (n : Int).natAbs = n := Int.natAbs_natCast n
  rw [e, if_pos]
  · rw [num_str]
  · by_cases h0 : n = 0
    · subst h0; decide
    · exact Nat.lt_of_lt_of_le ((Nat.log2_lt h0).mpr h) (by decide)
theorem num_len {n : Nat} (h : n < 10 ^ 10) : (numL n).length ≤ 10 := numL_len (by decide) h
theorem fInt_num {n : Nat} (h : n < 10 ^ 10) : fInt [ds (numL n)] = some (.int (n : Int)) := by
  have hl := num_len h
  rw [fInt_s, codes_mk, if_pos (by omega), ← num_str, int_num (by omega)]
  rfl
theorem num_head : ∀ n : Nat, 1 ≤ n → ∃ c r, numL n = c :: r ∧ c ≠ 48 := fun n => by
  induction n using Nat.strongRecOn with
  | ind n ih =>
    intro h
    by_cases h10 : n < 10
    · exact ⟨48 + n, [], numL_lt h10, by omega⟩
    · obtain ⟨c, r, e, hc⟩ := ih (n / 10) (by omega) (by omega)
      exact ⟨c, r ++ [48 + n % 10], by rw [numL_step (by omega), e]; rfl, hc⟩
theorem num_fig {n c : Nat} (h : c ∈ numL n) : 48 ≤ c ∧ c ≤ 57 := by
  have := numL_free (n := n) (s := c)
  by_cases h' : c < 48 ∨ 57 < c
  · exact absurd h (this h')
  · omega
theorem num_zero : numL 0 = [48] := numL_lt (by decide)

/-! ### signs -/
abbrev Let (c : Nat) : Prop := 97 ≤ c ∧ c ≤ 122
abbrev Fig (c : Nat) : Prop := 48 ≤ c ∧ c ≤ 57
theorem in_letters {c : Nat} : decide (c ∈ cs "abcdefghijklmnopqrstuvwxyz") = decide (Let c) := by
  have e : cs "abcdefghijklmnopqrstuvwxyz" = [97,98,99,100,101,102,103,104,105,106,107,108,109,110,111,112,113,114,115,116,117,118,119,120,121,122] := by decide
  rw [e]
  apply decide_eq_decide.mpr
  simp only [List.mem_cons, List.not_mem_nil, or_false, Let]
  omega
theorem in_figures {c : Nat} : decide (c ∈ cs "0123456789") = decide (Fig c) := by
  have e : cs "0123456789" = [48,49,50,51,52,53,54,55,56,57] := by decide
  rw [e]
  apply decide_eq_decide.mpr
  simp only [List.mem_cons, List.not_mem_nil, or_false, Fig]
  omega
theorem in_signs {c : Nat} : decide (c ∈ cs "abcdefghijklmnopqrstuvwxyz0123456789 .,:+") = decide (Let c ∨ Fig c ∨ c = 32 ∨ c = 46 ∨ c = 44 ∨ c = 58 ∨ c = 43) := by
  have e : cs "abcdefghijklmnopqrstuvwxyz0123456789 .,:+" = [97,98,99,100,101,102,103,104,105,106,107,108,109,110,111,112,113,114,115,116,117,118,119,120,121,122,48,49,50,51,52,53,54,55,56,57,32,46,44,58,43] := by decide
  rw [e]
  apply decide_eq_decide.mpr
  simp only [List.mem_cons, List.not_mem_nil, or_false, Fig, Let]
  omega
theorem mem_chars {l : List Nat} {x : D} (h : x ∈ l.map fun c => ds [c]) : ∃ c ∈ l, x = ds [c] := by
  obtain ⟨c, hc, rfl⟩ := List.mem_map.mp h
  exact ⟨c, hc, rfl⟩
theorem dIn_let {c : Nat} : dIn (ds [c]) k_LETTERS = some (decide (Let c)) := by
  unfold k_LETTERS
  rw [dIn_one, codes_mk, in_letters]
theorem dIn_fig {c : Nat} : dIn (ds [c]) k_FIGURES = some (decide (Fig c)) := by
  unfold k_FIGURES
  rw [dIn_one, codes_mk, in_figures]
theorem is_figures_num (n : Nat) (h : n < 10 ^ 10) : f_is_figures [ds (numL n)] = some (.d (.bool true)) := by
  have hl := num_len h
  have hs := szl
  have loop : ∃ y', forS (gNm 1) (sIf (bBin dNotIn (eNm 1) (eK k_FIGURES)) (sRet (eK (.bool false))) sNext) ((numL n).map fun c => ds [c]) [.d (ds (numL n)), .no] = some (.nx ([Sl.d (ds (numL n)), .no].set 1 y')) := by
    refine forS_pass' fun x hx => ?_
    obtain ⟨c, hc, rfl⟩ := mem_chars hx
    have hf : Fig c := num_fig hc
    simp [dIn_fig, hf]
  obtain ⟨y', loop⟩ := loop
  have first : ∃ c r, numL n = c :: r ∧ (c = 48 → r = []) := by
    by_cases h0 : n = 0
    · subst h0; exact ⟨48, [], num_zero, fun _ => rfl⟩
    · obtain ⟨c, r, e, hc⟩ := num_head n (by omega)
      exact ⟨c, r, e, fun z => absurd z hc⟩
  obtain ⟨c, r, e, h48⟩ := first
  rw [e] at loop hl ⊢
  by_cases hc : c = 48
  · have hr := h48 hc
    subst hc hr
    simp [f_is_figures, b_is_figures, List.replicate, atI, ixN, hs, loop] at loop ⊢
    simp [loop]
  · simp only [List.length_cons] at hl
    have hz : r.length + 1 ≤ sizeLine := by omega
    simp [f_is_figures, b_is_figures, List.replicate, atI, ixN, hz, hc] at loop ⊢
    simp [loop]
end DL

set_option Elab.async false
set_option linter.all false
set_option maxRecDepth 100000
set_option maxHeartbeats 4000000
namespace DL
open PySem PySem.Spec L2 TL

/-! ### in, of texts -/
theorem eqF_ds {x y : List Nat} : eqF (ds y) (ds x) = decide (y = x) := by
  show ((⟨y.toArray⟩ : Str) == ⟨x.toArray⟩) = _
  by_cases h : y = x
  · subst h; simp
  · rw [decide_eq_false h]
    refine beq_eq_false_iff_ne.mpr fun z => h ?_
    have := congrArg codes z
    simpa using this
theorem any_ds {x : List Nat} : ∀ ls : List (List Nat), ((ls.map ds).any fun z => eqF z (ds x)) = decide (x ∈ ls)
  | [] => by simp
  | l :: r => by
    rw [List.map_cons, List.any_cons, any_ds r, eqF_ds, ← Bool.decide_or]
    apply decide_eq_decide.mpr
    rw [List.mem_cons]
    constructor <;> rintro (h | h) <;> first | exact .inl h.symm | exact .inr h
theorem all_flat (ls : List (List Nat)) : (ls.map ds).all flatD = true := by
  rw [List.all_eq_true]
  intro x hx
  obtain ⟨l, _, rfl⟩ := List.mem_map.mp hx
  rfl
theorem dIn_l {x : List Nat} {ls : List (List Nat)} : dIn (ds x) (.list (ls.map ds)) = some (decide (x ∈ ls)) := by
  show (if (flatD (ds x) && (ls.map ds).all flatD) then some ((ls.map ds).any fun z => eqF z (ds x)) else none) = _
  rw [all_flat, any_ds]
  rfl
theorem dIn_t {x : List Nat} {ls : List (List Nat)} : dIn (ds x) (.tuple (ls.map ds)) = some (decide (x ∈ ls)) := by
  show (if (flatD (ds x) && (ls.map ds).all flatD) then some ((ls.map ds).any fun z => eqF z (ds x)) else none) = _
  rw [all_flat, any_ds]
  rfl
def keptL : List (List Nat) := [cs "name", cs "hidden", cs "release", cs "feature", cs "row", cs "start", cs "later", cs "signer", cs "book", cs "end", cs "after", cs "up", cs "down", cs "never", cs "from", cs "not", cs "at", cs "none", cs "on", cs "need", cs "clash", cs "either", cs "same", cs "most", cs "least", cs "of", cs "and", cs "or", cs "come", cs "go", cs "publish", cs "withdraw", cs "answer", cs "letter", cs "heard"]
theorem kept_eq : k_KEPT = .tuple (keptL.map ds) := rfl
def firstL : List (List Nat) := [cs "name", cs "hidden", cs "release", cs "feature", cs "row", cs "start", cs "later", cs "signer", cs "book", cs "end"]
theorem first_eq : k_FIRST_WORDS = .tuple (firstL.map ds) := rfl

/-! ### words, names, versions, prices -/
structure WordT (t : List Nat) : Prop where
  len : t.length ≤ 12
  head : ∃ c r, t = c :: r ∧ Let c
  all : ∀ c ∈ t, Let c ∨ Fig c
  free : t ∉ keptL
theorem is_word_ok {t : List Nat} (h : WordT t) : f_is_word [ds t] = some (.d (.bool true)) := by
  obtain ⟨c, r, e, hc⟩ := h.head
  have hl := h.len
  have hs := szl
  have loop : ∃ y', forS (gNm 1) (sIf (bAnd (bBin dNotIn (eNm 1) (eK k_LETTERS)) (bBin dNotIn (eNm 1) (eK k_FIGURES))) (sRet (eK (.bool false))) sNext) (t.map fun c => ds [c]) [.d (ds t), .no] = some (.nx ([Sl.d (ds t), .no].set 1 y')) := by
    refine forS_pass' fun x hx => ?_
    obtain ⟨d, hd, rfl⟩ := mem_chars hx
    by_cases hL : Let d
    · simp [dIn_let, dIn_fig, hL]
    · have hF : Fig d := (h.all d hd).resolve_left hL
      simp [dIn_let, dIn_fig, hL, hF]
  obtain ⟨y', loop⟩ := loop
  have hfree := h.free
  subst e
  simp only [List.length_cons] at hl
  have hz : r.length + 1 ≤ sizeLine := by omega
  have h12 : ¬ (12 : Int) < (r.length : Int) + 1 := by omega
  simp [f_is_word, b_is_word, List.replicate, atI, ixN, hz, h12, dIn_let, hc, kept_eq, dIn_t, hfree] at loop ⊢
  simp [loop, dIn_t, hfree]
theorem is_number_ok {n : Nat} {lo hi : Int} (h : n < 10 ^ 10) (h1 : lo ≤ n) (h2 : (n : Int) ≤ hi) : f_is_number [ds (numL n), .int lo, .int hi] = some (.d (.bool true)) := by
  have hl := num_len h
  have hs := szl
  have hz : (numL n).length ≤ sizeLine := by omega
  have h10 : ¬ (10 : Int) < ((numL n).length : Int) := by omega
  simp only [f_is_number, b_is_number, runP_ap, startD_ap, List.length_cons, List.length_nil, if_true, List.map_cons, List.map_nil, List.replicate, Nat.sub_self, List.append_nil, sSeq_ap, sIf_ap, bOr_ap, bNot_ap, bUn_ap, eCallP_ap, aCons_ap, aNil_ap, eNm_ap]
  simp [is_figures_num n h, hz, h10, fInt_num h, h1, h2]
def VerT (t : List Nat) : Prop := ∃ ns : List Nat, ns ≠ [] ∧ ns.length ≤ 3 ∧ (∀ n ∈ ns, n ≤ 999) ∧ t = joinL [46] (ns.map numL)
theorem joinL_len {m : List Nat} {k : Nat} : ∀ {ps : List (List Nat)}, (∀ p ∈ ps, p.length ≤ k) → (joinL m ps).length ≤ ps.length * (k + m.length)
  | [], _ => Nat.zero_le _
  | [p], h => by
    have := h p List.mem_cons_self
    show p.length ≤ 1 * (k + m.length)
    omega
  | p :: q :: r, h => by
    have h1 := h p List.mem_cons_self
    have h2 := joinL_len (m := m) (k := k) (ps := q :: r) fun x hx => h x (List.mem_cons_of_mem _ hx)
    show (p ++ (m ++ joinL m (q :: r))).length ≤ (r.length + 1 + 1) * (k + m.length)
    rw [List.length_append, List.length_append, Nat.add_mul (r.length + 1)]
    simp only [List.length_cons] at h2
    omega
theorem mem_joinL {m : List Nat} {c : Nat} : ∀ {ps : List (List Nat)}, c ∈ joinL m ps → (∃ p ∈ ps, c ∈ p) ∨ c ∈ m
  | [p], h => .inl ⟨p, List.mem_cons_self, h⟩
  | p :: q :: r, h => by
    have h' : c ∈ p ++ (m ++ joinL m (q :: r)) := h
    rcases List.mem_append.mp h' with h | h
    · exact .inl ⟨p, List.mem_cons_self, h⟩
    · rcases List.mem_append.mp h with h | h
      · exact .inr h
      · rcases mem_joinL h with ⟨x, hx, hc⟩ | h
        · exact .inl ⟨x, List.mem_cons_of_mem _ hx, hc⟩
        · exact .inr h
theorem num_len3 {n : Nat} (h : n ≤ 999) : (numL n).length ≤ 3 := numL_len (by decide) (by omega)
theorem ver_len {t : List Nat} (h : VerT t) : t.length ≤ 12 := by
  obtain ⟨ns, _, h2, h3, rfl⟩ := h
  have := joinL_len (m := [46]) (k := 3) (ps := ns.map numL) fun p hp => by
    obtain ⟨n, hn, rfl⟩ := List.mem_map.mp hp
    exact num_len3 (h3 n hn)
  rw [List.length_map] at this
  simp only [List.length_cons, List.length_nil] at this
  omega
theorem ver_ne {t : List Nat} (h : VerT t) : ∃ c r, t = c :: r ∧ Fig c := by
  obtain ⟨ns, h1, h2, h3, rfl⟩ := h
  cases ns with
  | nil => exact absurd rfl h1
  | cons n r =>
    have : ∃ c q, numL n = c :: q := by
      cases e : numL n with
      | nil => exact absurd e (numL_ne n)
      | cons c q => exact ⟨c, q, rfl⟩
    obtain ⟨c, q, e⟩ := this
    have hf : Fig c := num_fig (n := n) (by rw [e]; exact List.mem_cons_self)
    cases r with
    | nil => exact ⟨c, q, e, hf⟩
    | cons n' r' => exact ⟨c, q ++ ([46] ++ joinL [46] (numL n' :: r'.map numL)), by show numL n ++ _ = _; rw [e]; rfl, hf⟩
theorem ver_all {t : List Nat} (h : VerT t) : ∀ c ∈ t, Fig c ∨ c = 46 := by
  obtain ⟨ns, _, h2, h3, rfl⟩ := h
  intro c hc
  rcases mem_joinL hc with ⟨p, hp, hc⟩ | hc
  · obtain ⟨n, hn, rfl⟩ := List.mem_map.mp hp
    exact .inl (num_fig hc)
  · exact .inr (by simpa using hc)
theorem is_version_ok {t : List Nat} (h : VerT t) : f_is_version [ds t] = some (.d (.bool true)) := by
  have hl := ver_len h
  have hs := szl
  obtain ⟨ns, h1, h2, h3, rfl⟩ := h
  have sp := splitD (s := 46) (by decide) (parts := ns.map numL) (by simpa using h1) fun p hp => by
    obtain ⟨n, hn, rfl⟩ := List.mem_map.mp hp
    exact numL_free (by omega)
  have hlen : (joinL [46] (ns.map numL)).length + 2 ≤ sizeLine := by omega
  have h4 : ¬ (3 : Int) < (ns.length : Int) := by omega
  have loop : ∃ y', forS (gNm 2) (sIf (bNot (bUn truD (eCallP f_is_number (aCons (eNm 2) (aCons (eK (.int 0)) (aCons (eK (.int 999)) aNil)))))) (sRet (eK (.bool false))) sNext) ((ns.map numL).map ds) [.d (ds (joinL [46] (ns.map numL))), .d (.list ((ns.map numL).map ds)), .no] = some (.nx ([Sl.d (ds (joinL [46] (ns.map numL))), .d (.list ((ns.map numL).map ds)), .no].set 2 y')) := by
    refine forS_pass' fun x hx => ?_
    obtain ⟨l, hl, rfl⟩ := List.mem_map.mp hx
    obtain ⟨n, hn, rfl⟩ := List.mem_map.mp hl
    have := is_number_ok (n := n) (lo := 0) (hi := 999) (by have := h3 n hn; omega) (by omega) (by have := h3 n hn; omega)
    simp [this]
  obtain ⟨y', loop⟩ := loop
  simp only [f_is_version, b_is_version, runP_ap, startD_ap, List.length_cons, List.length_nil, if_true, List.map_cons, List.map_nil, List.replicate, Nat.sub_self, List.append_nil, sSeq_ap, sSet_ap, eFz_ap, oSplit_ap, eNm_ap, eK_ap, cs_dot, codes_mk]
  simp only [List.nil_append, List.cons_append, List.getElem?_cons_zero, Option.bind_some, codes_mk, List.length_cons, List.length_nil, sp]
  simp [hlen, h4] at loop ⊢
  simp [loop]
def RelT (t : List Nat) : Prop := t = cs "on" ∨ VerT t
theorem is_release_ok {t : List Nat} (h : RelT t) : f_is_release [ds t] = some (.d (.bool true)) := by
  rcases h with rfl | h
  · simp [f_is_release, b_is_release]
  · by_cases e : t = cs "on"
    · simp [f_is_release, b_is_release, e]
    · simp [f_is_release, b_is_release, e, is_version_ok h]
def PriceT (d : D) (t : List Nat) : Prop := (d = .none ∧ t = cs "never") ∨ ∃ n : Nat, 1 ≤ n ∧ n ≤ 1000000000 ∧ d = .int n ∧ t = numL n
theorem num_ne {n : Nat} {t : List Nat} (h : ∃ c r, t = c :: r ∧ ¬ Fig c) : numL n ≠ t := fun e => by
  obtain ⟨c, r, rfl, hc⟩ := h
  exact hc (num_fig (n := n) (by rw [e]; exact List.mem_cons_self))
theorem never_ne {n : Nat} : numL n ≠ cs "never" := num_ne ⟨110, [101, 118, 101, 114], by decide, by decide⟩
theorem is_price_ok {d : D} {t : List Nat} (h : PriceT d t) : f_is_price [ds t] = some (.d (.bool true)) := by
  rcases h with ⟨_, rfl⟩ | ⟨n, h1, h2, _, rfl⟩
  · simp [f_is_price, b_is_price]
  · have hn := is_number_ok (n := n) (lo := 1) (hi := 1000000000) (by omega) (by omega) (by omega)
    simp [f_is_price, b_is_price, never_ne, k_GREATEST_PRICE, hn]
theorem price_of_ok {d : D} {t : List Nat} (h : PriceT d t) : f_price_of [ds t] = some (.d d) := by
  rcases h with ⟨rfl, rfl⟩ | ⟨n, h1, h2, rfl, rfl⟩
  · simp [f_price_of, b_price_of]
  · have hf := fInt_num (n := n) (by omega)
    simp [-fInt_s, f_price_of, b_price_of, never_ne, hf]
theorem price_word_ok {d : D} {t : List Nat} (h : PriceT d t) : f_price_word [d] = some (.d (ds t)) ∧ f_law_price_word [d] = some (.d (ds t)) := by
  rcases h with ⟨rfl, rfl⟩ | ⟨n, h1, h2, rfl, rfl⟩
  · constructor <;> simp [f_price_word, b_price_word, f_law_price_word, b_law_price_word]
  · have hf := fStr_nat (n := n) (by omega)
    constructor <;> simp [-fStr_i, f_price_word, b_price_word, f_law_price_word, b_law_price_word, hf]
def NameT (t : List Nat) : Prop := WordT t ∨ ∃ a b, WordT a ∧ WordT b ∧ t = a ++ 43 :: b
theorem word_no {t : List Nat} (h : WordT t) {c : Nat} (hc : ¬ (Let c ∨ Fig c)) : c ∉ t := fun m => hc (h.all c m)
theorem name_parts {t : List Nat} (h : NameT t) : ∃ ps : List (List Nat), ps ≠ [] ∧ ps.length ≤ 2 ∧ (∀ p ∈ ps, WordT p) ∧ t = joinL [43] ps := by
  rcases h with h | ⟨a, b, ha, hb, rfl⟩
  · exact ⟨[t], by simp, by simp, by simpa using h, rfl⟩
  · exact ⟨[a, b], by simp, by simp, by simpa using ⟨ha, hb⟩, rfl⟩
theorem name_len {t : List Nat} (h : NameT t) : t.length ≤ 25 := by
  rcases h with h | ⟨a, b, ha, hb, rfl⟩
  · have := h.len; omega
  · have := ha.len; have := hb.len
    rw [List.length_append, List.length_cons]; omega
theorem name_all {t : List Nat} (h : NameT t) : ∀ c ∈ t, Let c ∨ Fig c ∨ c = 43 := by
  rcases h with h | ⟨a, b, ha, hb, rfl⟩
  · intro c hc
    rcases h.all c hc with z | z
    · exact .inl z
    · exact .inr (.inl z)
  · intro c hc
    rcases List.mem_append.mp hc with hc | hc
    · rcases ha.all c hc with z | z
      · exact .inl z
      · exact .inr (.inl z)
    · rcases List.mem_cons.mp hc with hc | hc
      · exact .inr (.inr hc)
      · rcases hb.all c hc with z | z
        · exact .inl z
        · exact .inr (.inl z)
theorem is_short_ok {t : List Nat} (h : NameT t) : f_is_short_name [ds t] = some (.d (.bool true)) := by
  have hl := name_len h
  have hs := szl
  obtain ⟨ps, h1, h2, h3, rfl⟩ := name_parts h
  have sp := splitD (s := 43) (by decide) (parts := ps) h1 fun p hp => word_no (h3 p hp) (by decide)
  have hlen : (joinL [43] ps).length + 2 ≤ sizeLine := by omega
  have h4 : ¬ (2 : Int) < (ps.length : Int) := by omega
  have loop : ∃ y', forS (gNm 2) (sIf (bNot (bUn truD (eCallP f_is_word (aCons (eNm 2) aNil)))) (sRet (eK (.bool false))) sNext) (ps.map ds) [.d (ds (joinL [43] ps)), .d (.list (ps.map ds)), .no] = some (.nx ([Sl.d (ds (joinL [43] ps)), .d (.list (ps.map ds)), .no].set 2 y')) := by
    refine forS_pass' fun x hx => ?_
    obtain ⟨l, hl, rfl⟩ := List.mem_map.mp hx
    simp [is_word_ok (h3 l hl)]
  obtain ⟨y', loop⟩ := loop
  simp only [f_is_short_name, b_is_short_name, runP_ap, startD_ap, List.length_cons, List.length_nil, if_true, List.map_cons, List.map_nil, List.replicate, Nat.sub_self, List.append_nil, sSeq_ap, sSet_ap, eFz_ap, oSplit_ap, eNm_ap, eK_ap, cs_plus, codes_mk]
  simp only [List.nil_append, List.cons_append, List.getElem?_cons_zero, Option.bind_some, codes_mk, List.length_cons, List.length_nil, sp]
  simp [hlen, h4] at loop ⊢
  simp [loop]
end DL

set_option Elab.async false
set_option linter.all false
set_option maxRecDepth 100000
set_option maxHeartbeats 4000000
namespace DL
open PySem PySem.Spec L2 TL

abbrev Ln := List Nat
/-- a bound for a text's length, found by instance -/
class Bd (x : Ln) (k : outParam Nat) : Prop where
  le : x.length ≤ k
instance bd_nil : Bd [] 0 := ⟨Nat.le_refl _⟩
instance bd_cons {c : Nat} {x : Ln} {k : Nat} [h : Bd x k] : Bd (c :: x) (k + 1) := ⟨Nat.succ_le_succ h.le⟩
instance bd_app {x y : Ln} {k l : Nat} [h : Bd x k] [h' : Bd y l] : Bd (x ++ y) (k + l) := ⟨by rw [List.length_append]; exact Nat.add_le_add h.le h'.le⟩
theorem dAdd_ok {x y : Ln} {k l : Nat} [h : Bd x k] [h' : Bd y l] (hk : k + l ≤ 16777216) : dAdd (ds x) (ds y) = some (ds (x ++ y)) := by
  have h1 := h.le
  have h2 := h'.le
  rw [dAdd_ss, codes_mk, codes_mk, if_pos (by rw [szl]; omega)]
theorem fLen_ok {x : Ln} {k : Nat} [h : Bd x k] (hk : k ≤ 16777216) : fLen [ds x] = some (.int x.length) := by
  have h1 := h.le
  rw [fLen_s, codes_mk, if_pos (by rw [szl]; omega)]
/-- the constants' words -/
theorem sp_none : cs " none" = 32 :: cs "none" := by decide
theorem sp_not_from : cs " not from " = 32 :: (cs "not" ++ 32 :: (cs "from" ++ [32])) := by decide
inductive CondT : D → List Ln → Prop
  | non {n : Ln} (h : NameT n) : CondT (.tuple [ds n, ds (cs "none")]) [n, cs "none"]
  | not {n v : Ln} (h : NameT n) (r : RelT v) : CondT (.tuple [ds n, ds (cs "not"), ds v]) [n, cs "not", cs "from", v]
  | frm {n v : Ln} (h : NameT n) (r : RelT v) : CondT (.tuple [ds n, ds (cs "from"), ds v]) [n, cs "from", v]
  | att {n v : Ln} (h : NameT n) (r : RelT v) : CondT (.tuple [ds n, ds (cs "at"), ds v]) [n, cs "at", v]
theorem rel_len {t : Ln} (h : RelT t) : t.length ≤ 12 := by
  rcases h with rfl | h
  · decide
  · exact ver_len h
theorem ne1 : cs "not" ≠ cs "none" := by decide
theorem ne2 : cs "from" ≠ cs "none" := by decide
theorem ne3 : cs "from" ≠ cs "not" := by decide
theorem ne4 : cs "at" ≠ cs "none" := by decide
theorem ne5 : cs "at" ≠ cs "not" := by decide
theorem ne6 : cs "at" ≠ cs "from" := by decide
theorem cond_read {d : D} {toks : List Ln} (h : CondT d toks) : f_read_condition [.list (toks.map ds), .bool false] = some (.d d) := by
  cases h with
  | non h => simp [f_read_condition, b_read_condition, List.replicate, atI, ixN, is_short_ok h]
  | not h r => simp [f_read_condition, b_read_condition, List.replicate, atI, ixN, is_short_ok h, is_release_ok r]
  | frm h r => simp [f_read_condition, b_read_condition, List.replicate, atI, ixN, is_short_ok h, is_release_ok r]
  | att h r => simp [f_read_condition, b_read_condition, List.replicate, atI, ixN, is_short_ok h, is_release_ok r]
instance bd_c3 : Bd (cs "from") 4 := ⟨by decide⟩
instance bd_c4 : Bd (cs "at") 2 := ⟨by decide⟩
instance bd_c5 : Bd (cs "none") 4 := ⟨by decide⟩
instance bd_c6 : Bd (cs "not") 3 := ⟨by decide⟩
theorem cond_words {d : D} {toks : List Ln} (h : CondT d toks) : f_condition_words [d] = some (.d (ds (joinL [32] toks))) ∧ f_law_condition_words [d] = some (.d (ds (joinL [32] toks))) := by
  cases h with
  | @non n h =>
    have l1 : Bd n 25 := ⟨name_len h⟩
    constructor <;> simp [-dAdd_ss, dAdd_ok, f_condition_words, b_condition_words, f_law_condition_words, b_law_condition_words, List.replicate, atI, ixN, joinL, sp_none]
  | @not n v h r =>
    have l1 : Bd n 25 := ⟨name_len h⟩
    have l2 : Bd v 12 := ⟨rel_len r⟩
    constructor <;> simp [-dAdd_ss, dAdd_ok, f_condition_words, b_condition_words, f_law_condition_words, b_law_condition_words, List.replicate, atI, ixN, joinL, ne1, sp_not_from]
  | @frm n v h r =>
    have l1 : Bd n 25 := ⟨name_len h⟩
    have l2 : Bd v 12 := ⟨rel_len r⟩
    constructor <;> simp [-dAdd_ss, dAdd_ok, f_condition_words, b_condition_words, f_law_condition_words, b_law_condition_words, List.replicate, atI, ixN, joinL, ne2, ne3]
  | @att n v h r =>
    have l1 : Bd n 25 := ⟨name_len h⟩
    have l2 : Bd v 12 := ⟨rel_len r⟩
    constructor <;> simp [-dAdd_ss, dAdd_ok, f_condition_words, b_condition_words, f_law_condition_words, b_law_condition_words, List.replicate, atI, ixN, joinL, ne4, ne5]
end DL

set_option Elab.async false
set_option linter.all false
set_option maxRecDepth 100000
set_option maxHeartbeats 4000000
namespace DL
open PySem PySem.Spec L2 TL

/-! ### tokens -/
abbrev Sg (c : Nat) : Prop := Let c ∨ Fig c ∨ c = 46 ∨ c = 44 ∨ c = 58 ∨ c = 43
structure TokB (t : Ln) : Prop where
  len : t.length ≤ 25
  ne : t ≠ []
  all : ∀ c ∈ t, Sg c
structure CTok (t : Ln) : Prop where
  b : TokB t
  nand : t ≠ cs "and"
  nor : t ≠ cs "or"
  ncom : t ≠ [44]
  ncol : t ≠ [58]
theorem kept_let : ∀ t ∈ keptL, ∀ c ∈ t, Let c := by decide
theorem word_tokB {t : Ln} (h : WordT t) : TokB t := by
  refine ⟨by have := h.len; omega, ?_, fun c hc => ?_⟩
  · obtain ⟨c, r, rfl, _⟩ := h.head
    exact List.cons_ne_nil _ _
  · rcases h.all c hc with z | z
    · exact .inl z
    · exact .inr (.inl z)
theorem name_tokB {t : Ln} (h : NameT t) : TokB t := by
  refine ⟨name_len h, ?_, fun c hc => ?_⟩
  · rcases h with h | ⟨a, b, _, _, rfl⟩
    · exact (word_tokB h).ne
    · simp
  · rcases name_all h c hc with z | z | z
    · exact .inl z
    · exact .inr (.inl z)
    · exact .inr (.inr (.inr (.inr (.inr z))))
theorem name_kept {t : Ln} (h : NameT t) : t ∉ keptL := by
  rcases h with h | ⟨a, b, _, _, rfl⟩
  · exact h.free
  · intro hk
    have := kept_let _ hk 43 (by simp)
    exact absurd this (by decide)
theorem name_no {t : Ln} (h : NameT t) {c : Nat} (hc : ¬ (Let c ∨ Fig c ∨ c = 43)) : c ∉ t := fun m => hc (name_all h c m)
theorem name_ctok {t : Ln} (h : NameT t) : CTok t := by
  refine ⟨name_tokB h, ?_, ?_, ?_, ?_⟩
  · rintro rfl; exact name_kept h (by decide)
  · rintro rfl; exact name_kept h (by decide)
  · rintro rfl; exact name_no h (c := 44) (by decide) (by decide)
  · rintro rfl; exact name_no h (c := 58) (by decide) (by decide)
theorem ver_tokB {t : Ln} (h : VerT t) : TokB t := by
  refine ⟨by have := ver_len h; omega, ?_, fun c hc => ?_⟩
  · obtain ⟨c, r, rfl, _⟩ := ver_ne h
    exact List.cons_ne_nil _ _
  · rcases ver_all h c hc with z | z
    · exact .inr (.inl z)
    · exact .inr (.inr (.inl z))
theorem ver_no {t : Ln} (h : VerT t) {c : Nat} (hc : ¬ (Fig c ∨ c = 46)) : c ∉ t := fun m => hc (ver_all h c m)
theorem on_ctok : CTok (cs "on") := ⟨⟨by decide, by decide, by decide⟩, by decide, by decide, by decide, by decide⟩
theorem rel_ctok {t : Ln} (h : RelT t) : CTok t := by
  rcases h with rfl | h
  · exact on_ctok
  · refine ⟨ver_tokB h, ?_, ?_, ?_, ?_⟩
    · rintro rfl; exact ver_no h (c := 97) (by decide) (by decide)
    · rintro rfl; exact ver_no h (c := 111) (by decide) (by decide)
    · rintro rfl; exact ver_no h (c := 44) (by decide) (by decide)
    · rintro rfl; exact ver_no h (c := 58) (by decide) (by decide)
theorem cond_toks {d : D} {toks : List Ln} (h : CondT d toks) : (∀ t ∈ toks, CTok t) ∧ toks ≠ [] ∧ toks.length ≤ 4 := by
  have k1 : CTok (cs "none") := ⟨⟨by decide, by decide, by decide⟩, by decide, by decide, by decide, by decide⟩
  have k2 : CTok (cs "not") := ⟨⟨by decide, by decide, by decide⟩, by decide, by decide, by decide, by decide⟩
  have k3 : CTok (cs "from") := ⟨⟨by decide, by decide, by decide⟩, by decide, by decide, by decide, by decide⟩
  have k4 : CTok (cs "at") := ⟨⟨by decide, by decide, by decide⟩, by decide, by decide, by decide, by decide⟩
  cases h with
  | non h => exact ⟨by simpa using ⟨name_ctok h, k1⟩, by simp, by simp⟩
  | not h r => exact ⟨by simpa using ⟨name_ctok h, k2, k3, rel_ctok r⟩, by simp, by simp⟩
  | frm h r => exact ⟨by simpa using ⟨name_ctok h, k3, rel_ctok r⟩, by simp, by simp⟩
  | att h r => exact ⟨by simpa using ⟨name_ctok h, k4, rel_ctok r⟩, by simp, by simp⟩

/-! ### split_tokens -/
def joinT {α : Type} (m : α) : List (List α) → List α
  | [] => []
  | [p] => p
  | p :: q :: r => p ++ m :: joinT m (q :: r)
abbrev sk (l : Ln) : Str := ⟨l.toArray⟩
theorem splitL_free {m : Str} : ∀ (p : List Str), (∀ t ∈ p, t ≠ m) → ∀ rest acc cur, splitL m (p ++ rest) acc cur = splitL m rest acc (cur ++ p)
  | [], _, rest, acc, cur => by simp
  | t :: r, h, rest, acc, cur => by
    have h1 := h t List.mem_cons_self
    rw [List.cons_append, splitL, if_neg h1, splitL_free r (fun x hx => h x (List.mem_cons_of_mem _ hx))]
    simp
theorem splitL_join {m : Str} : ∀ (pss : List (List Str)), pss ≠ [] → (∀ p ∈ pss, ∀ t ∈ p, t ≠ m) → ∀ acc, splitL m (joinT m pss) acc [] = acc ++ pss
  | [p], _, h, acc => by
    have := splitL_free (m := m) p (h p List.mem_cons_self) [] acc []
    rw [List.append_nil] at this
    rw [joinT, this]
    simp [splitL]
  | p :: q :: r, _, h, acc => by
    rw [joinT, splitL_free p (h p List.mem_cons_self), splitL, if_pos rfl, splitL_join (q :: r) (by simp) (fun x hx => h x (List.mem_cons_of_mem _ hx))]
    simp
theorem joinT_map {α β : Type} {f : α → β} {m : α} : ∀ pss : List (List α), (joinT m pss).map f = joinT (f m) (pss.map (·.map f))
  | [] => rfl
  | [p] => rfl
  | p :: q :: r => by
    show (p ++ m :: joinT m (q :: r)).map f = p.map f ++ f m :: joinT (f m) ((q :: r).map (·.map f))
    rw [List.map_append, List.map_cons, joinT_map (q :: r)]
theorem sk_ne {a b : Ln} (h : a ≠ b) : sk a ≠ sk b := fun e => h (by simpa using congrArg codes e)
theorem split_ok {m : Ln} {pss : List (List Ln)} (h : pss ≠ []) (hp : ∀ p ∈ pss, ∀ t ∈ p, t ≠ m) (hl : (joinT m pss).length ≤ 100000) :
    f_split_tokens [.list ((joinT m pss).map ds), ds m] = some (.d (.list (pss.map fun p => .list (p.map ds)))) := by
  show (strsOf ((joinT m pss).map ds)).bind _ = _
  have ej := joinT_map (f := fun l : Ln => (⟨l.toArray⟩ : Str)) (m := m) pss
  rw [strsOf_ds, Option.bind_some, List.length_map, if_pos hl, ej, splitL_join (m := ⟨m.toArray⟩)]
  · rw [List.nil_append, List.map_map]
    congr 4
    funext p
    simp [List.map_map, Function.comp_def]
  · simpa using h
  · intro p hp' t ht
    obtain ⟨p0, h0, rfl⟩ := List.mem_map.mp hp'
    obtain ⟨t0, h1, rfl⟩ := List.mem_map.mp ht
    exact sk_ne (hp p0 h0 t0 h1)

/-! ### joined words of joined tokens -/
theorem joinL_app {m : Ln} : ∀ {p q : List Ln}, p ≠ [] → q ≠ [] → joinL m (p ++ q) = joinL m p ++ m ++ joinL m q
  | [a], b :: r, _, _ => by
    show a ++ (m ++ joinL m (b :: r)) = _
    rw [List.append_assoc]
    rfl
  | a :: b :: r, q, _, hq => by
    show a ++ (m ++ joinL m ((b :: r) ++ q)) = (a ++ (m ++ joinL m (b :: r))) ++ m ++ joinL m q
    rw [joinL_app (p := b :: r) (by simp) hq]
    simp only [List.append_assoc]
theorem joinL_cons {m a : Ln} {q : List Ln} (h : q ≠ []) : joinL m (a :: q) = a ++ m ++ joinL m q := joinL_app (p := [a]) (by simp) h
theorem joinT_ne {α : Type} {m : α} : ∀ {pss : List (List α)}, pss ≠ [] → (∀ p ∈ pss, p ≠ []) → joinT m pss ≠ []
  | [p], _, h => h p List.mem_cons_self
  | p :: q :: r, _, h => by
    show p ++ m :: joinT m (q :: r) ≠ []
    simp
theorem joinL_joinT {m : Ln} : ∀ {pss : List (List Ln)}, pss ≠ [] → (∀ p ∈ pss, p ≠ []) → joinL [32] (joinT m pss) = joinL (32 :: (m ++ [32])) (pss.map (joinL [32]))
  | [p], _, h => rfl
  | p :: q :: r, _, h => by
    have h1 := h p List.mem_cons_self
    have h2 : joinT m (q :: r) ≠ [] := joinT_ne (by simp) fun x hx => h x (List.mem_cons_of_mem _ hx)
    show joinL [32] (p ++ m :: joinT m (q :: r)) = joinL [32] p ++ (32 :: (m ++ [32]) ++ joinL (32 :: (m ++ [32])) ((q :: r).map (joinL [32])))
    rw [joinL_app h1 (by simp), joinL_cons h2, joinL_joinT (pss := q :: r) (by simp) fun x hx => h x (List.mem_cons_of_mem _ hx)]
    simp
theorem mem_joinT {α : Type} {m t : α} : ∀ {pss : List (List α)}, t ∈ joinT m pss → t = m ∨ ∃ p ∈ pss, t ∈ p
  | [p], h => .inr ⟨p, List.mem_cons_self, h⟩
  | p :: q :: r, h => by
    have h' : t ∈ p ++ m :: joinT m (q :: r) := h
    rcases List.mem_append.mp h' with h | h
    · exact .inr ⟨p, List.mem_cons_self, h⟩
    · rcases List.mem_cons.mp h with h | h
      · exact .inl h
      · rcases mem_joinT h with h | ⟨x, hx, ht⟩
        · exact .inl h
        · exact .inr ⟨x, List.mem_cons_of_mem _ hx, ht⟩
theorem joinT_len {α : Type} {m : α} {k : Nat} : ∀ {pss : List (List α)}, (∀ p ∈ pss, p.length ≤ k) → (joinT m pss).length ≤ pss.length * (k + 1)
  | [], _ => Nat.zero_le _
  | [p], h => by
    have := h p List.mem_cons_self
    show p.length ≤ 1 * (k + 1)
    omega
  | p :: q :: r, h => by
    have h1 := h p List.mem_cons_self
    have h2 := joinT_len (m := m) (k := k) (pss := q :: r) fun x hx => h x (List.mem_cons_of_mem _ hx)
    show (p ++ m :: joinT m (q :: r)).length ≤ (r.length + 1 + 1) * (k + 1)
    rw [List.length_append, List.length_cons, Nat.add_mul (r.length + 1)]
    simp only [List.length_cons] at h2
    omega

/-! ### many conditions -/
structure Conds (cds : List (D × List Ln)) (lo hi : Nat) : Prop where
  all : ∀ c ∈ cds, CondT c.1 c.2
  lo : lo ≤ cds.length
  hi : cds.length ≤ hi
abbrev ctoks (m : Ln) (cds : List (D × List Ln)) : List Ln := joinT m (cds.map Prod.snd)
abbrev cdat (cds : List (D × List Ln)) : D := .tuple (cds.map Prod.fst)
theorem cond_notN {d : D} {toks : List Ln} (h : CondT d toks) : dIsN d = some false := by
  cases h <;> rfl
theorem read_conds_loop {a b c d e : Sl} : ∀ (cds : List (D × List Ln)), (∀ x ∈ cds, CondT x.1 x.2) → ∀ (acc : List D) (y z : Sl), acc.length + cds.length < 10000 → ∃ y' z',
    forS (gNm 6) (sSeq (sSet 7 (eCallP f_read_condition (aCons (eNm 6) (aCons (eK (.bool false)) aNil))))
  (sSeq (sIf (bUn dIsN (eNm 7))
  (sRet (eK .none))
  sNext)
  (sApp 5 (eNm 7)))) (cds.map fun x => .list (x.2.map ds)) [a, b, c, d, e, .own acc, y, z] = some (.nx [a, b, c, d, e, .own (acc ++ cds.map Prod.fst), y', z'])
  | [], _, acc, y, z, _ => ⟨y, z, by simp⟩
  | x :: r, h, acc, y, z, hl => by
    have hx := h x List.mem_cons_self
    have hN : dIsN x.1 = some false := cond_notN hx
    simp only [List.length_cons] at hl
    obtain ⟨y', z', e⟩ := read_conds_loop r (fun q hq => h q (List.mem_cons_of_mem _ hq)) (acc ++ [x.1]) (.d (.list (x.2.map ds))) (.d x.1) (by simp; omega)
    refine ⟨y', z', ?_⟩
    rw [List.map_cons, forS_cons]
    have hacc : acc.length < 16000000 := by omega
    simp [cond_read hx, hN, hacc]
    rw [e]
    simp
theorem read_conds_ok {m : Ln} {cds : List (D × List Ln)} {lo hi : Nat} (h : Conds cds lo hi) (h1 : 1 ≤ lo) (h6 : hi ≤ 6) (hm : ∀ t, CTok t → t ≠ m) :
    f_read_conditions [.list ((ctoks m cds).map ds), ds m, .int lo, .int hi] = some (.d (cdat cds)) := by
  have hlo := h.lo
  have hhi := h.hi
  have hsp := split_ok (m := m) (pss := cds.map Prod.snd) (by
    intro e
    have := congrArg List.length e
    simp at this
    simp [this] at hlo
    omega) (fun p hp t ht => by
      obtain ⟨c, hc, rfl⟩ := List.mem_map.mp hp
      exact hm t ((cond_toks (h.all c hc)).1 t ht)) (by
      have := joinT_len (m := m) (k := 4) (pss := cds.map Prod.snd) fun p hp => by
        obtain ⟨c, hc, rfl⟩ := List.mem_map.mp hp
        exact (cond_toks (h.all c hc)).2.2
      rw [List.length_map] at this
      omega)
  rw [List.map_map] at hsp
  obtain ⟨y', z', e⟩ := read_conds_loop (a := .d (.list ((ctoks m cds).map ds))) (b := .d (ds m)) (c := .d (.int lo)) (d := .d (.int hi)) (e := .d (.list (cds.map ((fun p => PyData.list (p.map ds)) ∘ Prod.snd)))) cds h.all [] .no .no (by simp; omega)
  have g1 : (lo : Int) ≤ cds.length := by omega
  have g2 : (cds.length : Int) ≤ hi := by omega
  have e' : (cds.map ((fun p => PyData.list (p.map ds)) ∘ Prod.snd)) = cds.map fun x => PyData.list (x.2.map ds) := rfl
  rw [e'] at hsp e
  simp only [f_read_conditions, b_read_conditions, runP_ap, startD_ap, List.length_cons, List.length_nil, if_true, List.map_cons, List.map_nil, List.replicate, Nat.sub_self, List.append_nil, sSeq_ap, sSet_ap, eCallP_ap, aCons_ap, aNil_ap, eNm_ap, List.nil_append, List.cons_append, List.getElem?_cons_zero, List.getElem?_cons_succ, Option.bind_some, Option.map_some, hsp, Nat.reduceSub, Nat.reduceAdd, List.set_cons_succ, List.set_cons_zero]
  simp [g1, g2]
  simp at e
  simp [e]
end DL

set_option Elab.async false
set_option linter.all false
set_option maxRecDepth 100000
set_option maxHeartbeats 4000000
namespace DL
open PySem PySem.Spec L2 TL

/-! ### comprehensions that change nothing -/
theorem compS_pure {i : Nat} {f : ES} {st : List Sl} {g : D → D} : ∀ {items : List D}, (∀ x ∈ items, f (st.set i (.d x)) = some (g x, st.set i (.d x))) → compS i bYes f items (st.set i .no) = some (items.map g, st.set i .no)
  | [], _ => rfl
  | x :: r, h => by
    have e := compS_pure (items := r) fun z hz => h z (List.mem_cons_of_mem _ hz)
    rw [compS_cons, List.set_set, bYes_ap, Option.bind_some]
    show (f (st.set i (.d x))).bind _ = _
    rw [h x List.mem_cons_self, Option.bind_some]
    show (compS i bYes f r ((st.set i (.d x)).set i .no)).map _ = _
    rw [List.set_set, e]
    rfl
theorem compS_map {α : Type} {i : Nat} {f : ES} {st : List Sl} {a : α → D} {b : α → D} : ∀ {items : List α}, (∀ x ∈ items, f (st.set i (.d (a x))) = some (b x, st.set i (.d (a x)))) → compS i bYes f (items.map a) (st.set i .no) = some (items.map b, st.set i .no)
  | [], _ => rfl
  | x :: r, h => by
    have e := compS_map (items := r) fun z hz => h z (List.mem_cons_of_mem _ hz)
    rw [List.map_cons, compS_cons, List.set_set, bYes_ap, Option.bind_some]
    show (f (st.set i (.d (a x)))).bind _ = _
    rw [h x List.mem_cons_self, Option.bind_some]
    show (compS i bYes f (r.map a) ((st.set i (.d (a x))).set i .no)).map _ = _
    rw [List.set_set, e]
    rfl
theorem sum_le {k : Nat} : ∀ {ls : List Ln}, (∀ l ∈ ls, l.length ≤ k) → (ls.map List.length).sum ≤ ls.length * k
  | [], _ => Nat.zero_le _
  | l :: r, h => by
    have h1 := h l List.mem_cons_self
    have h2 := sum_le (ls := r) fun x hx => h x (List.mem_cons_of_mem _ hx)
    rw [List.map_cons, List.sum_cons, List.length_cons, Nat.add_mul]
    omega
theorem dJoin_lk {m : Ln} {parts : List Ln} (k : Nat) (h : ∀ p ∈ parts, p.length ≤ k) (hk : parts.length * (k + m.length) ≤ 16777216) : dJoin (ds m) (.list (parts.map ds)) = some (ds (joinL m parts)) := by
  refine dJoin_l ?_
  have := sum_le h
  rw [Nat.mul_add] at hk
  omega
theorem dJoin_tk {m : Ln} {parts : List Ln} (k : Nat) (h : ∀ p ∈ parts, p.length ≤ k) (hk : parts.length * (k + m.length) ≤ 16777216) : dJoin (ds m) (.tuple (parts.map ds)) = some (ds (joinL m parts)) := dJoin_lk k h hk

/-! ### items at known places -/
theorem at_n {α : Type} {xs : List α} (n : Nat) : atI xs (n : Int) = xs[n]? := by
  unfold atI ixN
  rw [if_pos (by omega)]
  by_cases h : n < xs.length
  · rw [if_pos (by omega)]
    simp
  · rw [if_neg (by omega), List.getElem?_eq_none (by omega)]
    rfl
theorem at_0 {α : Type} {xs : List α} : atI xs 0 = xs[0]? := at_n 0
theorem at_1 {α : Type} {xs : List α} : atI xs 1 = xs[1]? := at_n 1
theorem at_2 {α : Type} {xs : List α} : atI xs 2 = xs[2]? := at_n 2
theorem at_3 {α : Type} {xs : List α} : atI xs 3 = xs[3]? := at_n 3
theorem at_4 {α : Type} {xs : List α} : atI xs 4 = xs[4]? := at_n 4
theorem at_5 {α : Type} {xs : List α} : atI xs 5 = xs[5]? := at_n 5
theorem at_6 {α : Type} {xs : List α} : atI xs 6 = xs[6]? := at_n 6
theorem at_7 {α : Type} {xs : List α} : atI xs 7 = xs[7]? := at_n 7
theorem at_8 {α : Type} {xs : List α} : atI xs 8 = xs[8]? := at_n 8
theorem at_l {α : Type} {xs : List α} {x : α} : atI (xs ++ [x]) (-1) = some x := by
  unfold atI ixN
  rw [if_neg (by decide), if_pos (by rw [List.length_append]; simp only [List.length_cons, List.length_nil]; omega)]
  have : ((-1 : Int) + ((xs ++ [x]).length : Int)).toNat = xs.length := by
    rw [List.length_append]
    simp only [List.length_cons, List.length_nil]
    omega
  rw [this]
  simp

/-! ### slices -/
theorem cut_from {α : Type} (xs : List α) (k : Nat) : cutD xs (some (k : Int)) none = xs.drop k := by
  unfold cutD
  rw [HT.sIx_nat, HT.sIx_none]
  by_cases h : k ≤ xs.length
  · rw [Nat.min_eq_left h, List.take_of_length_le (by rw [List.length_drop]; omega)]
  · rw [Nat.min_eq_right (by omega), List.drop_eq_nil_of_le (Nat.le_refl _), List.drop_eq_nil_of_le (by omega)]
    simp
theorem cut_to {α : Type} (xs : List α) (k : Nat) : cutD xs none (some (k : Int)) = xs.take k := by
  unfold cutD
  rw [HT.sIx_nat, HT.sIx_none, List.drop_zero, Nat.sub_zero]
  by_cases h : k ≤ xs.length
  · rw [Nat.min_eq_left h]
  · rw [Nat.min_eq_right (by omega), List.take_of_length_le (Nat.le_refl _), List.take_of_length_le (by omega)]
theorem cut_last {α : Type} (xs : List α) (x : α) : cutD (xs ++ [x]) none (some (-1)) = xs := by
  unfold cutD
  rw [HT.sIx_none, List.drop_zero, Nat.sub_zero]
  have : HT.sIx (xs ++ [x]).length (xs ++ [x]).length (some (-1)) = xs.length := by
    show (if (-1 : Int) < 0 then ((-1 : Int) + ((xs ++ [x]).length : Int)).toNat else min (-1 : Int).toNat (xs ++ [x]).length) = xs.length
    rw [if_pos (by decide), List.length_append]
    simp only [List.length_cons, List.length_nil]
    omega
  rw [this, List.take_left']
  rfl
theorem dSl_from {xs : List D} (k : Nat) : dSl (.list xs) (some (k : Int)) none = some (.list (xs.drop k)) := by
  show some (PyData.list (cutD xs (some (k : Int)) none)) = _
  rw [cut_from]
theorem dSl_to {xs : List D} (k : Nat) : dSl (.list xs) none (some (k : Int)) = some (.list (xs.take k)) := by
  show some (PyData.list (cutD xs none (some (k : Int)))) = _
  rw [cut_to]
theorem dSl_1 {xs : List D} : dSl (.list xs) (some 1) none = some (.list (xs.drop 1)) := dSl_from 1
theorem dSl_3 {xs : List D} : dSl (.list xs) (some 3) none = some (.list (xs.drop 3)) := dSl_from 3
theorem dSl_4 {xs : List D} : dSl (.list xs) (some 4) none = some (.list (xs.drop 4)) := dSl_from 4
theorem dSl_l {xs : List D} {x : D} : dSl (.list (xs ++ [x])) none (some (-1)) = some (.list xs) := by
  show some (PyData.list (cutD (xs ++ [x]) none (some (-1)))) = _
  rw [cut_last]
theorem strOk_sg {t : Ln} (h : ∀ c ∈ t, Sg c) : PyData.strOk ⟨t.toArray⟩ = true := by
  show (t.toArray.all (· < 0x110000)) = true
  rw [List.all_toArray, List.all_eq_true]
  intro c hc
  have hg := h c hc
  have : c ≤ 122 := by
    simp only [Sg, Let, Fig] at hg
    omega
  exact decide_eq_true (by omega)
theorem can_toks : ∀ {toks : List Ln}, (∀ t ∈ toks, TokB t) → PyData.canLayAll0 (toks.map ds) = true
  | [], _ => rfl
  | t :: r, h => by
    show (PyData.canLay0 (ds t) && PyData.canLayAll0 (r.map ds)) = true
    rw [can_toks fun x hx => h x (List.mem_cons_of_mem _ hx), Bool.and_true]
    exact strOk_sg (h t List.mem_cons_self).all
theorem dep_toks : ∀ (toks : List Ln), PyData.depthAll (toks.map ds) ≤ 1
  | [] => Nat.zero_le _
  | t :: r => by
    show max (PyData.depth (ds t)) (PyData.depthAll (r.map ds)) ≤ 1
    have h1 := dep_toks r
    have h2 : PyData.depth (ds t) ≤ 1 := by
      show PyData.depth (.str ⟨t.toArray⟩) ≤ 1
      simp [PyData.depth]
    omega
theorem shaped_toks {toks : List Ln} (h : ∀ t ∈ toks, TokB t) : SeqAt.shaped (.list (toks.map ds)) = true := by
  unfold SeqAt.shaped
  rw [Bool.and_eq_true]
  refine ⟨?_, decide_eq_true ?_⟩
  · show PyData.canLayAll0 (toks.map ds) = true
    exact can_toks h
  · show PyData.depthAll (toks.map ds) + 1 ≤ 64
    have := dep_toks toks
    omega
theorem dEq_toks {toks : List Ln} (h : ∀ t ∈ toks, TokB t) (hne : toks ≠ []) : dEq (.list (toks.map ds)) (.list []) = some false := by
  have h1 := shaped_toks h
  cases toks with
  | nil => exact absurd rfl hne
  | cons t r =>
    show (if (SeqAt.shaped (.list ((t :: r).map ds)) && SeqAt.shaped (.list [])) = true then some (PyData.eqv (.list ((t :: r).map ds)) (.list [])) else none) = some false
    rw [h1, if_pos (by rfl)]
    rfl

/-! ### the words of many conditions -/
abbrev cw (x : D × List Ln) : Ln := joinL [32] x.2
theorem cw_len {x : D × List Ln} (h : CondT x.1 x.2) : (cw x).length ≤ 104 := by
  have h1 := (cond_toks h)
  have h2 := joinL_len (m := [32]) (k := 25) (ps := x.2) fun p hp => (h1.1 p hp).b.len
  have h3 := h1.2.2
  simp only [List.length_cons, List.length_nil] at h2
  have : x.2.length * 26 ≤ 4 * 26 := Nat.mul_le_mul_right _ h3
  show (joinL [32] x.2).length ≤ 104
  omega
theorem many_join {m : Ln} {cds : List (D × List Ln)} (h : ∀ c ∈ cds, CondT c.1 c.2) (hl : cds.length ≤ 10) (hm : m.length ≤ 10) : dJoin (ds m) (.list ((cds.map cw).map ds)) = some (ds (joinL m (cds.map cw))) := by
  refine dJoin_lk 104 (fun p hp => ?_) ?_
  · obtain ⟨c, hc, rfl⟩ := List.mem_map.mp hp
    exact cw_len (h c hc)
  · rw [List.length_map]
    exact Nat.le_trans (Nat.mul_le_mul hl (Nat.add_le_add_left hm _)) (by decide)
theorem many_ok {m : Ln} {cds : List (D × List Ln)} (h : ∀ c ∈ cds, CondT c.1 c.2) (hl : cds.length ≤ 10) (hm : m.length ≤ 10) : f_many_words [cdat cds, ds m] = some (.d (ds (joinL m (cds.map cw)))) := by
  have e := compS_map (i := 2) (f := eCallP f_condition_words (aCons (eNm 2) aNil)) (st := [.d (cdat cds), .d (ds m), .no]) (a := Prod.fst) (b := fun x => ds (cw x)) (items := cds) fun x hx => by
    simp [(cond_words (h x hx)).1]
  simp at e
  have hj := many_join h hl hm
  have h6 : cds.length ≤ 1000000 := by omega
  rw [List.map_map] at hj
  simp [f_many_words, b_many_words, List.replicate, e, h6]
  have hj2 : dJoin (ds m) (.list (cds.map fun x => ds (cw x))) = some (ds (joinL m (cds.map cw))) := hj
  rw [hj2]
  rfl
theorem many_len {m : Ln} {cds : List (D × List Ln)} (h : ∀ c ∈ cds, CondT c.1 c.2) (hl : cds.length ≤ 10) (hm : m.length ≤ 10) : (joinL m (cds.map cw)).length ≤ 1140 := by
  have := joinL_len (m := m) (k := 104) (ps := cds.map cw) fun p hp => by
    obtain ⟨c, hc, rfl⟩ := List.mem_map.mp hp
    exact cw_len (h c hc)
  rw [List.length_map] at this
  exact Nat.le_trans this (Nat.le_trans (Nat.mul_le_mul hl (Nat.add_le_add_left hm _)) (by decide))
theorem many_toks {m : Ln} {cds : List (D × List Ln)} (h : ∀ c ∈ cds, CondT c.1 c.2) (hne : cds ≠ []) : joinL [32] (ctoks m cds) = joinL (32 :: (m ++ [32])) (cds.map cw) := by
  rw [joinL_joinT (by simpa using hne) fun p hp => by
    obtain ⟨c, hc, rfl⟩ := List.mem_map.mp hp
    exact (cond_toks (h c hc)).2.1, List.map_map]
  rfl
theorem ctoks_ne {m : Ln} {cds : List (D × List Ln)} (h : ∀ c ∈ cds, CondT c.1 c.2) (hne : cds ≠ []) : ctoks m cds ≠ [] := joinT_ne (by simpa using hne) fun p hp => by
    obtain ⟨c, hc, rfl⟩ := List.mem_map.mp hp
    exact (cond_toks (h c hc)).2.1
theorem ctoks_len {m : Ln} {cds : List (D × List Ln)} (h : ∀ c ∈ cds, CondT c.1 c.2) : (ctoks m cds).length ≤ cds.length * 5 := by
  have := joinT_len (m := m) (k := 4) (pss := cds.map Prod.snd) fun p hp => by
        obtain ⟨c, hc, rfl⟩ := List.mem_map.mp hp
        exact (cond_toks (h c hc)).2.2
  rw [List.length_map] at this
  omega
theorem ctoks_mem {m t : Ln} {cds : List (D × List Ln)} (h : ∀ c ∈ cds, CondT c.1 c.2) (ht : t ∈ ctoks m cds) : t = m ∨ CTok t := by
  rcases mem_joinT ht with h1 | ⟨p, hp, h1⟩
  · exact .inl h1
  · obtain ⟨c, hc, rfl⟩ := List.mem_map.mp hp
    exact .inr ((cond_toks (h c hc)).1 t h1)
inductive FormT : D → List Ln → Prop
  | need {A B : List (D × List Ln)} (a : Conds A 1 4) (b : Conds B 1 6) : FormT (.tuple [ds (cs "need"), cdat A, cdat B]) (cs "need" :: (ctoks (cs "and") A ++ [58] :: ctoks (cs "or") B))
  | cnt {k : Ln} {n : Nat} {C : List (D × List Ln)} (hk : k = cs "most" ∨ k = cs "least") (hn : n ≤ 6) (c : Conds C 1 6) : FormT (.tuple [ds k, .int n, cdat C]) (k :: numL n :: cs "of" :: ctoks [44] C)
  | cl {C : List (D × List Ln)} (c : Conds C 2 6) : FormT (.tuple [ds (cs "clash"), cdat C]) (cs "clash" :: ctoks [44] C)
  | ei {C : List (D × List Ln)} (c : Conds C 1 6) : FormT (.tuple [ds (cs "either"), cdat C]) (cs "either" :: ctoks [44] C)
  | same {a b : D × List Ln} (h : CondT a.1 a.2) (h' : CondT b.1 b.2) : FormT (.tuple [ds (cs "same"), a.1, b.1]) (cs "same" :: ctoks [44] [a, b])
theorem conds_ne {A : List (D × List Ln)} {lo hi : Nat} (h : Conds A lo hi) (h1 : 1 ≤ lo) : A ≠ [] := by
  rintro rfl
  have := h.lo
  simp at this
  omega
theorem read_need_ok {A B : List (D × List Ln)} (a : Conds A 1 4) (b : Conds B 1 6) : f_read_need [.list ((ctoks (cs "and") A ++ [58] :: ctoks (cs "or") B).map ds)] = some (.d (.tuple [ds (cs "need"), cdat A, cdat B])) := by
  have la := ctoks_len (m := cs "and") a.all
  have lb := ctoks_len (m := cs "or") b.all
  have h1 := a.hi
  have h2 := b.hi
  have hsp := split_ok (m := [58]) (pss := [ctoks (cs "and") A, ctoks (cs "or") B]) (by simp) (fun p hp t ht => by
    simp at hp
    rcases hp with rfl | rfl
    · rcases ctoks_mem a.all ht with rfl | h
      · decide
      · exact h.ncol
    · rcases ctoks_mem b.all ht with rfl | h
      · decide
      · exact h.ncol) (by
    show (ctoks (cs "and") A ++ [58] :: ctoks (cs "or") B).length ≤ _
    rw [List.length_append, List.length_cons]
    omega)
  have r1 := read_conds_ok (m := cs "and") a (by decide) (by decide) fun t h => h.nand
  have r2 := read_conds_ok (m := cs "or") b (by decide) (by decide) fun t h => h.nor
  have e : joinT [58] [ctoks (cs "and") A, ctoks (cs "or") B] = ctoks (cs "and") A ++ [58] :: ctoks (cs "or") B := rfl
  rw [e] at hsp
  simp only [f_read_need, b_read_need, runP_ap, startD_ap, List.length_cons, List.length_nil, if_true, List.map_cons, List.map_nil, List.replicate, Nat.sub_self, List.append_nil, sSeq_ap, sSet_ap, eCallP_ap, aCons_ap, aNil_ap, eNm_ap, eK_ap, List.nil_append, List.cons_append, List.getElem?_cons_zero, List.getElem?_cons_succ, Option.bind_some, Option.map_some, Nat.reduceSub, Nat.reduceAdd, List.set_cons_succ, List.set_cons_zero, cs_colon, hsp]
  simp at r1 r2
  simp [atI, ixN, r1, r2]
theorem form_toks {d : D} {toks : List Ln} (h : FormT d toks) : (∀ t ∈ toks, TokB t) ∧ toks ≠ [] := by
  have tm {m : Ln} (hm : TokB m) {A : List (D × List Ln)} (h : ∀ c ∈ A, CondT c.1 c.2) : ∀ t ∈ ctoks m A, TokB t := fun t ht => by
    rcases ctoks_mem h ht with rfl | h
    · exact hm
    · exact h.b
  have t1 : TokB (cs "and") := ⟨by decide, by decide, by decide⟩
  have t2 : TokB (cs "or") := ⟨by decide, by decide, by decide⟩
  have t3 : TokB [44] := ⟨by decide, by decide, by decide⟩
  have t4 : TokB [58] := ⟨by decide, by decide, by decide⟩
  have t5 : TokB (cs "of") := ⟨by decide, by decide, by decide⟩
  cases h with
  | @need A B a b =>
    refine ⟨fun t ht => ?_, List.cons_ne_nil _ _⟩
    rcases List.mem_cons.mp ht with rfl | ht
    · exact ⟨by decide, by decide, by decide⟩
    · rcases List.mem_append.mp ht with ht | ht
      · exact tm t1 a.all t ht
      · rcases List.mem_cons.mp ht with rfl | ht
        · exact t4
        · exact tm t2 b.all t ht
  | @cnt k n C hk hn c =>
    refine ⟨fun t ht => ?_, List.cons_ne_nil _ _⟩
    rcases List.mem_cons.mp ht with rfl | ht
    · rcases hk with rfl | rfl <;> exact ⟨by decide, by decide, by decide⟩
    · rcases List.mem_cons.mp ht with rfl | ht
      · exact ⟨by have := num_len (n := n) (by omega); omega, numL_ne n, fun c hc => .inr (.inl (num_fig hc))⟩
      · rcases List.mem_cons.mp ht with rfl | ht
        · exact t5
        · exact tm t3 c.all t ht
  | @cl C c =>
    refine ⟨fun t ht => ?_, List.cons_ne_nil _ _⟩
    rcases List.mem_cons.mp ht with rfl | ht
    · exact ⟨by decide, by decide, by decide⟩
    · exact tm t3 c.all t ht
  | @ei C c =>
    refine ⟨fun t ht => ?_, List.cons_ne_nil _ _⟩
    rcases List.mem_cons.mp ht with rfl | ht
    · exact ⟨by decide, by decide, by decide⟩
    · exact tm t3 c.all t ht
  | @same a b h h' =>
    refine ⟨fun t ht => ?_, List.cons_ne_nil _ _⟩
    rcases List.mem_cons.mp ht with rfl | ht
    · exact ⟨by decide, by decide, by decide⟩
    · exact tm t3 (A := [a, b]) (by simpa using ⟨h, h'⟩) t ht
theorem read_form_ok {d : D} {toks : List Ln} (h : FormT d toks) : f_read_form [.list (toks.map ds)] = some (.d d) := by
  have hne := dEq_toks (form_toks h).1 (form_toks h).2
  cases h with
  | @need A B a b =>
    simp only [List.map_cons, List.map_append] at hne
    have hr := read_need_ok a b
    simp at hr
    simp [f_read_form, b_read_form, List.replicate, at_0, at_1, at_2, at_3, hne, dSl_1, hr]
  | @cnt k n C hk hn c =>
    simp only [List.map_cons, List.map_append] at hne
    have r := read_conds_ok (m := [44]) c (by decide) (by decide) fun t h => h.ncom
    have hnum := is_number_ok (n := n) (lo := 0) (hi := 6) (by omega) (by omega) (by omega)
    have hint := fInt_num (n := n) (by omega)
    have hnec := ctoks_ne (m := [44]) c.all (conds_ne c (by decide))
    have hlen : ¬ ((ctoks [44] C).length : Int) + 1 + 1 + 1 < 4 := by
      have : (ctoks [44] C).length ≠ 0 := fun z => hnec (List.eq_nil_of_length_eq_zero z)
      omega
    simp at r
    have rc : f_read_counted [.list ((k :: numL n :: cs "of" :: ctoks [44] C).map ds)] = some (.d (.tuple [ds k, .int n, cdat C])) := by
      simp [-fInt_s, f_read_counted, b_read_counted, List.replicate, at_0, at_1, at_2, at_3, dSl_3, hnum, hint, hlen, r]
    simp at rc
    rcases hk with rfl | rfl <;> simp [f_read_form, b_read_form, List.replicate, at_0, at_1, at_2, at_3, hne, dSl_1, rc, show cs "most" ≠ cs "need" by decide, show cs "least" ≠ cs "need" by decide, show cs "least" ≠ cs "most" by decide]
  | @cl C c =>
    simp only [List.map_cons, List.map_append] at hne
    have r := read_conds_ok (m := [44]) c (by decide) (by decide) fun t h => h.ncom
    simp at r
    simp [f_read_form, b_read_form, List.replicate, at_0, at_1, at_2, at_3, hne, dSl_1, r, show cs "clash" ≠ cs "need" by decide, show cs "clash" ≠ cs "most" by decide, show cs "clash" ≠ cs "least" by decide]
  | @ei C c =>
    simp only [List.map_cons, List.map_append] at hne
    have r := read_conds_ok (m := [44]) c (by decide) (by decide) fun t h => h.ncom
    simp at r
    simp [f_read_form, b_read_form, List.replicate, at_0, at_1, at_2, at_3, hne, dSl_1, r, show cs "either" ≠ cs "need" by decide, show cs "either" ≠ cs "most" by decide, show cs "either" ≠ cs "least" by decide, show cs "either" ≠ cs "clash" by decide]
  | @same a b h h' =>
    have c : Conds [a, b] 2 2 := ⟨by simpa using ⟨h, h'⟩, by simp, by simp⟩
    simp only [List.map_cons, List.map_append] at hne
    have r := read_conds_ok (m := [44]) c (by decide) (by decide) fun t h => h.ncom
    simp at r
    simp [f_read_form, b_read_form, List.replicate, at_0, at_1, at_2, at_3, hne, dSl_1, r, show cs "same" ≠ cs "need" by decide, show cs "same" ≠ cs "most" by decide, show cs "same" ≠ cs "least" by decide, show cs "same" ≠ cs "clash" by decide, show cs "same" ≠ cs "either" by decide]
end DL

set_option Elab.async false
set_option linter.all false
set_option maxRecDepth 100000
set_option maxHeartbeats 4000000
namespace DL
open PySem PySem.Spec L2 TL

/-! ### the words of a form -/
theorem sp_need : cs "need " = cs "need" ++ [32] := by decide
theorem sp_same : cs "same " = cs "same" ++ [32] := by decide
theorem sp_and : cs " and " = 32 :: (cs "and" ++ [32]) := by decide
theorem sp_or : cs " or " = 32 :: (cs "or" ++ [32]) := by decide
theorem sp_col : cs " : " = [32, 58, 32] := by decide
theorem sp_com : cs " , " = [32, 44, 32] := by decide
theorem sp_of : cs " of " = 32 :: (cs "of" ++ [32]) := by decide
instance bd_need : Bd (cs "need") 4 := ⟨by decide⟩
instance bd_same : Bd (cs "same") 4 := ⟨by decide⟩
instance bd_and : Bd (cs "and") 3 := ⟨by decide⟩
instance bd_or : Bd (cs "or") 2 := ⟨by decide⟩
instance bd_of : Bd (cs "of") 2 := ⟨by decide⟩
instance bd_most : Bd (cs "most") 4 := ⟨by decide⟩
instance bd_least : Bd (cs "least") 5 := ⟨by decide⟩
instance bd_clash : Bd (cs "clash") 5 := ⟨by decide⟩
instance bd_either : Bd (cs "either") 6 := ⟨by decide⟩
theorem law_words_comp {P : List (D × List Ln)} (h : ∀ c ∈ P, CondT c.1 c.2) {d : D} : compS 2 bYes (eCallP f_law_condition_words (aCons (eNm 2) aNil)) (P.map Prod.fst) [.d d, .no, .no] = some (P.map fun x => ds (cw x), [.d d, .no, .no]) := by
  have e := compS_map (i := 2) (f := eCallP f_law_condition_words (aCons (eNm 2) aNil)) (st := [.d d, .no, .no]) (a := Prod.fst) (b := fun x => ds (cw x)) (items := P) fun x hx => by
    simp [(cond_words (h x hx)).2]
  simpa using e
theorem many_join' {m : Ln} {cds : List (D × List Ln)} (h : ∀ c ∈ cds, CondT c.1 c.2) (hl : cds.length ≤ 10) (hm : m.length ≤ 10) : dJoin (ds m) (.list (cds.map fun x => ds (cw x))) = some (ds (joinL m (cds.map cw))) := by
  have hj := many_join h hl hm
  rw [List.map_map] at hj
  exact hj
theorem form_words_ok {d : D} {toks : List Ln} (h : FormT d toks) : f_form_words [d] = some (.d (ds (joinL [32] toks))) ∧ f_law_form_words [d] = some (.d (ds (joinL [32] toks))) := by
  cases h with
  | @need A B a b =>
    have a1 := a.hi
    have b1 := b.hi
    have mA := many_ok (m := cs " and ") a.all (by omega) (by decide)
    have mB := many_ok (m := cs " or ") b.all (by omega) (by decide)
    have bA : Bd (joinL (cs " and ") (A.map cw)) 1140 := ⟨many_len a.all (by omega) (by decide)⟩
    have bB : Bd (joinL (cs " or ") (B.map cw)) 1140 := ⟨many_len b.all (by omega) (by decide)⟩
    have jA := many_join' (m := cs " and ") a.all (by omega) (by decide)
    have jB := many_join' (m := cs " or ") b.all (by omega) (by decide)
    have tA := many_toks (m := cs "and") a.all (conds_ne a (by decide))
    have tB := many_toks (m := cs "or") b.all (conds_ne b (by decide))
    have nA := ctoks_ne (m := cs "and") a.all (conds_ne a (by decide))
    have nB := ctoks_ne (m := cs "or") b.all (conds_ne b (by decide))
    rw [← sp_and] at tA
    rw [← sp_or] at tB
    have e : joinL [32] (cs "need" :: (ctoks (cs "and") A ++ [58] :: ctoks (cs "or") B)) = cs "need" ++ 32 :: (joinL (cs " and ") (A.map cw) ++ 32 :: 58 :: 32 :: joinL (cs " or ") (B.map cw)) := by
      rw [joinL_cons (by simp), joinL_app nA (by simp), joinL_cons nB, tA, tB]
      simp
    rw [e]
    constructor
    · simp [-dAdd_ss, dAdd_ok, f_form_words, b_form_words, List.replicate, at_0, at_1, at_2, mA, mB, sp_need, sp_col]
    · have hp : f_law_parts [.tuple [ds (cs "need"), cdat A, cdat B]] = some (.d (.list ((A ++ B).map Prod.fst))) := by
        have hs : A.length + B.length ≤ sizeLine := by rw [szl]; omega
        simp [f_law_parts, b_law_parts, List.replicate, at_0, at_1, at_2, hs]
      have hc := law_words_comp (P := A ++ B) (fun c hc => by
        rcases List.mem_append.mp hc with hc | hc
        · exact a.all c hc
        · exact b.all c hc) (d := .tuple [ds (cs "need"), cdat A, cdat B])
      have s1 : dSl (.list ((A ++ B).map fun x => ds (cw x))) none (some (A.length : Int)) = some (.list (A.map fun x => ds (cw x))) := by
        rw [dSl_to, List.map_append, List.take_left' (by simp)]
      have s2 : dSl (.list ((A ++ B).map fun x => ds (cw x))) (some (A.length : Int)) none = some (.list (B.map fun x => ds (cw x))) := by
        rw [dSl_from, List.map_append, List.drop_left' (by simp)]
      have hl : A.length + B.length ≤ 1000000 := by omega
      simp [-List.map_append, -dAdd_ss, dAdd_ok, f_law_form_words, b_law_form_words, List.replicate, at_0, at_1, at_2, hp, hc, s1, s2, jA, jB, hl, sp_need, sp_col]
  | @cnt k n C hk hn c =>
    have c1 := c.hi
    have mC := many_ok (m := cs " , ") c.all (by omega) (by decide)
    have bC : Bd (joinL (cs " , ") (C.map cw)) 1140 := ⟨many_len c.all (by omega) (by decide)⟩
    have jC := many_join' (m := cs " , ") c.all (by omega) (by decide)
    have tC := many_toks (m := [44]) c.all (conds_ne c (by decide))
    have nC := ctoks_ne (m := [44]) c.all (conds_ne c (by decide))
    have s44 : (32 :: ([44] ++ [32])) = cs " , " := by decide
    rw [s44] at tC
    have bn : Bd (numL n) 10 := ⟨num_len (by omega)⟩
    have fn := fStr_nat (n := n) (by omega)
    have bk : Bd k 5 := ⟨by rcases hk with rfl | rfl <;> decide⟩
    have e : joinL [32] (k :: numL n :: cs "of" :: ctoks [44] C) = k ++ 32 :: (numL n ++ 32 :: (cs "of" ++ 32 :: joinL (cs " , ") (C.map cw))) := by
      rw [joinL_cons (by simp), joinL_cons (by simp), joinL_cons nC, tC]
      simp
    rw [e]
    have hl : C.length ≤ 1000000 := by omega
    have k1 : k ≠ cs "need" := by rcases hk with rfl | rfl <;> decide
    have k2 : k ≠ cs "same" := by rcases hk with rfl | rfl <;> decide
    constructor
    · rcases hk with rfl | rfl <;> simp (decide := true) [-dAdd_ss, -fStr_i, dAdd_ok, f_form_words, b_form_words, List.replicate, at_0, at_1, at_2, mC, sp_of, fn, k1, k2]
    · have hp : f_law_parts [.tuple [ds k, .int n, cdat C]] = some (.d (.list (C.map Prod.fst))) := by
        simp [f_law_parts, b_law_parts, List.replicate, atI, ixN, k1, k2]
      have hc := law_words_comp (P := C) c.all (d := .tuple [ds k, .int n, cdat C])
      rcases hk with rfl | rfl <;> simp (decide := true) [-dAdd_ss, -fStr_i, dAdd_ok, f_law_form_words, b_law_form_words, List.replicate, at_0, at_1, at_2, hp, hc, hl, jC, sp_of, fn, k1, k2]
  | @cl C c =>
    have c1 := c.hi
    have mC := many_ok (m := cs " , ") c.all (by omega) (by decide)
    have bC : Bd (joinL (cs " , ") (C.map cw)) 1140 := ⟨many_len c.all (by omega) (by decide)⟩
    have jC := many_join' (m := cs " , ") c.all (by omega) (by decide)
    have tC := many_toks (m := [44]) c.all (conds_ne c (by decide))
    have nC := ctoks_ne (m := [44]) c.all (conds_ne c (by decide))
    have s44 : (32 :: ([44] ++ [32])) = cs " , " := by decide
    rw [s44] at tC
    have e : joinL [32] (cs "clash" :: ctoks [44] C) = cs "clash" ++ 32 :: joinL (cs " , ") (C.map cw) := by
      rw [joinL_cons nC, tC]
      simp
    rw [e]
    have hl : C.length ≤ 1000000 := by omega
    constructor
    · simp (decide := true) [-dAdd_ss, -fStr_i, dAdd_ok, f_form_words, b_form_words, List.replicate, at_0, at_1, at_2, mC]
    · have hp : f_law_parts [.tuple [ds (cs "clash"), cdat C]] = some (.d (.list (C.map Prod.fst))) := by
        simp (decide := true) [f_law_parts, b_law_parts, List.replicate, atI, ixN]
      have hc := law_words_comp (P := C) c.all (d := .tuple [ds (cs "clash"), cdat C])
      simp (decide := true) [-dAdd_ss, -fStr_i, dAdd_ok, f_law_form_words, b_law_form_words, List.replicate, at_0, at_1, at_2, hp, hc, hl, jC]
  | @ei C c =>
    have c1 := c.hi
    have mC := many_ok (m := cs " , ") c.all (by omega) (by decide)
    have bC : Bd (joinL (cs " , ") (C.map cw)) 1140 := ⟨many_len c.all (by omega) (by decide)⟩
    have jC := many_join' (m := cs " , ") c.all (by omega) (by decide)
    have tC := many_toks (m := [44]) c.all (conds_ne c (by decide))
    have nC := ctoks_ne (m := [44]) c.all (conds_ne c (by decide))
    have s44 : (32 :: ([44] ++ [32])) = cs " , " := by decide
    rw [s44] at tC
    have e : joinL [32] (cs "either" :: ctoks [44] C) = cs "either" ++ 32 :: joinL (cs " , ") (C.map cw) := by
      rw [joinL_cons nC, tC]
      simp
    rw [e]
    have hl : C.length ≤ 1000000 := by omega
    constructor
    · simp (decide := true) [-dAdd_ss, -fStr_i, dAdd_ok, f_form_words, b_form_words, List.replicate, at_0, at_1, at_2, mC]
    · have hp : f_law_parts [.tuple [ds (cs "either"), cdat C]] = some (.d (.list (C.map Prod.fst))) := by
        simp (decide := true) [f_law_parts, b_law_parts, List.replicate, atI, ixN]
      have hc := law_words_comp (P := C) c.all (d := .tuple [ds (cs "either"), cdat C])
      simp (decide := true) [-dAdd_ss, -fStr_i, dAdd_ok, f_law_form_words, b_law_form_words, List.replicate, at_0, at_1, at_2, hp, hc, hl, jC]
  | @same a b h h' =>
    have c : Conds [a, b] 2 2 := ⟨by simpa using ⟨h, h'⟩, by simp, by simp⟩
    have mC := many_ok (m := cs " , ") c.all (by simp) (by decide)
    have bC : Bd (joinL (cs " , ") ([a, b].map cw)) 1140 := ⟨many_len c.all (by simp) (by decide)⟩
    have jC := many_join' (m := cs " , ") c.all (by simp) (by decide)
    have tC := many_toks (m := [44]) c.all (conds_ne c (by decide))
    have nC := ctoks_ne (m := [44]) c.all (conds_ne c (by decide))
    have s44 : (32 :: ([44] ++ [32])) = cs " , " := by decide
    rw [s44] at tC
    have e : joinL [32] (cs "same" :: ctoks [44] [a, b]) = cs "same" ++ 32 :: joinL (cs " , ") ([a, b].map cw) := by
      rw [joinL_cons nC, tC]
      simp
    rw [e]
    have s1 : dSl (.tuple [ds (cs "same"), a.1, b.1]) (some 1) none = some (.tuple [a.1, b.1]) := by
      simp [dSl, HT.sIx, cutD]
    constructor
    · have mC' : f_many_words [.tuple [a.1, b.1], ds (cs " , ")] = some (.d (ds (joinL (cs " , ") ([a, b].map cw)))) := mC
      generalize joinL (cs " , ") ([a, b].map cw) = J at *
      simp (decide := true) [-dAdd_ss, -fStr_i, dAdd_ok, f_form_words, b_form_words, List.replicate, at_0, at_1, at_2, mC', s1, sp_same]
    · have hp : f_law_parts [.tuple [ds (cs "same"), a.1, b.1]] = some (.d (.list [a.1, b.1])) := by
        simp (decide := true) [f_law_parts, b_law_parts, List.replicate, atI, ixN]
      have hc := law_words_comp (P := [a, b]) c.all (d := .tuple [ds (cs "same"), a.1, b.1])
      have hc' : compS 2 bYes (eCallP f_law_condition_words (aCons (eNm 2) aNil)) [a.1, b.1] [.d (.tuple [ds (cs "same"), a.1, b.1]), .no, .no] = some ([ds (cw a), ds (cw b)], [.d (.tuple [ds (cs "same"), a.1, b.1]), .no, .no]) := hc
      have jC' : dJoin (ds (cs " , ")) (.list [ds (cw a), ds (cw b)]) = some (ds (joinL (cs " , ") ([a, b].map cw))) := jC
      generalize joinL (cs " , ") ([a, b].map cw) = J at *
      simp (decide := true) [-dAdd_ss, -fStr_i, dAdd_ok, f_law_form_words, b_law_form_words, List.replicate, at_0, at_1, at_2, hp, hc', jC']
end DL

set_option Elab.async false
set_option linter.all false
set_option maxRecDepth 100000
set_option maxHeartbeats 4000000
namespace DL
open PySem PySem.Spec L2 TL

/-! ### lines -/
inductive LineT : D → List Ln → Prop
  | nm {k w : Ln} (hk : k = cs "name" ∨ k = cs "hidden" ∨ k = cs "book") (h : WordT w) : LineT (.tuple [ds k, ds w]) [k, w]
  | rel {w v e tp tq : Ln} {p q : D} (h : WordT w) (hv : VerT v) (he : e = cs "none" ∨ VerT e) (hp : PriceT p tp) (hq : PriceT q tq) :
    LineT (.tuple [ds (cs "release"), ds w, ds v, ds e, p, q]) [cs "release", w, v, cs "after", e, cs "up", tp, cs "down", tq]
  | fea {w o v tp tq : Ln} {p q : D} (h : WordT w) (ho : WordT o) (hv : VerT v) (hp : PriceT p tp) (hq : PriceT q tq) :
    LineT (.tuple [ds (cs "feature"), ds w, ds o, ds v, p, q]) [cs "feature", w, o, cs "from", v, cs "up", tp, cs "down", tq]
  | sta {k n r : Ln} (hk : k = cs "start" ∨ k = cs "later") (h : NameT n) (hr : RelT r) : LineT (.tuple [ds k, ds n, ds r]) [k, n, r]
  | sig {w : Ln} {n : Nat} {a : Ln} {names : List Ln} (h : WordT w) (h1 : 1 ≤ n) (h2 : n ≤ 99) (hn : ∀ x ∈ a :: names, NameT x) (hl : names.length ≤ 7) :
    LineT (.tuple [ds (cs "signer"), ds w, .int n, .tuple ((a :: names).map ds)]) (cs "signer" :: w :: numL n :: [58] :: a :: names)
  | row {f : D} {toks : List Ln} (h : FormT f toks) : LineT (.tuple [ds (cs "row"), f]) (cs "row" :: toks)
  | fin : LineT (.tuple [ds (cs "end")]) [cs "end"]
theorem price_len {d : D} {t : Ln} (h : PriceT d t) : t.length ≤ 10 := by
  rcases h with ⟨_, rfl⟩ | ⟨n, _, _, _, rfl⟩
  · decide
  · exact num_len (by omega)
theorem ver_none {v : Ln} (h : VerT v) : v ≠ cs "none" := by
  rintro rfl
  exact ver_no h (c := 110) (by decide) (by decide)
theorem form_notN {d : D} {toks : List Ln} (h : FormT d toks) : dIsN d = some false := by
  cases h <;> rfl
theorem line_notN {d : D} {toks : List Ln} (h : LineT d toks) : dIsN d = some false := by
  cases h <;> rfl
theorem read_line_ok {d : D} {toks : List Ln} (h : LineT d toks) : f_read_line [.list (toks.map ds)] = some (.d d) := by
  cases h with
  | @nm k w hk h =>
    rcases hk with rfl | rfl | rfl <;> simp (decide := true) [f_read_line, b_read_line, List.replicate, at_0, at_1, at_2, is_word_ok h]
  | @rel w v e tp tq p q h hv he hp hq =>
    have hr : f_read_release [.list ([cs "release", w, v, cs "after", e, cs "up", tp, cs "down", tq].map ds)] = some (.d (.tuple [ds (cs "release"), ds w, ds v, ds e, p, q])) := by
      rcases he with rfl | he
      · simp (decide := true) [f_read_release, b_read_release, List.replicate, at_0, at_1, at_2, at_3, at_4, at_5, at_6, at_7, at_8, is_word_ok h, is_version_ok hv, is_price_ok hp, is_price_ok hq, price_of_ok hp, price_of_ok hq]
      · simp (decide := true) [f_read_release, b_read_release, List.replicate, at_0, at_1, at_2, at_3, at_4, at_5, at_6, at_7, at_8, is_word_ok h, is_version_ok hv, is_version_ok he, ver_none he, is_price_ok hp, is_price_ok hq, price_of_ok hp, price_of_ok hq]
    simp only [List.map_cons, List.map_nil] at hr
    simp (decide := true) [f_read_line, b_read_line, List.replicate, at_0, hr]
  | @fea w o v tp tq p q h ho hv hp hq =>
    have hr : f_read_feature [.list ([cs "feature", w, o, cs "from", v, cs "up", tp, cs "down", tq].map ds)] = some (.d (.tuple [ds (cs "feature"), ds w, ds o, ds v, p, q])) := by
      simp (decide := true) [f_read_feature, b_read_feature, List.replicate, at_0, at_1, at_2, at_3, at_4, at_5, at_6, at_7, at_8, is_word_ok h, is_word_ok ho, is_version_ok hv, is_price_ok hp, is_price_ok hq, price_of_ok hp, price_of_ok hq]
    simp only [List.map_cons, List.map_nil] at hr
    simp (decide := true) [f_read_line, b_read_line, List.replicate, at_0, hr]
  | @sta k n r hk h hr =>
    rcases hk with rfl | rfl <;> simp (decide := true) [f_read_line, b_read_line, List.replicate, at_0, at_1, at_2, is_short_ok h, is_release_ok hr]
  | @sig w n a names h h1 h2 hn hl =>
    have hnum := is_number_ok (n := n) (lo := 1) (hi := 99) (by omega) (by omega) (by omega)
    have hint := fInt_num (n := n) (by omega)
    have loop : ∃ y', forS (gNm 1) (sIf (bNot (bUn truD (eCallP f_is_short_name (aCons (eNm 1) aNil)))) (sRet (eK .none)) sNext) ((a :: names).map ds) [.d (.list ((cs "signer" :: w :: numL n :: [58] :: a :: names).map ds)), .no] = some (.nx ([Sl.d (.list ((cs "signer" :: w :: numL n :: [58] :: a :: names).map ds)), .no].set 1 y')) := by
      refine forS_pass' fun x hx => ?_
      obtain ⟨l, hl, rfl⟩ := List.mem_map.mp hx
      simp [is_short_ok (hn l hl)]
    obtain ⟨y', loop⟩ := loop
    have hlen : ¬ ((names.length : Int) + 1 + 1 + 1 + 1 + 1 < 5) := by omega
    have hr : f_read_signer [.list ((cs "signer" :: w :: numL n :: [58] :: a :: names).map ds)] = some (.d (.tuple [ds (cs "signer"), ds w, .int n, .tuple ((a :: names).map ds)])) := by
      simp at loop
      simp (decide := true) [-fInt_s, f_read_signer, b_read_signer, List.replicate, at_0, at_1, at_2, at_3, is_word_ok h, hnum, hint, hlen, dSl_4, loop]
    simp only [List.map_cons, List.map_nil] at hr
    simp (decide := true) [f_read_line, b_read_line, List.replicate, at_0, hr]
  | @row f toks h =>
    simp (decide := true) [f_read_line, b_read_line, List.replicate, at_0, dSl_1, read_form_ok h, form_notN h]
  | fin =>
    simp (decide := true) [f_read_line, b_read_line, List.replicate, at_0]

/-! ### the words of a line -/
theorem sp_up : cs " up " = 32 :: (cs "up" ++ [32]) := by decide
theorem sp_down : cs " down " = 32 :: (cs "down" ++ [32]) := by decide
theorem sp_after : cs " after " = 32 :: (cs "after" ++ [32]) := by decide
theorem sp_from : cs " from " = 32 :: (cs "from" ++ [32]) := by decide
theorem sp_release : cs "release " = cs "release" ++ [32] := by decide
theorem sp_feature : cs "feature " = cs "feature" ++ [32] := by decide
theorem sp_signer : cs "signer " = cs "signer" ++ [32] := by decide
theorem sp_row : cs "row " = cs "row" ++ [32] := by decide
instance bd_up : Bd (cs "up") 2 := ⟨by decide⟩
instance bd_down : Bd (cs "down") 4 := ⟨by decide⟩
instance bd_after : Bd (cs "after") 5 := ⟨by decide⟩
instance bd_release : Bd (cs "release") 7 := ⟨by decide⟩
instance bd_feature : Bd (cs "feature") 7 := ⟨by decide⟩
instance bd_signer : Bd (cs "signer") 6 := ⟨by decide⟩
instance bd_row : Bd (cs "row") 3 := ⟨by decide⟩
theorem form_len {d : D} {toks : List Ln} (h : FormT d toks) : toks.length ≤ 60 := by
  cases h with
  | @need A B a b =>
    have h1 := ctoks_len (m := cs "and") a.all
    have h2 := ctoks_len (m := cs "or") b.all
    have := a.hi
    have := b.hi
    simp only [List.length_cons, List.length_append]
    omega
  | @cnt k n C hk hn c =>
    have h1 := ctoks_len (m := [44]) c.all
    have := c.hi
    simp only [List.length_cons]
    omega
  | @cl C c =>
    have h1 := ctoks_len (m := [44]) c.all
    have := c.hi
    simp only [List.length_cons]
    omega
  | @ei C c =>
    have h1 := ctoks_len (m := [44]) c.all
    have := c.hi
    simp only [List.length_cons]
    omega
  | @same a b h h' =>
    have h1 := ctoks_len (m := [44]) (cds := [a, b]) (by simpa using ⟨h, h'⟩)
    simp only [List.length_cons, List.length_nil] at h1 ⊢
    omega
theorem toks_len {toks : List Ln} (h : ∀ t ∈ toks, TokB t) : (joinL [32] toks).length ≤ toks.length * 26 := joinL_len (m := [32]) (k := 25) fun p hp => (h p hp).len
theorem line_words_ok {d : D} {toks : List Ln} (h : LineT d toks) : f_line_words [d] = some (.d (ds (joinL [32] toks))) ∧ f_law_line_words [d] = some (.d (ds (joinL [32] toks))) := by
  cases h with
  | @nm k w hk h =>
    have bw := h.len
    have j : dJoin (ds [32]) (.tuple ([k, w].map ds)) = some (ds (joinL [32] [k, w])) := dJoin_tk 12 (by
      intro p hp
      simp at hp
      rcases hp with rfl | rfl
      · rcases hk with rfl | rfl | rfl <;> decide
      · exact bw) (by simp)
    simp only [List.map_cons, List.map_nil] at j
    rcases hk with rfl | rfl | rfl <;> constructor <;> simp (decide := true) [f_line_words, b_line_words, f_law_line_words, b_law_line_words, List.replicate, at_0, j]
  | @rel w v e tp tq p q h hv he hp hq =>
    have b1 : Bd w 12 := ⟨h.len⟩
    have b2 : Bd v 12 := ⟨ver_len hv⟩
    have b3 : Bd e 12 := ⟨by
      rcases he with rfl | he
      · decide
      · exact ver_len he⟩
    have b4 : Bd tp 10 := ⟨price_len hp⟩
    have b5 : Bd tq 10 := ⟨price_len hq⟩
    have e1 := (price_word_ok hp).1
    have e2 := (price_word_ok hp).2
    have e3 := (price_word_ok hq).1
    have e4 := (price_word_ok hq).2
    constructor
    · simp (decide := true) [-dAdd_ss, dAdd_ok, f_line_words, b_line_words, List.replicate, at_0, at_1, at_2, at_3, at_4, at_5, e1, e3, sp_up, sp_down, sp_after, sp_release, joinL]
    · have s3 : dSl (.tuple [ds (cs "release"), ds w, ds v, ds e, p, q]) none (some 3) = some (.tuple ([cs "release", w, v].map ds)) := by
        simp [dSl, HT.sIx, cutD]
      have j : dJoin (ds [32]) (.tuple ([cs "release", w, v].map ds)) = some (ds (joinL [32] [cs "release", w, v])) := dJoin_tk 12 (by
        intro p hp
        simp at hp
        rcases hp with rfl | rfl | rfl
        · decide
        · exact b1.le
        · exact b2.le) (by simp)
      simp only [List.map_cons, List.map_nil, joinL] at j s3
      simp (decide := true) [-dAdd_ss, dAdd_ok, f_law_line_words, b_law_line_words, List.replicate, at_0, at_1, at_2, at_3, at_4, at_5, e2, e4, sp_up, sp_down, sp_after, joinL, s3, j]
  | @fea w o v tp tq p q h ho hv hp hq =>
    have b1 : Bd w 12 := ⟨h.len⟩
    have b2 : Bd v 12 := ⟨ver_len hv⟩
    have b3 : Bd o 12 := ⟨ho.len⟩
    have b4 : Bd tp 10 := ⟨price_len hp⟩
    have b5 : Bd tq 10 := ⟨price_len hq⟩
    have e1 := (price_word_ok hp).1
    have e2 := (price_word_ok hp).2
    have e3 := (price_word_ok hq).1
    have e4 := (price_word_ok hq).2
    constructor
    · simp (decide := true) [-dAdd_ss, dAdd_ok, f_line_words, b_line_words, List.replicate, at_0, at_1, at_2, at_3, at_4, at_5, e1, e3, sp_up, sp_down, sp_from, sp_feature, joinL]
    · have s3 : dSl (.tuple [ds (cs "feature"), ds w, ds o, ds v, p, q]) none (some 3) = some (.tuple ([cs "feature", w, o].map ds)) := by
        simp [dSl, HT.sIx, cutD]
      have j : dJoin (ds [32]) (.tuple ([cs "feature", w, o].map ds)) = some (ds (joinL [32] [cs "feature", w, o])) := dJoin_tk 12 (by
        intro p hp
        simp at hp
        rcases hp with rfl | rfl | rfl
        · decide
        · exact b1.le
        · exact b3.le) (by simp)
      simp only [List.map_cons, List.map_nil, joinL] at j s3
      simp (decide := true) [-dAdd_ss, dAdd_ok, f_law_line_words, b_law_line_words, List.replicate, at_0, at_1, at_2, at_3, at_4, at_5, e2, e4, sp_up, sp_down, sp_from, joinL, s3, j]
  | @sta k n r hk h hr =>
    have j : dJoin (ds [32]) (.tuple ([k, n, r].map ds)) = some (ds (joinL [32] [k, n, r])) := dJoin_tk 25 (by
      intro p hp
      simp at hp
      rcases hp with rfl | rfl | rfl
      · rcases hk with rfl | rfl <;> decide
      · exact name_len h
      · have := rel_len hr; omega) (by simp)
    simp only [List.map_cons, List.map_nil] at j
    rcases hk with rfl | rfl <;> constructor <;> simp (decide := true) [f_line_words, b_line_words, f_law_line_words, b_law_line_words, List.replicate, at_0, j]
  | @sig w n a names h h1 h2 hn hl =>
    have b1 : Bd w 12 := ⟨h.len⟩
    have b2 : Bd (numL n) 10 := ⟨num_len (by omega)⟩
    have fn := fStr_nat (n := n) (by omega)
    have j : dJoin (ds [32]) (.tuple ((a :: names).map ds)) = some (ds (joinL [32] (a :: names))) := dJoin_tk 25 (fun p hp => name_len (hn p hp)) (by simp; omega)
    have b3 : Bd (joinL [32] (a :: names)) 208 := ⟨by
      have := joinL_len (m := [32]) (k := 25) (ps := a :: names) fun p hp => name_len (hn p hp)
      simp only [List.length_cons, List.length_nil] at this
      omega⟩
    have e : joinL [32] (cs "signer" :: w :: numL n :: [58] :: a :: names) = cs "signer" ++ 32 :: (w ++ 32 :: (numL n ++ 32 :: 58 :: 32 :: joinL [32] (a :: names))) := by
      rw [joinL_cons (by simp), joinL_cons (by simp), joinL_cons (by simp), joinL_cons (by simp)]
      simp
    rw [e]
    simp only [List.map_cons] at j
    generalize joinL [32] (a :: names) = J at *
    constructor <;> simp (decide := true) [-dAdd_ss, -fStr_i, dAdd_ok, f_line_words, b_line_words, f_law_line_words, b_law_line_words, List.replicate, at_0, at_1, at_2, at_3, fn, sp_signer, sp_col, j]
  | @row f toks h =>
    have hw := form_words_ok h
    have ht := form_toks h
    have b1 : Bd (joinL [32] toks) 1560 := ⟨by
      have h1 := toks_len ht.1
      have h2 := form_len h
      omega⟩
    rw [joinL_cons ht.2]
    constructor <;> simp (decide := true) [-dAdd_ss, dAdd_ok, f_line_words, b_line_words, f_law_line_words, b_law_line_words, List.replicate, at_0, at_1, hw.1, hw.2, sp_row]
  | fin =>
    have j : dJoin (ds [32]) (.tuple ([cs "end"].map ds)) = some (ds (joinL [32] [cs "end"])) := dJoin_tk 25 (by simp; decide) (by simp)
    simp only [List.map_cons, List.map_nil] at j
    constructor <;> simp (decide := true) [f_line_words, b_line_words, f_law_line_words, b_law_line_words, List.replicate, at_0, j]
theorem line_toks {d : D} {toks : List Ln} (h : LineT d toks) : (∀ t ∈ toks, TokB t) ∧ (∃ t r, toks = t :: r ∧ t ∈ firstL) ∧ toks.length ≤ 61 := by
  have tn (n : Nat) (h : n < 10 ^ 10) : TokB (numL n) := ⟨by have := num_len h; omega, numL_ne n, fun c hc => .inr (.inl (num_fig hc))⟩
  have tp {d : D} {t : Ln} (h : PriceT d t) : TokB t := by
    rcases h with ⟨_, rfl⟩ | ⟨n, _, _, _, rfl⟩
    · exact ⟨by decide, by decide, by decide⟩
    · exact tn n (by omega)
  have t1 : TokB (cs "after") := ⟨by decide, by decide, by decide⟩
  have t2 : TokB (cs "up") := ⟨by decide, by decide, by decide⟩
  have t3 : TokB (cs "down") := ⟨by decide, by decide, by decide⟩
  have t4 : TokB (cs "from") := ⟨by decide, by decide, by decide⟩
  have t5 : TokB [58] := ⟨by decide, by decide, by decide⟩
  have t6 : TokB (cs "none") := ⟨by decide, by decide, by decide⟩
  have f : ∀ t ∈ firstL, TokB t := by
    intro t ht
    refine ⟨?_, ?_, ?_⟩
    · have : ∀ t ∈ firstL, t.length ≤ 25 := by decide
      exact this t ht
    · have : ∀ t ∈ firstL, t ≠ [] := by decide
      exact this t ht
    · have : ∀ t ∈ firstL, ∀ c ∈ t, Sg c := by decide
      exact this t ht
  cases h with
  | @nm k w hk h =>
    have hk' : k ∈ firstL := by rcases hk with rfl | rfl | rfl <;> decide
    exact ⟨by simpa using ⟨f k hk', word_tokB h⟩, ⟨_, _, rfl, hk'⟩, by simp⟩
  | @rel w v e tp' tq p q h hv he hp hq =>
    have te : TokB e := by
      rcases he with rfl | he
      · exact t6
      · exact ver_tokB he
    exact ⟨by simpa using ⟨f _ (by decide), word_tokB h, ver_tokB hv, t1, te, t2, tp hp, t3, tp hq⟩, ⟨_, _, rfl, by decide⟩, by simp⟩
  | @fea w o v tp' tq p q h ho hv hp hq =>
    exact ⟨by simpa using ⟨f _ (by decide), word_tokB h, word_tokB ho, t4, ver_tokB hv, t2, tp hp, t3, tp hq⟩, ⟨_, _, rfl, by decide⟩, by simp⟩
  | @sta k n r hk h hr =>
    have hk' : k ∈ firstL := by rcases hk with rfl | rfl <;> decide
    exact ⟨by simpa using ⟨f k hk', name_tokB h, (rel_ctok hr).b⟩, ⟨_, _, rfl, hk'⟩, by simp⟩
  | @sig w n a names h h1 h2 hn hl =>
    refine ⟨?_, ⟨_, _, rfl, by decide⟩, by simp; omega⟩
    intro t ht
    simp only [List.mem_cons] at ht
    rcases ht with rfl | rfl | rfl | rfl | ht
    · exact f _ (by decide)
    · exact word_tokB h
    · exact tn n (by omega)
    · exact t5
    · exact name_tokB (hn t (by simpa using ht))
  | @row f' toks h =>
    refine ⟨?_, ⟨_, _, rfl, by decide⟩, by have := form_len h; simp only [List.length_cons]; omega⟩
    intro t ht
    rcases List.mem_cons.mp ht with rfl | ht
    · exact f _ (by decide)
    · exact (form_toks h).1 t ht
  | fin => exact ⟨by simpa using f _ (by decide), ⟨_, _, rfl, by decide⟩, by simp⟩
end DL

set_option Elab.async false
set_option linter.all false
set_option maxRecDepth 100000
set_option maxHeartbeats 4000000
namespace DL
open PySem PySem.Spec L2 TL

/-! ### the row of a line -/
def nd : Bool → List Nat → Bool
  | _, [] => true
  | b, c :: r => !(b && c == 32) && nd (c == 32) r
theorem nd_bad : ∀ (u v : List Nat) (b : Bool), nd b (u ++ 32 :: 32 :: v) = false
  | [], v, b => by simp [nd]
  | c :: r, v, b => by simp [nd, nd_bad r v]
theorem nd_free : ∀ (p l : List Nat) (b : Bool), p ≠ [] → 32 ∉ p → nd b (p ++ l) = nd false l
  | [c], l, b, _, h => by
    have hc : (c == 32) = false := beq_eq_false_iff_ne.mpr fun e => h (by simp [e])
    simp [nd, hc]
  | c :: d :: r, l, b, _, h => by
    have hc : (c == 32) = false := beq_eq_false_iff_ne.mpr fun e => h (by simp [e])
    have := nd_free (d :: r) l false (by simp) fun m => h (List.mem_cons_of_mem _ m)
    simp only [List.cons_append] at this ⊢
    rw [nd]
    simp [hc, this]
theorem sg_no {t : Ln} (h : TokB t) {c : Nat} (hc : ¬ Sg c) : c ∉ t := fun m => hc (h.all c m)
theorem nd_join : ∀ {toks : List Ln} (b : Bool), (∀ t ∈ toks, TokB t) → toks ≠ [] → nd b (joinL [32] toks) = true
  | [t], b, h, _ => by
    have ht := h t List.mem_cons_self
    have := nd_free t [] b ht.ne (sg_no ht (by decide))
    rw [List.append_nil] at this
    show nd b t = true
    rw [this]
    rfl
  | t :: u :: r, b, h, _ => by
    have ht := h t List.mem_cons_self
    show nd b (t ++ ([32] ++ joinL [32] (u :: r))) = true
    rw [nd_free t _ b ht.ne (sg_no ht (by decide))]
    show nd false (32 :: joinL [32] (u :: r)) = true
    simp [nd, nd_join (toks := u :: r) true (fun x hx => h x (List.mem_cons_of_mem _ hx)) (by simp)]
theorem join_last : ∀ {toks : List Ln}, (∀ t ∈ toks, TokB t) → toks ≠ [] → ∃ u c, joinL [32] toks = u ++ [c] ∧ Sg c
  | [t], h, _ => by
    have ht := h t List.mem_cons_self
    refine ⟨t.dropLast, t.getLast ht.ne, (List.dropLast_concat_getLast ht.ne).symm, ht.all _ (List.getLast_mem ht.ne)⟩
  | t :: u :: r, h, _ => by
    obtain ⟨p, c, e, hc⟩ := join_last (toks := u :: r) (fun x hx => h x (List.mem_cons_of_mem _ hx)) (by simp)
    refine ⟨t ++ ([32] ++ p), c, ?_, hc⟩
    show t ++ ([32] ++ joinL [32] (u :: r)) = _
    rw [e]
    simp
theorem join_first {toks : List Ln} (h : ∀ t ∈ toks, TokB t) (hne : toks ≠ []) : ∃ c r, joinL [32] toks = c :: r ∧ Sg c := by
  cases toks with
  | nil => exact absurd rfl hne
  | cons t r =>
    have ht := h t List.mem_cons_self
    cases ht' : t with
    | nil => exact absurd ht' ht.ne
    | cons c q =>
      have hc : Sg c := ht.all c (by rw [ht']; exact List.mem_cons_self)
      cases r with
      | nil => exact ⟨c, q, rfl, hc⟩
      | cons u s => exact ⟨c, q ++ ([32] ++ joinL [32] (u :: s)), rfl, hc⟩
theorem join_all {toks : List Ln} (h : ∀ t ∈ toks, TokB t) : ∀ c ∈ joinL [32] toks, Sg c ∨ c = 32 := fun c hc => by
  rcases mem_joinL hc with ⟨p, hp, hc⟩ | hc
  · exact .inl ((h p hp).all c hc)
  · exact .inr (by simpa using hc)
theorem drop_two {l : List Nat} {i a b : Nat} (h : (l.drop i).take 2 = [a, b]) : ∃ u v, l = u ++ a :: b :: v := by
  refine ⟨l.take i, (l.drop i).drop 2, ?_⟩
  have h1 : l = l.take i ++ l.drop i := (List.take_append_drop i l).symm
  have h2 : l.drop i = (l.drop i).take 2 ++ (l.drop i).drop 2 := (List.take_append_drop 2 _).symm
  rw [h] at h2
  conv => lhs; rw [h1, h2]
  simp
theorem no_double {l : List Nat} (h : nd false l = true) : dIn (ds [32, 32]) (ds l) = some false := by
  show some (!(Builtin.Str.occurrences ⟨l.toArray⟩ ⟨[32, 32].toArray⟩ 0 (⟨l.toArray⟩ : Str).length 1).isEmpty) = some false
  congr 1
  rw [Bool.eq_false_iff]
  intro e
  obtain ⟨i, hi, hs⟩ := (StrLaws.found_iff _ _).mp e
  rw [StrLaws.subAt_eq] at hs
  have hs' : (l.drop i).take 2 = [32, 32] := eq_of_beq hs
  obtain ⟨u, v, rfl⟩ := drop_two hs'
  rw [nd_bad] at h
  cases h
theorem cs_2bl : cs "  " = [32, 32] := by decide
theorem dIn_sg {c : Nat} (h : Sg c ∨ c = 32) : dIn (ds [c]) k_SIGNS = some true := by
  unfold k_SIGNS
  rw [dIn_one, codes_mk, in_signs, decide_eq_true]
  rcases h with (h | h | h | h | h | h) | h
  · exact .inl h
  · exact .inr (.inl h)
  · exact .inr (.inr (.inr (.inl h)))
  · exact .inr (.inr (.inr (.inr (.inl h))))
  · exact .inr (.inr (.inr (.inr (.inr (.inl h)))))
  · exact .inr (.inr (.inr (.inr (.inr (.inr h)))))
  · exact .inr (.inr (.inl h))
/-- what a row's text is -/
structure RowT (d : D) (r : Ln) : Prop where
  line : ∃ toks, LineT d toks ∧ r = joinL [32] toks
  len : r.length ≤ 400
theorem row_ne {d : D} {r : Ln} (h : RowT d r) : r ≠ [] := by
  obtain ⟨toks, h1, rfl⟩ := h.line
  have ht := line_toks h1
  obtain ⟨t, q, e, _⟩ := ht.2.1
  obtain ⟨c, q, e, _⟩ := join_first ht.1 (by rw [e]; simp)
  rw [e]
  simp
theorem row_nl {d : D} {r : Ln} (h : RowT d r) : 10 ∉ r := by
  obtain ⟨toks, h1, rfl⟩ := h.line
  intro hm
  rcases join_all (line_toks h1).1 10 hm with h | h
  · exact absurd h (by decide)
  · exact absurd h (by decide)
theorem sign_fault_ok {d : D} {r : Ln} (h : RowT d r) : f_sign_fault [ds r] = some (.d (ds [])) := by
  have hlen := h.len
  have hs := szl
  obtain ⟨toks, h1, rfl⟩ := h.line
  have ht := line_toks h1
  have hne : toks ≠ [] := by
    obtain ⟨t, q, e, _⟩ := ht.2.1
    rw [e]; simp
  have hall := join_all ht.1
  have hnd := no_double (nd_join false ht.1 hne)
  obtain ⟨u, c, eu, hc⟩ := join_last ht.1 hne
  obtain ⟨c', q, eq, hc'⟩ := join_first ht.1 hne
  generalize joinL [32] toks = R at *
  have hc1 : c ≠ 32 := by rintro rfl; exact absurd hc (by decide)
  have hc2 : c' ≠ 32 := by rintro rfl; exact absurd hc' (by decide)
  have loop : ∃ y', forS (gNm 1) (sIf (bBin dNotIn (eNm 1) (eK k_SIGNS)) (sRet (eK (ds (cs "sign")))) sNext) (R.map fun c => ds [c]) [.d (ds R), .no] = some (.nx ([Sl.d (ds R), .no].set 1 y')) := by
    refine forS_pass' fun x hx => ?_
    obtain ⟨c, hc, rfl⟩ := mem_chars hx
    simp [dIn_sg (hall c hc)]
  obtain ⟨y', loop⟩ := loop
  have hR : R ≠ [] := by rw [eq]; simp
  have hz : R.length ≤ sizeLine := by omega
  have a0 : dIx (ds R) (.int 0) = some (ds [c']) := by
    rw [dIx_s, codes_mk, if_pos hz, at_0, eq]; rfl
  have a1 : dIx (ds R) (.int (-1)) = some (ds [c]) := by
    rw [dIx_s, codes_mk, if_pos hz, eu, at_l]; rfl
  simp [-dIx_s, f_sign_fault, b_sign_fault, List.replicate, hR, loop, a0, a1, hc1, hc2, cs_2bl, hnd]
theorem row_split {d : D} {r : Ln} (h : RowT d r) : ∃ toks, LineT d toks ∧ (Txt.split (⟨r.toArray⟩ : Str) (⟨[32].toArray⟩ : Str)).map PyData.str = toks.map ds := by
  obtain ⟨toks, h1, rfl⟩ := h.line
  have ht := line_toks h1
  refine ⟨toks, h1, splitD (by decide) ?_ fun p hp => sg_no (ht.1 p hp) (by decide)⟩
  obtain ⟨t, q, e, _⟩ := ht.2.1
  rw [e]; simp

/-! ### texts of rows -/
theorem lim_lines : dTab k_LIMITS (ds (cs "lines")) = some (.int 900) := by
  have e : k_LIMITS.lookup (cs "lines") = some 900 := by decide
  show (k_LIMITS.lookup (codes ⟨(cs "lines").toArray⟩)).map PyData.int = _
  rw [codes_mk, e]
  rfl
theorem lim_signs : dTab k_LIMITS (ds (cs "signs")) = some (.int 400) := by
  have e : k_LIMITS.lookup (cs "signs") = some 400 := by decide
  show (k_LIMITS.lookup (codes ⟨(cs "signs").toArray⟩)).map PyData.int = _
  rw [codes_mk, e]
  rfl
theorem bound_lines {n : Nat} (h : n ≤ 900) : f_bound_check [ds (cs "lines"), .int n] = some (.d .none) := by
  have h' : ¬ (900 : Int) < n := by omega
  simp [f_bound_check, b_bound_check, lim_lines, h']
theorem bound_signs {n : Nat} (h : n ≤ 400) : f_bound_check [ds (cs "signs"), .int n] = some (.d .none) := by
  have h' : ¬ (400 : Int) < n := by omega
  simp [f_bound_check, b_bound_check, lim_signs, h']
/-- texts that hold these rows: with the last line feed, or without it -/
def TextT (rows : List Ln) (t : Ln) : Prop := t = joinL [10] (rows ++ [[]]) ∨ (rows ≠ [] ∧ t = joinL [10] rows)
theorem text_rows_ok {rows : List Ln} {t : Ln} (h : TextT rows t) (hn : ∀ r ∈ rows, 10 ∉ r ∧ r ≠ []) (hl : t.length ≤ 1000000) : f_text_rows [ds t] = some (.d (.list (rows.map ds))) := by
  have hs := szl
  have hz : t.length + 2 ≤ sizeLine := by omega
  rcases h with rfl | ⟨hne, rfl⟩
  · have sp := splitD (s := 10) (by decide) (parts := rows ++ [[]]) (by simp) fun p hp => by
      rcases List.mem_append.mp hp with hp | hp
      · exact (hn p hp).1
      · simp at hp; simp [hp]
    simp only [f_text_rows, b_text_rows, runP_ap, startD_ap, List.length_cons, List.length_nil, if_true, List.map_cons, List.map_nil, List.replicate, Nat.sub_self, List.append_nil, sSeq_ap, sSet_ap, eFz_ap, oSplit_ap, eNm_ap, eK_ap, cs_nl, codes_mk, List.nil_append, List.cons_append, List.getElem?_cons_zero, Option.bind_some, sp]
    simp [hz, at_l, dSl_l]
  · have sp := splitD (s := 10) (by decide) (parts := rows) hne fun p hp => (hn p hp).1
    obtain ⟨u, c, e⟩ : ∃ u c, rows = u ++ [c] := ⟨rows.dropLast, rows.getLast hne, (List.dropLast_concat_getLast hne).symm⟩
    have hc : c ≠ [] := (hn c (by rw [e]; simp)).2
    simp only [f_text_rows, b_text_rows, runP_ap, startD_ap, List.length_cons, List.length_nil, if_true, List.map_cons, List.map_nil, List.replicate, Nat.sub_self, List.append_nil, sSeq_ap, sSet_ap, eFz_ap, oSplit_ap, eNm_ap, eK_ap, cs_nl, codes_mk, List.nil_append, List.cons_append, List.getElem?_cons_zero, Option.bind_some, sp]
    rw [e] at hz ⊢
    simp [hz, at_l, dSl_l, hc]
theorem checked_rows_ok {rows : List Ln} {t : Ln} (h : TextT rows t) (hn : ∀ r ∈ rows, 10 ∉ r ∧ r ≠ []) (hl : t.length ≤ 1000000) (h9 : rows.length ≤ 900) (h4 : ∀ r ∈ rows, r.length ≤ 400) : f_checked_rows [ds t] = some (.d (.list (rows.map ds))) := by
  have hs := szl
  have loop : ∃ y', forS (gNm 2) (sDrop (eCallP f_bound_check (aCons (eK (ds (cs "signs"))) (aCons (eCall fLen (aCons (eNm 2) aNil)) aNil)))) (rows.map ds) [.d (ds t), .d (.list (rows.map ds)), .no] = some (.nx ([Sl.d (ds t), .d (.list (rows.map ds)), .no].set 2 y')) := by
    refine forS_pass' fun x hx => ?_
    obtain ⟨r, hr, rfl⟩ := List.mem_map.mp hx
    have hb := bound_signs (h4 r hr)
    have hz : r.length ≤ sizeLine := by have := h4 r hr; omega
    simp [hz, hb]
  obtain ⟨y', loop⟩ := loop
  have hb := bound_lines h9
  simp [f_checked_rows, b_checked_rows, List.replicate, text_rows_ok h hn hl, hb] at loop ⊢
  simp [loop]
/-- the lines of a text with their rows -/
def LinesT (L : List (D × Ln)) : Prop := (∀ x ∈ L, RowT x.1 x.2) ∧ L.length ≤ 100
def rlBody : SS := (sSeq (sSet 5 (eCallP f_sign_fault (aCons (eNm 4) aNil)))
  (sSeq (sIf (bBin dNe (eNm 5) (eK (ds (cs ""))))
  sNone
  sNext)
  (sSeq (sSet 6 (eFz (oSplit (eNm 4) (eK (ds (cs " "))))))
  (sSeq (sIf (bBin dNotIn (eBin dIx (eNm 6) (eK (.int 0))) (eK k_FIRST_WORDS))
  sNone
  sNext)
  (sSeq (sSet 7 (eCallP f_read_line (aCons (eNm 6) aNil)))
  (sSeq (sIf (bUn dIsN (eNm 7))
  sNone
  sNext)
  (sApp 2 (eNm 7))))))))
theorem read_lines_loop {a b : Sl} : ∀ (L : List (D × Ln)), (∀ x ∈ L, RowT x.1 x.2) → ∀ (k : Nat) (acc : List D) (y3 y4 y5 y6 y7 : Sl), acc.length + L.length < 10000 → ∃ z3 z4 z5 z6 z7,
    forS (gTupD (gsCons (gNm 3) (gsCons (gNm 4) gsNil))) rlBody (enums k (L.map fun x => ds x.2)) [a, b, .own acc, y3, y4, y5, y6, y7] = some (.nx [a, b, .own (acc ++ L.map Prod.fst), z3, z4, z5, z6, z7])
  | [], _, k, acc, y3, y4, y5, y6, y7, _ => ⟨y3, y4, y5, y6, y7, by simp [enums]⟩
  | x :: r, h, k, acc, y3, y4, y5, y6, y7, hl => by
    have hx := h x List.mem_cons_self
    obtain ⟨toks, h1, hsp⟩ := row_split hx
    have hlen := hx.len
    have hs := szl
    have hz : x.2.length + 2 ≤ sizeLine := by omega
    obtain ⟨t0, r0, e0, hf⟩ := (line_toks h1).2.1
    have hrl := read_line_ok h1
    have hN := line_notN h1
    have hsf := sign_fault_ok hx
    simp only [List.length_cons] at hl
    obtain ⟨z3, z4, z5, z6, z7, e⟩ := read_lines_loop r (fun q hq => h q (List.mem_cons_of_mem _ hq)) (k + 1) (acc ++ [x.1]) (.d (.int k)) (.d (ds x.2)) (.d (ds [])) (.d (.list (toks.map ds))) (.d x.1) (by simp; omega)
    refine ⟨z3, z4, z5, z6, z7, ?_⟩
    have hacc : acc.length < 16000000 := by omega
    have h0 : dIx (.list (toks.map ds)) (.int 0) = some (ds t0) := by rw [dIx_l, at_0, e0]; rfl
    have hb : rlBody [a, b, .own acc, .d (.int k), .d (ds x.2), y5, y6, y7] = some (.nx [a, b, .own (acc ++ [x.1]), .d (.int k), .d (ds x.2), .d (ds []), .d (.list (toks.map ds)), .d x.1]) := by
      simp [-dIx_l, rlBody, hsf, hsp, hz, h0, first_eq, dIn_t, hf, hrl, hN, hacc]
    rw [List.map_cons, enums, forS_cons]
    simp [hb]
    rw [e]
    simp
theorem read_lines_ok {L : List (D × Ln)} (h : LinesT L) {t : Ln} (ht : TextT (L.map Prod.snd) t) (hl : t.length ≤ 1000000) : f_read_lines [ds t] = some (.o (L.map Prod.fst)) := by
  have hc := checked_rows_ok ht (fun r hr => by
    obtain ⟨x, hx, rfl⟩ := List.mem_map.mp hr
    exact ⟨row_nl (h.1 x hx), row_ne (h.1 x hx)⟩) hl (by rw [List.length_map]; have := h.2; omega) (fun r hr => by
    obtain ⟨x, hx, rfl⟩ := List.mem_map.mp hr
    exact (h.1 x hx).len)
  have e : (L.map Prod.snd).map ds = L.map fun x => ds x.2 := by rw [List.map_map]; rfl
  rw [e] at hc
  obtain ⟨z3, z4, z5, z6, z7, eL⟩ := read_lines_loop (a := .d (ds t)) (b := .d (.list (L.map fun x => ds x.2))) L h.1 0 [] .no .no .no .no .no (by have := h.2; simp; omega)
  have eB : b_read_lines = sSeq (sSet 1 (eCallP f_checked_rows (aCons (eNm 0) aNil))) (sSeq (sSetO 2 (oLst aNil)) (sSeq (sFor (gTupD (gsCons (gNm 3) (gsCons (gNm 4) gsNil))) (iEnu (aCons (eNm 1) aNil)) rlBody) (sRetO (oNm 2)))) := rfl
  simp [f_read_lines, eB, List.replicate, hc] at eL ⊢
  simp [eL]
end DL

set_option Elab.async false
set_option linter.all false
set_option maxRecDepth 100000
set_option maxHeartbeats 4000000
namespace DL
open PySem PySem.Spec L2 TL

/-! ### printing -/
theorem row_words {d : D} {r : Ln} (h : RowT d r) : f_line_words [d] = some (.d (ds r)) ∧ f_law_line_words [d] = some (.d (ds r)) := by
  obtain ⟨toks, h1, rfl⟩ := h.line
  exact line_words_ok h1
theorem join_nl : ∀ rows : List Ln, joinL [] (rows.map fun r => r ++ [10]) = joinL [10] (rows ++ [[]])
  | [] => rfl
  | [r] => by
    show r ++ [10] = r ++ ([10] ++ [])
    rfl
  | r :: q :: s => by
    show (r ++ [10]) ++ ([] ++ joinL [] ((q :: s).map fun r => r ++ [10])) = r ++ ([10] ++ joinL [10] ((q :: s) ++ [[]]))
    rw [join_nl (q :: s)]
    simp
theorem join_nl' {rows : List Ln} (h : rows ≠ []) : joinL [10] (rows ++ [[]]) = joinL [10] rows ++ [10] := by
  rw [joinL_app h (by simp)]
  show joinL [10] rows ++ [10] ++ [] = _
  rw [List.append_nil]
abbrev textL (L : List (D × Ln)) : Ln := joinL [10] (L.map Prod.snd ++ [[]])
theorem text_len {L : List (D × Ln)} (h : LinesT L) : (textL L).length ≤ 50000 := by
  have h1 := joinL_len (m := [10]) (k := 400) (ps := L.map Prod.snd ++ [[]]) fun p hp => by
    rcases List.mem_append.mp hp with hp | hp
    · obtain ⟨x, hx, rfl⟩ := List.mem_map.mp hp
      exact (h.1 x hx).len
    · simp at hp; simp [hp]
  have h2 := h.2
  rw [List.length_append, List.length_map] at h1
  exact Nat.le_trans h1 (Nat.le_trans (Nat.mul_le_mul_right _ (show L.length + [([] : Ln)].length ≤ 101 from Nat.succ_le_succ h2)) (by decide))
theorem show_join {L : List (D × Ln)} (h : LinesT L) : dJoin (ds []) (.list (L.map fun x => ds (x.2 ++ [10]))) = some (ds (textL L)) := by
  have j := dJoin_lk (m := []) (parts := L.map fun x => x.2 ++ [10]) 401 (fun p hp => by
    obtain ⟨x, hx, rfl⟩ := List.mem_map.mp hp
    have := (h.1 x hx).len
    simp
    omega) (by rw [List.length_map]; have := h.2; simp; omega)
  rw [List.map_map] at j
  have e := join_nl (L.map Prod.snd)
  rw [List.map_map] at e
  have e' : (L.map fun x => x.2 ++ [10]) = L.map ((fun r => r ++ [10]) ∘ Prod.snd) := rfl
  rw [e', e] at j
  exact j
theorem law_show_ok {L : List (D × Ln)} (h : LinesT L) : f_law_show [.list (L.map Prod.fst)] = some (.d (ds (textL L))) := by
  have e := compS_map (i := 1) (f := eBin dAdd (eCallP f_law_line_words (aCons (eNm 1) aNil)) (eK (ds (cs "\n")))) (st := [.d (.list (L.map Prod.fst)), .no]) (a := Prod.fst) (b := fun x => ds (x.2 ++ [10])) (items := L) fun x hx => by
    have b1 : Bd x.2 400 := ⟨(h.1 x hx).len⟩
    simp [-dAdd_ss, dAdd_ok, (row_words (h.1 x hx)).2]
  have hl : L.length ≤ 1000000 := by have := h.2; omega
  have j := show_join h
  simp at e
  simp [f_law_show, b_law_show, List.replicate, e, hl, j]
theorem print_list_ok {L : List (D × Ln)} (h : LinesT L) : f_print_lines [.list (L.map Prod.fst)] = some (.d (ds (textL L))) := by
  have e := compS_map (i := 1) (f := eBin dAdd (eCallP f_line_words (aCons (eNm 1) aNil)) (eK (ds (cs "\n")))) (st := [.d (.list (L.map Prod.fst)), .no]) (a := Prod.fst) (b := fun x => ds (x.2 ++ [10])) (items := L) fun x hx => by
    have b1 : Bd x.2 400 := ⟨(h.1 x hx).len⟩
    simp [-dAdd_ss, dAdd_ok, (row_words (h.1 x hx)).1]
  have hl : L.length ≤ 1000000 := by have := h.2; omega
  have j := show_join h
  simp at e
  simp [f_print_lines, b_print_lines, List.replicate, e, hl, j]
theorem print_tuple_ok {L : List (D × Ln)} (h : LinesT L) : f_print_lines [.tuple (L.map Prod.fst)] = some (.d (ds (textL L))) := by
  have e := compS_map (i := 1) (f := eBin dAdd (eCallP f_line_words (aCons (eNm 1) aNil)) (eK (ds (cs "\n")))) (st := [.d (.tuple (L.map Prod.fst)), .no]) (a := Prod.fst) (b := fun x => ds (x.2 ++ [10])) (items := L) fun x hx => by
    have b1 : Bd x.2 400 := ⟨(h.1 x hx).len⟩
    simp [-dAdd_ss, dAdd_ok, (row_words (h.1 x hx)).1]
  have hl : L.length ≤ 1000000 := by have := h.2; omega
  have j := show_join h
  simp at e
  simp [f_print_lines, b_print_lines, List.replicate, e, hl, j]

/-! ### _law_same -/
@[simp] theorem dEq_bb {x y : Bool} : dEq (.bool x) (.bool y) = some (decide (x = y)) := by cases x <;> cases y <;> rfl
theorem dEq_nn : dEq .none .none = some true := rfl
inductive Sm : Nat → D → Prop
  | i {n : Nat} {i : Int} : Sm (n + 1) (.int i)
  | s {n : Nat} {l : Ln} : Sm (n + 1) (ds l)
  | no {n : Nat} : Sm (n + 1) .none
  | t {n : Nat} {xs : List D} (h : ∀ x ∈ xs, Sm n x) (hl : xs.length ≤ 1000000) : Sm (n + 1) (.tuple xs)
  | l {n : Nat} {xs : List D} (h : ∀ x ∈ xs, Sm n x) (hl : xs.length ≤ 1000000) : Sm (n + 1) (.list xs)
theorem bools_true {α : Type} : ∀ l : List α, bools (l.map fun _ => PyData.bool true) = some (l.map fun _ => true)
  | [] => rfl
  | a :: r => by
    show (bools (r.map fun _ => PyData.bool true)).map _ = _
    rw [bools_true r]
    rfl
theorem all_true {α : Type} : ∀ l : List α, (l.map fun _ => true).all id = true
  | [] => rfl
  | a :: r => by
    show (true && (r.map fun _ => true).all id) = true
    rw [all_true r]
    rfl
theorem fAll_true {α : Type} (l : List α) : fAll [.list (l.map fun _ => PyData.bool true)] = some (.bool true) := by
  rw [fAll_l, bools_true, Option.map_some, all_true]
theorem rng_ok {f : AS} {st st' : List Sl} {n : Nat} (h : f st = some ([.int n], st')) (hn : n ≤ 1000000) : iRng f st = some (rints 0 n, st') := by
  rw [iRng_ap, h, Option.bind_some]
  show (if -(2 ^ 62) ≤ (n : Int) ∧ (n : Int) < 2 ^ 62 then some (rints 0 (n : Int).toNat, st') else none) = _
  rw [if_pos ⟨by omega, by omega⟩, Int.toNat_natCast]
theorem i2i (i : Int) : dIsi2 "tuple" "list" (.int i) = some (.bool false) := rfl
theorem i2s (l : Ln) : dIsi2 "tuple" "list" (ds l) = some (.bool false) := rfl
theorem i2n : dIsi2 "tuple" "list" .none = some (.bool false) := rfl
theorem i2t (xs : List D) : dIsi2 "tuple" "list" (.tuple xs) = some (.bool true) := rfl
theorem i2l (xs : List D) : dIsi2 "tuple" "list" (.list xs) = some (.bool true) := rfl
theorem idi (i : Int) : dIsi "dict" (.int i) = some (.bool false) := rfl
theorem ids (l : Ln) : dIsi "dict" (ds l) = some (.bool false) := rfl
theorem idn : dIsi "dict" .none = some (.bool false) := rfl
theorem ibi (i : Int) : dIsi "bool" (.int i) = some (.bool false) := rfl
theorem ibs (l : Ln) : dIsi "bool" (ds l) = some (.bool false) := rfl
theorem ibn : dIsi "bool" .none = some (.bool false) := rfl
theorem iii (i : Int) : dIsi "int" (.int i) = some (.bool true) := rfl
theorem iis (l : Ln) : dIsi "int" (ds l) = some (.bool false) := rfl
theorem iin : dIsi "int" .none = some (.bool false) := rfl
theorem isi (i : Int) : dIsi "str" (.int i) = some (.bool false) := rfl
theorem iss (l : Ln) : dIsi "str" (ds l) = some (.bool true) := rfl
theorem isn : dIsi "str" .none = some (.bool false) := rfl
theorem ilt (xs : List D) : dIsi "list" (.tuple xs) = some (.bool false) := rfl
theorem ill (xs : List D) : dIsi "list" (.list xs) = some (.bool true) := rfl
theorem same_i {g : PF} {i : Int} : runP 5 2 (b_law_same g) [.int i, .int i] = some (.d (.bool true)) := by
  simp [b_law_same, List.replicate, i2i, idi, ibi, iii, isi]
theorem same_s {g : PF} {l : Ln} : runP 5 2 (b_law_same g) [ds l, ds l] = some (.d (.bool true)) := by
  simp [b_law_same, List.replicate, i2s, ids, ibs, iis, iss]
theorem same_n {g : PF} : runP 5 2 (b_law_same g) [.none, .none] = some (.d (.bool true)) := by
  simp [b_law_same, List.replicate, i2n, idn, ibn, iin, isn, dEq_nn]
theorem same_comp {g : PF} {d : D} {xs : List D} (hs : ∀ x ∈ xs, g [x, x] = some (.d (.bool true))) (hd : ∀ k : Int, dIx d (.int k) = atI xs k) :
        compS 2 bYes (eCallP g (aCons (eBin dIx (eNm 0) (eNm 2)) (aCons (eBin dIx (eNm 1) (eNm 2)) aNil))) (rints 0 xs.length) [.d d, .d d, .no, .no, .no] = some ((List.range xs.length).map fun _ => .bool true, [.d d, .d d, .no, .no, .no]) := by
  have e := compS_map (i := 2) (f := eCallP g (aCons (eBin dIx (eNm 0) (eNm 2)) (aCons (eBin dIx (eNm 1) (eNm 2)) aNil))) (st := [.d d, .d d, .no, .no, .no]) (a := fun k : Nat => PyData.int (0 + (k : Nat))) (b := fun _ => .bool true) (items := List.range xs.length) fun k hk => by
    have hk' := List.mem_range.mp hk
    have hx : atI xs (k : Int) = some xs[k] := by rw [at_n, List.getElem?_eq_getElem hk']
    have hr := hs _ (List.getElem_mem hk')
    simp [hd, hx, hr]
  exact e
theorem oComp_ok {i : Nat} {c : BS} {f : ES} {it : AS} {st st1 st2 : List Sl} {items outs : List D} (h1 : it st = some (items, st1)) (h2 : notOwn st1 i = true) (h3 : items.length ≤ 1000000) (h4 : compS i c f items (st1.set i .no) = some (outs, st2)) : oComp i c f it st = some (outs, st2) := by
  rw [oComp_ap, h1, Option.bind_some, h2, Bool.true_and, decide_eq_true h3, if_pos rfl]
  exact h4
theorem same_t {g : PF} {xs : List D} (hs : ∀ x ∈ xs, g [x, x] = some (.d (.bool true))) (hl : xs.length ≤ 1000000) : runP 5 2 (b_law_same g) [.tuple xs, .tuple xs] = some (.d (.bool true)) := by
  obtain ⟨outs, e, ha⟩ : ∃ outs, compS 2 bYes (eCallP g (aCons (eBin dIx (eNm 0) (eNm 2)) (aCons (eBin dIx (eNm 1) (eNm 2)) aNil))) (rints 0 xs.length) [.d (.tuple xs), .d (.tuple xs), .no, .no, .no] = some (outs, [.d (.tuple xs), .d (.tuple xs), .no, .no, .no]) ∧ fAll [.list outs] = some (.bool true) := ⟨_, same_comp (d := .tuple xs) hs fun k => by simp, fAll_true (List.range xs.length)⟩
  have r : iRng (aCons (eCall fLen (aCons (eNm 1) aNil)) aNil) [.d (.tuple xs), .d (.tuple xs), .no, .no, .no] = some (rints 0 xs.length, [.d (.tuple xs), .d (.tuple xs), .no, .no, .no]) := rng_ok (by simp) hl
  have g3 : (rints 0 xs.length).length ≤ 1000000 := by rw [rints_len]; exact hl
  have c : oComp 2 bYes (eCallP g (aCons (eBin dIx (eNm 0) (eNm 2)) (aCons (eBin dIx (eNm 1) (eNm 2)) aNil))) (iRng (aCons (eCall fLen (aCons (eNm 1) aNil)) aNil)) [.d (.tuple xs), .d (.tuple xs), .no, .no, .no] = some (outs, [.d (.tuple xs), .d (.tuple xs), .no, .no, .no]) := by
    exact oComp_ok r (by simp) g3 e
  have c1 : (bUn truD (eUn (dIsi2 "tuple" "list") (eNm 1))) [.d (.tuple xs), .d (.tuple xs), .no, .no, .no] = some (true, [.d (.tuple xs), .d (.tuple xs), .no, .no, .no]) := by
    simp [i2t]
  have c2 : (bOr (bNot (bUn truD (eUn (dIsi2 "tuple" "list") (eNm 0)))) (bOr (bBin dNe (eUn (dIsi "list") (eNm 0)) (eUn (dIsi "list") (eNm 1))) (bBin dNe (eCall fLen (aCons (eNm 0) aNil)) (eCall fLen (aCons (eNm 1) aNil))))) [.d (.tuple xs), .d (.tuple xs), .no, .no, .no] = some (false, [.d (.tuple xs), .d (.tuple xs), .no, .no, .no]) := by
    simp [i2t, ilt]
  have c3 : (sRet (eCall fAll (aCons (eFz (oComp 2 bYes (eCallP g (aCons (eBin dIx (eNm 0) (eNm 2)) (aCons (eBin dIx (eNm 1) (eNm 2)) aNil))) (iRng (aCons (eCall fLen (aCons (eNm 1) aNil)) aNil)))) aNil))) [.d (.tuple xs), .d (.tuple xs), .no, .no, .no] = some (.rt (.bool true) [.d (.tuple xs), .d (.tuple xs), .no, .no, .no]) := by
    simp only [sRet_ap, eCall_ap, aCons_ap, eFz_ap, c, Option.map_some, Option.bind_some, aNil_ap, ha]
  rw [runP_ap, if_pos (by rfl)]
  have s0 : startD 5 [PyData.tuple xs, .tuple xs] = [.d (.tuple xs), .d (.tuple xs), .no, .no, .no] := rfl
  rw [s0, b_law_same, sSeq_ap, sIf_ap, c1, Option.bind_some, if_pos rfl, sSeq_ap, sIf_ap, c2, Option.bind_some, if_neg (fun h => Bool.noConfusion h), sNext_ap, Option.bind_some]
  simp only []
  rw [c3]
  rfl
theorem same_l {g : PF} {xs : List D} (hs : ∀ x ∈ xs, g [x, x] = some (.d (.bool true))) (hl : xs.length ≤ 1000000) : runP 5 2 (b_law_same g) [.list xs, .list xs] = some (.d (.bool true)) := by
  obtain ⟨outs, e, ha⟩ : ∃ outs, compS 2 bYes (eCallP g (aCons (eBin dIx (eNm 0) (eNm 2)) (aCons (eBin dIx (eNm 1) (eNm 2)) aNil))) (rints 0 xs.length) [.d (.list xs), .d (.list xs), .no, .no, .no] = some (outs, [.d (.list xs), .d (.list xs), .no, .no, .no]) ∧ fAll [.list outs] = some (.bool true) := ⟨_, same_comp (d := .list xs) hs fun k => by simp, fAll_true (List.range xs.length)⟩
  have r : iRng (aCons (eCall fLen (aCons (eNm 1) aNil)) aNil) [.d (.list xs), .d (.list xs), .no, .no, .no] = some (rints 0 xs.length, [.d (.list xs), .d (.list xs), .no, .no, .no]) := rng_ok (by simp) hl
  have g3 : (rints 0 xs.length).length ≤ 1000000 := by rw [rints_len]; exact hl
  have c : oComp 2 bYes (eCallP g (aCons (eBin dIx (eNm 0) (eNm 2)) (aCons (eBin dIx (eNm 1) (eNm 2)) aNil))) (iRng (aCons (eCall fLen (aCons (eNm 1) aNil)) aNil)) [.d (.list xs), .d (.list xs), .no, .no, .no] = some (outs, [.d (.list xs), .d (.list xs), .no, .no, .no]) := by
    exact oComp_ok r (by simp) g3 e
  have c1 : (bUn truD (eUn (dIsi2 "tuple" "list") (eNm 1))) [.d (.list xs), .d (.list xs), .no, .no, .no] = some (true, [.d (.list xs), .d (.list xs), .no, .no, .no]) := by
    simp [i2l]
  have c2 : (bOr (bNot (bUn truD (eUn (dIsi2 "tuple" "list") (eNm 0)))) (bOr (bBin dNe (eUn (dIsi "list") (eNm 0)) (eUn (dIsi "list") (eNm 1))) (bBin dNe (eCall fLen (aCons (eNm 0) aNil)) (eCall fLen (aCons (eNm 1) aNil))))) [.d (.list xs), .d (.list xs), .no, .no, .no] = some (false, [.d (.list xs), .d (.list xs), .no, .no, .no]) := by
    simp [i2l, ill]
  have c3 : (sRet (eCall fAll (aCons (eFz (oComp 2 bYes (eCallP g (aCons (eBin dIx (eNm 0) (eNm 2)) (aCons (eBin dIx (eNm 1) (eNm 2)) aNil))) (iRng (aCons (eCall fLen (aCons (eNm 1) aNil)) aNil)))) aNil))) [.d (.list xs), .d (.list xs), .no, .no, .no] = some (.rt (.bool true) [.d (.list xs), .d (.list xs), .no, .no, .no]) := by
    simp only [sRet_ap, eCall_ap, aCons_ap, eFz_ap, c, Option.map_some, Option.bind_some, aNil_ap, ha]
  rw [runP_ap, if_pos (by rfl)]
  have s0 : startD 5 [PyData.list xs, .list xs] = [.d (.list xs), .d (.list xs), .no, .no, .no] := rfl
  rw [s0, b_law_same, sSeq_ap, sIf_ap, c1, Option.bind_some, if_pos rfl, sSeq_ap, sIf_ap, c2, Option.bind_some, if_neg (fun h => Bool.noConfusion h), sNext_ap, Option.bind_some]
  simp only []
  rw [c3]
  rfl
theorem same_ok (n : Nat) : ∀ (d : D), Sm n d → f_law_same n [d, d] = some (.d (.bool true)) := by
  induction n with
  | zero =>
    intro d h
    cases h
  | succ n ih =>
    intro d h
    rw [f_law_same]
    cases h with
    | i => exact same_i
    | s => exact same_s
    | no => exact same_n
    | @t n xs h hl => exact same_t (fun x hx => ih x (h x hx)) hl
    | @l n xs h hl => exact same_l (fun x hx => ih x (h x hx)) hl
theorem sm_up : ∀ {n m : Nat} {d : D}, n ≤ m → Sm n d → Sm m d
  | n + 1, m + 1, _, hm, .i => .i
  | n + 1, m + 1, _, hm, .s => .s
  | n + 1, m + 1, _, hm, .no => .no
  | n + 1, m + 1, _, hm, .t h hl => .t (fun x hx => sm_up (Nat.le_of_succ_le_succ hm) (h x hx)) hl
  | n + 1, m + 1, _, hm, .l h hl => .l (fun x hx => sm_up (Nat.le_of_succ_le_succ hm) (h x hx)) hl
theorem sm_cond {d : D} {toks : List Ln} (h : CondT d toks) : Sm 3 d := by
  cases h <;> exact .t (by simp; exact ⟨.s, by first | exact .s | exact ⟨.s, .s⟩⟩) (by simp)
theorem sm_conds {A : List (D × List Ln)} {lo hi : Nat} (h : Conds A lo hi) (h6 : hi ≤ 6) : Sm 4 (cdat A) := .t (fun x hx => by
  obtain ⟨c, hc, rfl⟩ := List.mem_map.mp hx
  exact sm_cond (h.all c hc)) (by have := h.hi; rw [List.length_map]; omega)
theorem sm_form {d : D} {toks : List Ln} (h : FormT d toks) : Sm 5 d := by
  cases h with
  | need a b => exact .t (by simp; exact ⟨.s, sm_conds a (by decide), sm_conds b (by decide)⟩) (by simp)
  | cnt hk hn c => exact .t (by simp; exact ⟨.s, .i, sm_conds c (by decide)⟩) (by simp)
  | cl c => exact .t (by simp; exact ⟨.s, sm_conds c (by decide)⟩) (by simp)
  | ei c => exact .t (by simp; exact ⟨.s, sm_conds c (by decide)⟩) (by simp)
  | same h h' => exact .t (by simp; exact ⟨.s, sm_up (by decide) (sm_cond h), sm_up (by decide) (sm_cond h')⟩) (by simp)
theorem sm_price {d : D} {t : Ln} (h : PriceT d t) : Sm 5 d := by
  rcases h with ⟨rfl, _⟩ | ⟨n, _, _, rfl, _⟩
  · exact .no
  · exact .i
theorem sm_line {d : D} {toks : List Ln} (h : LineT d toks) : Sm 6 d := by
  cases h with
  | nm hk h => exact .t (by simp; exact ⟨.s, .s⟩) (by simp)
  | rel h hv he hp hq => exact .t (by simp; exact ⟨.s, .s, .s, .s, sm_price hp, sm_price hq⟩) (by simp)
  | fea h ho hv hp hq => exact .t (by simp; exact ⟨.s, .s, .s, .s, sm_price hp, sm_price hq⟩) (by simp)
  | sta hk h hr => exact .t (by simp; exact ⟨.s, .s, .s⟩) (by simp)
  | @sig w n a names h h1 h2 hn hl =>
    refine .t ?_ (by simp)
    intro x hx
    simp only [List.mem_cons, List.not_mem_nil, or_false] at hx
    rcases hx with rfl | rfl | rfl | rfl
    · exact .s
    · exact .s
    · exact .i
    · refine .t (fun y hy => ?_) (by simp; omega)
      obtain ⟨l, _, rfl⟩ := List.mem_map.mp hy
      exact .s
  | row h => exact .t (by simp; exact ⟨.s, sm_form h⟩) (by simp)
  | fin => exact .t (by simp; exact .s) (by simp)
theorem sm_lines {L : List (D × Ln)} (h : LinesT L) : Sm 10 (.list (L.map Prod.fst)) := .l (fun x hx => by
  obtain ⟨c, hc, rfl⟩ := List.mem_map.mp hx
  obtain ⟨toks, h1, _⟩ := (h.1 c hc).line
  exact sm_up (by decide) (sm_line h1)) (by have := h.2; rw [List.length_map]; omega)
end DL

set_option Elab.async false
set_option linter.all false
set_option maxRecDepth 100000
set_option maxHeartbeats 4000000
namespace DL
open PySem PySem.Spec L2 TL

/-! ### the drawing functions -/
theorem pick_i {s : List D} (m : Int) (h : St4 s) (hm : m < 1073741824 := by decide) : ∃ (n : Nat) (s' : List D), f_law_pick s [.int m] = some (.d (.int n), s') ∧ St4 s' ∧ ((n : Int) < m ∨ n = 0) := by
  obtain ⟨r, s', e, h', h0, h1⟩ := pick_ok h hm
  refine ⟨r.toNat, s', ?_, h', ?_⟩
  · rw [e, Int.toNat_of_nonneg h0]
  · rcases h1 with h1 | h1
    · exact .inl (by omega)
    · exact .inr (by omega)
/-- what a drawing function gives -/
def Gen (g : SF) (args : List D) (P : D → Prop) : Prop := ∀ s, St4 s → ∃ r s', g s args = some (.d r, s') ∧ St4 s' ∧ P r
theorem number_loop {a b c : Sl} : ∀ (items : List D) (s : List D) (told : Int) (y : Sl), St4 s → 0 ≤ told → ∃ s' told' y', forS (gNm 4) (sSet 3 (eBin dAdd (eBin dMul (eNm 3) (eK (.int 1000003))) (eCallS f_law_pick 0 (aCons (eK (.int 1000003)) aNil)))) items [.own s, b, c, .d (.int told), y] = some (.nx [.own s', b, c, .d (.int told'), y']) ∧ St4 s' ∧ 0 ≤ told'
  | [], s, told, y, h, h0 => ⟨s, told, y, rfl, h, h0⟩
  | x :: r, s, told, y, h, h0 => by
    obtain ⟨n, s1, e1, h1, _⟩ := pick_i 1000003 h
    obtain ⟨s', told', y', e, h', h0'⟩ := number_loop (a := a) (b := b) (c := c) r s1 (told * 1000003 + n) (.d x) h1 (by omega)
    refine ⟨s', told', y', ?_, h', h0'⟩
    rw [forS_cons]
    simp [e1, dMul]
    exact e
theorem number_gen : Gen f_law_number [.int 1000000000] (fun r => ∃ n : Nat, n < 1000000000 ∧ r = .int n) := fun s h => by
  obtain ⟨k, s1, e1, h1, _⟩ := pick_i 4 h
  by_cases k0 : k = 0
  · obtain ⟨n, s2, e2, h2, hn⟩ := pick_i 12 h1
    exact ⟨.int n, s2, by simp [f_law_number, b_law_number, List.replicate, e1, k0, e2], h2, n, by omega, rfl⟩
  · by_cases k1 : k = 1
    · obtain ⟨n, s2, e2, h2, hn⟩ := pick_i 12 h1
      refine ⟨.int (1000000000 - 1 - n), s2, by simp [f_law_number, b_law_number, List.replicate, e1, k1, e2], h2, (1000000000 - 1 - n), by omega, ?_⟩
      congr 1
      omega
    · obtain ⟨s2, told, y', e2, h2, h0⟩ := number_loop (a := .no) (b := .d (.int 1000000000)) (c := .d (.int k)) (rints 0 4) s1 0 .no h1 (by decide)
      have k1' : ¬ (k : Int) = 1 := by omega
      refine ⟨.int (told % 1000000000), s2, ?_, h2, (told % 1000000000).toNat, by omega, ?_⟩
      · have hr : Int.toNat 4 = 4 := rfl
        simp [f_law_number, b_law_number, List.replicate, e1, k0, k1', e2, hr, dMod]
      · rw [Int.toNat_of_nonneg (by omega)]
theorem price_gen : Gen f_law_a_price [] (fun r => ∃ t, PriceT r t) := fun s h => by
  obtain ⟨k, s1, e1, h1, _⟩ := pick_i 5 h
  by_cases k0 : k = 0
  · exact ⟨.none, s1, by simp [f_law_a_price, b_law_a_price, List.replicate, e1, k0], h1, cs "never", .inl ⟨rfl, rfl⟩⟩
  · obtain ⟨r, s2, e2, h2, n, hn, rfl⟩ := number_gen s1 h1
    have hp : dPow (.int 10) (.int 9) = some (.int 1000000000) := by rfl
    refine ⟨.int (1 + n), s2, by simp [f_law_a_price, b_law_a_price, List.replicate, e1, k0, hp, e2], h2, numL (1 + n), .inr ⟨1 + n, by omega, by omega, ?_, rfl⟩⟩
    congr 1
theorem version_loop : ∀ (items : List D) (s : List D) (ns : List Nat) (y : Sl), St4 s → ns ≠ [] → (∀ n ∈ ns, n ≤ 999) → ns.length + items.length ≤ 3 → ∃ s' ns' y', forS (gNm 2) (sSet 1 (eBin dAdd (eBin dAdd (eNm 1) (eK (ds (cs ".")))) (eCall fStr (aCons (eIf (bBin dEq (eCallS f_law_pick 0 (aCons (eK (.int 2)) aNil)) (eK (.int 0))) (eCallS f_law_pick 0 (aCons (eK (.int 1000)) aNil)) (eCallS f_law_pick 0 (aCons (eK (.int 3)) aNil))) aNil)))) items [.own s, .d (ds (joinL [46] (ns.map numL))), y] = some (.nx [.own s', .d (ds (joinL [46] (ns'.map numL))), y']) ∧ St4 s' ∧ ns' ≠ [] ∧ (∀ n ∈ ns', n ≤ 999) ∧ ns'.length ≤ 3
  | [], s, ns, y, h, hne, h9, hl => ⟨s, ns, y, rfl, h, hne, h9, by simpa using hl⟩
  | x :: r, s, ns, y, h, hne, h9, hl => by
    simp only [List.length_cons] at hl
    obtain ⟨k, s1, e1, h1, _⟩ := pick_i 2 h
    have step : ∃ (n : Nat) (s2 : List D), n ≤ 999 ∧ St4 s2 ∧ (eIf (bBin dEq (eCallS f_law_pick 0 (aCons (eK (.int 2)) aNil)) (eK (.int 0))) (eCallS f_law_pick 0 (aCons (eK (.int 1000)) aNil)) (eCallS f_law_pick 0 (aCons (eK (.int 3)) aNil))) [.own s, .d (ds (joinL [46] (ns.map numL))), .d x] = some (.int n, [.own s2, .d (ds (joinL [46] (ns.map numL))), .d x]) := by
      by_cases k0 : k = 0
      · obtain ⟨n, s2, e2, h2, hn⟩ := pick_i 1000 h1
        exact ⟨n, s2, by omega, h2, by simp [e1, k0, e2]⟩
      · obtain ⟨n, s2, e2, h2, hn⟩ := pick_i 3 h1
        exact ⟨n, s2, by omega, h2, by simp [e1, k0, e2]⟩
    obtain ⟨n, s2, hn, h2, e2⟩ := step
    obtain ⟨s', ns', y', e, h', r1, r2, r3⟩ := version_loop r s2 (ns ++ [n]) (.d x) h2 (by simp) (fun q hq => by
      rcases List.mem_append.mp hq with hq | hq
      · exact h9 q hq
      · simp at hq; omega) (by simp; omega)
    refine ⟨s', ns', y', ?_, h', r1, r2, r3⟩
    have fn := fStr_nat (n := n) (by omega)
    have ej : joinL [46] ((ns ++ [n]).map numL) = joinL [46] (ns.map numL) ++ 46 :: numL n := by
      rw [List.map_append, joinL_app (by simpa using hne) (by simp)]
      show joinL [46] (ns.map numL) ++ [46] ++ numL n = _
      simp
    have b1 : Bd (joinL [46] (ns.map numL)) 12 := ⟨ver_len ⟨ns, hne, by omega, h9, rfl⟩⟩
    have b2 : Bd (numL n) 10 := ⟨num_len (by omega)⟩
    rw [ej] at e
    rw [forS_cons]
    generalize joinL [46] (ns.map numL) = J at *
    have hb : (sSet 1 (eBin dAdd (eBin dAdd (eNm 1) (eK (ds (cs ".")))) (eCall fStr (aCons (eIf (bBin dEq (eCallS f_law_pick 0 (aCons (eK (.int 2)) aNil)) (eK (.int 0))) (eCallS f_law_pick 0 (aCons (eK (.int 1000)) aNil)) (eCallS f_law_pick 0 (aCons (eK (.int 3)) aNil))) aNil)))) [.own s, .d (ds J), .d x] = some (.nx [.own s2, .d (ds (J ++ 46 :: numL n)), .d x]) := by
      simp [-eIf_ap, -dAdd_ss, -fStr_i, dAdd_ok, e2, fn]
    rw [gNm_ap, Option.bind_some]
    show ((sSet 1 _) [.own s, .d (ds J), .d x]).bind _ = _
    rw [hb]
    exact e
theorem version_gen : Gen f_law_a_version [] (fun r => ∃ t, VerT t ∧ r = ds t) := fun s h => by
  obtain ⟨n, s1, e1, h1, hn⟩ := pick_i 1000 h
  obtain ⟨m, s2, e2, h2, hm⟩ := pick_i 3 h1
  obtain ⟨s3, ns, y', e3, h3, r1, r2, r3⟩ := version_loop (rints 0 m) s2 [n] .no h2 (by simp) (by simp; omega) (by rw [rints_len]; simp; omega)
  have fn := fStr_nat (n := n) (by omega)
  refine ⟨ds (joinL [46] (ns.map numL)), s3, ?_, h3, _, ⟨ns, r1, r3, r2, rfl⟩, rfl⟩
  have r : iRng (aCons (eCallS f_law_pick 0 (aCons (eK (.int 3)) aNil)) aNil) [.own s1, .d (ds (numL n)), .no] = some (rints 0 m, [.own s2, .d (ds (numL n)), .no]) := rng_ok (by simp [e2]) (by omega)
  have e3' : forS (gNm 2) (sSet 1 (eBin dAdd (eBin dAdd (eNm 1) (eK (ds (cs ".")))) (eCall fStr (aCons (eIf (bBin dEq (eCallS f_law_pick 0 (aCons (eK (.int 2)) aNil)) (eK (.int 0))) (eCallS f_law_pick 0 (aCons (eK (.int 1000)) aNil)) (eCallS f_law_pick 0 (aCons (eK (.int 3)) aNil))) aNil)))) (rints 0 m) [.own s2, .d (ds (numL n)), .no] = some (.nx [.own s3, .d (ds (joinL [46] (ns.map numL))), y']) := e3
  simp at e3'
  simp [-fStr_i, -iRng_ap, f_law_a_version, b_law_a_version, List.replicate, e1, fn, r, e3']
theorem release_gen : Gen f_law_a_release [] (fun r => ∃ t, RelT t ∧ r = ds t) := fun s h => by
  obtain ⟨k, s1, e1, h1, _⟩ := pick_i 5 h
  by_cases k0 : k = 0
  · exact ⟨ds (cs "on"), s1, by simp [f_law_a_release, b_law_a_release, List.replicate, e1, k0], h1, _, .inl rfl, rfl⟩
  · obtain ⟨r, s2, e2, h2, t, ht, rfl⟩ := version_gen s1 h1
    exact ⟨ds t, s2, by simp [f_law_a_release, b_law_a_release, List.replicate, e1, k0, e2], h2, t, .inr ht, rfl⟩
/-- the drawn words -/
structure W6 (ws : List Ln) : Prop where
  len : ws.length = 6
  all : ∀ w ∈ ws, WordT w
theorem ws_at {ws : List Ln} (h : W6 ws) {n : Nat} (hn : (n : Int) < 6 ∨ n = 0) : ∃ w, atI (ws.map ds) (n : Int) = some (ds w) ∧ WordT w := by
  have hl : n < ws.length := by rw [h.len]; omega
  refine ⟨ws[n], ?_, h.all _ (List.getElem_mem hl)⟩
  rw [at_n, List.getElem?_map, List.getElem?_eq_getElem hl]
  rfl
theorem name_gen {ws : List Ln} (h : W6 ws) : Gen f_law_a_name [.list (ws.map ds)] (fun r => ∃ t, NameT t ∧ r = ds t) := fun s hs => by
  have hl : ((ws.map ds).length : Int) = 6 := by rw [List.length_map, h.len]; rfl
  obtain ⟨k, s1, e1, h1, hk⟩ := pick_i 6 hs
  obtain ⟨w, ew, hw⟩ := ws_at h hk
  obtain ⟨j, s2, e2, h2, _⟩ := pick_i 5 h1
  simp only [List.length_map] at hl
  by_cases j0 : j = 0
  · obtain ⟨k', s3, e3, h3, hk'⟩ := pick_i 6 h2
    obtain ⟨w', ew', hw'⟩ := ws_at h hk'
    have b1 : Bd w 12 := ⟨hw.len⟩
    have b2 : Bd w' 12 := ⟨hw'.len⟩
    exact ⟨ds (w ++ 43 :: w'), s3, by simp [-dAdd_ss, dAdd_ok, f_law_a_name, b_law_a_name, List.replicate, hl, e1, ew, e2, j0, e3, ew'], h3, _, .inr ⟨w, w', hw, hw', rfl⟩, rfl⟩
  · exact ⟨ds w, s2, by simp [f_law_a_name, b_law_a_name, List.replicate, hl, e1, ew, e2, j0], h2, _, .inl hw, rfl⟩
theorem condition_gen {ws : List Ln} (h : W6 ws) : Gen f_law_a_condition [.list (ws.map ds)] (fun r => ∃ t, CondT r t) := fun s hs => by
  obtain ⟨k, s1, e1, h1, hk⟩ := pick_i 4 hs
  obtain ⟨r, s2, e2, h2, t, ht, rfl⟩ := name_gen h s1 h1
  by_cases k3 : k = 3
  · exact ⟨_, s2, by simp [f_law_a_condition, b_law_a_condition, List.replicate, e1, k3, e2], h2, _, .non ht⟩
  · obtain ⟨r', s3, e3, h3, v, hv, rfl⟩ := release_gen s2 h2
    have hk' : k = 0 ∨ k = 1 ∨ k = 2 := by omega
    rcases hk' with rfl | rfl | rfl
    · exact ⟨_, s3, by simp [f_law_a_condition, b_law_a_condition, List.replicate, e1, e2, at_0, at_1, at_2, e3], h3, _, .frm ht hv⟩
    · exact ⟨_, s3, by simp [f_law_a_condition, b_law_a_condition, List.replicate, e1, e2, at_0, at_1, at_2, e3], h3, _, .not ht hv⟩
    · exact ⟨_, s3, by simp [f_law_a_condition, b_law_a_condition, List.replicate, e1, e2, at_0, at_1, at_2, e3], h3, _, .att ht hv⟩
end DL

set_option Elab.async false
set_option linter.all false
set_option maxRecDepth 100000
set_option maxHeartbeats 4000000
namespace DL
open PySem PySem.Spec L2 TL

theorem compS_gen {j : Nat} {f : ES} {tl : List Sl} {P : D → Prop} (hf : ∀ (s : List D) (x : D), St4 s → ∃ r s', f (.own s :: tl.set j (.d x)) = some (r, .own s' :: tl.set j (.d x)) ∧ St4 s' ∧ P r) :
    ∀ (items : List D) (s : List D), St4 s → ∃ outs s', compS (j + 1) bYes f items (.own s :: tl.set j .no) = some (outs, .own s' :: tl.set j .no) ∧ St4 s' ∧ outs.length = items.length ∧ ∀ o ∈ outs, P o
  | [], s, h => ⟨[], s, rfl, h, rfl, by simp⟩
  | x :: r, s, h => by
    obtain ⟨o, s1, e1, h1, p1⟩ := hf s x h
    obtain ⟨outs, s2, e2, h2, l2, p2⟩ := compS_gen hf r s1 h1
    refine ⟨o :: outs, s2, ?_, h2, by simp [l2], ?_⟩
    · rw [compS_cons]
      simp [e1, e2]
    · intro q hq
      rcases List.mem_cons.mp hq with rfl | hq
      · exact p1
      · exact p2 q hq
theorem choose_list {α β : Type} {P : α → β → Prop} : ∀ outs : List α, (∀ o ∈ outs, ∃ t, P o t) → ∃ cds : List (α × β), cds.map Prod.fst = outs ∧ ∀ c ∈ cds, P c.1 c.2
  | [], _ => ⟨[], rfl, by simp⟩
  | o :: r, h => by
    obtain ⟨t, ht⟩ := h o List.mem_cons_self
    obtain ⟨cds, e, hc⟩ := choose_list r fun x hx => h x (List.mem_cons_of_mem _ hx)
    refine ⟨(o, t) :: cds, by simp [e], ?_⟩
    intro c hc'
    rcases List.mem_cons.mp hc' with rfl | hc'
    · exact ht
    · exact hc c hc'
theorem conditions_gen {ws : List Ln} (h : W6 ws) {lo hi : Nat} (h1 : lo ≤ hi) (h6 : hi ≤ 6) : Gen f_law_a_conditions [.list (ws.map ds), .int lo, .int hi] (fun r => ∃ C, Conds C lo hi ∧ r = cdat C) := fun s hs => by
  obtain ⟨n, s1, e1, hs1, hn⟩ := pick_i ((hi : Int) - lo + 1) hs (by omega)
  obtain ⟨outs, s2, e2, h2, l2, p2⟩ := compS_gen (j := 3) (f := eCallS f_law_a_condition 0 (aCons (eNm 1) aNil)) (tl := [.d (.list (ws.map ds)), .d (.int lo), .d (.int hi), .no]) (P := fun r => ∃ t, CondT r t) (fun s x hs => by
    obtain ⟨r, s', e, h', p⟩ := condition_gen h s hs
    exact ⟨r, s', by simp [e], h', p⟩) (rints 0 (lo + n)) s1 hs1
  obtain ⟨C, rfl, hC⟩ := choose_list outs p2
  rw [List.length_map, rints_len] at l2
  have r : iRng (aCons (eBin dAdd (eNm 2) (eCallS f_law_pick 0 (aCons (eBin dAdd (eBin dSub (eNm 3) (eNm 2)) (eK (.int 1))) aNil))) aNil) [.own s, .d (.list (ws.map ds)), .d (.int lo), .d (.int hi), .no] = some (rints 0 (lo + n), [.own s1, .d (.list (ws.map ds)), .d (.int lo), .d (.int hi), .no]) := rng_ok (by simp [e1]) (by omega)
  have c := oComp_ok r (by simp) (by rw [rints_len]; omega) e2
  simp [-oComp_ap, -iRng_ap] at c
  exact ⟨cdat C, s2, by simp [-oComp_ap, -iRng_ap, f_law_a_conditions, b_law_a_conditions, List.replicate, c], h2, C, ⟨hC, by omega, by omega⟩, rfl⟩
theorem form_gen {ws : List Ln} (h : W6 ws) : Gen f_law_a_form [.list (ws.map ds)] (fun r => ∃ t, FormT r t) := fun s hs => by
  obtain ⟨k, s1, e1, h1, hk⟩ := pick_i 6 hs
  have c14 := conditions_gen h (lo := 1) (hi := 4) (by decide) (by decide)
  have c16 := conditions_gen h (lo := 1) (hi := 6) (by decide) (by decide)
  have c26 := conditions_gen h (lo := 2) (hi := 6) (by decide) (by decide)
  have hk' : k = 0 ∨ k = 1 ∨ k = 2 ∨ k = 3 ∨ k = 4 ∨ k = 5 := by omega
  rcases hk' with rfl | rfl | rfl | rfl | rfl | rfl
  · obtain ⟨r, s2, e2, h2, A, hA, rfl⟩ := c14 s1 h1
    obtain ⟨r, s3, e3, h3, B, hB, rfl⟩ := c16 s2 h2
    simp at e2 e3
    exact ⟨_, s3, by simp [f_law_a_form, b_law_a_form, List.replicate, e1, e2, e3], h3, _, .need hA hB⟩
  · obtain ⟨r, s2, e2, h2, A, hA, rfl⟩ := c26 s1 h1
    simp at e2
    exact ⟨_, s2, by simp [f_law_a_form, b_law_a_form, List.replicate, e1, e2], h2, _, .cl hA⟩
  · obtain ⟨r, s2, e2, h2, A, hA, rfl⟩ := c16 s1 h1
    simp at e2
    exact ⟨_, s2, by simp [f_law_a_form, b_law_a_form, List.replicate, e1, e2], h2, _, .ei hA⟩
  · obtain ⟨r, s2, e2, h2, t, ht⟩ := condition_gen h s1 h1
    obtain ⟨r', s3, e3, h3, t', ht'⟩ := condition_gen h s2 h2
    exact ⟨_, s3, by simp [f_law_a_form, b_law_a_form, List.replicate, e1, e2, e3], h3, _, .same (a := (r, t)) (b := (r', t')) ht ht'⟩
  · obtain ⟨n, s2, e2, h2, hn⟩ := pick_i 7 h1
    obtain ⟨r, s3, e3, h3, A, hA, rfl⟩ := c16 s2 h2
    simp at e3
    exact ⟨_, s3, by simp [f_law_a_form, b_law_a_form, List.replicate, e1, e2, e3, at_0, at_1], h3, _, .cnt (n := n) (.inl rfl) (by omega) hA⟩
  · obtain ⟨n, s2, e2, h2, hn⟩ := pick_i 7 h1
    obtain ⟨r, s3, e3, h3, A, hA, rfl⟩ := c16 s2 h2
    simp at e3
    exact ⟨_, s3, by simp [f_law_a_form, b_law_a_form, List.replicate, e1, e2, e3, at_0, at_1], h3, _, .cnt (n := n) (.inr rfl) (by omega) hA⟩
theorem line_gen {ws : List Ln} (h : W6 ws) : Gen f_law_a_line [.list (ws.map ds)] (fun r => ∃ t, LineT r t) := fun s hs => by
  have hl : ((ws.map ds).length : Int) = 6 := by rw [List.length_map, h.len]; rfl
  simp only [List.length_map] at hl
  obtain ⟨k, s1, e1, h1, hk⟩ := pick_i 12 hs
  obtain ⟨m, s2, e2, h2, hm⟩ := pick_i 6 h1
  obtain ⟨w, ew, hw⟩ := ws_at h hm
  by_cases k3 : (k : Int) < 3
  · obtain ⟨r, s3, e3, h3, t, ht⟩ := form_gen h s2 h2
    exact ⟨_, s3, by simp [f_law_a_line, b_law_a_line, List.replicate, e1, hl, e2, ew, k3, e3], h3, _, .row ht⟩
  · have hk' : k = 3 ∨ k = 4 ∨ k = 5 ∨ k = 6 ∨ k = 7 ∨ k = 8 ∨ k = 9 ∨ k = 10 ∨ k = 11 := by omega
    clear k3 hk
    rcases hk' with rfl | rfl | rfl | rfl | rfl | rfl | rfl | rfl | rfl
    · obtain ⟨q, s3, e3, h3, _⟩ := pick_i 2 h2
      have he : ∃ (t : Ln) (s4 : List D), St4 s4 ∧ (t = cs "none" ∨ VerT t) ∧ (eIf (bBin dEq (eCallS f_law_pick 0 (aCons (eK (.int 2)) aNil)) (eK (.int 0))) (eK (ds (cs "none"))) (eCallS f_law_a_version 0 aNil)) [.own s2, .d (.list (ws.map ds)), .d (.int 3), .d (ds w), .no, .no, .no, .no] = some (ds t, [.own s4, .d (.list (ws.map ds)), .d (.int 3), .d (ds w), .no, .no, .no, .no]) := by
        by_cases q0 : q = 0
        · exact ⟨_, s3, h3, .inl rfl, by simp [e3, q0]⟩
        · obtain ⟨r, s4, e4, h4, t, ht, rfl⟩ := version_gen s3 h3
          exact ⟨t, s4, h4, .inr ht, by simp [e3, q0, e4]⟩
      obtain ⟨t, s4, h4, ht, e4⟩ := he
      obtain ⟨r, s5, e5, h5, v, hv, rfl⟩ := version_gen s4 h4
      obtain ⟨p, s6, e6, h6, tp, hp⟩ := price_gen s5 h5
      obtain ⟨p', s7, e7, h7, tp', hp'⟩ := price_gen s6 h6
      exact ⟨_, s7, by simp [-eIf_ap, f_law_a_line, b_law_a_line, List.replicate, e1, hl, e2, ew, e4, e5, e6, e7], h7, _, .rel hw hv ht hp hp'⟩
    · obtain ⟨m', s3, e3, h3, hm'⟩ := pick_i 6 h2
      obtain ⟨w', ew', hw'⟩ := ws_at h hm'
      obtain ⟨r, s5, e5, h5, v, hv, rfl⟩ := version_gen s3 h3
      obtain ⟨p, s6, e6, h6, tp, hp⟩ := price_gen s5 h5
      obtain ⟨p', s7, e7, h7, tp', hp'⟩ := price_gen s6 h6
      exact ⟨_, s7, by simp [f_law_a_line, b_law_a_line, List.replicate, e1, hl, e2, ew, e3, ew', e5, e6, e7], h7, _, .fea hw hw' hv hp hp'⟩
    · obtain ⟨r, s3, e3, h3, n, hn, rfl⟩ := name_gen h s2 h2
      obtain ⟨r, s4, e4, h4, v, hv, rfl⟩ := release_gen s3 h3
      exact ⟨_, s4, by simp [f_law_a_line, b_law_a_line, List.replicate, e1, hl, e2, ew, e3, e4, at_0, at_1], h4, _, .sta (.inl rfl) hn hv⟩
    · obtain ⟨r, s3, e3, h3, n, hn, rfl⟩ := name_gen h s2 h2
      obtain ⟨r, s4, e4, h4, v, hv, rfl⟩ := release_gen s3 h3
      exact ⟨_, s4, by simp [f_law_a_line, b_law_a_line, List.replicate, e1, hl, e2, ew, e3, e4, at_0, at_1], h4, _, .sta (.inr rfl) hn hv⟩
    · obtain ⟨n, s3, e3, h3, hn⟩ := pick_i 8 h2
      obtain ⟨outs, s4, e4, h4, l4, p4⟩ := compS_gen (j := 6) (f := eCallS f_law_a_name 0 (aCons (eNm 1) aNil)) (tl := [.d (.list (ws.map ds)), .d (.int 7), .d (ds w), .no, .no, .no, .no]) (P := fun r => ∃ t, NameT t ∧ r = ds t) (fun s x hs => by
        obtain ⟨r, s', e, h', p⟩ := name_gen h s hs
        exact ⟨r, s', by simp [e], h', p⟩) (rints 0 (1 + n)) s3 h3
      obtain ⟨C, rfl, hC⟩ := choose_list outs p4
      rw [List.length_map, rints_len] at l4
      have r : iRng (aCons (eBin dAdd (eK (.int 1)) (eCallS f_law_pick 0 (aCons (eK (.int 8)) aNil))) aNil) [.own s2, .d (.list (ws.map ds)), .d (.int 7), .d (ds w), .no, .no, .no, .no] = some (rints 0 (1 + n), [.own s3, .d (.list (ws.map ds)), .d (.int 7), .d (ds w), .no, .no, .no, .no]) := rng_ok (by simp [e3]) (by omega)
      have c := oComp_ok r (by simp) (by rw [rints_len]; omega) e4
      simp [-oComp_ap, -iRng_ap] at c
      obtain ⟨q, s5, e5, h5, hq⟩ := pick_i 99 h4
      have eC : C.map Prod.fst = (C.map Prod.snd).map ds := by
        rw [List.map_map]
        exact List.map_congr_left fun x hx => (hC x hx).2
      have hn' : ∀ x ∈ C.map Prod.snd, NameT x := fun x hx => by
        obtain ⟨c, hc, rfl⟩ := List.mem_map.mp hx
        exact (hC c hc).1
      have hlen : (C.map Prod.snd).length = 1 + n := by rw [List.length_map]; exact l4
      rw [eC] at c
      generalize C.map Prod.snd = N at *
      cases N with
      | nil => simp at hlen; omega
      | cons a N =>
        simp only [List.length_cons] at hlen
        exact ⟨_, s5, by simp [-oComp_ap, -iRng_ap, f_law_a_line, b_law_a_line, List.replicate, e1, hl, e2, ew, c, e5], h5, _, .sig hw (n := 1 + q) (by omega) (by omega) hn' (by omega)⟩
    · exact ⟨_, s2, by simp [f_law_a_line, b_law_a_line, List.replicate, e1, hl, e2, ew], h2, _, .fin⟩
    · exact ⟨_, s2, by simp [f_law_a_line, b_law_a_line, List.replicate, e1, hl, e2, ew, at_0, at_1, at_2], h2, _, .nm (.inl rfl) hw⟩
    · exact ⟨_, s2, by simp [f_law_a_line, b_law_a_line, List.replicate, e1, hl, e2, ew, at_0, at_1, at_2], h2, _, .nm (.inr (.inl rfl)) hw⟩
    · exact ⟨_, s2, by simp [f_law_a_line, b_law_a_line, List.replicate, e1, hl, e2, ew, at_0, at_1, at_2], h2, _, .nm (.inr (.inr rfl)) hw⟩
end DL

set_option Elab.async false
set_option linter.all false
set_option maxRecDepth 100000
set_option maxHeartbeats 4000000
namespace DL
open PySem PySem.Spec L2 TL

/-! ### _law_words -/
structure Cand (t : Ln) (k : Nat) : Prop where
  len : t.length ≤ k
  head : ∃ c r, t = c :: r ∧ Let c
  all : ∀ c ∈ t, Let c ∨ Fig c
abbrev aL : Ln := cs "abcdefghijklmnopqrstuvwxyz"
abbrev aF : Ln := cs "0123456789"
theorem letter_at {n : Nat} (h : (n : Int) < 26 ∨ n = 0) : ∃ c, dIx (ds aL) (.int n) = some (ds [c]) ∧ Let c := by
  have hl : aL.length = 26 := by decide
  have hn : n < aL.length := by omega
  refine ⟨aL[n], ?_, ?_⟩
  · rw [dIx_s, codes_mk, if_pos (by rw [szl]; omega), at_n, List.getElem?_eq_getElem hn]
    rfl
  · have := in_letters (c := aL[n])
    have hm : aL[n] ∈ aL := List.getElem_mem hn
    rw [decide_eq_true hm] at this
    exact of_decide_eq_true this.symm
theorem sign_at {n : Nat} (h : (n : Int) < 36 ∨ n = 0) : ∃ c, dIx (ds (aL ++ aF)) (.int n) = some (ds [c]) ∧ (Let c ∨ Fig c) := by
  have hl : (aL ++ aF).length = 36 := by decide
  have hn : n < (aL ++ aF).length := by omega
  refine ⟨(aL ++ aF)[n], ?_, ?_⟩
  · rw [dIx_s, codes_mk, if_pos (by rw [szl]; omega), at_n, List.getElem?_eq_getElem hn]
    rfl
  · have hm : (aL ++ aF)[n] ∈ aL ++ aF := List.getElem_mem hn
    generalize (aL ++ aF)[n] = c at *
    rcases List.mem_append.mp hm with hm | hm
    · have := in_letters (c := c)
      rw [decide_eq_true hm] at this
      exact .inl (of_decide_eq_true this.symm)
    · have := in_figures (c := c)
      rw [decide_eq_true hm] at this
      exact .inr (of_decide_eq_true this.symm)
theorem kept_ok : f_law_kept [] = some (.d (.list (keptL.map ds))) := by
  have e : cs "name hidden release feature row start later signer book end after up down never from not at none on need" ++ cs " clash either same most least of and or come go publish withdraw answer letter heard" = joinL [32] keptL := by decide
  have b1 : Bd (cs "name hidden release feature row start later signer book end after up down never from not at none on need") 200 := ⟨by decide⟩
  have b2 : Bd (cs " clash either same most least of and or come go publish withdraw answer letter heard") 200 := ⟨by decide⟩
  have sp := splitD (s := 32) (by decide) (parts := keptL) (by decide) (by decide)
  have hl : (joinL [32] keptL).length + 2 ≤ sizeLine := by
    rw [szl]
    decide
  have h1 : ∀ st : List Sl, oSplit (eK (ds (joinL [32] keptL))) (eK (ds [32])) st = some (keptL.map ds, st) := fun st => by
    rw [oSplit_ap, eK_ap, Option.bind_some, eK_ap, Option.bind_some]
    simp only [codes_mk]
    rw [if_pos ⟨by decide, hl⟩, sp]
  have h2 : (eFz (oSplit (eNm 0) (eK (ds (cs " "))))) [.d (ds (joinL [32] keptL))] = some (.list (keptL.map ds), [.d (ds (joinL [32] keptL))]) := by
    have := h1 [.d (ds (joinL [32] keptL))]
    rw [eFz_ap, cs_blank]
    rw [oSplit_ap] at this ⊢
    rw [eK_ap, Option.bind_some] at this
    rw [eNm_ap]
    simp only [List.getElem?_cons_zero, Option.bind_some]
    simp only [this]
    rfl
  simp [-eFz_ap, -dAdd_ss, dAdd_ok, f_law_kept, b_law_kept, List.replicate]
  rw [e]
  simp [-eFz_ap] at h2
  simp [-eFz_ap, h2]
theorem chars_loop {a b c d e f g h' : Sl} : ∀ (items : List D) (s : List D) (w : Ln) (y : Sl), St4 s → Cand w (12 - items.length) → items.length ≤ 12 → ∃ s' w' y', forS (gNm 10) (sSet 9 (eBin dAdd (eNm 9) (eBin dIx (eNm 3) (eCallS f_law_pick 0 (aCons (eK (.int 36)) aNil))))) items [.own s, a, b, .d (ds (aL ++ aF)), d, e, f, g, h', .d (ds w), y] = some (.nx [.own s', a, b, .d (ds (aL ++ aF)), d, e, f, g, h', .d (ds w'), y']) ∧ St4 s' ∧ Cand w' 12
  | [], s, w, y, hs, hw, _ => ⟨s, w, y, rfl, hs, hw⟩
  | x :: r, s, w, y, hs, hw, hl => by
    simp only [List.length_cons] at hl hw
    obtain ⟨n, s1, e1, h1, hn⟩ := pick_i 36 hs
    obtain ⟨ch, ec, hc⟩ := sign_at hn
    have b1 : Bd w 12 := ⟨by have := hw.len; omega⟩
    obtain ⟨q, t, ew, hq⟩ := hw.head
    obtain ⟨s', w', y', e', h2, hw'⟩ := chars_loop (a := a) (b := b) (c := c) (d := d) (e := e) (f := f) (g := g) (h' := h') r s1 (w ++ [ch]) (.d x) h1 ⟨by have := hw.len; rw [List.length_append]; simp only [List.length_cons, List.length_nil]; omega, ⟨q, t ++ [ch], by rw [ew]; rfl, hq⟩, fun z hz => by
      rcases List.mem_append.mp hz with hz | hz
      · exact hw.all z hz
      · simp at hz; rw [hz]; exact hc⟩ (by omega)
    refine ⟨s', w', y', ?_, h2, hw'⟩
    rw [forS_cons, gNm_ap, Option.bind_some]
    have hb : (sSet 9 (eBin dAdd (eNm 9) (eBin dIx (eNm 3) (eCallS f_law_pick 0 (aCons (eK (.int 36)) aNil))))) [.own s, a, b, .d (ds (aL ++ aF)), d, e, f, g, h', .d (ds w), .d x] = some (.nx [.own s1, a, b, .d (ds (aL ++ aF)), d, e, f, g, h', .d (ds (w ++ [ch])), .d x]) := by
      generalize aL ++ aF = S at *
      simp [-dIx_s, -dAdd_ss, dAdd_ok, e1, ec]
    show ((sSet 9 _) [.own s, a, b, .d (ds (aL ++ aF)), d, e, f, g, h', .d (ds w), .d x]).bind _ = _
    rw [hb]
    exact e'
theorem z_word {j k : Nat} (hj : j < 100) (hk : k < 100) : WordT (cs "z" ++ numL j ++ cs "x" ++ numL k) := by
  have l1 : (numL j).length ≤ 2 := numL_len (by decide) (by omega)
  have l2 : (numL k).length ≤ 2 := numL_len (by decide) (by omega)
  have ez : cs "z" = [122] := by decide
  have ex : cs "x" = [120] := by decide
  rw [ez, ex]
  refine ⟨by simp; omega, ⟨122, numL j ++ [120] ++ numL k, by simp, by decide⟩, fun c hc => ?_, fun hm => ?_⟩
  · simp at hc
    rcases hc with rfl | hc | rfl | hc
    · exact .inl (by decide)
    · exact .inr (num_fig hc)
    · exact .inl (by decide)
    · exact .inr (num_fig hc)
  · have : ∀ t ∈ keptL, t.head? ≠ some 122 := by decide
    exact this _ hm rfl
theorem fresh_loop {a b c d f g : Sl} {s : List D} {told : List Ln} {k : Nat} (hk : k < 100) : ∀ (js : List Nat) (w : Ln) (y : Sl), (∀ j ∈ js, j < 100) → Cand w 12 → (js ≠ [] ∨ WordT w) → ∃ w' y', forS (gNm 10) (sSeq (sIf (bAnd (bBin dNotIn (eNm 9) (eNm 5)) (bBinV dNotIn (eNm 9) (oNm 4)))
  sBrk
  sNext)
  (sSet 9 (eBin dAdd (eBin dAdd (eBin dAdd (eK (ds (cs "z"))) (eCall fStr (aCons (eNm 10) aNil))) (eK (ds (cs "x")))) (eCall fStr (aCons (eNm 8) aNil))))) (js.map fun j => PyData.int (0 + (j : Nat))) [a, b, c, d, .own (told.map ds), .d (.list (keptL.map ds)), f, g, .d (.int k), .d (ds w), y] = some (.nx [a, b, c, d, .own (told.map ds), .d (.list (keptL.map ds)), f, g, .d (.int k), .d (ds w'), y']) ∧ WordT w'
  | [], w, y, _, _, h => ⟨w, y, rfl, h.resolve_left (fun z => z rfl)⟩
  | j :: r, w, y, hj, hw, _ => by
    have hj0 := hj j List.mem_cons_self
    have fj := fStr_nat (n := j) (by omega)
    have fk := fStr_nat (n := k) (by omega)
    have b1 : Bd (numL j) 10 := ⟨num_len (by omega)⟩
    have b2 : Bd (numL k) 10 := ⟨num_len (by omega)⟩
    have bz : Bd (cs "z") 1 := ⟨by decide⟩
    have bx : Bd (cs "x") 1 := ⟨by decide⟩
    rw [List.map_cons, forS_cons, gNm_ap, Option.bind_some]
    by_cases hb : w ∉ keptL ∧ w ∉ told
    · refine ⟨w, .d (.int (0 + (j : Nat))), ?_, ⟨hw.len, hw.head, hw.all, hb.1⟩⟩
      simp [dIn_l, hb.1, hb.2]
    · have zw := z_word hj0 hk
      obtain ⟨w', y', e, h'⟩ := fresh_loop hk (a := a) (b := b) (c := c) (d := d) (f := f) (g := g) (s := s) (told := told) r _ (.d (.int (0 + (j : Nat)))) (fun q hq => hj q (List.mem_cons_of_mem _ hq)) ⟨zw.len, zw.head, zw.all⟩ (.inr zw)
      refine ⟨w', y', ?_, h'⟩
      have hbody : (sSeq (sIf (bAnd (bBin dNotIn (eNm 9) (eNm 5)) (bBinV dNotIn (eNm 9) (oNm 4)))
  sBrk
  sNext)
  (sSet 9 (eBin dAdd (eBin dAdd (eBin dAdd (eK (ds (cs "z"))) (eCall fStr (aCons (eNm 10) aNil))) (eK (ds (cs "x")))) (eCall fStr (aCons (eNm 8) aNil))))) [a, b, c, d, .own (told.map ds), .d (.list (keptL.map ds)), f, g, .d (.int k), .d (ds w), .d (.int (0 + (j : Nat)))] = some (.nx [a, b, c, d, .own (told.map ds), .d (.list (keptL.map ds)), f, g, .d (.int k), .d (ds (cs "z" ++ numL j ++ cs "x" ++ numL k)), .d (.int (0 + (j : Nat)))]) := by
        by_cases h1 : w ∈ keptL
        · simp [-dAdd_ss, -fStr_i, dAdd_ok, dIn_l, h1, fj, fk]
        · have h2 : w ∈ told := by
            by_cases h2 : w ∈ told
            · exact h2
            · exact absurd ⟨h1, h2⟩ hb
          simp [-dAdd_ss, -fStr_i, dAdd_ok, dIn_l, h1, h2, fj, fk]
      show ((sSeq _ _) [a, b, c, d, .own (told.map ds), .d (.list (keptL.map ds)), f, g, .d (.int k), .d (ds w), .d (.int (0 + (j : Nat)))]).bind _ = _
      rw [hbody]
      exact e
end DL

set_option Elab.async false
set_option linter.all false
set_option maxRecDepth 100000
set_option maxHeartbeats 4000000
namespace DL
open PySem PySem.Spec L2 TL

def wHead : SS := (sSet 9 (eIf (bUn truD (eNm 6)) (eNm 7) (eBin dIx (eNm 2) (eCallS f_law_pick 0 (aCons (eK (.int 26)) aNil)))))
def wItA : AS := (iRng (aCons (eIf (bUn truD (eNm 6)) (eK (.int 2)) (eIf (bBin dEq (eCallS f_law_pick 0 (aCons (eK (.int 5)) aNil)) (eK (.int 0))) (eCallS f_law_pick 0 (aCons (eK (.int 12)) aNil)) (eCallS f_law_pick 0 (aCons (eK (.int 4)) aNil)))) aNil))
def wBodyA : SS := (sSet 9 (eBin dAdd (eNm 9) (eBin dIx (eNm 3) (eCallS f_law_pick 0 (aCons (eK (.int 36)) aNil)))))
def wItB : AS := (iRng (aCons (eBin dAdd (eNm 1) (eK (.int 40))) aNil))
def wBodyB : SS := (sSeq (sIf (bAnd (bBin dNotIn (eNm 9) (eNm 5)) (bBinV dNotIn (eNm 9) (oNm 4)))
  sBrk
  sNext)
  (sSet 9 (eBin dAdd (eBin dAdd (eBin dAdd (eK (ds (cs "z"))) (eCall fStr (aCons (eNm 10) aNil))) (eK (ds (cs "x")))) (eCall fStr (aCons (eNm 8) aNil)))))
def wBody : SS := sSeq wHead (sSeq (sFor (gNm 10) wItA wBodyA) (sSeq (sFor (gNm 10) wItB wBodyB) (sApp 4 (eNm 9))))
theorem w_body {b g : Sl} {s : List D} {al : Bool} {stem : Ln} {told : List Ln} {k : Nat} {y9 y10 : Sl} (hs : St4 s) (hst : Cand stem 3) (hk : k < 100) (ht : told.length < 100) :
    ∃ (s' : List D) (w : Ln) (z9 z10 : Sl), wBody [.own s, .d (.int 6), .d (ds aL), .d (ds (aL ++ aF)), .own (told.map ds), .d (.list (keptL.map ds)), .d (.bool al), .d (ds stem), .d (.int k), y9, y10] = some (.nx [.own s', .d (.int 6), .d (ds aL), .d (ds (aL ++ aF)), .own (told.map ds ++ [ds w]), .d (.list (keptL.map ds)), .d (.bool al), .d (ds stem), .d (.int k), z9, z10]) ∧ St4 s' ∧ WordT w := by
  have h1 : ∃ (s1 : List D) (w : Ln), wHead [.own s, .d (.int 6), .d (ds aL), .d (ds (aL ++ aF)), .own (told.map ds), .d (.list (keptL.map ds)), .d (.bool al), .d (ds stem), .d (.int k), y9, y10] = some (.nx [.own s1, .d (.int 6), .d (ds aL), .d (ds (aL ++ aF)), .own (told.map ds), .d (.list (keptL.map ds)), .d (.bool al), .d (ds stem), .d (.int k), .d (ds w), y10]) ∧ St4 s1 ∧ Cand w (if al then 3 else 1) := by
    cases al with
    | true => exact ⟨s, stem, by simp [wHead], hs, hst⟩
    | false =>
      obtain ⟨n, s1, e1, h1, hn⟩ := pick_i 26 hs
      obtain ⟨c, ec, hc⟩ := letter_at hn
      exact ⟨s1, [c], by generalize aL = A at *; simp [-dIx_s, wHead, e1, ec], h1, ⟨by simp, ⟨c, [], rfl, hc⟩, fun z hz => by simp at hz; rw [hz]; exact .inl hc⟩⟩
  obtain ⟨s1, w, e1, hs1, hw⟩ := h1
  have h2 : ∃ (s2 : List D) (n : Nat), wItA [.own s1, .d (.int 6), .d (ds aL), .d (ds (aL ++ aF)), .own (told.map ds), .d (.list (keptL.map ds)), .d (.bool al), .d (ds stem), .d (.int k), .d (ds w), y10] = some (rints 0 n, [.own s2, .d (.int 6), .d (ds aL), .d (ds (aL ++ aF)), .own (told.map ds), .d (.list (keptL.map ds)), .d (.bool al), .d (ds stem), .d (.int k), .d (ds w), y10]) ∧ St4 s2 ∧ Cand w (12 - n) ∧ n ≤ 11 := by
    cases al with
    | true =>
      have hw' : w.length ≤ 3 := hw.len
      refine ⟨s1, 2, rng_ok (by simp) (by decide), hs1, ⟨by omega, hw.head, hw.all⟩, by decide⟩
    | false =>
      have hw' : w.length ≤ 1 := hw.len
      obtain ⟨q, s2, e2, h2, _⟩ := pick_i 5 hs1
      by_cases q0 : q = 0
      · obtain ⟨n, s3, e3, h3, hn⟩ := pick_i 12 h2
        exact ⟨s3, n, rng_ok (by simp [e2, q0, e3]) (by omega), h3, ⟨by omega, hw.head, hw.all⟩, by omega⟩
      · obtain ⟨n, s3, e3, h3, hn⟩ := pick_i 4 h2
        exact ⟨s3, n, rng_ok (by simp [e2, q0, e3]) (by omega), h3, ⟨by omega, hw.head, hw.all⟩, by omega⟩
  obtain ⟨s2, n, e2, hs2, hw2, hn⟩ := h2
  obtain ⟨s3, w3, y10', e3, hs3, hw3⟩ := chars_loop (a := .d (.int 6)) (b := .d (ds aL)) (c := .no) (d := .own (told.map ds)) (e := .d (.list (keptL.map ds))) (f := .d (.bool al)) (g := .d (ds stem)) (h' := .d (.int k)) (rints 0 n) s2 w y10 hs2 (by rw [rints_len]; exact hw2) (by rw [rints_len]; omega)
  obtain ⟨w4, y10'', e4, hw4⟩ := fresh_loop (s := []) hk (a := .own s3) (b := .d (.int 6)) (c := .d (ds aL)) (d := .d (ds (aL ++ aF))) (f := .d (.bool al)) (g := .d (ds stem)) (told := told) (List.range 46) w3 y10' (fun j hj => by have := List.mem_range.mp hj; omega) hw3 (.inl (by decide))
  have rB : wItB [.own s3, .d (.int 6), .d (ds aL), .d (ds (aL ++ aF)), .own (told.map ds), .d (.list (keptL.map ds)), .d (.bool al), .d (ds stem), .d (.int k), .d (ds w3), y10'] = some (rints 0 46, [.own s3, .d (.int 6), .d (ds aL), .d (ds (aL ++ aF)), .own (told.map ds), .d (.list (keptL.map ds)), .d (.bool al), .d (ds stem), .d (.int k), .d (ds w3), y10']) := rng_ok (by simp) (by decide)
  refine ⟨s3, w4, .d (ds w4), y10'', ?_, hs3, hw4⟩
  have e3' : forS (gNm 10) wBodyA (rints 0 n) [.own s2, .d (.int 6), .d (ds aL), .d (ds (aL ++ aF)), .own (told.map ds), .d (.list (keptL.map ds)), .d (.bool al), .d (ds stem), .d (.int k), .d (ds w), y10] = some (.nx [.own s3, .d (.int 6), .d (ds aL), .d (ds (aL ++ aF)), .own (told.map ds), .d (.list (keptL.map ds)), .d (.bool al), .d (ds stem), .d (.int k), .d (ds w3), y10']) := e3
  have e4' : forS (gNm 10) wBodyB (rints 0 46) [.own s3, .d (.int 6), .d (ds aL), .d (ds (aL ++ aF)), .own (told.map ds), .d (.list (keptL.map ds)), .d (.bool al), .d (ds stem), .d (.int k), .d (ds w3), y10'] = some (.nx [.own s3, .d (.int 6), .d (ds aL), .d (ds (aL ++ aF)), .own (told.map ds), .d (.list (keptL.map ds)), .d (.bool al), .d (ds stem), .d (.int k), .d (ds w4), y10'']) := e4
  rw [wBody, sSeq_ap, e1, Option.bind_some]
  simp only []
  rw [sSeq_ap, sFor_ap, e2, Option.bind_some, e3', Option.bind_some]
  simp only []
  rw [sSeq_ap, sFor_ap, rB, Option.bind_some, e4', Option.bind_some]
  have hl : told.length < 16000000 := by omega
  simp [hl]
theorem w_loop {al : Bool} {stem : Ln} (hst : Cand stem 3) : ∀ (ks : List Nat) (s : List D) (told : List Ln) (y8 y9 y10 : Sl), St4 s → (∀ k ∈ ks, k < 100) → (∀ w ∈ told, WordT w) → told.length + ks.length < 100 →
    ∃ (s' : List D) (ws : List Ln) (z8 z9 z10 : Sl), forS (gNm 8) wBody (ks.map fun k => PyData.int (0 + (k : Nat))) [.own s, .d (.int 6), .d (ds aL), .d (ds (aL ++ aF)), .own (told.map ds), .d (.list (keptL.map ds)), .d (.bool al), .d (ds stem), y8, y9, y10] = some (.nx [.own s', .d (.int 6), .d (ds aL), .d (ds (aL ++ aF)), .own (ws.map ds), .d (.list (keptL.map ds)), .d (.bool al), .d (ds stem), z8, z9, z10]) ∧ St4 s' ∧ (∀ w ∈ ws, WordT w) ∧ ws.length = told.length + ks.length
  | [], s, told, y8, y9, y10, hs, _, ht, _ => ⟨s, told, y8, y9, y10, rfl, hs, ht, rfl⟩
  | k :: r, s, told, y8, y9, y10, hs, hk, ht, hl => by
    simp only [List.length_cons] at hl
    obtain ⟨s1, w, z9, z10, e1, h1, hw⟩ := w_body (b := .no) (g := .no) (al := al) (stem := stem) (told := told) (k := k) (y9 := y9) (y10 := y10) hs hst (hk k List.mem_cons_self) (by omega)
    obtain ⟨s', ws, z8, z9', z10', e, h', hws, hlen⟩ := w_loop hst (al := al) r s1 (told ++ [w]) (.d (.int k)) z9 z10 h1 (fun q hq => hk q (List.mem_cons_of_mem _ hq)) (fun q hq => by
      rcases List.mem_append.mp hq with hq | hq
      · exact ht q hq
      · simp at hq; rw [hq]; exact hw) (by simp; omega)
    refine ⟨s', ws, z8, z9', z10', ?_, h', hws, by rw [hlen]; simp; omega⟩
    have ek : PyData.int (0 + (k : Int)) = .int k := by rw [Int.zero_add]
    have em : (told ++ [w]).map ds = told.map ds ++ [ds w] := by simp
    rw [em] at e
    rw [List.map_cons, forS_cons, gNm_ap, Option.bind_some, ek]
    show (wBody [.own s, .d (.int 6), .d (ds aL), .d (ds (aL ++ aF)), .own (told.map ds), .d (.list (keptL.map ds)), .d (.bool al), .d (ds stem), .d (.int k), y9, y10]).bind _ = _
    rw [e1]
    exact e
theorem words_gen {s : List D} (hs : St4 s) : ∃ (ws : List Ln) (s' : List D), f_law_words s [.int 6] = some (.o (ws.map ds), s') ∧ St4 s' ∧ W6 ws := by
  obtain ⟨q, s1, e1, h1, _⟩ := pick_i 3 hs
  obtain ⟨n1, s2, e2, h2, hn1⟩ := pick_i 26 h1
  obtain ⟨n2, s3, e3, h3, hn2⟩ := pick_i 36 h2
  obtain ⟨n3, s4, e4, h4, hn3⟩ := pick_i 36 h3
  obtain ⟨c1, ec1, hc1⟩ := letter_at hn1
  obtain ⟨c2, ec2, hc2⟩ := sign_at hn2
  obtain ⟨c3, ec3, hc3⟩ := sign_at hn3
  have hst : Cand [c1, c2, c3] 3 := ⟨by simp, ⟨c1, _, rfl, hc1⟩, fun c hc => by
    simp at hc
    rcases hc with rfl | rfl | rfl
    · exact .inl hc1
    · exact hc2
    · exact hc3⟩
  obtain ⟨s', ws, z8, z9, z10, e, h', hws, hlen⟩ := w_loop hst (al := decide (q = 0)) (List.range 6) s4 [] .no .no .no h4 (fun k hk => by have := List.mem_range.mp hk; omega) (by simp) (by simp)
  refine ⟨ws, s', ?_, h', ⟨by rw [hlen]; simp, hws⟩⟩
  have eB : b_law_words = sSeq (sSet 2 (eK (ds aL))) (sSeq (sSet 3 (eBin dAdd (eNm 2) (eK (ds aF)))) (sSeq (sSetO 4 (oLst aNil)) (sSeq (sSet 5 (eCallP f_law_kept aNil)) (sSeq (sSet 6 (eB (bBin dEq (eCallS f_law_pick 0 (aCons (eK (.int 3)) aNil)) (eK (.int 0))))) (sSeq (sSet 7 (eBin dAdd (eBin dAdd (eBin dIx (eNm 2) (eCallS f_law_pick 0 (aCons (eK (.int 26)) aNil))) (eBin dIx (eNm 3) (eCallS f_law_pick 0 (aCons (eK (.int 36)) aNil)))) (eBin dIx (eNm 3) (eCallS f_law_pick 0 (aCons (eK (.int 36)) aNil))))) (sSeq (sFor (gNm 8) (iRng (aCons (eNm 1) aNil)) wBody) (sRetO (oNm 4)))))))) := rfl
  have bA : Bd aL 26 := ⟨by decide⟩
  have bF : Bd aF 10 := ⟨by decide⟩
  have rg : iRng (aCons (eNm 1) aNil) [.own s4, .d (.int 6), .d (ds aL), .d (ds (aL ++ aF)), .own [], .d (.list (keptL.map ds)), .d (.bool (decide (q = 0))), .d (ds [c1, c2, c3]), .no, .no, .no] = some (rints 0 6, [.own s4, .d (.int 6), .d (ds aL), .d (ds (aL ++ aF)), .own [], .d (.list (keptL.map ds)), .d (.bool (decide (q = 0))), .d (ds [c1, c2, c3]), .no, .no, .no]) := rng_ok rfl (by decide)
  have e' : forS (gNm 8) wBody (rints 0 6) [.own s4, .d (.int 6), .d (ds aL), .d (ds (aL ++ aF)), .own [], .d (.list (keptL.map ds)), .d (.bool (decide (q = 0))), .d (ds [c1, c2, c3]), .no, .no, .no] = some (.nx [.own s', .d (.int 6), .d (ds aL), .d (ds (aL ++ aF)), .own (ws.map ds), .d (.list (keptL.map ds)), .d (.bool (decide (q = 0))), .d (ds [c1, c2, c3]), z8, z9, z10]) := e
  rw [f_law_words, eB]
  generalize aL = A at *
  generalize aF = F at *
  simp [-iRng_ap, -dIx_s, -dAdd_ss, dAdd_ok, List.replicate, kept_ok, e1, e2, ec1, e3, ec2, e4, ec3, rg, e']

/-! ### lines of a text -/
theorem line_words_len {d : D} {toks : List Ln} (h : LineT d toks) : (joinL [32] toks).length ≤ 1586 := by
  have h1 := toks_len (line_toks h).1
  have h2 := (line_toks h).2.2
  omega
def lBody : SS := (sSeq (sSet 5 (eCallS f_law_a_line 0 (aCons (eNm 2) aNil)))
  (sApp 3 (eIf (bBin dLe (eCall fLen (aCons (eCallP f_law_line_words (aCons (eNm 5) aNil)) aNil)) (eK (.int 400))) (eNm 5) (eTup (aCons (eK (ds (cs "end"))) aNil)))))
theorem l_loop {ws : List Ln} (h : W6 ws) {n : Int} : ∀ (items : List D) (s : List D) (L : List (D × Ln)) (y4 y5 : Sl), St4 s → (∀ x ∈ L, RowT x.1 x.2) → L.length + items.length < 1000 →
    ∃ (s' : List D) (L' : List (D × Ln)) (z4 z5 : Sl), forS (gNm 4) lBody items [.own s, .d (.int n), .d (.list (ws.map ds)), .own (L.map Prod.fst), y4, y5] = some (.nx [.own s', .d (.int n), .d (.list (ws.map ds)), .own (L'.map Prod.fst), z4, z5]) ∧ St4 s' ∧ (∀ x ∈ L', RowT x.1 x.2) ∧ L'.length = L.length + items.length
  | [], s, L, y4, y5, hs, hL, _ => ⟨s, L, y4, y5, rfl, hs, hL, rfl⟩
  | x :: r, s, L, y4, y5, hs, hL, hl => by
    simp only [List.length_cons] at hl
    obtain ⟨d, s1, e1, h1, toks, ht⟩ := line_gen h s hs
    have hw := (line_words_ok ht).2
    have b1 : Bd (joinL [32] toks) 1586 := ⟨line_words_len ht⟩
    have step : ∃ (d' : D) (r' : Ln), RowT d' r' ∧ lBody [.own s, .d (.int n), .d (.list (ws.map ds)), .own (L.map Prod.fst), .d x, y5] = some (.nx [.own s1, .d (.int n), .d (.list (ws.map ds)), .own (L.map Prod.fst ++ [d']), .d x, .d d]) := by
      have hl' : L.length < 16000000 := by omega
      by_cases hc : (joinL [32] toks).length ≤ 400
      · refine ⟨d, joinL [32] toks, ⟨⟨toks, ht, rfl⟩, hc⟩, ?_⟩
        have hc' : ((joinL [32] toks).length : Int) ≤ 400 := by omega
        generalize joinL [32] toks = J at *
        simp [-fLen_s, fLen_ok, lBody, e1, hw, hc', hl']
      · refine ⟨.tuple [ds (cs "end")], joinL [32] [cs "end"], ⟨⟨_, .fin, rfl⟩, by decide⟩, ?_⟩
        have hc' : ¬ ((joinL [32] toks).length : Int) ≤ 400 := by omega
        generalize joinL [32] toks = J at *
        simp [-fLen_s, fLen_ok, lBody, e1, hw, hc', hl']
    obtain ⟨d', r', hr, e2⟩ := step
    obtain ⟨s', L', z4, z5, e, h', hL', hlen⟩ := l_loop h (n := n) r s1 (L ++ [(d', r')]) (.d x) (.d d) h1 (fun q hq => by
      rcases List.mem_append.mp hq with hq | hq
      · exact hL q hq
      · simp at hq; rw [hq]; exact hr) (by simp; omega)
    refine ⟨s', L', z4, z5, ?_, h', hL', by rw [hlen]; simp; omega⟩
    have em : (L ++ [(d', r')]).map Prod.fst = L.map Prod.fst ++ [d'] := by simp
    rw [em] at e
    rw [forS_cons, gNm_ap, Option.bind_some]
    show (lBody [.own s, .d (.int n), .d (.list (ws.map ds)), .own (L.map Prod.fst), .d x, y5]).bind _ = _
    rw [e2]
    exact e
theorem lines_gen {s : List D} (hs : St4 s) {n : Nat} (hn : n ≤ 100) : ∃ (L : List (D × Ln)) (s' : List D), f_law_a_lines s [.int n] = some (.o (L.map Prod.fst), s') ∧ St4 s' ∧ LinesT L := by
  obtain ⟨ws, s1, e1, h1, hw⟩ := words_gen hs
  obtain ⟨s2, L, z4, z5, e2, h2, hL, hlen⟩ := l_loop hw (n := n) (rints 0 n) s1 [] .no .no h1 (by simp) (by rw [rints_len]; simp; omega)
  refine ⟨L, s2, ?_, h2, hL, by rw [hlen, rints_len]; simp; omega⟩
  have eB : b_law_a_lines = sSeq (sSet 2 (eFz (oCallS f_law_words 0 (aCons (eK (.int 6)) aNil)))) (sSeq (sSetO 3 (oLst aNil)) (sSeq (sFor (gNm 4) (iRng (aCons (eNm 1) aNil)) lBody) (sRetO (oNm 3)))) := rfl
  have rg : iRng (aCons (eNm 1) aNil) [.own s1, .d (.int n), .d (.list (ws.map ds)), .own [], .no, .no] = some (rints 0 n, [.own s1, .d (.int n), .d (.list (ws.map ds)), .own [], .no, .no]) := rng_ok rfl (by omega)
  rw [List.map_nil] at e2
  have a1 : sSet 2 (eFz (oCallS f_law_words 0 (aCons (eK (.int 6)) aNil))) [.own s, .d (.int n), .no, .no, .no, .no] = some (.nx [.own s1, .d (.int n), .d (.list (ws.map ds)), .no, .no, .no]) := by simp [e1]
  have a2 : sSetO 3 (oLst aNil) [.own s1, .d (.int n), .d (.list (ws.map ds)), .no, .no, .no] = some (.nx [.own s1, .d (.int n), .d (.list (ws.map ds)), .own [], .no, .no]) := by simp
  have hst : startD (6 - 1) [PyData.int (n : Int)] = [.d (.int n), .no, .no, .no, .no] := rfl
  rw [f_law_a_lines, runS_ap, if_pos (by rfl), hst, eB, sSeq_ap, a1, Option.bind_some]
  simp only []
  rw [sSeq_ap, a2, Option.bind_some]
  simp only []
  rw [sSeq_ap, sFor_ap, rg, Option.bind_some, e2, Option.bind_some]
  rfl
theorem size_gen {s : List D} (hs : St4 s) : ∃ (n : Nat) (s' : List D), f_law_a_size s [] = some (.d (.int n), s') ∧ St4 s' ∧ n ≤ 100 := by
  obtain ⟨n, s1, e1, h1, hn⟩ := pick_i 12 hs
  obtain ⟨k, s2, e2, h2, _⟩ := pick_i 8 h1
  by_cases k0 : k = 0
  · exact ⟨n + 60, s2, by simp [f_law_a_size, b_law_a_size, List.replicate, e1, e2, k0], h2, by omega⟩
  · exact ⟨n, s2, by simp [f_law_a_size, b_law_a_size, List.replicate, e1, e2, k0], h2, by omega⟩
end DL

set_option Elab.async false
set_option linter.all false
set_option maxRecDepth 100000
set_option maxHeartbeats 4000000
namespace DL
open PySem PySem.Spec L2 TL

/-! ### the sources -/
def srcBody : SS := (sSet 2 (eBin dMod (eBin dAdd (eBin dAdd (eBin dAdd (eBin dMul (eNm 2) (eK (.int 69621))) (eBin dMul (eBin dMod (eCall fAbs (aCons (eCall fInt (aCons (eNm 3) aNil)) aNil)) (eK (.int 1000003))) (eK (.int 2)))) (eCall fInt (aCons (eB (bBin dLt (eNm 3) (eK (.int 0)))) aNil))) (eK (.int 17))) (eK (.int 2147483647))))
theorem src_loop {a b : Sl} : ∀ (items : List Int) (seed : Int) (y3 : Sl), ∃ seed' y3', forS (gNm 3) srcBody (items.map PyData.int) [a, b, .d (.int seed), y3, .no] = some (.nx [a, b, .d (.int seed'), y3', .no])
  | [], seed, y3 => ⟨seed, y3, rfl⟩
  | x :: r, seed, y3 => by
    have step : ∃ s1 : Int, srcBody [a, b, .d (.int seed), .d (.int x), .no] = some (.nx [a, b, .d (.int s1), .d (.int x), .no]) := by
      refine ⟨(seed * 69621 + (if x < 0 then -x else x) % 1000003 * 2 + (if x < 0 then 1 else 0) + 17) % 2147483647, ?_⟩
      simp [srcBody, dMul, dMod]
    obtain ⟨s1, e1⟩ := step
    obtain ⟨seed', y3', e⟩ := src_loop (a := a) (b := b) r s1 (.d (.int x))
    refine ⟨seed', y3', ?_⟩
    rw [List.map_cons, forS_cons, gNm_ap, Option.bind_some]
    show (srcBody [a, b, .d (.int seed), .d (.int x), .no]).bind _ = _
    rw [e1]
    exact e
theorem cell_ok {ns : List Int} {k : Nat} : ∃ c : Int, f_law_cell [.list (ns.map PyData.int), .int k] = some (.d (.int c)) := by
  by_cases h : k < ns.length
  · have h' : (k : Int) < ns.length := by omega
    have e : atI (ns.map PyData.int) (k : Int) = some (.int ns[k]) := by
      rw [at_n, List.getElem?_map, List.getElem?_eq_getElem h]
      rfl
    exact ⟨ns[k], by simp [f_law_cell, b_law_cell, List.replicate, h, e]⟩
  · exact ⟨0, by simp [f_law_cell, b_law_cell, List.replicate, h]⟩
theorem pow18 : dPow (.int 10) (.int 18) = some (.int 1000000000000000000) := by rfl
theorem src_q1 {a : D} {k : Int} : sSet 2 (eBin dAdd (eK (.int 1009)) (eBin dMul (eNm 1) (eK (.int 7919)))) [.d a, .d (.int k), .no, .no, .no] = some (.nx [.d a, .d (.int k), .d (.int (1009 + k * 7919)), .no, .no]) := by
  simp [dMul]
theorem src_q2 {xs : List D} {k : Int} {seed : Int} (h : xs.length ≤ 63) : iAny (eSl (eNm 0) pNo (pYes (eK (.int 63)))) [.d (.list xs), .d (.int k), .d (.int seed), .no, .no] = some (xs, [.d (.list xs), .d (.int k), .d (.int seed), .no, .no]) := by
  have e63 : dSl (.list xs) none (some 63) = some (.list xs) := by
    have := dSl_to (xs := xs) 63
    rw [List.take_of_length_le h] at this
    exact this
  simp [e63]
theorem src_q3 {a : D} {k c c' seed : Int} {y3 : Sl} (ec : f_law_cell [a, .int k] = some (.d (.int c))) (ec' : fAbs [.int c] = some (.int c')) : sSet 3 (eCall fAbs (aCons (eCallP f_law_cell (aCons (eNm 0) (aCons (eNm 1) aNil))) aNil)) [.d a, .d (.int k), .d (.int seed), y3, .no] = some (.nx [.d a, .d (.int k), .d (.int seed), .d (.int c'), .no]) := by
  simp [-fAbs_i, ec, ec']
theorem src_p {st : List Sl} : eBin dPow (eK (.int 10)) (eK (.int 18)) st = some (.int 1000000000000000000, st) := by
  rw [eBin_ap, eK_ap, Option.bind_some, eK_ap, Option.bind_some]
  simp only []
  rw [pow18]
  rfl
theorem src_hc {a : D} {k c' seed : Int} : bBin dGe (eNm 3) (eBin dPow (eK (.int 10)) (eK (.int 18))) [.d a, .d (.int k), .d (.int seed), .d (.int c'), .no] = some (decide ((1000000000000000000 : Int) ≤ c'), [.d a, .d (.int k), .d (.int seed), .d (.int c'), .no]) := by
  rw [bBin_ap, eNm_ap]
  simp only [List.getElem?_cons_succ, List.getElem?_cons_zero, Option.bind_some, src_p]
  rfl
theorem src_q4 {a : D} {k c' seed : Int} : ∃ g : Int, sSet 4 (eIf (bBin dGe (eNm 3) (eBin dPow (eK (.int 10)) (eK (.int 18)))) (eNm 3) (eK (.int 0))) [.d a, .d (.int k), .d (.int seed), .d (.int c'), .no] = some (.nx [.d a, .d (.int k), .d (.int seed), .d (.int c'), .d (.int g)]) := by
  rw [sSet_ap, eIf_ap, src_hc, Option.bind_some]
  generalize decide ((1000000000000000000 : Int) ≤ c') = b
  cases b with
  | true => exact ⟨c', rfl⟩
  | false => exact ⟨0, rfl⟩
theorem src_q5 {a : D} {k c' seed g : Int} : sRetO (oLst (aCons (eNm 4) (aCons (eNm 2) (aCons (eBin dMod (eBin dAdd (eBin dAdd (eBin dMul (eNm 2) (eK (.int 48271))) (eBin dMod (eNm 3) (eK (.int 1000033)))) (eK (.int 5))) (eK (.int 2147483629))) (aCons (eK (.int 0)) aNil))))) [.d a, .d (.int k), .d (.int seed), .d (.int c'), .d (.int g)] = some (.ro [.int g, .int seed, .int ((seed * 48271 + c' % 1000033 + 5) % 2147483629), .int 0] [.d a, .d (.int k), .d (.int seed), .d (.int c'), .d (.int g)]) := by
  simp [dMul, dMod]
theorem source_gen {ns : List Int} (h : ns.length ≤ 63) (k : Nat) : ∃ s, f_law_source [.list (ns.map PyData.int), .int k] = some (.o s) ∧ St4 s := by
  obtain ⟨c, ec⟩ := cell_ok (ns := ns) (k := k)
  obtain ⟨seed, y3, e1⟩ := src_loop (a := .d (.list (ns.map PyData.int))) (b := .d (.int k)) ns (1009 + k * 7919) .no
  have eB : b_law_source = sSeq (sSet 2 (eBin dAdd (eK (.int 1009)) (eBin dMul (eNm 1) (eK (.int 7919))))) (sSeq (sFor (gNm 3) (iAny (eSl (eNm 0) pNo (pYes (eK (.int 63))))) srcBody) (sSeq (sSet 3 (eCall fAbs (aCons (eCallP f_law_cell (aCons (eNm 0) (aCons (eNm 1) aNil))) aNil)))
  (sSeq (sSet 4 (eIf (bBin dGe (eNm 3) (eBin dPow (eK (.int 10)) (eK (.int 18)))) (eNm 3) (eK (.int 0))))
  (sRetO (oLst (aCons (eNm 4) (aCons (eNm 2) (aCons (eBin dMod (eBin dAdd (eBin dAdd (eBin dMul (eNm 2) (eK (.int 48271))) (eBin dMod (eNm 3) (eK (.int 1000033)))) (eK (.int 5))) (eK (.int 2147483629))) (aCons (eK (.int 0)) aNil))))))))) := rfl
  have s0 : startD 5 [PyData.list (ns.map PyData.int), .int (k : Int)] = [.d (.list (ns.map PyData.int)), .d (.int k), .no, .no, .no] := rfl
  obtain ⟨g, q4⟩ := src_q4 (a := .list (ns.map PyData.int)) (k := k) (c' := if c < 0 then -c else c) (seed := seed)
  refine ⟨[.int g, .int seed, .int ((seed * 48271 + (if c < 0 then -c else c) % 1000033 + 5) % 2147483629), .int 0], ?_, ⟨_, _, _, _, rfl⟩⟩
  rw [f_law_source, runP_ap, if_pos (by rfl), s0, eB, sSeq_ap, src_q1, Option.bind_some]
  simp only []
  rw [sSeq_ap, sFor_ap, src_q2 (by rw [List.length_map]; exact h), Option.bind_some, e1, Option.bind_some]
  simp only []
  rw [sSeq_ap, src_q3 ec fAbs_i, Option.bind_some]
  simp only []
  rw [sSeq_ap, q4, Option.bind_some]
  simp only []
  rw [src_q5]
  rfl
theorem same_lines {L : List (D × Ln)} (h : LinesT L) : f_law_same 10 [.list (L.map Prod.fst), .list (L.map Prod.fst)] = some (.d (.bool true)) := same_ok 10 _ (sm_lines h)
theorem same_text {t : Ln} : f_law_same 10 [ds t, ds t] = some (.d (.bool true)) := same_ok 10 _ .s
theorem law_true (ns : List Int) (h : ns.length ≤ 63) : f_law [.list (ns.map PySem.PyData.int)] = some (.d (.bool true)) := by
  obtain ⟨s0, a0, h0⟩ := source_gen h 0
  obtain ⟨n1, s1, a1, h1, hn1⟩ := size_gen h0
  obtain ⟨L, s2, a2, h2, hL⟩ := lines_gen h1 hn1
  obtain ⟨m0, b0, g0⟩ := source_gen h 1
  obtain ⟨n2, m1, b1, g1, hn2⟩ := size_gen g0
  obtain ⟨M, m2, b2, g2, hM⟩ := lines_gen g1 hn2
  obtain ⟨k, m3, b3, g3, _⟩ := pick_i 2 g2
  have sL := law_show_ok hL
  have sM := law_show_ok hM
  have rM := read_lines_ok hM (t := textL M) (.inl rfl) (by have := text_len hM; omega)
  have pM := print_list_ok hM
  have pL := print_tuple_ok hL
  have zL := same_lines hL
  have zM := same_lines hM
  have lL : L.length < 16000000 := by have := hL.2; omega
  have hs := szl
  have tl := text_len hL
  have a0' : f_law_source [.list (ns.map PyData.int), .int 0] = some (.o s0) := a0
  have b0' : f_law_source [.list (ns.map PyData.int), .int 1] = some (.o m0) := b0
  have step : ∃ T, TextT (L.map Prod.snd) T ∧ T.length ≤ 1000000 ∧ (sIf (bAnd (bBin dEq (eCallS f_law_pick 3 (aCons (eK (.int 2)) aNil)) (eK (.int 0))) (bUn truD (eNm 2)))
  (sSet 5 (eSl (eNm 5) pNo (pYes (eUn dNeg (eK (.int 1))))))
  sNext) [.d (.list (ns.map PyData.int)), .own s2, .d (.list (L.map Prod.fst)), .own m2, .d (.list (M.map Prod.fst)), .d (ds (textL L)), .no, .no, .no] = some (.nx [.d (.list (ns.map PyData.int)), .own s2, .d (.list (L.map Prod.fst)), .own m3, .d (.list (M.map Prod.fst)), .d (ds T), .no, .no, .no]) := by
    by_cases hk : k = 0 ∧ L ≠ []
    · obtain ⟨k0, hne⟩ := hk
      have e := join_nl' (rows := L.map Prod.snd) (by simpa using hne)
      refine ⟨joinL [10] (L.map Prod.snd), .inr ⟨by simpa using hne, rfl⟩, ?_, ?_⟩
      · have : (textL L).length = _ := congrArg List.length e
        rw [List.length_append] at this
        omega
      · have hd : dSl (ds (textL L)) none (some (-1)) = some (ds (joinL [10] (L.map Prod.snd))) := by
          show (if (codes ⟨(textL L).toArray⟩).length ≤ sizeLine then some (ds (cutD (codes ⟨(textL L).toArray⟩) none (some (-1)))) else none) = _
          rw [codes_mk, if_pos (by omega)]
          show some (ds (cutD (joinL [10] (L.map Prod.snd ++ [[]])) none (some (-1)))) = _
          rw [e, cut_last]
        generalize textL L = TT at *
        simp [b3, k0, hne, hd]
    · refine ⟨textL L, .inl rfl, by omega, ?_⟩
      by_cases k0 : k = 0
      · have hL0 : L = [] := by
          by_cases hz : L = []
          · exact hz
          · exact absurd ⟨k0, hz⟩ hk
        generalize textL L = TT at *
        simp [b3, k0, hL0]
      · generalize textL L = TT at *
        simp [b3, k0]
  obtain ⟨T, hT, hTl, e⟩ := step
  have rL := read_lines_ok hL hT hTl
  generalize textL L = TL at *
  generalize textL M = TM at *
  have tL := same_text (t := TL)
  have tM := same_text (t := TM)
  have sc : (scV (PyData.bool true)).isSome = true := rfl
  simp [-sIf_ap, f_law, b_law, List.replicate, a0', a1, a2, b0', b1, b2, sL, e]
  simp [rL, zL, rM, sM, zM, lL, pM, pL, tL, tM, sc, sL]
end DL


set_option Elab.async false
set_option maxRecDepth 100000

open PySem PySem.W PyProof.Rows in
set_option maxRecDepth 100000 in
set_option maxHeartbeats 0 in
theorem PySem.Challenge.cw_mustask_k00_lines_there_and_back_holds : PySem.Challenge.rw_mustask_k00_lines_there_and_back.Holds := by
  w_on; o_law; k_head; (case hw => w_witness2)
  k_fill
  refine DL.walk_law (l := PySem.Challenge.rw_mustask_k00_lines_there_and_back) (k := 11) (g := DL.f_law) rfl rfl ⟨rfl, by decide, by decide⟩ (fun w h Y => PySem.W.kIn_of Y) ?F DL.law_true
  case F =>
    intro w mg fa h KX G hmg
    refine' DL.dfn_go (x := "sign_fault") (st := DL.s_sign_fault) (ps := ["line"]) KX G ?a1 ?l1 ?c1 ?k1 (fun _ _ _ _ _ _ us hl => match us, hl with | [_], _ => rfl) ?go1
    (case a1 => k_is)
    (case l1 => k_is)
    (case c1 => k_is)
    (case k1 => k_is)
    intro a_sign_fault t_sign_fault d_sign_fault
    refine' DL.dfn_go (x := "is_figures") (st := DL.s_is_figures) (ps := ["token"]) KX G ?a2 ?l2 ?c2 ?k2 (fun _ _ _ _ _ _ us hl => match us, hl with | [_], _ => rfl) ?go2
    (case a2 => k_is)
    (case l2 => k_is)
    (case c2 => k_is)
    (case k2 => k_is)
    intro a_is_figures t_is_figures d_is_figures
    refine' DL.dfn_go (x := "is_number") (st := DL.s_is_number) (ps := ["token", "least", "most"]) KX G ?a3 ?l3 ?c3 ?k3 (fun _ _ _ _ _ _ us hl => match us, hl with | [_, _, _], _ => rfl) ?go3
    (case a3 => k_is)
    (case l3 => k_is)
    (case c3 => k_is)
    (case k3 => k_is)
    intro a_is_number t_is_number d_is_number
    refine' DL.dfn_go (x := "is_word") (st := DL.s_is_word) (ps := ["token"]) KX G ?a4 ?l4 ?c4 ?k4 (fun _ _ _ _ _ _ us hl => match us, hl with | [_], _ => rfl) ?go4
    (case a4 => k_is)
    (case l4 => k_is)
    (case c4 => k_is)
    (case k4 => k_is)
    intro a_is_word t_is_word d_is_word
    refine' DL.dfn_go (x := "is_version") (st := DL.s_is_version) (ps := ["token"]) KX G ?a5 ?l5 ?c5 ?k5 (fun _ _ _ _ _ _ us hl => match us, hl with | [_], _ => rfl) ?go5
    (case a5 => k_is)
    (case l5 => k_is)
    (case c5 => k_is)
    (case k5 => k_is)
    intro a_is_version t_is_version d_is_version
    refine' DL.dfn_go (x := "is_release") (st := DL.s_is_release) (ps := ["token"]) KX G ?a6 ?l6 ?c6 ?k6 (fun _ _ _ _ _ _ us hl => match us, hl with | [_], _ => rfl) ?go6
    (case a6 => k_is)
    (case l6 => k_is)
    (case c6 => k_is)
    (case k6 => k_is)
    intro a_is_release t_is_release d_is_release
    refine' DL.dfn_go (x := "is_price") (st := DL.s_is_price) (ps := ["token"]) KX G ?a7 ?l7 ?c7 ?k7 (fun _ _ _ _ _ _ us hl => match us, hl with | [_], _ => rfl) ?go7
    (case a7 => k_is)
    (case l7 => k_is)
    (case c7 => k_is)
    (case k7 => k_is)
    intro a_is_price t_is_price d_is_price
    refine' DL.dfn_go (x := "price_of") (st := DL.s_price_of) (ps := ["token"]) KX G ?a8 ?l8 ?c8 ?k8 (fun _ _ _ _ _ _ us hl => match us, hl with | [_], _ => rfl) ?go8
    (case a8 => k_is)
    (case l8 => k_is)
    (case c8 => k_is)
    (case k8 => k_is)
    intro a_price_of t_price_of d_price_of
    refine' DL.dfn_go (x := "price_word") (st := DL.s_price_word) (ps := ["worth"]) KX G ?a9 ?l9 ?c9 ?k9 (fun _ _ _ _ _ _ us hl => match us, hl with | [_], _ => rfl) ?go9
    (case a9 => k_is)
    (case l9 => k_is)
    (case c9 => k_is)
    (case k9 => k_is)
    intro a_price_word t_price_word d_price_word
    refine' DL.dfn_go (x := "is_short_name") (st := DL.s_is_short_name) (ps := ["token"]) KX G ?a10 ?l10 ?c10 ?k10 (fun _ _ _ _ _ _ us hl => match us, hl with | [_], _ => rfl) ?go10
    (case a10 => k_is)
    (case l10 => k_is)
    (case c10 => k_is)
    (case k10 => k_is)
    intro a_is_short_name t_is_short_name d_is_short_name
    refine' DL.dfn_go (x := "is_whole_name") (st := DL.s_is_whole_name) (ps := ["token"]) KX G ?a11 ?l11 ?c11 ?k11 (fun _ _ _ _ _ _ us hl => match us, hl with | [_], _ => rfl) ?go11
    (case a11 => k_is)
    (case l11 => k_is)
    (case c11 => k_is)
    (case k11 => k_is)
    intro a_is_whole_name t_is_whole_name d_is_whole_name
    refine' DL.dfn_go (x := "split_tokens") (st := DL.s_split_tokens) (ps := ["tokens", "mark"]) KX G ?a12 ?l12 ?c12 ?k12 (fun _ _ _ _ _ _ us hl => match us, hl with | [_, _], _ => rfl) ?go12
    (case a12 => k_is)
    (case l12 => k_is)
    (case c12 => k_is)
    (case k12 => k_is)
    intro a_split_tokens t_split_tokens d_split_tokens
    refine' DL.dfn_go (x := "read_condition") (st := DL.s_read_condition) (ps := ["tokens", "whole"]) KX G ?a13 ?l13 ?c13 ?k13 (fun _ _ _ _ _ _ us hl => match us, hl with | [_, _], _ => rfl) ?go13
    (case a13 => k_is)
    (case l13 => k_is)
    (case c13 => k_is)
    (case k13 => k_is)
    intro a_read_condition t_read_condition d_read_condition
    refine' DL.dfn_go (x := "read_conditions") (st := DL.s_read_conditions) (ps := ["tokens", "mark", "least", "most"]) KX G ?a14 ?l14 ?c14 ?k14 (fun _ _ _ _ _ _ us hl => match us, hl with | [_, _, _, _], _ => rfl) ?go14
    (case a14 => k_is)
    (case l14 => k_is)
    (case c14 => k_is)
    (case k14 => k_is)
    intro a_read_conditions t_read_conditions d_read_conditions
    refine' DL.dfn_go (x := "read_need") (st := DL.s_read_need) (ps := ["tokens"]) KX G ?a15 ?l15 ?c15 ?k15 (fun _ _ _ _ _ _ us hl => match us, hl with | [_], _ => rfl) ?go15
    (case a15 => k_is)
    (case l15 => k_is)
    (case c15 => k_is)
    (case k15 => k_is)
    intro a_read_need t_read_need d_read_need
    refine' DL.dfn_go (x := "read_counted") (st := DL.s_read_counted) (ps := ["tokens"]) KX G ?a16 ?l16 ?c16 ?k16 (fun _ _ _ _ _ _ us hl => match us, hl with | [_], _ => rfl) ?go16
    (case a16 => k_is)
    (case l16 => k_is)
    (case c16 => k_is)
    (case k16 => k_is)
    intro a_read_counted t_read_counted d_read_counted
    refine' DL.dfn_go (x := "read_form") (st := DL.s_read_form) (ps := ["tokens"]) KX G ?a17 ?l17 ?c17 ?k17 (fun _ _ _ _ _ _ us hl => match us, hl with | [_], _ => rfl) ?go17
    (case a17 => k_is)
    (case l17 => k_is)
    (case c17 => k_is)
    (case k17 => k_is)
    intro a_read_form t_read_form d_read_form
    refine' DL.dfn_go (x := "condition_words") (st := DL.s_condition_words) (ps := ["condition"]) KX G ?a18 ?l18 ?c18 ?k18 (fun _ _ _ _ _ _ us hl => match us, hl with | [_], _ => rfl) ?go18
    (case a18 => k_is)
    (case l18 => k_is)
    (case c18 => k_is)
    (case k18 => k_is)
    intro a_condition_words t_condition_words d_condition_words
    refine' DL.dfn_go (x := "many_words") (st := DL.s_many_words) (ps := ["conditions", "mark"]) KX G ?a19 ?l19 ?c19 ?k19 (fun _ _ _ _ _ _ us hl => match us, hl with | [_, _], _ => rfl) ?go19
    (case a19 => k_is)
    (case l19 => k_is)
    (case c19 => k_is)
    (case k19 => k_is)
    intro a_many_words t_many_words d_many_words
    refine' DL.dfn_go (x := "form_words") (st := DL.s_form_words) (ps := ["form"]) KX G ?a20 ?l20 ?c20 ?k20 (fun _ _ _ _ _ _ us hl => match us, hl with | [_], _ => rfl) ?go20
    (case a20 => k_is)
    (case l20 => k_is)
    (case c20 => k_is)
    (case k20 => k_is)
    intro a_form_words t_form_words d_form_words
    refine' DL.dfn_go (x := "bound_check") (st := DL.s_bound_check) (ps := ["what", "number"]) KX G ?a21 ?l21 ?c21 ?k21 (fun _ _ _ _ _ _ us hl => match us, hl with | [_, _], _ => rfl) ?go21
    (case a21 => k_is)
    (case l21 => k_is)
    (case c21 => k_is)
    (case k21 => k_is)
    intro a_bound_check t_bound_check d_bound_check
    refine' DL.dfn_go (x := "text_rows") (st := DL.s_text_rows) (ps := ["text"]) KX G ?a22 ?l22 ?c22 ?k22 (fun _ _ _ _ _ _ us hl => match us, hl with | [_], _ => rfl) ?go22
    (case a22 => k_is)
    (case l22 => k_is)
    (case c22 => k_is)
    (case k22 => k_is)
    intro a_text_rows t_text_rows d_text_rows
    refine' DL.dfn_go (x := "checked_rows") (st := DL.s_checked_rows) (ps := ["text"]) KX G ?a23 ?l23 ?c23 ?k23 (fun _ _ _ _ _ _ us hl => match us, hl with | [_], _ => rfl) ?go23
    (case a23 => k_is)
    (case l23 => k_is)
    (case c23 => k_is)
    (case k23 => k_is)
    intro a_checked_rows t_checked_rows d_checked_rows
    refine' DL.dfn_go (x := "read_release") (st := DL.s_read_release) (ps := ["tokens"]) KX G ?a24 ?l24 ?c24 ?k24 (fun _ _ _ _ _ _ us hl => match us, hl with | [_], _ => rfl) ?go24
    (case a24 => k_is)
    (case l24 => k_is)
    (case c24 => k_is)
    (case k24 => k_is)
    intro a_read_release t_read_release d_read_release
    refine' DL.dfn_go (x := "read_feature") (st := DL.s_read_feature) (ps := ["tokens"]) KX G ?a25 ?l25 ?c25 ?k25 (fun _ _ _ _ _ _ us hl => match us, hl with | [_], _ => rfl) ?go25
    (case a25 => k_is)
    (case l25 => k_is)
    (case c25 => k_is)
    (case k25 => k_is)
    intro a_read_feature t_read_feature d_read_feature
    refine' DL.dfn_go (x := "read_signer") (st := DL.s_read_signer) (ps := ["tokens"]) KX G ?a26 ?l26 ?c26 ?k26 (fun _ _ _ _ _ _ us hl => match us, hl with | [_], _ => rfl) ?go26
    (case a26 => k_is)
    (case l26 => k_is)
    (case c26 => k_is)
    (case k26 => k_is)
    intro a_read_signer t_read_signer d_read_signer
    refine' DL.dfn_go (x := "read_line") (st := DL.s_read_line) (ps := ["tokens"]) KX G ?a27 ?l27 ?c27 ?k27 (fun _ _ _ _ _ _ us hl => match us, hl with | [_], _ => rfl) ?go27
    (case a27 => k_is)
    (case l27 => k_is)
    (case c27 => k_is)
    (case k27 => k_is)
    intro a_read_line t_read_line d_read_line
    refine' DL.dfn_go (x := "read_lines") (st := DL.s_read_lines) (ps := ["text"]) KX G ?a28 ?l28 ?c28 ?k28 (fun _ _ _ _ _ _ us hl => match us, hl with | [_], _ => rfl) ?go28
    (case a28 => k_is)
    (case l28 => k_is)
    (case c28 => k_is)
    (case k28 => k_is)
    intro a_read_lines t_read_lines d_read_lines
    refine' DL.dfn_go (x := "line_words") (st := DL.s_line_words) (ps := ["line"]) KX G ?a29 ?l29 ?c29 ?k29 (fun _ _ _ _ _ _ us hl => match us, hl with | [_], _ => rfl) ?go29
    (case a29 => k_is)
    (case l29 => k_is)
    (case c29 => k_is)
    (case k29 => k_is)
    intro a_line_words t_line_words d_line_words
    refine' DL.dfn_go (x := "print_lines") (st := DL.s_print_lines) (ps := ["lines"]) KX G ?a30 ?l30 ?c30 ?k30 (fun _ _ _ _ _ _ us hl => match us, hl with | [_], _ => rfl) ?go30
    (case a30 => k_is)
    (case l30 => k_is)
    (case c30 => k_is)
    (case k30 => k_is)
    intro a_print_lines t_print_lines d_print_lines
    refine' DL.dfn_go (x := "_law_cell") (st := DL.s_law_cell) (ps := ["script", "at"]) KX G ?a31 ?l31 ?c31 ?k31 (fun _ _ _ _ _ _ us hl => match us, hl with | [_, _], _ => rfl) ?go31
    (case a31 => k_is)
    (case l31 => k_is)
    (case c31 => k_is)
    (case k31 => k_is)
    intro a_law_cell t_law_cell d_law_cell
    refine' DL.dfn_go (x := "_law_source") (st := DL.s_law_source) (ps := ["script", "at"]) KX G ?a32 ?l32 ?c32 ?k32 (fun _ _ _ _ _ _ us hl => match us, hl with | [_, _], _ => rfl) ?go32
    (case a32 => k_is)
    (case l32 => k_is)
    (case c32 => k_is)
    (case k32 => k_is)
    intro a_law_source t_law_source d_law_source
    refine' DL.dfn_go (x := "_law_pick") (st := DL.s_law_pick) (ps := ["s", "many"]) KX G ?a33 ?l33 ?c33 ?k33 (fun _ _ _ _ _ _ us hl => match us, hl with | [_, _], _ => rfl) ?go33
    (case a33 => k_is)
    (case l33 => k_is)
    (case c33 => k_is)
    (case k33 => k_is)
    intro a_law_pick t_law_pick d_law_pick
    refine' DL.dfn_go (x := "_law_number") (st := DL.s_law_number) (ps := ["s", "limit"]) KX G ?a34 ?l34 ?c34 ?k34 (fun _ _ _ _ _ _ us hl => match us, hl with | [_, _], _ => rfl) ?go34
    (case a34 => k_is)
    (case l34 => k_is)
    (case c34 => k_is)
    (case k34 => k_is)
    intro a_law_number t_law_number d_law_number
    refine' DL.dfn_go (x := "_law_kept") (st := DL.s_law_kept) (ps := []) KX G ?a35 ?l35 ?c35 ?k35 (fun _ _ _ _ _ _ us hl => match us, hl with | [], _ => rfl) ?go35
    (case a35 => k_is)
    (case l35 => k_is)
    (case c35 => k_is)
    (case k35 => k_is)
    intro a_law_kept t_law_kept d_law_kept
    refine' DL.dfn_go (x := "_law_words") (st := DL.s_law_words) (ps := ["s", "many"]) KX G ?a36 ?l36 ?c36 ?k36 (fun _ _ _ _ _ _ us hl => match us, hl with | [_, _], _ => rfl) ?go36
    (case a36 => k_is)
    (case l36 => k_is)
    (case c36 => k_is)
    (case k36 => k_is)
    intro a_law_words t_law_words d_law_words
    refine' DL.dfn_go (x := "_law_same") (st := DL.s_law_same) (ps := ["answer", "due"]) KX G ?a37 ?l37 ?c37 ?k37 (fun _ _ _ _ _ _ us hl => match us, hl with | [_, _], _ => rfl) ?go37
    (case a37 => k_is)
    (case l37 => k_is)
    (case c37 => k_is)
    (case k37 => k_is)
    intro a_law_same t_law_same d_law_same
    refine' DL.dfn_go (x := "_law_condition_words") (st := DL.s_law_condition_words) (ps := ["c"]) KX G ?a38 ?l38 ?c38 ?k38 (fun _ _ _ _ _ _ us hl => match us, hl with | [_], _ => rfl) ?go38
    (case a38 => k_is)
    (case l38 => k_is)
    (case c38 => k_is)
    (case k38 => k_is)
    intro a_law_condition_words t_law_condition_words d_law_condition_words
    refine' DL.dfn_go (x := "_law_parts") (st := DL.s_law_parts) (ps := ["form"]) KX G ?a39 ?l39 ?c39 ?k39 (fun _ _ _ _ _ _ us hl => match us, hl with | [_], _ => rfl) ?go39
    (case a39 => k_is)
    (case l39 => k_is)
    (case c39 => k_is)
    (case k39 => k_is)
    intro a_law_parts t_law_parts d_law_parts
    refine' DL.dfn_go (x := "_law_form_words") (st := DL.s_law_form_words) (ps := ["form"]) KX G ?a40 ?l40 ?c40 ?k40 (fun _ _ _ _ _ _ us hl => match us, hl with | [_], _ => rfl) ?go40
    (case a40 => k_is)
    (case l40 => k_is)
    (case c40 => k_is)
    (case k40 => k_is)
    intro a_law_form_words t_law_form_words d_law_form_words
    refine' DL.dfn_go (x := "_law_price_word") (st := DL.s_law_price_word) (ps := ["price"]) KX G ?a41 ?l41 ?c41 ?k41 (fun _ _ _ _ _ _ us hl => match us, hl with | [_], _ => rfl) ?go41
    (case a41 => k_is)
    (case l41 => k_is)
    (case c41 => k_is)
    (case k41 => k_is)
    intro a_law_price_word t_law_price_word d_law_price_word
    refine' DL.dfn_go (x := "_law_line_words") (st := DL.s_law_line_words) (ps := ["line"]) KX G ?a42 ?l42 ?c42 ?k42 (fun _ _ _ _ _ _ us hl => match us, hl with | [_], _ => rfl) ?go42
    (case a42 => k_is)
    (case l42 => k_is)
    (case c42 => k_is)
    (case k42 => k_is)
    intro a_law_line_words t_law_line_words d_law_line_words
    refine' DL.dfn_go (x := "_law_show") (st := DL.s_law_show) (ps := ["lines"]) KX G ?a43 ?l43 ?c43 ?k43 (fun _ _ _ _ _ _ us hl => match us, hl with | [_], _ => rfl) ?go43
    (case a43 => k_is)
    (case l43 => k_is)
    (case c43 => k_is)
    (case k43 => k_is)
    intro a_law_show t_law_show d_law_show
    refine' DL.dfn_go (x := "_law_a_version") (st := DL.s_law_a_version) (ps := ["s"]) KX G ?a44 ?l44 ?c44 ?k44 (fun _ _ _ _ _ _ us hl => match us, hl with | [_], _ => rfl) ?go44
    (case a44 => k_is)
    (case l44 => k_is)
    (case c44 => k_is)
    (case k44 => k_is)
    intro a_law_a_version t_law_a_version d_law_a_version
    refine' DL.dfn_go (x := "_law_a_release") (st := DL.s_law_a_release) (ps := ["s"]) KX G ?a45 ?l45 ?c45 ?k45 (fun _ _ _ _ _ _ us hl => match us, hl with | [_], _ => rfl) ?go45
    (case a45 => k_is)
    (case l45 => k_is)
    (case c45 => k_is)
    (case k45 => k_is)
    intro a_law_a_release t_law_a_release d_law_a_release
    refine' DL.dfn_go (x := "_law_a_name") (st := DL.s_law_a_name) (ps := ["s", "words"]) KX G ?a46 ?l46 ?c46 ?k46 (fun _ _ _ _ _ _ us hl => match us, hl with | [_, _], _ => rfl) ?go46
    (case a46 => k_is)
    (case l46 => k_is)
    (case c46 => k_is)
    (case k46 => k_is)
    intro a_law_a_name t_law_a_name d_law_a_name
    refine' DL.dfn_go (x := "_law_a_price") (st := DL.s_law_a_price) (ps := ["s"]) KX G ?a47 ?l47 ?c47 ?k47 (fun _ _ _ _ _ _ us hl => match us, hl with | [_], _ => rfl) ?go47
    (case a47 => k_is)
    (case l47 => k_is)
    (case c47 => k_is)
    (case k47 => k_is)
    intro a_law_a_price t_law_a_price d_law_a_price
    refine' DL.dfn_go (x := "_law_a_condition") (st := DL.s_law_a_condition) (ps := ["s", "words"]) KX G ?a48 ?l48 ?c48 ?k48 (fun _ _ _ _ _ _ us hl => match us, hl with | [_, _], _ => rfl) ?go48
    (case a48 => k_is)
    (case l48 => k_is)
    (case c48 => k_is)
    (case k48 => k_is)
    intro a_law_a_condition t_law_a_condition d_law_a_condition
    refine' DL.dfn_go (x := "_law_a_conditions") (st := DL.s_law_a_conditions) (ps := ["s", "words", "least", "most"]) KX G ?a49 ?l49 ?c49 ?k49 (fun _ _ _ _ _ _ us hl => match us, hl with | [_, _, _, _], _ => rfl) ?go49
    (case a49 => k_is)
    (case l49 => k_is)
    (case c49 => k_is)
    (case k49 => k_is)
    intro a_law_a_conditions t_law_a_conditions d_law_a_conditions
    refine' DL.dfn_go (x := "_law_a_form") (st := DL.s_law_a_form) (ps := ["s", "words"]) KX G ?a50 ?l50 ?c50 ?k50 (fun _ _ _ _ _ _ us hl => match us, hl with | [_, _], _ => rfl) ?go50
    (case a50 => k_is)
    (case l50 => k_is)
    (case c50 => k_is)
    (case k50 => k_is)
    intro a_law_a_form t_law_a_form d_law_a_form
    refine' DL.dfn_go (x := "_law_a_line") (st := DL.s_law_a_line) (ps := ["s", "words"]) KX G ?a51 ?l51 ?c51 ?k51 (fun _ _ _ _ _ _ us hl => match us, hl with | [_, _], _ => rfl) ?go51
    (case a51 => k_is)
    (case l51 => k_is)
    (case c51 => k_is)
    (case k51 => k_is)
    intro a_law_a_line t_law_a_line d_law_a_line
    refine' DL.dfn_go (x := "_law_a_lines") (st := DL.s_law_a_lines) (ps := ["s", "many"]) KX G ?a52 ?l52 ?c52 ?k52 (fun _ _ _ _ _ _ us hl => match us, hl with | [_, _], _ => rfl) ?go52
    (case a52 => k_is)
    (case l52 => k_is)
    (case c52 => k_is)
    (case k52 => k_is)
    intro a_law_a_lines t_law_a_lines d_law_a_lines
    refine' DL.dfn_go (x := "_law_a_size") (st := DL.s_law_a_size) (ps := ["s"]) KX G ?a53 ?l53 ?c53 ?k53 (fun _ _ _ _ _ _ us hl => match us, hl with | [_], _ => rfl) ?go53
    (case a53 => k_is)
    (case l53 => k_is)
    (case c53 => k_is)
    (case k53 => k_is)
    intro a_law_a_size t_law_a_size d_law_a_size
    refine' DL.dfn_law (x := "law") (st := DL.s_law) (ps := ["script"]) KX G ?a54 ?l54 ?c54 ?k54 (fun _ _ _ _ _ _ us hl => match us, hl with | [_], _ => rfl) ?go54
    (case a54 => k_is)
    (case l54 => k_is)
    (case c54 => k_is)
    (case k54 => k_is)
    intro a_law t_law d_law bind_law
    refine' DL.glob_str_go (x := "LETTERS") (l := DL.cs "abcdefghijklmnopqrstuvwxyz") KX G ?a_LETTERS ?e_LETTERS ?g_LETTERS
    (case a_LETTERS => k_is)
    (case e_LETTERS => decide +kernel)
    intro k_LETTERS
    refine' DL.glob_str_go (x := "FIGURES") (l := DL.cs "0123456789") KX G ?a_FIGURES ?e_FIGURES ?g_FIGURES
    (case a_FIGURES => k_is)
    (case e_FIGURES => decide +kernel)
    intro k_FIGURES
    refine' DL.glob_str_go (x := "SIGNS") (l := DL.cs "abcdefghijklmnopqrstuvwxyz0123456789 .,:+") KX G ?a_SIGNS ?e_SIGNS ?g_SIGNS
    (case a_SIGNS => k_is)
    (case e_SIGNS => decide +kernel)
    intro k_SIGNS
    refine' DL.glob_tup_go (x := "KEPT") (ls := [DL.cs "name", DL.cs "hidden", DL.cs "release", DL.cs "feature", DL.cs "row", DL.cs "start", DL.cs "later", DL.cs "signer", DL.cs "book", DL.cs "end", DL.cs "after", DL.cs "up", DL.cs "down", DL.cs "never", DL.cs "from", DL.cs "not", DL.cs "at", DL.cs "none", DL.cs "on", DL.cs "need", DL.cs "clash", DL.cs "either", DL.cs "same", DL.cs "most", DL.cs "least", DL.cs "of", DL.cs "and", DL.cs "or", DL.cs "come", DL.cs "go", DL.cs "publish", DL.cs "withdraw", DL.cs "answer", DL.cs "letter", DL.cs "heard"]) KX G ?a_KEPT ?l_KEPT ?e_KEPT ?z_KEPT ?g_KEPT
    (case a_KEPT => k_is)
    (case l_KEPT => k_is)
    (case e_KEPT => decide +kernel)
    (case z_KEPT => decide +kernel)
    intro k_KEPT
    refine' DL.glob_int_go (x := "GREATEST_PRICE") (z := 1000000000) KX G ?a_GREATEST_PRICE ?g_GREATEST_PRICE
    (case a_GREATEST_PRICE => k_is)
    intro k_GREATEST_PRICE
    refine' DL.tab_go (x := "LIMITS") (w := w) (kvs := [(DL.cs "lines", 900), (DL.cs "signs", 400)]) KX G ?a_LIMITS ?r_LIMITS ?g_LIMITS
    (case a_LIMITS => k_is)
    (case r_LIMITS =>
      refine' DL.tab_cons (w := w) ?lLIMITS0 ?kLIMITS0 ?eLIMITS0 ?rLIMITS0
      (case lLIMITS0 => k_is)
      (case kLIMITS0 => repeat (first | exact True.intro | refine' ⟨⟨_, _, rfl, rfl⟩, ?_⟩))
      (case eLIMITS0 => k_is)
      refine' DL.tab_cons (w := w) ?lLIMITS1 ?kLIMITS1 ?eLIMITS1 ?rLIMITS1
      (case lLIMITS1 => k_is)
      (case kLIMITS1 => repeat (first | exact True.intro | refine' ⟨⟨_, _, rfl, rfl⟩, ?_⟩))
      (case eLIMITS1 => k_is)
      exact fun _ _ z => by cases z)
    intro k_LIMITS
    refine' DL.glob_tup_go (x := "FIRST_WORDS") (ls := [DL.cs "name", DL.cs "hidden", DL.cs "release", DL.cs "feature", DL.cs "row", DL.cs "start", DL.cs "later", DL.cs "signer", DL.cs "book", DL.cs "end"]) KX G ?a_FIRST_WORDS ?l_FIRST_WORDS ?e_FIRST_WORDS ?z_FIRST_WORDS ?g_FIRST_WORDS
    (case a_FIRST_WORDS => k_is)
    (case l_FIRST_WORDS => k_is)
    (case e_FIRST_WORDS => decide +kernel)
    (case z_FIRST_WORDS => decide +kernel)
    intro k_FIRST_WORDS
    have z_abs : mg "abs" = none := by
      refine' PySem.W.mg_none_of KX G ?a
      (case a => k_is)
    have z_all : mg "all" = none := by
      refine' PySem.W.mg_none_of KX G ?a
      (case a => k_is)
    have z_bool : mg "bool" = none := by
      refine' PySem.W.mg_none_of KX G ?a
      (case a => k_is)
    have z_dict : mg "dict" = none := by
      refine' PySem.W.mg_none_of KX G ?a
      (case a => k_is)
    have z_enumerate : mg "enumerate" = none := by
      refine' PySem.W.mg_none_of KX G ?a
      (case a => k_is)
    have z_int : mg "int" = none := by
      refine' PySem.W.mg_none_of KX G ?a
      (case a => k_is)
    have z_isinstance : mg "isinstance" = none := by
      refine' PySem.W.mg_none_of KX G ?a
      (case a => k_is)
    have z_len : mg "len" = none := by
      refine' PySem.W.mg_none_of KX G ?a
      (case a => k_is)
    have z_list : mg "list" = none := by
      refine' PySem.W.mg_none_of KX G ?a
      (case a => k_is)
    have z_min : mg "min" = none := by
      refine' PySem.W.mg_none_of KX G ?a
      (case a => k_is)
    have z_range : mg "range" = none := by
      refine' PySem.W.mg_none_of KX G ?a
      (case a => k_is)
    have z_str : mg "str" = none := by
      refine' PySem.W.mg_none_of KX G ?a
      (case a => k_is)
    have z_tuple : mg "tuple" = none := by
      refine' PySem.W.mg_none_of KX G ?a
      (case a => k_is)
    have e := hmg.symm.trans d_law.m
    cases e
    exact ⟨t_law, fun s u => bind_law s [u] rfl, fun base => DL.ok_law { a_sign_fault := a_sign_fault, t_sign_fault := t_sign_fault, d_sign_fault := d_sign_fault, a_is_figures := a_is_figures, t_is_figures := t_is_figures, d_is_figures := d_is_figures, a_is_number := a_is_number, t_is_number := t_is_number, d_is_number := d_is_number, a_is_word := a_is_word, t_is_word := t_is_word, d_is_word := d_is_word, a_is_version := a_is_version, t_is_version := t_is_version, d_is_version := d_is_version, a_is_release := a_is_release, t_is_release := t_is_release, d_is_release := d_is_release, a_is_price := a_is_price, t_is_price := t_is_price, d_is_price := d_is_price, a_price_of := a_price_of, t_price_of := t_price_of, d_price_of := d_price_of, a_price_word := a_price_word, t_price_word := t_price_word, d_price_word := d_price_word, a_is_short_name := a_is_short_name, t_is_short_name := t_is_short_name, d_is_short_name := d_is_short_name, a_is_whole_name := a_is_whole_name, t_is_whole_name := t_is_whole_name, d_is_whole_name := d_is_whole_name, a_split_tokens := a_split_tokens, t_split_tokens := t_split_tokens, d_split_tokens := d_split_tokens, a_read_condition := a_read_condition, t_read_condition := t_read_condition, d_read_condition := d_read_condition, a_read_conditions := a_read_conditions, t_read_conditions := t_read_conditions, d_read_conditions := d_read_conditions, a_read_need := a_read_need, t_read_need := t_read_need, d_read_need := d_read_need, a_read_counted := a_read_counted, t_read_counted := t_read_counted, d_read_counted := d_read_counted, a_read_form := a_read_form, t_read_form := t_read_form, d_read_form := d_read_form, a_condition_words := a_condition_words, t_condition_words := t_condition_words, d_condition_words := d_condition_words, a_many_words := a_many_words, t_many_words := t_many_words, d_many_words := d_many_words, a_form_words := a_form_words, t_form_words := t_form_words, d_form_words := d_form_words, a_bound_check := a_bound_check, t_bound_check := t_bound_check, d_bound_check := d_bound_check, a_text_rows := a_text_rows, t_text_rows := t_text_rows, d_text_rows := d_text_rows, a_checked_rows := a_checked_rows, t_checked_rows := t_checked_rows, d_checked_rows := d_checked_rows, a_read_release := a_read_release, t_read_release := t_read_release, d_read_release := d_read_release, a_read_feature := a_read_feature, t_read_feature := t_read_feature, d_read_feature := d_read_feature, a_read_signer := a_read_signer, t_read_signer := t_read_signer, d_read_signer := d_read_signer, a_read_line := a_read_line, t_read_line := t_read_line, d_read_line := d_read_line, a_read_lines := a_read_lines, t_read_lines := t_read_lines, d_read_lines := d_read_lines, a_line_words := a_line_words, t_line_words := t_line_words, d_line_words := d_line_words, a_print_lines := a_print_lines, t_print_lines := t_print_lines, d_print_lines := d_print_lines, a_law_cell := a_law_cell, t_law_cell := t_law_cell, d_law_cell := d_law_cell, a_law_source := a_law_source, t_law_source := t_law_source, d_law_source := d_law_source, a_law_pick := a_law_pick, t_law_pick := t_law_pick, d_law_pick := d_law_pick, a_law_number := a_law_number, t_law_number := t_law_number, d_law_number := d_law_number, a_law_kept := a_law_kept, t_law_kept := t_law_kept, d_law_kept := d_law_kept, a_law_words := a_law_words, t_law_words := t_law_words, d_law_words := d_law_words, a_law_same := a_law_same, t_law_same := t_law_same, d_law_same := d_law_same, a_law_condition_words := a_law_condition_words, t_law_condition_words := t_law_condition_words, d_law_condition_words := d_law_condition_words, a_law_parts := a_law_parts, t_law_parts := t_law_parts, d_law_parts := d_law_parts, a_law_form_words := a_law_form_words, t_law_form_words := t_law_form_words, d_law_form_words := d_law_form_words, a_law_price_word := a_law_price_word, t_law_price_word := t_law_price_word, d_law_price_word := d_law_price_word, a_law_line_words := a_law_line_words, t_law_line_words := t_law_line_words, d_law_line_words := d_law_line_words, a_law_show := a_law_show, t_law_show := t_law_show, d_law_show := d_law_show, a_law_a_version := a_law_a_version, t_law_a_version := t_law_a_version, d_law_a_version := d_law_a_version, a_law_a_release := a_law_a_release, t_law_a_release := t_law_a_release, d_law_a_release := d_law_a_release, a_law_a_name := a_law_a_name, t_law_a_name := t_law_a_name, d_law_a_name := d_law_a_name, a_law_a_price := a_law_a_price, t_law_a_price := t_law_a_price, d_law_a_price := d_law_a_price, a_law_a_condition := a_law_a_condition, t_law_a_condition := t_law_a_condition, d_law_a_condition := d_law_a_condition, a_law_a_conditions := a_law_a_conditions, t_law_a_conditions := t_law_a_conditions, d_law_a_conditions := d_law_a_conditions, a_law_a_form := a_law_a_form, t_law_a_form := t_law_a_form, d_law_a_form := d_law_a_form, a_law_a_line := a_law_a_line, t_law_a_line := t_law_a_line, d_law_a_line := d_law_a_line, a_law_a_lines := a_law_a_lines, t_law_a_lines := t_law_a_lines, d_law_a_lines := d_law_a_lines, a_law_a_size := a_law_a_size, t_law_a_size := t_law_a_size, d_law_a_size := d_law_a_size, a_law := _, t_law := t_law, d_law := d_law, k_LETTERS := k_LETTERS, k_FIGURES := k_FIGURES, k_SIGNS := k_SIGNS, k_KEPT := k_KEPT, k_GREATEST_PRICE := k_GREATEST_PRICE, k_LIMITS := k_LIMITS, k_FIRST_WORDS := k_FIRST_WORDS, z_abs := z_abs, z_all := z_all, z_bool := z_bool, z_dict := z_dict, z_enumerate := z_enumerate, z_int := z_int, z_isinstance := z_isinstance, z_len := z_len, z_list := z_list, z_min := z_min, z_range := z_range, z_str := z_str, z_tuple := z_tuple }⟩

