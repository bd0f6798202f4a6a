import PyProof.Rows.All
import Wide.All
import OpenK.AllK
import Wide.FinOn
import HandS.ForMost
import HandS.IsInst
import HandS.More
import HandS.ExcInit
import HandS.ExcField
import HandS.ExcOwn
import HandS.WordsExc
import HandS.TryOnly
import HandS.StrMore
import PyProof.StrBlock2
import KE.DataMinMax
import KE.DataEq
import HandS.ExcIs
import HandS.ReplaceLit
import PyProof.ToksMono
import PySem.Challenge.RW_mustask_k01_first_wrong_line
import PyProof.StrLawsIn
import PyProof.Rows.StrDouble
import PyProof.Rows.StrFirst
set_option Elab.async false
set_option linter.all false
set_option maxRecDepth 100000
set_option maxHeartbeats 4000000
namespace DL
open PySem PySem.Spec L2

abbrev D := PyData
/-- a text by its codes -/
abbrev ds (l : List Nat) : D := .str ⟨l.toArray⟩
/-- what a slot of a def holds: nothing known, data that stands still, a list of its own that may change -/
inductive Sl where
  | no
  | d (x : D)
  | own (xs : List D)

/-- the entry of a def: the still part of the heap, the heap, the slots that hold the caller's lists -/
structure Wd where
  F0 : Hp
  H0 : Hp
  P : Nat → Option Addr

mutual
theorem dpMono {K : PySem.W.Frag} {F F' : Hp} (e : Same F F') : ∀ (d : D) (v : V), Dp K F v d → Dp K F' v d
  | .none, _, h => by cases h; exact .non
  | .bool b, _, h => by cases h; exact .bl b
  | .int i, _, h => by cases h; exact .int i
  | .str x, _, h => by cases h; exact .str x
  | .list ds, _, h => by
    cases h with
    | lst hs ha => exact .lst (e.seq hs) (dpAllMono e ds _ ha)
  | .tuple ds, _, h => by
    cases h with
    | tup hs ha =>
      refine .tup ?_ (dpAllMono e ds _ ha)
      rcases hs with (hs | ⟨o, hs⟩) | hs
      · exact .inl (.inl (e _ _ hs))
      · exact .inl (.inr ⟨o, e _ _ hs⟩)
      · exact .inr hs
  | .dict _, _, h => by cases h
theorem dpAllMono {K : PySem.W.Frag} {F F' : Hp} (e : Same F F') : ∀ (ds : List D) (vs : List V), DpAll K F vs ds → DpAll K F' vs ds
  | [], _, h => by cases h; exact .nil
  | d :: ds, _, h => by
    cases h with
    | cons h1 h2 => exact .cons (dpMono e d _ h1) (dpAllMono e ds _ h2)
end

theorem DpAll.length {K : PySem.W.Frag} {F : Hp} : ∀ {vs : List V} {ds : List D}, DpAll K F vs ds → vs.length = ds.length
  | _, _, .nil => rfl
  | _, _, .cons _ t => congrArg (· + 1) (DpAll.length t)
theorem DpAll.get {K : PySem.W.Frag} {F : Hp} : ∀ {vs : List V} {ds : List D} {i : Nat} {d : D}, DpAll K F vs ds → ds[i]? = some d → ∃ v, vs[i]? = some v ∧ Dp K F v d
  | _, _, _, _, .nil, e => by simp at e
  | _, _, 0, _, .cons r _, e => by simp at e; subst e; exact ⟨_, rfl, r⟩
  | _, _, i + 1, d, .cons _ t, e => by
    obtain ⟨u, h1, h2⟩ := DpAll.get (i := i) (d := d) t (by simpa using e)
    exact ⟨u, by simpa using h1, h2⟩
theorem DpAll.getV {K : PySem.W.Frag} {F : Hp} {vs : List V} {ds : List D} {i : Nat} {v : V} (h : DpAll K F vs ds) (e : vs[i]? = some v) : ∃ d, ds[i]? = some d ∧ Dp K F v d := by
  have hi : i < ds.length := by rw [← DpAll.length h]; exact (List.getElem?_eq_some_iff.mp e).1
  obtain ⟨u, h1, h2⟩ := DpAll.get h (List.getElem?_eq_getElem hi)
  rw [e] at h1
  cases h1
  exact ⟨_, List.getElem?_eq_getElem hi, h2⟩
theorem DpAll.append {K : PySem.W.Frag} {F : Hp} : ∀ {vs : List V} {ds : List D} {ws : List V} {es : List D}, DpAll K F vs ds → DpAll K F ws es → DpAll K F (vs ++ ws) (ds ++ es)
  | _, _, _, _, .nil, s => s
  | _, _, _, _, .cons r t, s => .cons r (DpAll.append t s)
theorem DpAll.take {K : PySem.W.Frag} {F : Hp} : ∀ {vs : List V} {ds : List D} (n : Nat), DpAll K F vs ds → DpAll K F (vs.take n) (ds.take n)
  | _, _, 0, _ => .nil
  | _, _, _ + 1, .nil => .nil
  | _, _, n + 1, .cons r t => .cons r (DpAll.take n t)
theorem DpAll.drop {K : PySem.W.Frag} {F : Hp} : ∀ {vs : List V} {ds : List D} (n : Nat), DpAll K F vs ds → DpAll K F (vs.drop n) (ds.drop n)
  | _, _, 0, r => r
  | _, _, _ + 1, .nil => .nil
  | _, _, n + 1, .cons _ t => DpAll.drop n t
theorem DpAll.rev {K : PySem.W.Frag} {F : Hp} : ∀ {vs : List V} {ds : List D}, DpAll K F vs ds → DpAll K F vs.reverse ds.reverse
  | _, _, .nil => .nil
  | _, _, .cons r t => by
    rw [List.reverse_cons, List.reverse_cons]
    exact DpAll.append (DpAll.rev t) (.cons r .nil)
theorem DpAll.set {K : PySem.W.Frag} {F : Hp} {v : V} {d : D} (r : Dp K F v d) : ∀ {vs : List V} {ds : List D} (i : Nat), DpAll K F vs ds → DpAll K F (vs.set i v) (ds.set i d)
  | _, _, _, .nil => .nil
  | _, _, 0, .cons _ t => .cons r t
  | _, _, i + 1, .cons q t => .cons q (DpAll.set r i t)

structure Rel (K : PySem.W.Frag) (W : Wd) (F H : Hp) (σ : St) (st : List Sl) : Prop where
  fh : Same F H
  ff : Same W.F0 F
  new : ∀ b o, F b = some o → W.F0 b = some o ∨ W.H0 b = none
  frm : ∀ b o, W.H0 b = some o → (∀ i, W.P i ≠ some b) → H b = some o
  len : st.length = σ.length
  val : ∀ (i : Nat) (x : D), st[i]? = some (.d x) → ∃ v, σ[i]? = some (some v) ∧ Dp K F v x
  own : ∀ (i : Nat) (xs : List D), st[i]? = some (.own xs) → ∃ (a : Addr) (vs : List V), σ[i]? = some (some (.ref a)) ∧ H a = some (.lst vs) ∧ F a = none ∧ DpAll K F vs xs ∧ (W.P i = some a ∨ W.H0 a = none)
  apart : ∀ (i j : Nat) (xs ys : List D) (a : Addr), i ≠ j → st[i]? = some (.own xs) → st[j]? = some (.own ys) → σ[i]? = some (some (.ref a)) → σ[j]? ≠ some (some (.ref a))
  par : ∀ (i : Nat) (a : Addr), W.P i = some a → (∃ xs, st[i]? = some (.own xs)) ∧ σ[i]? = some (some (.ref a))

section
variable {K : PySem.W.Frag} {W : Wd} {F H : Hp} {σ : St} {st : List Sl}
/-- a new object that stands still -/
theorem Rel.laid {p : Addr} {o : HO} (R : Rel K W F H σ st) (hp : H p = none) : Rel K W (upd F p o) (upd H p o) σ st := by
  have hF : F p = none := R.fh.free hp
  have hW : ∀ i, W.P i ≠ some p := fun i e => by
    obtain ⟨⟨xs, h1⟩, h2⟩ := R.par i p e
    obtain ⟨a, vs, e1, e2, _⟩ := R.own i xs h1
    rw [h2] at e1
    cases e1
    rw [hp] at e2
    cases e2
  refine ⟨fun b u e => ?_, fun b u e => ?_, fun b u e => ?_, fun b u e f => ?_, R.len, fun i x e => ?_, fun i xs e => ?_, R.apart, R.par⟩
  · by_cases hb : b = p
    · subst hb; rw [upd_same] at e; rw [upd_same]; exact e
    · rw [upd_ne hb] at e; rw [upd_ne hb]; exact R.fh b u e
  · have q := R.ff b u e
    rw [upd_ne (ne_of_none q hF)]; exact q
  · by_cases hb : b = p
    · subst hb
      right
      cases q : W.H0 b with
      | none => rfl
      | some u' =>
        have := R.frm b u' q hW
        rw [hp] at this
        cases this
    · rw [upd_ne hb] at e; exact R.new b u e
  · have q := R.frm b u e f
    rw [upd_ne (ne_of_none q hp)]; exact q
  · obtain ⟨v, h1, h2⟩ := R.val i x e
    exact ⟨v, h1, dpMono (fun b u q => by rw [upd_ne (ne_of_none q hF)]; exact q) _ _ h2⟩
  · obtain ⟨a, vs, h1, h2, h3, h4, h5⟩ := R.own i xs e
    refine ⟨a, vs, h1, ?_, ?_, dpAllMono (fun b u q => by rw [upd_ne (ne_of_none q hF)]; exact q) _ _ h4, h5⟩
    · rw [upd_ne (ne_of_none h2 hp)]; exact h2
    · rw [upd_ne (ne_of_none h2 hp)]; exact h3
theorem same_upd {p : Addr} {o : HO} (hF : F p = none) : Same F (upd F p o) := fun b u q => by rw [upd_ne (ne_of_none q hF)]; exact q
/-- a list of one's own comes to stand still -/
theorem Rel.freeze {a : Addr} {vs : List V} (R : Rel K W F H σ st) (h : H a = some (.lst vs)) (hF : F a = none) (h0 : W.H0 a = none) (hno : ∀ (i : Nat) (xs : List D), st[i]? = some (.own xs) → σ[i]? ≠ some (some (.ref a))) :
    Rel K W (upd F a (.lst vs)) H σ st := by
  have e : Same F (upd F a (.lst vs)) := same_upd hF
  refine ⟨fun b u q => ?_, R.ff.trans e, fun b u q => ?_, R.frm, R.len, fun i x q => ?_, fun i xs q => ?_, R.apart, R.par⟩
  · by_cases hb : b = a
    · subst hb; rw [upd_same] at q; cases q; exact h
    · rw [upd_ne hb] at q; exact R.fh b u q
  · by_cases hb : b = a
    · subst hb; exact .inr h0
    · rw [upd_ne hb] at q; exact R.new b u q
  · obtain ⟨v, h1, h2⟩ := R.val i x q
    exact ⟨v, h1, dpMono e _ _ h2⟩
  · obtain ⟨c, ws, h1, h2, h3, h4, h5⟩ := R.own i xs q
    refine ⟨c, ws, h1, h2, ?_, dpAllMono e _ _ h4, h5⟩
    rw [upd_ne (fun z => hno i xs q (by rw [h1, z]))]
    exact h3
/-- the list of a slot changes -/
theorem Rel.change {i : Nat} {xs ys : List D} {a : Addr} {ws : List V} (R : Rel K W F H σ st) (hi : st[i]? = some (.own xs)) (ha : σ[i]? = some (some (.ref a))) (hw : DpAll K F ws ys) :
    Rel K W F (upd H a (.lst ws)) σ (st.set i (.own ys)) := by
  obtain ⟨c, vs, h1, h2, h3, h4, h5⟩ := R.own i xs hi
  rw [ha] at h1
  cases h1
  have hil : i < st.length := (List.getElem?_eq_some_iff.mp hi).1
  have sw : ∀ (j : Nat) (zs : List D), (st.set i (.own ys))[j]? = some (.own zs) → ∃ zs', st[j]? = some (.own zs') := fun j zs q => by
    by_cases hj : j = i
    · subst hj; exact ⟨xs, hi⟩
    · rw [List.getElem?_set_ne (Ne.symm hj)] at q; exact ⟨zs, q⟩
  refine ⟨fun b u q => ?_, R.ff, R.new, fun b u q f => ?_, by rw [List.length_set]; exact R.len, fun j x q => ?_, fun j zs q => ?_, fun j k zs zs' b hjk q1 q2 => ?_, fun j b q => ?_⟩
  · rw [upd_ne (fun z => by rw [z, h3] at q; cases q)]; exact R.fh b u q
  · have hb := R.frm b u q f
    rw [upd_ne (fun z => ?_)]
    · exact hb
    · subst z
      rcases h5 with h5 | h5
      · exact f i h5
      · rw [h5] at q; cases q
  · by_cases hj : j = i
    · subst hj; rw [List.getElem?_set_self hil] at q; cases q
    · rw [List.getElem?_set_ne (Ne.symm hj)] at q; exact R.val j x q
  · by_cases hj : j = i
    · subst hj
      rw [List.getElem?_set_self hil] at q
      cases q
      exact ⟨a, ws, ha, upd_same, h3, hw, h5⟩
    · rw [List.getElem?_set_ne (Ne.symm hj)] at q
      obtain ⟨c, vs', g1, g2, g3, g4, g5⟩ := R.own j zs q
      refine ⟨c, vs', g1, ?_, g3, g4, g5⟩
      rw [upd_ne (fun z => ?_)]
      · exact g2
      · subst z
        exact R.apart j i zs xs c hj q hi g1 ha
  · obtain ⟨w1, q1'⟩ := sw j zs q1
    obtain ⟨w2, q2'⟩ := sw k zs' q2
    exact R.apart j k w1 w2 b hjk q1' q2'
  · obtain ⟨⟨zs, g1⟩, g2⟩ := R.par j b q
    refine ⟨?_, g2⟩
    by_cases hj : j = i
    · subst hj; exact ⟨ys, by rw [List.getElem?_set_self hil]⟩
    · exact ⟨zs, by rw [List.getElem?_set_ne (Ne.symm hj)]; exact g1⟩
/-- a slot is set to data -/
theorem Rel.setD {i : Nat} {v : V} {x : D} (R : Rel K W F H σ st) (hP : W.P i = none) (hv : Dp K F v x) : Rel K W F H (σ.set i (some v)) (st.set i (.d x)) := by
  have old : ∀ (j : Nat) (xs : List D), (st.set i (.d x))[j]? = some (.own xs) → j ≠ i ∧ st[j]? = some (.own xs) := fun j xs q => by
    by_cases hj : j = i
    · subst hj
      by_cases hl : j < st.length
      · rw [List.getElem?_set_self hl] at q; cases q
      · rw [List.getElem?_eq_none (by rw [List.length_set]; omega)] at q; cases q
    · rw [List.getElem?_set_ne (Ne.symm hj)] at q; exact ⟨hj, q⟩
  refine ⟨R.fh, R.ff, R.new, R.frm, by rw [List.length_set, List.length_set]; exact R.len, fun j y q => ?_, fun j xs q => ?_, fun j k xs ys b hjk q1 q2 q3 => ?_, fun j b q => ?_⟩
  · by_cases hj : j = i
    · subst hj
      by_cases hl : j < st.length
      · rw [List.getElem?_set_self hl] at q
        cases q
        exact ⟨v, by rw [List.getElem?_set_self (by rw [← R.len]; exact hl)], hv⟩
      · rw [List.getElem?_eq_none (by rw [List.length_set]; omega)] at q; cases q
    · rw [List.getElem?_set_ne (Ne.symm hj)] at q
      obtain ⟨w, h1, h2⟩ := R.val j y q
      exact ⟨w, by rw [List.getElem?_set_ne (Ne.symm hj)]; exact h1, h2⟩
  · obtain ⟨hj, q⟩ := old j xs q
    obtain ⟨a, vs, h1, h2⟩ := R.own j xs q
    exact ⟨a, vs, by rw [List.getElem?_set_ne (Ne.symm hj)]; exact h1, h2⟩
  · obtain ⟨hj, q1⟩ := old j xs q1
    obtain ⟨hk, q2⟩ := old k ys q2
    rw [List.getElem?_set_ne (Ne.symm hj)] at q3
    rw [List.getElem?_set_ne (Ne.symm hk)]
    exact R.apart j k xs ys b hjk q1 q2 q3
  · obtain ⟨⟨xs, h1⟩, h2⟩ := R.par j b q
    have hj : j ≠ i := fun z => by rw [z, hP] at q; cases q
    exact ⟨⟨xs, by rw [List.getElem?_set_ne (Ne.symm hj)]; exact h1⟩, by rw [List.getElem?_set_ne (Ne.symm hj)]; exact h2⟩
/-- a slot is set to a list of its own -/
theorem Rel.setO {i : Nat} {a : Addr} {vs : List V} {xs : List D} (R : Rel K W F H σ st) (hP : W.P i = none) (h : H a = some (.lst vs)) (hF : F a = none) (h0 : W.H0 a = none) (hv : DpAll K F vs xs)
    (hno : ∀ (j : Nat) (ys : List D), st[j]? = some (.own ys) → σ[j]? ≠ some (some (.ref a))) : Rel K W F H (σ.set i (some (.ref a))) (st.set i (.own xs)) := by
  have old : ∀ (j : Nat) (ys : List D), j ≠ i → (st.set i (.own xs))[j]? = some (.own ys) → st[j]? = some (.own ys) := fun j ys hj q => by
    rw [List.getElem?_set_ne (Ne.symm hj)] at q; exact q
  refine ⟨R.fh, R.ff, R.new, R.frm, by rw [List.length_set, List.length_set]; exact R.len, fun j y q => ?_, fun j ys q => ?_, fun j k ys zs b hjk q1 q2 q3 => ?_, fun j b q => ?_⟩
  · by_cases hj : j = i
    · subst hj
      by_cases hl : j < st.length
      · rw [List.getElem?_set_self hl] at q; cases q
      · rw [List.getElem?_eq_none (by rw [List.length_set]; omega)] at q; cases q
    · rw [List.getElem?_set_ne (Ne.symm hj)] at q
      obtain ⟨w, h1, h2⟩ := R.val j y q
      exact ⟨w, by rw [List.getElem?_set_ne (Ne.symm hj)]; exact h1, h2⟩
  · by_cases hj : j = i
    · subst hj
      by_cases hl : j < st.length
      · rw [List.getElem?_set_self hl] at q
        cases q
        exact ⟨a, vs, by rw [List.getElem?_set_self (by rw [← R.len]; exact hl)], h, hF, hv, .inr h0⟩
      · rw [List.getElem?_eq_none (by rw [List.length_set]; omega)] at q; cases q
    · obtain ⟨c, ws, h1, h2⟩ := R.own j ys (old j ys hj q)
      exact ⟨c, ws, by rw [List.getElem?_set_ne (Ne.symm hj)]; exact h1, h2⟩
  · intro q4
    by_cases hj : j = i
    · have hk : k ≠ i := fun z => hjk (hj.trans z.symm)
      have q2' := old k zs hk q2
      rw [List.getElem?_set_ne (Ne.symm hk)] at q4
      subst hj
      have hl : j < σ.length := by
        have := (List.getElem?_eq_some_iff.mp q3).1
        rw [List.length_set] at this
        exact this
      rw [List.getElem?_set_self hl] at q3
      cases q3
      exact hno k zs q2' q4
    · have q1' := old j ys hj q1
      rw [List.getElem?_set_ne (Ne.symm hj)] at q3
      by_cases hk : k = i
      · subst hk
        have hl : k < σ.length := by
          have := (List.getElem?_eq_some_iff.mp q4).1
          rw [List.length_set] at this
          exact this
        rw [List.getElem?_set_self hl] at q4
        cases q4
        exact hno j ys q1' q3
      · have q2' := old k zs hk q2
        rw [List.getElem?_set_ne (Ne.symm hk)] at q4
        exact R.apart j k ys zs b hjk q1' q2' q3 q4
  · obtain ⟨⟨ys, h1⟩, h2⟩ := R.par j b q
    have hj : j ≠ i := fun z => by rw [z, hP] at q; cases q
    exact ⟨⟨ys, by rw [List.getElem?_set_ne (Ne.symm hj)]; exact h1⟩, by rw [List.getElem?_set_ne (Ne.symm hj)]; exact h2⟩
/-- a slot is forgotten -/
theorem Rel.forget {i : Nat} {u : Option V} (R : Rel K W F H σ st) (hP : W.P i = none) : Rel K W F H (σ.set i u) (st.set i .no) := by
  have old : ∀ (j : Nat) (s : Sl), s ≠ .no → (st.set i .no)[j]? = some s → j ≠ i ∧ st[j]? = some s := fun j s hs q => by
    by_cases hj : j = i
    · subst hj
      by_cases hl : j < st.length
      · rw [List.getElem?_set_self hl] at q; exact absurd (Option.some.inj q).symm hs
      · rw [List.getElem?_eq_none (by rw [List.length_set]; omega)] at q; cases q
    · rw [List.getElem?_set_ne (Ne.symm hj)] at q; exact ⟨hj, q⟩
  refine ⟨R.fh, R.ff, R.new, R.frm, by rw [List.length_set, List.length_set]; exact R.len, fun j y q => ?_, fun j xs q => ?_, fun j k xs ys b hjk q1 q2 q3 => ?_, fun j b q => ?_⟩
  · obtain ⟨hj, q⟩ := old j _ (by intro z; cases z) q
    obtain ⟨w, h1, h2⟩ := R.val j y q
    exact ⟨w, by rw [List.getElem?_set_ne (Ne.symm hj)]; exact h1, h2⟩
  · obtain ⟨hj, q⟩ := old j _ (by intro z; cases z) q
    obtain ⟨a, vs, h1, h2⟩ := R.own j xs q
    exact ⟨a, vs, by rw [List.getElem?_set_ne (Ne.symm hj)]; exact h1, h2⟩
  · obtain ⟨hj, q1⟩ := old j _ (by intro z; cases z) q1
    obtain ⟨hk, q2⟩ := old k _ (by intro z; cases z) q2
    rw [List.getElem?_set_ne (Ne.symm hj)] at q3
    rw [List.getElem?_set_ne (Ne.symm hk)]
    exact R.apart j k xs ys b hjk q1 q2 q3
  · obtain ⟨⟨xs, h1⟩, h2⟩ := R.par j b q
    have hj : j ≠ i := fun z => by rw [z, hP] at q; cases q
    exact ⟨⟨xs, by rw [List.getElem?_set_ne (Ne.symm hj)]; exact h1⟩, by rw [List.getElem?_set_ne (Ne.symm hj)]; exact h2⟩
end
end DL

set_option Elab.async false
set_option linter.all false
set_option maxRecDepth 100000
set_option maxHeartbeats 4000000
namespace DL
open PySem PySem.Spec L2

abbrev ES := List Sl → Option (D × List Sl)
abbrev BS := List Sl → Option (Bool × List Sl)
abbrev OS := List Sl → Option (List D × List Sl)
/-- an expression gives data -/
def tD (K : PySem.W.Frag) (W : Wd) (f : ES) : TE := fun σ H Q => ∃ F st r, Rel K W F H σ st ∧ f st = some r ∧ ∀ v F' H', Rel K W F' H' σ r.2 → Same F F' → Dp K F' v r.1 → Q v H'
def tT (K : PySem.W.Frag) (W : Wd) (f : BS) : TT := fun σ H Q => ∃ F st r, Rel K W F H σ st ∧ f st = some r ∧ ∀ F' H', Rel K W F' H' σ r.2 → Same F F' → Q r.1 H'
/-- an expression gives a new list that nobody else has -/
def Fresh (W : Wd) (F H : Hp) (σ : L2.St) (st : List Sl) (a : Addr) : Prop := F a = none ∧ W.H0 a = none ∧ ∀ (i : Nat) (xs : List D), st[i]? = some (.own xs) → σ[i]? ≠ some (some (.ref a))
def tO (K : PySem.W.Frag) (W : Wd) (f : OS) : TE := fun σ H Q => ∃ F st r, Rel K W F H σ st ∧ f st = some r ∧ ∀ a vs F' H', Rel K W F' H' σ r.2 → Same F F' → H' a = some (.lst vs) → Fresh W F' H' σ r.2 a → DpAll K F' vs r.1 → Q (.ref a) H'
abbrev DE (X : Cx) (W : Wd) (e : Expr) (f : ES) : Prop := PE X e (tD X.K W f)
abbrev DT (X : Cx) (W : Wd) (e : Expr) (f : BS) : Prop := PT X e (tT X.K W f)
abbrev DW (X : Cx) (W : Wd) (e : Expr) (f : BS) : Prop := PW X e (tT X.K W f)
abbrev DO (X : Cx) (W : Wd) (e : Expr) (f : OS) : Prop := PE X e (tO X.K W f)

theorem pe_imp {X : Cx} {e : Expr} {t t' : TE} (h : PE X e t) (i : ∀ σ H Q, t' σ H Q → t σ H Q) : PE X e t' := ⟨fun pins s σ H Q I q => h.run pins s σ H Q I (i σ H Q q)⟩
theorem pt_imp {X : Cx} {e : Expr} {t t' : TT} (h : PT X e t) (i : ∀ σ H Q, t' σ H Q → t σ H Q) : PT X e t' := ⟨fun pins s σ H Q I q => h.run pins s σ H Q I (i σ H Q q)⟩
theorem pw_imp {X : Cx} {e : Expr} {t t' : TT} (h : PW X e t) (i : ∀ σ H Q, t' σ H Q → t σ H Q) : PW X e t' := ⟨fun w pins s σ H Q I q => h.run w pins s σ H Q I (i σ H Q q)⟩
theorem ps_imp {X : Cx} {s : Stmt} {t t' : TS} (h : PS X s t) (i : ∀ D σ H, t' D σ H → t D σ H) : PS X s t' := ⟨fun pins s σ H D I q => h.run pins s σ H D I (i D σ H q)⟩
theorem pss_imp {X : Cx} {s : List Stmt} {t t' : TS} (h : PSs X s t) (i : ∀ D σ H, t' D σ H → t D σ H) : PSs X s t' := ⟨fun pins s σ H D I q => h.run pins s σ H D I (i D σ H q)⟩

/-! ### the functions -/
def eNm (i : Nat) : ES := fun st => match st[i]? with
  | some (.d x) => some (x, st)
  | _ => none
/-- the list of a slot, seen as it is (a borrowed look: its items stand still) -/
def oNm (i : Nat) : OS := fun st => match st[i]? with
  | some (.own xs) => some (xs, st)
  | _ => none
def eK (x : D) : ES := fun st => some (x, st)
def eNone : ES := fun _ => none
def bNone : BS := fun _ => none
def eBin (op : D → D → Option D) (f g : ES) : ES := fun st => (f st).bind fun r => (g r.2).bind fun q => (op r.1 q.1).map fun z => (z, q.2)
def eUn (op : D → Option D) (f : ES) : ES := fun st => (f st).bind fun r => (op r.1).map fun z => (z, r.2)
def eIf (c : BS) (f g : ES) : ES := fun st => (c st).bind fun r => if r.1 then f r.2 else g r.2
def oIf (c : BS) (f g : OS) : OS := fun st => (c st).bind fun r => if r.1 then f r.2 else g r.2
/-- a test of two values -/
def bBin (op : D → D → Option Bool) (f g : ES) : BS := fun st => (f st).bind fun r => (g r.2).bind fun q => (op r.1 q.1).map fun z => (z, q.2)
def bUn (op : D → Option Bool) (f : ES) : BS := fun st => (f st).bind fun r => (op r.1).map fun z => (z, r.2)
def bAnd (f g : BS) : BS := fun st => (f st).bind fun r => if r.1 then g r.2 else some (false, r.2)
def bOr (f g : BS) : BS := fun st => (f st).bind fun r => if r.1 then some (true, r.2) else g r.2
def bNot (f : BS) : BS := fun st => (f st).map fun r => (!r.1, r.2)
/-- a test as a value -/
def eB (f : BS) : ES := fun st => (f st).map fun r => (.bool r.1, r.2)
/-- a op b op' c -/
def bChain (op op' : D → D → Option Bool) (f g h : ES) : BS := fun st => (f st).bind fun r => (g r.2).bind fun q => (op r.1 q.1).bind fun k => if k then (h q.2).bind fun z => (op' q.1 z.1).map fun y => (y, z.2) else some (false, q.2)
/-- a list of one's own comes to stand still -/
def eFz (f : OS) : ES := fun st => (f st).map fun r => (.list r.1, r.2)
def boolOf : D → Option Bool
  | .bool b => some b
  | _ => none
/-- arguments -/
abbrev AS := List Sl → Option (List D × List Sl)
def aNil : AS := fun st => some ([], st)
def aCons (f : ES) (g : AS) : AS := fun st => (f st).bind fun r => (g r.2).map fun q => (r.1 :: q.1, q.2)

section
variable {X : Cx} {W : Wd} {a b c : Expr} {f g h : ES} {p q t : BS} {o o' : OS} {pos : Pos}

theorem de_none {e : Expr} : PE X e (fun _ _ _ => False) := ⟨fun _ _ _ _ _ _ h => h.elim⟩
theorem de_never {e : Expr} : DE X W e eNone := pe_imp de_none fun _ _ _ ⟨_, _, _, _, e, _⟩ => by cases e
theorem dt_never {e : Expr} : DT X W e bNone := ⟨fun _ _ _ _ _ _ ⟨_, _, _, _, e, _⟩ => by cases e⟩
theorem de_nm (i : Nat) {x : Str} {pos : Pos} (hN : X.N[i]? = some x := by rfl) (hv : Vis X.env.scope x := by first | exact Or.inl rfl | exact Or.inr (Or.inl rfl) | exact Or.inr (Or.inr rfl)) (hd : (x == ("__debug__" : Str)) = false := by decide)
    (hcd : (x == ("__classdict__" : Str)) = false := by decide) : DE X W (.Name x pos) (eNm i) := pe_imp (pe_var (i := i) hN hv hd hcd) fun σ H Q ⟨F, st, r, R, e, k⟩ => by
  unfold eNm at e
  split at e
  · rename_i y hy
    cases e
    obtain ⟨v, h1, h2⟩ := R.val i y hy
    exact ⟨v, h1, k v F H R (Same.refl _) h2⟩
  · cases e
theorem de_c {e : Expr} {v : V} {x : D} (h : PE X e (tC v)) (hv : Dp X.K (fun _ => none) v x) : DE X W e (eK x) := pe_imp h fun σ H Q ⟨F, st, r, R, e, k⟩ => by
  cases e
  exact k v F H R (Same.refl _) (dpMono (fun b o z => by cases z) _ _ hv)
theorem de_int {i j pos} : DE X W (.Constant (.int i) j pos) (eK (.int i)) := de_c pe_int (.int i)
theorem de_bl {i j pos} : DE X W (.Constant (.bool i) j pos) (eK (.bool i)) := de_c pe_bl (.bl i)
theorem de_non {j pos} : DE X W (.Constant .none j pos) (eK .none) := de_c pe_non .non
theorem de_str {x j pos} {l : List Nat} (e : x = (⟨l.toArray⟩ : Str)) : DE X W (.Constant (.str x) j pos) (eK (ds l)) := by
  subst e
  exact de_c pe_str (.str _)

/-! ### two-place operations -/
/-- what a reading by values must take -/
def OpS (K : PySem.W.Frag) (r : R2) (op : D → D → Option D) : Prop := ∀ (W : Wd) (F H : Hp) (σ : L2.St) (st : List Sl) (x y : V) (a b c : D) (Q : VK), Rel K W F H σ st → Dp K F x a → Dp K F y b → op a b = some c →
  (∀ v F' H', Rel K W F' H' σ st → Same F F' → Dp K F' v c → Q v H') → r x y H Q
def OpT (K : PySem.W.Frag) (r : R2) (op : D → D → Option Bool) : Prop := ∀ (F H : Hp) (x y : V) (a b : D) (c : Bool) (Q : VK), Same F H → Dp K F x a → Dp K F y b → op a b = some c → Q (.bl c) H → r x y H Q
theorem tOp_of {r : R2} {op : D → D → Option D} (hs : OpS X.K r op) : ∀ σ H Q, tD X.K W (eBin op f g) σ H Q → tOp r (tD X.K W f) (tD X.K W g) σ H Q := fun σ H Q ⟨F, st, z, R, e, k⟩ => by
  unfold eBin at e
  obtain ⟨r1, e1, e⟩ := Option.bind_eq_some_iff.mp e
  obtain ⟨r2, e2, e⟩ := Option.bind_eq_some_iff.mp e
  obtain ⟨c, e3, e⟩ := Option.map_eq_some_iff.mp e
  cases e
  refine ⟨F, st, r1, R, e1, fun x F1 H1 R1 s1 d1 => ⟨F1, r1.2, r2, R1, e2, fun y F2 H2 R2 s2 d2 => ?_⟩⟩
  exact hs W F2 H2 σ r2.2 x y r1.1 r2.1 c Q R2 (dpMono s2 _ _ d1) d2 e3 fun v F3 H3 R3 s3 d3 => k v F3 H3 R3 ((s1.trans s2).trans s3) d3
theorem de_bin {op : Operator} {r : R2} {opd : D → D → Option D} (ho : OpR X (binaryOp op) r) (hs : OpS X.K r opd) (ha : DE X W a f) (hb : DE X W b g) : DE X W (.BinOp a op b pos) (eBin opd f g) :=
  pe_imp (pe_op ho ha hb) (tOp_of hs)
theorem de_ix {r : R2} {opd : D → D → Option D} (ho : IxR X r) (hs : OpS X.K r opd) (ha : DE X W a f) (hb : DE X W b g) (hp : PlainIx b := by exact fun _ _ => rfl) : DE X W (.Subscript a b pos) (eBin opd f g) :=
  pe_imp (pe_ix ho ha hb hp) (tOp_of hs)
theorem tOpT_of {r : R2} {op : D → D → Option Bool} (hs : OpT X.K r op) : ∀ σ H Q, tT X.K W (bBin op f g) σ H Q → tTest (tOp r (tD X.K W f) (tD X.K W g)) σ H Q := fun σ H Q ⟨F, st, z, R, e, k⟩ => by
  unfold bBin at e
  obtain ⟨r1, e1, e⟩ := Option.bind_eq_some_iff.mp e
  obtain ⟨r2, e2, e⟩ := Option.bind_eq_some_iff.mp e
  obtain ⟨c, e3, e⟩ := Option.map_eq_some_iff.mp e
  cases e
  refine ⟨F, st, r1, R, e1, fun x F1 H1 R1 s1 d1 => ⟨F1, r1.2, r2, R1, e2, fun y F2 H2 R2 s2 d2 => ?_⟩⟩
  exact hs F2 H2 x y r1.1 r2.1 c _ R2.fh (dpMono s2 _ _ d1) d2 e3 ⟨c, rfl, k F2 H2 R2 (s1.trans s2)⟩
theorem tOpE_of {r : R2} {op : D → D → Option Bool} (hs : OpT X.K r op) : ∀ σ H Q, tD X.K W (eB (bBin op f g)) σ H Q → tOp r (tD X.K W f) (tD X.K W g) σ H Q := fun σ H Q ⟨F, st, z, R, e, k⟩ => by
  unfold eB bBin at e
  obtain ⟨z', e0, e'⟩ := Option.map_eq_some_iff.mp e
  cases e'
  obtain ⟨r1, e1, e⟩ := Option.bind_eq_some_iff.mp e0
  obtain ⟨r2, e2, e⟩ := Option.bind_eq_some_iff.mp e
  obtain ⟨c, e3, e⟩ := Option.map_eq_some_iff.mp e
  cases e
  refine ⟨F, st, r1, R, e1, fun x F1 H1 R1 s1 d1 => ⟨F1, r1.2, r2, R1, e2, fun y F2 H2 R2 s2 d2 => ?_⟩⟩
  exact hs F2 H2 x y r1.1 r2.1 c _ R2.fh (dpMono s2 _ _ d1) d2 e3 (k _ F2 H2 R2 (s1.trans s2) (.bl c))
theorem dt_cmp {op : CmpOp} {r : R2} {opd : D → D → Option Bool} (ho : OpR X (compareOp op) r) (hs : OpT X.K r opd) (ha : DE X W a f) (hb : DE X W b g) (hm : behindInMarks op b = false := by first | exact nomark _ | with_unfolding_all rfl) : DT X W (.Compare a [op] [b] pos) (bBin opd f g) :=
  pt_imp (pt_cmpR ho ha hb hm) (tOpT_of hs)
theorem de_cmp {op : CmpOp} {r : R2} {opd : D → D → Option Bool} (ho : OpR X (compareOp op) r) (hs : OpT X.K r opd) (ha : DE X W a f) (hb : DE X W b g) (hm : behindInMarks op b = false := by first | exact nomark _ | with_unfolding_all rfl) : DE X W (.Compare a [op] [b] pos) (eB (bBin opd f g)) :=
  pe_imp (pe_cmpR ho ha hb hm) (tOpE_of hs)
theorem tChain_of {r r' : R2} {op op' : D → D → Option Bool} (hs : OpT X.K r op) (hs' : OpT X.K r' op') : ∀ σ H Q, tD X.K W (eB (bChain op op' f g h)) σ H Q → tChain r r' (tD X.K W f) (tD X.K W g) (tD X.K W h) σ H Q := fun σ H Q ⟨F, st, z, R, e, k⟩ => by
  unfold eB bChain at e
  obtain ⟨z', e0, e'⟩ := Option.map_eq_some_iff.mp e
  cases e'
  obtain ⟨r1, e1, e⟩ := Option.bind_eq_some_iff.mp e0
  obtain ⟨r2, e2, e⟩ := Option.bind_eq_some_iff.mp e
  obtain ⟨c, e3, e⟩ := Option.bind_eq_some_iff.mp e
  refine ⟨F, st, r1, R, e1, fun x F1 H1 R1 s1 d1 => ⟨F1, r1.2, r2, R1, e2, fun y F2 H2 R2 s2 d2 => ?_⟩⟩
  refine hs F2 H2 x y r1.1 r2.1 c _ R2.fh (dpMono s2 _ _ d1) d2 e3 ⟨c, rfl, ?_⟩
  cases c with
  | false =>
    cases e
    exact k _ F2 H2 R2 (s1.trans s2) (.bl false)
  | true =>
    obtain ⟨r3, e4, e⟩ := Option.bind_eq_some_iff.mp e
    obtain ⟨c', e5, e⟩ := Option.map_eq_some_iff.mp e
    cases e
    refine ⟨F2, r2.2, r3, R2, e4, fun w F3 H3 R3 s3 d3 => ?_⟩
    exact hs' F3 H3 y w r2.1 r3.1 c' _ R3.fh (dpMono s3 _ _ d2) d3 e5 (k _ F3 H3 R3 ((s1.trans s2).trans s3) (.bl c'))
theorem de_chain {op op' : CmpOp} {r r' : R2} {od od' : D → D → Option Bool} (ho : OpR X (compareOp op) r) (ho' : OpR X (compareOp op') r') (hs : OpT X.K r od) (hs' : OpT X.K r' od') (ha : DE X W a f) (hb : DE X W b g) (hc : DE X W c h)
    (hm : lastMarks [op, op'] [b, c] = false := by with_unfolding_all rfl) : DE X W (.Compare a [op, op'] [b, c] pos) (eB (bChain od od' f g h)) := pe_imp (pe_chain ho ho' ha hb hc hm) (tChain_of hs hs')
theorem tT_of_tD : ∀ σ H Q, tT X.K W p σ H Q → tTest (tD X.K W (eB p)) σ H Q := fun σ H Q ⟨F, st, z, R, e, k⟩ => by
  refine ⟨F, st, (.bool z.1, z.2), R, by unfold eB; rw [e]; rfl, fun v F' H' R' s' d' => ?_⟩
  cases d'
  exact ⟨_, rfl, k F' H' R' s'⟩
theorem dt_chain {op op' : CmpOp} {r r' : R2} {od od' : D → D → Option Bool} (ho : OpR X (compareOp op) r) (ho' : OpR X (compareOp op') r') (hs : OpT X.K r od) (hs' : OpT X.K r' od') (ha : DE X W a f) (hb : DE X W b g) (hc : DE X W c h)
    (hm : lastMarks [op, op'] [b, c] = false := by with_unfolding_all rfl) : DT X W (.Compare a [op, op'] [b, c] pos) (bChain od od' f g h) := pt_imp (pt_chain ho ho' ha hb hc hm) fun σ H Q q => by
  obtain ⟨F, st, z, R, e, k⟩ := tT_of_tD σ H Q q
  exact tChain_of hs hs' σ H _ ⟨F, st, z, R, e, k⟩
/-! ### is None -/
def dIsN : D → Option Bool
  | .none => some true
  | _ => some false
def dNotN : D → Option Bool
  | .none => some false
  | _ => some true
theorem dp_non {K : PySem.W.Frag} {F : Hp} {v : V} {x : D} (h : Dp K F v x) : dIsN x = some (decide (v = .non)) ∧ dNotN x = some (!decide (v = .non)) := by
  cases h <;> exact ⟨rfl, rfl⟩
theorem de_isN {j pos'} (ha : DE X W a f) : DE X W (.Compare a [.Is] [.Constant .none j pos'] pos) (eB (bUn dIsN f)) := pe_imp (pe_cmp (pc_isN ha) rfl) fun σ H Q ⟨F, st, z, R, e, k⟩ => by
  unfold eB bUn at e
  obtain ⟨z', e0, e'⟩ := Option.map_eq_some_iff.mp e
  cases e'
  obtain ⟨r1, e1, e⟩ := Option.bind_eq_some_iff.mp e0
  obtain ⟨c, e3, e⟩ := Option.map_eq_some_iff.mp e
  cases e
  refine ⟨F, st, r1, R, e1, fun x F1 H1 R1 s1 d1 => ?_⟩
  rw [(dp_non d1).1] at e3
  cases e3
  exact k _ F1 H1 R1 s1 (.bl _)
theorem de_notN {j pos'} (ha : DE X W a f) : DE X W (.Compare a [.IsNot] [.Constant .none j pos'] pos) (eB (bUn dNotN f)) := pe_imp (pe_cmp (pc_notN ha) rfl) fun σ H Q ⟨F, st, z, R, e, k⟩ => by
  unfold eB bUn at e
  obtain ⟨z', e0, e'⟩ := Option.map_eq_some_iff.mp e
  cases e'
  obtain ⟨r1, e1, e⟩ := Option.bind_eq_some_iff.mp e0
  obtain ⟨c, e3, e⟩ := Option.map_eq_some_iff.mp e
  cases e
  refine ⟨F, st, r1, R, e1, fun x F1 H1 R1 s1 d1 => ?_⟩
  rw [(dp_non d1).2] at e3
  cases e3
  exact k _ F1 H1 R1 s1 (.bl _)
theorem dt_isN {j pos'} (ha : DE X W a f) : DT X W (.Compare a [.Is] [.Constant .none j pos'] pos) (bUn dIsN f) := pt_imp (pt_cmp (pc_isN ha) rfl) fun σ H Q ⟨F, st, z, R, e, k⟩ => by
  unfold bUn at e
  obtain ⟨r1, e1, e⟩ := Option.bind_eq_some_iff.mp e
  obtain ⟨c, e3, e⟩ := Option.map_eq_some_iff.mp e
  cases e
  refine ⟨F, st, r1, R, e1, fun x F1 H1 R1 s1 d1 => ?_⟩
  rw [(dp_non d1).1] at e3
  cases e3
  exact ⟨_, rfl, k F1 H1 R1 s1⟩
theorem dt_notN {j pos'} (ha : DE X W a f) : DT X W (.Compare a [.IsNot] [.Constant .none j pos'] pos) (bUn dNotN f) := pt_imp (pt_cmp (pc_notN ha) rfl) fun σ H Q ⟨F, st, z, R, e, k⟩ => by
  unfold bUn at e
  obtain ⟨r1, e1, e⟩ := Option.bind_eq_some_iff.mp e
  obtain ⟨c, e3, e⟩ := Option.map_eq_some_iff.mp e
  cases e
  refine ⟨F, st, r1, R, e1, fun x F1 H1 R1 s1 d1 => ?_⟩
  rw [(dp_non d1).2] at e3
  cases e3
  exact ⟨_, rfl, k F1 H1 R1 s1⟩

/-! ### and, or, not, if -/
/-- a value that is a bool, as a test -/
theorem dt_val (h : DE X W a f) (he : ∀ whole, isTrue a X.env whole = (do let v ← whole; standAt a.pos; holding [v] (truthy v)) := by intro _; rfl) : DT X W a (bUn boolOf f) := pt_imp (pt_val h he) fun σ H Q ⟨F, st, z, R, e, k⟩ => by
  unfold bUn at e
  obtain ⟨r1, e1, e⟩ := Option.bind_eq_some_iff.mp e
  obtain ⟨c, e3, e⟩ := Option.map_eq_some_iff.mp e
  cases e
  refine ⟨F, st, r1, R, e1, fun x F1 H1 R1 s1 d1 => ?_⟩
  obtain ⟨r1a, r1b⟩ := r1
  cases d1 <;> cases e3
  exact ⟨_, rfl, k F1 H1 R1 s1⟩
theorem dw_and1 (ha : DT X W a p) : DW X W (.BoolOp .And [a] pos) p := pw_and1 ha
theorem dw_or1 (ha : DT X W a p) : DW X W (.BoolOp .Or [a] pos) p := pw_or1 ha
theorem dw_and {rest : List Expr} (ha : DT X W a p) (hb : DW X W (.BoolOp .And (b :: rest) pos) q) : DW X W (.BoolOp .And (a :: b :: rest) pos) (bAnd p q) := pw_imp (pw_and ha hb) fun σ H Q ⟨F, st, z, R, e, k⟩ => by
  unfold bAnd at e
  obtain ⟨r1, e1, e⟩ := Option.bind_eq_some_iff.mp e
  refine ⟨F, st, r1, R, e1, fun F1 H1 R1 s1 => ?_⟩
  obtain ⟨c, r1b⟩ := r1
  cases c with
  | true => exact ⟨F1, r1b, z, R1, e, fun F2 H2 R2 s2 => k F2 H2 R2 (s1.trans s2)⟩
  | false =>
    cases e
    exact k F1 H1 R1 s1
theorem dw_or {rest : List Expr} (ha : DT X W a p) (hb : DW X W (.BoolOp .Or (b :: rest) pos) q) : DW X W (.BoolOp .Or (a :: b :: rest) pos) (bOr p q) := pw_imp (pw_or ha hb) fun σ H Q ⟨F, st, z, R, e, k⟩ => by
  unfold bOr at e
  obtain ⟨r1, e1, e⟩ := Option.bind_eq_some_iff.mp e
  refine ⟨F, st, r1, R, e1, fun F1 H1 R1 s1 => ?_⟩
  obtain ⟨c, r1b⟩ := r1
  cases c with
  | true =>
    cases e
    exact k F1 H1 R1 s1
  | false => exact ⟨F1, r1b, z, R1, e, fun F2 H2 R2 s2 => k F2 H2 R2 (s1.trans s2)⟩
theorem dt_not (ha : DT X W a p) : DT X W (.UnaryOp .Not a pos) (bNot p) := pt_imp (pt_not ha) fun σ H Q ⟨F, st, z, R, e, k⟩ => by
  unfold bNot at e
  obtain ⟨r1, e1, e⟩ := Option.map_eq_some_iff.mp e
  cases e
  exact ⟨F, st, r1, R, e1, k⟩
/-- values of and, or, not: bools -/
def eAnd (f g : ES) : ES := fun st => (f st).bind fun r => (boolOf r.1).bind fun c => if c then g r.2 else some (.bool false, r.2)
def eOr (f g : ES) : ES := fun st => (f st).bind fun r => (boolOf r.1).bind fun c => if c then some (.bool true, r.2) else g r.2
theorem boolOf_dp {K : PySem.W.Frag} {F : Hp} {v : V} {x : D} {c : Bool} (h : Dp K F v x) (e : boolOf x = some c) : v = .bl c := by
  cases h <;> cases e <;> rfl
theorem de_one {op} (h : DE X W a f) : DE X W (.BoolOp op [a] pos) f := pe_one h
theorem de_and {rest : List Expr} (ha : DE X W a f) (hb : DE X W (.BoolOp .And (b :: rest) pos) g) : DE X W (.BoolOp .And (a :: b :: rest) pos) (eAnd f g) := pe_imp (pe_and ha hb) fun σ H Q ⟨F, st, z, R, e, k⟩ => by
  unfold eAnd at e
  obtain ⟨r1, e1, e⟩ := Option.bind_eq_some_iff.mp e
  obtain ⟨c, e2, e⟩ := Option.bind_eq_some_iff.mp e
  refine ⟨F, st, r1, R, e1, fun x F1 H1 R1 s1 d1 => ⟨c, boolOf_dp d1 e2, ?_⟩⟩
  cases c with
  | true => exact ⟨F1, r1.2, z, R1, e, fun v F2 H2 R2 s2 => k v F2 H2 R2 (s1.trans s2)⟩
  | false =>
    cases e
    exact k _ F1 H1 R1 s1 (.bl false)
theorem de_or {rest : List Expr} (ha : DE X W a f) (hb : DE X W (.BoolOp .Or (b :: rest) pos) g) : DE X W (.BoolOp .Or (a :: b :: rest) pos) (eOr f g) := pe_imp (pe_or ha hb) fun σ H Q ⟨F, st, z, R, e, k⟩ => by
  unfold eOr at e
  obtain ⟨r1, e1, e⟩ := Option.bind_eq_some_iff.mp e
  obtain ⟨c, e2, e⟩ := Option.bind_eq_some_iff.mp e
  refine ⟨F, st, r1, R, e1, fun x F1 H1 R1 s1 d1 => ⟨c, boolOf_dp d1 e2, ?_⟩⟩
  cases c with
  | true =>
    cases e
    exact k _ F1 H1 R1 s1 (.bl true)
  | false => exact ⟨F1, r1.2, z, R1, e, fun v F2 H2 R2 s2 => k v F2 H2 R2 (s1.trans s2)⟩
theorem de_not (ha : DE X W a f) : DE X W (.UnaryOp .Not a pos) (eB (bNot (bUn boolOf f))) := pe_imp (pe_not ha) fun σ H Q ⟨F, st, z, R, e, k⟩ => by
  unfold eB bNot bUn at e
  obtain ⟨z1, e0, e'⟩ := Option.map_eq_some_iff.mp e
  cases e'
  obtain ⟨z2, e9, e'⟩ := Option.map_eq_some_iff.mp e0
  cases e'
  obtain ⟨r1, e1, e⟩ := Option.bind_eq_some_iff.mp e9
  obtain ⟨c, e2, e⟩ := Option.map_eq_some_iff.mp e
  cases e
  exact ⟨F, st, r1, R, e1, fun x F1 H1 R1 s1 d1 => ⟨c, boolOf_dp d1 e2, k _ F1 H1 R1 s1 (.bl _)⟩⟩
theorem de_if (hc : DT X W c p) (ha : DE X W a f) (hb : DE X W b g) : DE X W (.IfExp c a b pos) (eIf p f g) := pe_imp (pe_ifExp hc ha hb) fun σ H Q ⟨F, st, z, R, e, k⟩ => by
  unfold eIf at e
  obtain ⟨r1, e1, e⟩ := Option.bind_eq_some_iff.mp e
  refine ⟨F, st, r1, R, e1, fun F1 H1 R1 s1 => ?_⟩
  obtain ⟨c, r1b⟩ := r1
  cases c with
  | true => exact ⟨F1, r1b, z, R1, e, fun v F2 H2 R2 s2 => k v F2 H2 R2 (s1.trans s2)⟩
  | false => exact ⟨F1, r1b, z, R1, e, fun v F2 H2 R2 s2 => k v F2 H2 R2 (s1.trans s2)⟩
theorem do_if (hc : DT X W c p) (ha : DO X W a o) (hb : DO X W b o') : DO X W (.IfExp c a b pos) (oIf p o o') := pe_imp (pe_ifExp hc ha hb) fun σ H Q ⟨F, st, z, R, e, k⟩ => by
  unfold oIf at e
  obtain ⟨r1, e1, e⟩ := Option.bind_eq_some_iff.mp e
  refine ⟨F, st, r1, R, e1, fun F1 H1 R1 s1 => ?_⟩
  obtain ⟨c, r1b⟩ := r1
  cases c with
  | true => exact ⟨F1, r1b, z, R1, e, fun v vs F2 H2 R2 s2 => k v vs F2 H2 R2 (s1.trans s2)⟩
  | false => exact ⟨F1, r1b, z, R1, e, fun v vs F2 H2 R2 s2 => k v vs F2 H2 R2 (s1.trans s2)⟩
theorem de_fz (h : DO X W a o) : DE X W a (eFz o) := pe_imp h fun σ H Q ⟨F, st, z, R, e, k⟩ => by
  unfold eFz at e
  obtain ⟨r1, e1, e⟩ := Option.map_eq_some_iff.mp e
  cases e
  refine ⟨F, st, r1, R, e1, fun a vs F1 H1 R1 s1 ha fr d1 => ?_⟩
  have e1 : Same F1 (upd F1 a (.lst vs)) := same_upd fr.1
  exact k _ _ H1 (R1.freeze ha fr.1 fr.2.1 fr.2.2) (s1.trans e1) (.lst (.inl (.inl upd_same)) (dpAllMono e1 _ _ d1))

/-! ### arguments, displays -/
def tA (K : PySem.W.Frag) (W : Wd) (f : AS) : TA := fun σ H Q => ∃ F st r, Rel K W F H σ st ∧ f st = some r ∧ ∀ vs F' H', Rel K W F' H' σ r.2 → Same F F' → DpAll K F' vs r.1 → Q vs H'
abbrev DA (X : Cx) (W : Wd) (es : List Expr) (f : AS) : Prop := PA X es (tA X.K W f)
theorem pa_imp {es : List Expr} {t t' : TA} (h : PA X es t) (i : ∀ σ H Q, t' σ H Q → t σ H Q) : PA X es t' := ⟨fun pos pins s σ H Q I q => h.run pos pins s σ H Q I (i σ H Q q)⟩
theorem da_nil : DA X W [] aNil := pa_imp pa_nil fun σ H Q ⟨F, st, z, R, e, k⟩ => by
  cases e
  exact k [] F H R (Same.refl _) .nil
theorem da_cons {es : List Expr} {u : AS} (ha : DE X W a f) (hr : DA X W es u) (hs : starEach (a :: es) X.env = (false, eval a X.env) :: starEach es X.env := by rfl) : DA X W (a :: es) (aCons f u) := pa_imp (pa_cons ha hr hs) fun σ H Q ⟨F, st, z, R, e, k⟩ => by
  unfold aCons at e
  obtain ⟨r1, e1, e⟩ := Option.bind_eq_some_iff.mp e
  obtain ⟨r2, e2, e⟩ := Option.map_eq_some_iff.mp e
  cases e
  refine ⟨F, st, r1, R, e1, fun x F1 H1 R1 s1 d1 => ⟨F1, r1.2, r2, R1, e2, fun vs F2 H2 R2 s2 d2 => ?_⟩⟩
  exact k _ F2 H2 R2 (s1.trans s2) (.cons (dpMono s2 _ _ d1) d2)
def eTup (u : AS) : ES := fun st => (u st).bind fun r => if r.1.length ≤ 1000 then some (.tuple r.1, r.2) else none
def oLst (u : AS) : OS := fun st => (u st).bind fun r => if r.1.length ≤ 1000 then some r else none
theorem le1000 {n : Nat} (h : n ≤ 1000) : n ≤ sizeLine := Nat.le_of_lt (small1000 h)
theorem de_tup {es : List Expr} {u : AS} {x1} (h : DA X W es u) : DE X W (.Tuple es x1 pos) (eTup u) := pe_imp (pe_tup h) fun σ H Q ⟨F, st, z, R, e, k⟩ => by
  unfold eTup at e
  obtain ⟨r1, e1, e⟩ := Option.bind_eq_some_iff.mp e
  split at e
  · rename_i hl
    cases e
    refine ⟨F, st, r1, R, e1, fun vs F1 H1 R1 s1 d1 => ⟨by rw [DpAll.length d1]; exact le1000 hl, fun p hp => ?_⟩⟩
    have e2 : Same F1 (upd F1 p (.tup vs)) := same_upd (R1.fh.free hp)
    exact k _ _ _ (R1.laid hp) (s1.trans e2) (.tup (.inl (.inl upd_same)) (dpAllMono e2 _ _ d1))
  · cases e
theorem Rel.fresh {K : PySem.W.Frag} {F H : Hp} {σ : L2.St} {st : List Sl} {p : Addr} {o : HO} (R : Rel K W F H σ st) (hp : H p = none) : Fresh W F (upd H p o) σ st p ∧ Rel K W F (upd H p o) σ st := by
  have hF : F p = none := R.fh.free hp
  have hno : ∀ (i : Nat) (xs : List D), st[i]? = some (.own xs) → σ[i]? ≠ some (some (.ref p)) := fun i xs e z => by
    obtain ⟨a, vs, h1, h2, _⟩ := R.own i xs e
    rw [z] at h1
    cases h1
    rw [hp] at h2
    cases h2
  have h0 : W.H0 p = none := by
    cases q : W.H0 p with
    | none => rfl
    | some u =>
      refine absurd (R.frm p u q fun i e => ?_) (by rw [hp]; intro z; cases z)
      obtain ⟨⟨xs, h1⟩, h2⟩ := R.par i p e
      exact hno i xs h1 h2
  refine ⟨⟨hF, h0, hno⟩, fun b u e => ?_, R.ff, R.new, fun b u e f => ?_, R.len, R.val, fun i xs e => ?_, R.apart, R.par⟩
  · rw [upd_ne (ne_of_none e hF)]; exact R.fh b u e
  · have q := R.frm b u e f
    rw [upd_ne (ne_of_none q hp)]; exact q
  · obtain ⟨a, vs, h1, h2, h3⟩ := R.own i xs e
    exact ⟨a, vs, h1, by rw [upd_ne (ne_of_none h2 hp)]; exact h2, h3⟩
theorem do_lst {es : List Expr} {u : AS} (h : DA X W es u) : DO X W (.List es pos) (oLst u) := pe_imp (pe_lst h) fun σ H Q ⟨F, st, z, R, e, k⟩ => by
  unfold oLst at e
  obtain ⟨r1, e1, e⟩ := Option.bind_eq_some_iff.mp e
  split at e
  · rename_i hl
    cases e
    refine ⟨F, st, z, R, e1, fun vs F1 H1 R1 s1 d1 => ⟨by rw [DpAll.length d1]; exact le1000 hl, fun p hp => ?_⟩⟩
    obtain ⟨fr, R2⟩ := R1.fresh (o := .lst vs) hp
    exact k _ _ _ _ R2 s1 upd_same fr d1
  · cases e
end
end DL

set_option Elab.async false
set_option linter.all false
set_option maxRecDepth 100000
set_option maxHeartbeats 4000000
namespace DL
open PySem PySem.Spec L2

section
variable {K : PySem.W.Frag} {F : Hp} {v : V}
theorem dp_int {i : Int} (h : Dp K F v (.int i)) : v = .int i := by cases h; rfl
theorem dp_bool {i : Bool} (h : Dp K F v (.bool i)) : v = .bl i := by cases h; rfl
theorem dp_str {i : Str} (h : Dp K F v (.str i)) : v = .str i := by cases h; rfl
theorem dp_none (h : Dp K F v .none) : v = .non := by cases h; rfl
theorem dp_list {xs : List D} (h : Dp K F v (.list xs)) : ∃ a vs, v = .ref a ∧ SqL K F a vs ∧ DpAll K F vs xs := by cases h with | lst a b => exact ⟨_, _, rfl, a, b⟩
theorem dp_tup {xs : List D} (h : Dp K F v (.tuple xs)) : ∃ a vs, v = .ref a ∧ SqT K F a vs ∧ DpAll K F vs xs := by cases h with | tup a b => exact ⟨_, _, rfl, a, b⟩
theorem sameT {F H : Hp} {a : Addr} {xs : List V} (e : Same F H) (h : SqT K F a xs) : SqT K H a xs := by
  rcases h with (h | ⟨o, h⟩) | h
  · exact .inl (.inl (e _ _ h))
  · exact .inl (.inr ⟨o, e _ _ h⟩)
  · exact .inr h
end
theorem OpR.or {X : Cx} {f : Value → Value → Sem Value} {r r' : R2} (h : OpR X f r) (h' : OpR X f r') : OpR X f (fun x y H Q => r x y H Q ∨ r' x y H Q) := by
  intro pins s σ H x y v u Q I rx ry q
  rcases q with q | q
  · exact h pins s σ H x y v u Q I rx ry q
  · exact h' pins s σ H x y v u Q I rx ry q
theorem CallR.or {X : Cx} {f : Value} {r r' : List V → Hp → VK → Prop} (h : CallR X f r) (h' : CallR X f r') : CallR X f (fun x H Q => r x H Q ∨ r' x H Q) := by
  intro pins s σ H x v Q I rx q
  rcases q with q | q
  · exact h pins s σ H x v Q I rx q
  · exact h' pins s σ H x v Q I rx q

/-! ### plus, minus, times, rest, floor, power -/
abbrev codes (x : Str) : List Nat := x.cps.toList
theorem ds_codes (x : Str) : (⟨(codes x).toArray⟩ : Str) = x := rfl
theorem app_codes (x y : Str) : x ++ y = (⟨(codes x ++ codes y).toArray⟩ : Str) := by
  have : x ++ y = (⟨x.cps ++ y.cps⟩ : Str) := rfl
  rw [this]
  congr 1
  simp [codes]
theorem codes_len (x : Str) : x.length = (codes x).length := by simp [codes, Str.length]
def dAdd : D → D → Option D
  | .int i, .int j => some (.int (i + j))
  | .str x, .str y => if (codes x).length + (codes y).length ≤ sizeLine then some (ds (codes x ++ codes y)) else none
  | _, _ => none
def rAdd : R2 := fun x y H Q => rI0 (fun i j => .int (i + j)) x y H Q ∨ ∃ i j, x = .str i ∧ y = .str j ∧ i.length + j.length ≤ sizeLine ∧ Q (.str (i ++ j)) H
theorem op_addD {X : Cx} : OpR X (binaryOp .Add) rAdd := OpR.or op_add op_add_str
theorem sAdd {K : PySem.W.Frag} : OpS K rAdd dAdd := by
  intro W F H σ st x y a b c Q R ha hb e k
  unfold dAdd at e
  split at e
  · cases e
    rw [dp_int ha, dp_int hb]
    exact .inl ⟨_, _, rfl, rfl, k _ F H R (Same.refl _) (.int _)⟩
  · rename_i x' y'
    split at e
    · rename_i hl
      cases e
      rw [dp_str ha, dp_str hb]
      refine .inr ⟨_, _, rfl, rfl, by rw [codes_len, codes_len]; exact hl, ?_⟩
      rw [app_codes]
      exact k _ F H R (Same.refl _) (.str _)
    · cases e
  · cases e
/-- two ints, under a test -/
def dI (C : Int → Int → Bool) (g : Int → Int → Int) : D → D → Option D
  | .int i, .int j => if C i j then some (.int (g i j)) else none
  | _, _ => none
theorem sI {K : PySem.W.Frag} {C : Int → Int → Prop} {Cb : Int → Int → Bool} {g : Int → Int → Int} (hC : ∀ i j, Cb i j = true → C i j) : OpS K (rI C fun i j => .int (g i j)) (dI Cb g) := by
  intro W F H σ st x y a b c Q R ha hb e k
  unfold dI at e
  split at e
  · split at e
    · rename_i hc
      cases e
      rw [dp_int ha, dp_int hb]
      exact ⟨_, _, rfl, rfl, hC _ _ hc, k _ F H R (Same.refl _) (.int _)⟩
    · cases e
  · cases e
def dSub : D → D → Option D
  | .int i, .int j => some (.int (i - j))
  | _, _ => none
theorem sSub {K : PySem.W.Frag} : OpS K (rI0 fun i j => .int (i - j)) dSub := by
  intro W F H σ st x y a b c Q R ha hb e k
  unfold dSub at e
  split at e
  · cases e
    rw [dp_int ha, dp_int hb]
    exact ⟨_, _, rfl, rfl, k _ F H R (Same.refl _) (.int _)⟩
  · cases e
abbrev cMul (i j : Int) : Bool := (decide (-(2 ^ 64) < i) && decide (i < 2 ^ 64)) || (decide (-(2 ^ 64) < j) && decide (j < 2 ^ 64))
abbrev cMod (_ j : Int) : Bool := decide (0 < j)
abbrev cDiv (_ j : Int) : Bool := decide (0 < j) && decide (j < 1073741824)
abbrev cPow (i j : Int) : Bool := decide (0 ≤ j) && decide (j ≤ 1000000) && decide (i.natAbs < 2 ^ 64)
abbrev dMul := dI cMul fun i j => i * j
abbrev dMod := dI cMod fun i j => i % j
abbrev dDiv := dI cDiv fun i j => i / j
abbrev dPow := dI cPow fun i j => i ^ j.toNat
theorem sMul {K : PySem.W.Frag} : OpS K (rI CMul fun i j => .int (i * j)) dMul := sI fun i j h => by
  simp only [cMul, Bool.or_eq_true, Bool.and_eq_true, decide_eq_true_eq] at h
  exact h
theorem sMod {K : PySem.W.Frag} : OpS K (rI (fun _ j => 0 < j) fun i j => .int (i % j)) dMod := sI fun i j h => of_decide_eq_true h
theorem sDiv {K : PySem.W.Frag} : OpS K (rI CDiv fun i j => .int (i / j)) dDiv := sI fun i j h => by
  simp only [cDiv, Bool.and_eq_true, decide_eq_true_eq] at h
  exact h
theorem sPow {K : PySem.W.Frag} : OpS K (rI CPow fun i j => .int (i ^ j.toNat)) dPow := sI fun i j h => by
  simp only [cPow, Bool.and_eq_true, decide_eq_true_eq] at h
  exact ⟨h.1.1, h.1.2, h.2⟩
def dNeg : D → Option D
  | .int i => some (.int (-i))
  | _ => none
theorem de_neg {X : Cx} {W : Wd} {a : Expr} {f : ES} {pos : Pos} (ha : DE X W a f) : DE X W (.UnaryOp .USub a pos) (eUn dNeg f) := pe_imp (pe_un un_neg ha) fun σ H Q ⟨F, st, z, R, e, k⟩ => by
  unfold eUn at e
  obtain ⟨r1, e1, e⟩ := Option.bind_eq_some_iff.mp e
  obtain ⟨c, e2, e⟩ := Option.map_eq_some_iff.mp e
  cases e
  refine ⟨F, st, r1, R, e1, fun x F1 H1 R1 s1 d1 => ?_⟩
  unfold dNeg at e2
  split at e2
  · rename_i i hi
    cases e2
    rw [hi] at d1
    rw [dp_int d1]
    exact ⟨_, rfl, k _ F1 H1 R1 s1 (.int _)⟩
  · cases e2

/-! ### comparisons -/
def scV : D → Option V
  | .none => some .non
  | .bool b => some (.bl b)
  | .int i => some (.int i)
  | .str x => some (.str x)
  | _ => none
theorem scV_dp {K : PySem.W.Frag} {F : Hp} {v w : V} {x : D} (h : Dp K F v x) (e : scV x = some w) : v = w := by
  cases h <;> cases e <;> rfl
/-- == -/
def dEq (a b : D) : Option Bool := match scV a, scV b with
  | some x, some y => if scal x y then some (decide (x = y)) else none
  | _, _ => if SeqAt.shaped a && SeqAt.shaped b then some (PyData.eqv a b) else none
def dNe (a b : D) : Option Bool := (dEq a b).map (!·)
def rEqq (K : PySem.W.Frag) : R2 := fun x y H Q => rEq x y H Q ∨ rEqD K x y H Q
def rNee (K : PySem.W.Frag) : R2 := fun x y H Q => rNe x y H Q ∨ rNeD K x y H Q
theorem op_eqq {X : Cx} (hu : X.A.units + 64 < cLine) : OpR X (compareOp .Eq) (rEqq X.K) := OpR.or op_eq (op_eqD hu)
theorem op_nee {X : Cx} (hu : X.A.units + 64 < cLine) : OpR X (compareOp .NotEq) (rNee X.K) := OpR.or op_ne (op_neD hu)
theorem sEq {K : PySem.W.Frag} : OpT K (rEqq K) dEq := by
  intro F H x y a b c Q S ha hb e q
  unfold dEq at e
  split at e
  · rename_i x' y' e1 e2
    split at e
    · rename_i hs
      cases e
      rw [scV_dp ha e1, scV_dp hb e2]
      exact .inl ⟨hs, q⟩
    · cases e
  · split at e
    · rename_i hs
      cases e
      obtain ⟨h1, h2⟩ := Bool.and_eq_true_iff.mp hs
      exact .inr ⟨a, b, dpMono S _ _ ha, dpMono S _ _ hb, h1, h2, q⟩
    · cases e
theorem sNe {K : PySem.W.Frag} : OpT K (rNee K) dNe := by
  intro F H x y a b c Q S ha hb e q
  obtain ⟨d, e0, rfl⟩ := Option.map_eq_some_iff.mp e
  clear e
  revert e0
  intro e
  unfold dEq at e
  split at e
  · rename_i x' y' e1 e2
    split at e
    · rename_i hs
      cases e
      rw [scV_dp ha e1, scV_dp hb e2]
      exact .inl ⟨hs, q⟩
    · cases e
  · split at e
    · rename_i hs
      cases e
      obtain ⟨h1, h2⟩ := Bool.and_eq_true_iff.mp hs
      exact .inr ⟨a, b, dpMono S _ _ ha, dpMono S _ _ hb, h1, h2, q⟩
    · cases e
def dCmp (p : Int → Int → Bool) : D → D → Option Bool
  | .int i, .int j => some (p i j)
  | _, _ => none
abbrev dLt := dCmp fun i j => decide (i < j)
abbrev dLe := dCmp fun i j => decide (i ≤ j)
abbrev dGt := dCmp fun i j => decide (j < i)
abbrev dGe := dCmp fun i j => decide (j ≤ i)
theorem sCmp {K : PySem.W.Frag} {p : Int → Int → Bool} : OpT K (rI0 fun i j => .bl (p i j)) (dCmp p) := by
  intro F H x y a b c Q S ha hb e q
  unfold dCmp at e
  split at e
  · cases e
    rw [dp_int ha, dp_int hb]
    exact ⟨_, _, rfl, rfl, q⟩
  · cases e
/-! ### in -/
def flatD : D → Bool
  | .none => true
  | .bool _ => true
  | .int _ => true
  | .str _ => true
  | _ => false
def eqF (a b : D) : Bool := match scV a, scV b with
  | some x, some y => eqV x y
  | _, _ => false
theorem flat_dp {K : PySem.W.Frag} {F : Hp} {v : V} {x : D} (h : Dp K F v x) (e : flatD x = true) : flatV v = true ∧ scV x = some v := by
  cases h <;> first | exact ⟨rfl, rfl⟩ | cases e
theorem flat_all {K : PySem.W.Frag} {F : Hp} {x : D} {v : V} (hx : scV x = some v) : ∀ {vs : List V} {xs : List D}, DpAll K F vs xs → xs.all flatD = true → vs.all flatV = true ∧ inV v vs = xs.any fun y => eqF y x
  | _, _, .nil, _ => ⟨rfl, rfl⟩
  | _, _, .cons r t, e => by
    rw [List.all_cons, Bool.and_eq_true] at e
    obtain ⟨h1, h2⟩ := flat_dp r e.1
    obtain ⟨h3, h4⟩ := flat_all hx t e.2
    refine ⟨by rw [List.all_cons, h1, h3]; rfl, ?_⟩
    unfold inV at h4 ⊢
    rw [List.any_cons, List.any_cons, h4]
    unfold eqF
    rw [h2, hx]
def isOne : List Nat → Option Nat
  | [c] => some c
  | _ => none
/-- x in y -/
def dIn (x y : D) : Option Bool := match y with
  | .str z => match x with
    | .str w => match isOne (codes w) with
      | some c => some (decide (c ∈ codes z))
      | none => some (!(Builtin.Str.occurrences z w 0 z.length 1).isEmpty)
    | _ => none
  | .list ys => if flatD x && ys.all flatD then some (ys.any fun z => eqF z x) else none
  | .tuple ys => if flatD x && ys.all flatD then some (ys.any fun z => eqF z x) else none
  | _ => none
def dNotIn (x y : D) : Option Bool := (dIn x y).map (!·)
def rInn (K : PySem.W.Frag) : R2 := fun x y H Q => (∃ (c : Nat) (z : Str), x = .str ⟨#[c]⟩ ∧ y = .str z ∧ Q (.bl (decide (c ∈ z.cps.toList))) H) ∨
  (∃ i j, x = .str i ∧ y = .str j ∧ Q (.bl (!(Builtin.Str.occurrences j i 0 j.length 1).isEmpty)) H) ∨ rIn K false x y H Q
def rNotInn (K : PySem.W.Frag) : R2 := fun x y H Q => (∃ (c : Nat) (z : Str), x = .str ⟨#[c]⟩ ∧ y = .str z ∧ Q (.bl (!decide (c ∈ z.cps.toList))) H) ∨
  (∃ i j, x = .str i ∧ y = .str j ∧ Q (.bl (!(!(Builtin.Str.occurrences j i 0 j.length 1).isEmpty))) H) ∨ rIn K true x y H Q
theorem op_inn {X : Cx} : OpR X (compareOp .In) (rInn X.K) := OpR.or op_in_sign (OpR.or op_in_str op_in_seq)
theorem op_notInn {X : Cx} : OpR X (compareOp .NotIn) (rNotInn X.K) := OpR.or op_notIn_sign (OpR.or op_notIn_str op_notIn_seq)
theorem one_str {w : Str} {c : Nat} (h : isOne (codes w) = some c) : w = ⟨#[c]⟩ := by
  obtain ⟨⟨l⟩⟩ := w
  unfold isOne at h
  split at h
  · rename_i c' hc
    cases h
    have : l = [c] := hc
    rw [this]
  · cases h
theorem sIn {K : PySem.W.Frag} : OpT K (rInn K) dIn := by
  intro F H x y a b c Q S ha hb e q
  unfold dIn at e
  split at e
  · rename_i z
    split at e
    · rename_i w
      rw [dp_str ha, dp_str hb]
      split at e
      · rename_i d hd
        cases e
        rw [one_str hd]
        exact .inl ⟨_, _, rfl, rfl, q⟩
      · cases e
        exact .inr (.inl ⟨_, _, rfl, rfl, q⟩)
    · cases e
  · split at e
    · rename_i hf
      cases e
      obtain ⟨f1, f2⟩ := Bool.and_eq_true_iff.mp hf
      obtain ⟨p, vs, rfl, h1, h2⟩ := dp_list hb
      obtain ⟨g1, g2⟩ := flat_dp ha f1
      obtain ⟨g3, g4⟩ := flat_all g2 h2 f2
      exact .inr (.inr ⟨p, vs, rfl, .inl (S.seq h1), g1, g3, by rw [g4]; exact q⟩)
    · cases e
  · split at e
    · rename_i hf
      cases e
      obtain ⟨f1, f2⟩ := Bool.and_eq_true_iff.mp hf
      obtain ⟨p, vs, rfl, h1, h2⟩ := dp_tup hb
      obtain ⟨g1, g2⟩ := flat_dp ha f1
      obtain ⟨g3, g4⟩ := flat_all g2 h2 f2
      exact .inr (.inr ⟨p, vs, rfl, .inr (sameT S h1), g1, g3, by rw [g4]; exact q⟩)
    · cases e
  · cases e
theorem sNotIn {K : PySem.W.Frag} : OpT K (rNotInn K) dNotIn := by
  intro F H x y a b c Q S ha hb e q
  obtain ⟨d, e0, rfl⟩ := Option.map_eq_some_iff.mp e
  clear e
  revert e0
  intro e
  unfold dIn at e
  split at e
  · rename_i z
    split at e
    · rename_i w
      rw [dp_str ha, dp_str hb]
      split at e
      · rename_i d hd
        cases e
        rw [one_str hd]
        exact .inl ⟨_, _, rfl, rfl, q⟩
      · cases e
        exact .inr (.inl ⟨_, _, rfl, rfl, q⟩)
    · cases e
  · split at e
    · rename_i hf
      cases e
      obtain ⟨f1, f2⟩ := Bool.and_eq_true_iff.mp hf
      obtain ⟨p, vs, rfl, h1, h2⟩ := dp_list hb
      obtain ⟨g1, g2⟩ := flat_dp ha f1
      obtain ⟨g3, g4⟩ := flat_all g2 h2 f2
      exact .inr (.inr ⟨p, vs, rfl, .inl (S.seq h1), g1, g3, by rw [g4]; exact q⟩)
    · cases e
  · split at e
    · rename_i hf
      cases e
      obtain ⟨f1, f2⟩ := Bool.and_eq_true_iff.mp hf
      obtain ⟨p, vs, rfl, h1, h2⟩ := dp_tup hb
      obtain ⟨g1, g2⟩ := flat_dp ha f1
      obtain ⟨g3, g4⟩ := flat_all g2 h2 f2
      exact .inr (.inr ⟨p, vs, rfl, .inr (sameT S h1), g1, g3, by rw [g4]; exact q⟩)
    · cases e
  · cases e

/-! ### subscripts -/
def dIx : D → D → Option D
  | .list xs, .int i => atI xs i
  | .tuple xs, .int i => atI xs i
  | .str z, .int i => if (codes z).length ≤ sizeLine then (atI (codes z) i).map fun c => ds [c] else none
  | _, _ => none
theorem DpAll.at {K : PySem.W.Frag} {F : Hp} {vs : List V} {xs : List D} {i : Int} {x : D} (h : DpAll K F vs xs) (e : atI xs i = some x) : ∃ v, atI vs i = some v ∧ Dp K F v x := by
  unfold atI at e ⊢
  rw [DpAll.length h]
  cases q : ixN xs.length i with
  | none => rw [q] at e; cases e
  | some j =>
    rw [q] at e
    exact DpAll.get h e
theorem sIx {K : PySem.W.Frag} : OpS K (rIx K) dIx := by
  intro W F H σ st x y a b c Q R ha hb e k
  unfold dIx at e
  split at e
  · obtain ⟨p, vs, rfl, h1, h2⟩ := dp_list ha
    rw [dp_int hb]
    obtain ⟨v, h3, h4⟩ := DpAll.at h2 e
    exact .inl ⟨p, vs, _, v, rfl, rfl, R.fh.seq h1, h3, k v F H R (Same.refl _) h4⟩
  · obtain ⟨p, vs, rfl, h1, h2⟩ := dp_tup ha
    rw [dp_int hb]
    obtain ⟨v, h3, h4⟩ := DpAll.at h2 e
    exact .inr (.inl ⟨p, vs, _, v, rfl, rfl, sameT R.fh h1, h3, k v F H R (Same.refl _) h4⟩)
  · split at e
    · rename_i hz
      obtain ⟨d, e1, rfl⟩ := Option.map_eq_some_iff.mp e
      rw [dp_str ha, dp_int hb]
      exact .inr (.inr ⟨_, _, d, rfl, rfl, by rw [codes_len]; exact hz, e1, k _ F H R (Same.refl _) (.str _)⟩)
    · cases e
  · cases e
/-! ### slices -/
abbrev OPS := List Sl → Option (Option Int × List Sl)
def pNo : OPS := fun st => some (none, st)
def pYes (f : ES) : OPS := fun st => (f st).bind fun r => match r.1 with
  | .int i => some (some i, r.2)
  | _ => none
def tP (K : PySem.W.Frag) (W : Wd) (f : OPS) : TO := fun σ H Q => ∃ F st r, Rel K W F H σ st ∧ f st = some r ∧ ∀ F' H', Rel K W F' H' σ r.2 → Same F F' → Q r.1 H'
abbrev DP (X : Cx) (W : Wd) (e : Option Expr) (f : OPS) : Prop := PO X e (tP X.K W f)
theorem dp_no {X : Cx} {W : Wd} : DP X W none pNo := ⟨fun pins s σ H Q I ⟨F, st, r, R, e, k⟩ => po_none.run pins s σ H Q I (by cases e; exact k F H R (Same.refl _))⟩
theorem dp_yes {X : Cx} {W : Wd} {e : Expr} {f : ES} (h : DE X W e f) : DP X W (some e) (pYes f) := ⟨fun pins s σ H Q I ⟨F, st, r, R, e, k⟩ => (po_some h).run pins s σ H Q I (by
  unfold pYes at e
  obtain ⟨r1, e1, e⟩ := Option.bind_eq_some_iff.mp e
  refine ⟨F, st, r1, R, e1, fun x F1 H1 R1 s1 d1 => ?_⟩
  split at e
  · rename_i i hi
    cases e
    rw [hi] at d1
    exact ⟨i, dp_int d1, k F1 H1 R1 s1⟩
  · cases e)⟩
/-- xs[lo:hi] -/
def cutD {α : Type} (xs : List α) (lo hi : Option Int) : List α := (xs.drop (HT.sIx xs.length 0 lo)).take (HT.sIx xs.length xs.length hi - HT.sIx xs.length 0 lo)
theorem DpAll.cut {K : PySem.W.Frag} {F : Hp} {vs : List V} {xs : List D} (h : DpAll K F vs xs) (lo hi : Option Int) : DpAll K F (cutV vs lo hi) (cutD xs lo hi) := by
  unfold cutV cutD
  rw [DpAll.length h]
  exact DpAll.take _ (DpAll.drop _ h)
theorem cutS_codes (z : Str) (lo hi : Option Int) : cutS z lo hi = (⟨(cutD (codes z) lo hi).toArray⟩ : Str) := by
  unfold cutS cutD
  first
    | rfl
    | (rw [codes_len])
    | (simp [codes, Str.length])
def dSl (x : D) (lo hi : Option Int) : Option D := match x with
  | .list xs => some (.list (cutD xs lo hi))
  | .tuple xs => if HT.sIx xs.length 0 lo = 0 ∧ HT.sIx xs.length xs.length hi = xs.length then none else some (.tuple (cutD xs lo hi))
  | .str z => if (codes z).length ≤ sizeLine then some (ds (cutD (codes z) lo hi)) else none
  | _ => none
def eSl (f : ES) (lo hi : OPS) : ES := fun st => (f st).bind fun r => (lo r.2).bind fun p => (hi p.2).bind fun q => (dSl r.1 p.1 q.1).map fun z => (z, q.2)
def rSlA (K : PySem.W.Frag) : V → Option Int → Option Int → Hp → VK → Prop := fun x lo hi H Q => rSlL K x lo hi H Q ∨ rSlT K x lo hi H Q ∨ rSlS x lo hi H Q
theorem sl_any {X : Cx} : SlR X (rSlA X.K) := SlR.or sl_list (SlR.or sl_tup sl_str)
theorem de_sl {X : Cx} {W : Wd} {e : Expr} {f : ES} {lo hi : Option Expr} {tl th : OPS} {pos p2 : Pos} (he : DE X W e f) (hl : DP X W lo tl) (hu : DP X W hi th) : DE X W (.Subscript e (.Slice lo hi none p2) pos) (eSl f tl th) := pe_imp (pe_slice sl_any he hl hu) fun σ H Q ⟨F, st, z, R, e, k⟩ => by
  unfold eSl at e
  obtain ⟨r1, e1, e⟩ := Option.bind_eq_some_iff.mp e
  obtain ⟨r2, e2, e⟩ := Option.bind_eq_some_iff.mp e
  obtain ⟨r3, e3, e⟩ := Option.bind_eq_some_iff.mp e
  obtain ⟨c, e4, e⟩ := Option.map_eq_some_iff.mp e
  cases e
  refine ⟨F, st, r1, R, e1, fun x F1 H1 R1 s1 d1 => ⟨F1, r1.2, r2, R1, e2, fun F2 H2 R2 s2 => ⟨F2, r2.2, r3, R2, e3, fun F3 H3 R3 s3 => ?_⟩⟩⟩
  have d3 := dpMono (s2.trans s3) _ _ d1
  unfold dSl at e4
  split at e4
  · rename_i xs hx
    cases e4
    rw [hx] at d3
    obtain ⟨p, vs, rfl, h1, h2⟩ := dp_list d3
    refine .inl ⟨p, vs, rfl, R3.fh.seq h1, fun q hq => ?_⟩
    have e5 : Same F3 (upd F3 q (.lst (cutV vs r2.1 r3.1))) := same_upd (R3.fh.free hq)
    exact k _ _ _ (R3.laid hq) ((s1.trans (s2.trans s3)).trans e5) (.lst (.inl (.inl upd_same)) (dpAllMono e5 _ _ (DpAll.cut h2 _ _)))
  · rename_i xs hx
    split at e4
    · cases e4
    · rename_i hw
      cases e4
      rw [hx] at d3
      obtain ⟨p, vs, rfl, h1, h2⟩ := dp_tup d3
      refine .inr (.inl ⟨p, vs, rfl, sameT R3.fh h1, by rw [DpAll.length h2]; exact hw, fun q hq => ?_⟩)
      have e5 : Same F3 (upd F3 q (.tup (cutV vs r2.1 r3.1))) := same_upd (R3.fh.free hq)
      exact k _ _ _ (R3.laid hq) ((s1.trans (s2.trans s3)).trans e5) (.tup (.inl (.inl upd_same)) (dpAllMono e5 _ _ (DpAll.cut h2 _ _)))
  · rename_i zz hx
    split at e4
    · rename_i hw
      cases e4
      rw [hx] at d3
      rw [dp_str d3]
      refine .inr (.inr ⟨_, rfl, by rw [codes_len]; exact hw, ?_⟩)
      rw [cutS_codes]
      exact k _ _ _ R3 (s1.trans (s2.trans s3)) (.str _)
    · cases e4
  · cases e4
end DL

set_option Elab.async false
set_option linter.all false
set_option maxRecDepth 100000
set_option maxHeartbeats 4000000
namespace DL
open PySem PySem.Spec L2

/-! ### built-ins by name -/
def CallS (K : PySem.W.Frag) (r : List V → Hp → VK → Prop) (fn : List D → Option D) : Prop := ∀ (W : Wd) (F H : Hp) (σ : L2.St) (st : List Sl) (vs : List V) (ds : List D) (c : D) (Q : VK), Rel K W F H σ st → DpAll K F vs ds → fn ds = some c →
  (∀ v F' H', Rel K W F' H' σ st → Same F F' → Dp K F' v c → Q v H') → r vs H Q
def eCall (fn : List D → Option D) (f : AS) : ES := fun st => (f st).bind fun r => (fn r.1).map fun z => (z, r.2)
section
variable {X : Cx} {W : Wd} {e : Expr} {es : List Expr} {f : AS} {x : Str} {p pos : Pos} {r : List V → Hp → VK → Prop} {fn : List D → Option D} {id T : String}
theorem tCB_of (hs : CallS X.K r fn) : ∀ σ H Q, tD X.K W (eCall fn f) σ H Q → tCB r (tA X.K W f) σ H Q := fun σ H Q ⟨F, st, z, R, e, k⟩ => by
  unfold eCall at e
  obtain ⟨r1, e1, e⟩ := Option.bind_eq_some_iff.mp e
  obtain ⟨c, e2, e⟩ := Option.map_eq_some_iff.mp e
  cases e
  refine ⟨F, st, r1, R, e1, fun vs F1 H1 R1 s1 d1 => ?_⟩
  exact hs W F1 H1 σ r1.2 vs r1.1 c Q R1 d1 e2 fun v F2 H2 R2 s2 d2 => k v F2 H2 R2 (s1.trans s2) d2
theorem de_callB (hc : CallR X (.builtin id) r) (hs : CallS X.K r fn) (hg : Gl X x) (hm : X.mg x = none) (hv : bootBuiltins x = some (.builtin id)) (ha : DA X W (e :: es) f) (hn : x ≠ "__name__" := by decide) (hdb : (x == ("__debug__" : Str)) = false := by decide)
    (he : starEach (e :: es) X.env = (false, eval e X.env) :: starEach es X.env := by rfl) (hpl : (backTo pos (starEach es X.env)).any (·.1) = false := by rfl) : DE X W (.Call (.Name x p) (e :: es) [] pos) (eCall fn f) :=
  pe_imp (pe_callB hc hg hm hv ha hn hdb he hpl) (tCB_of hs)
theorem de_callTy (hc : CallR X (.type T) r) (hs : CallS X.K r fn) (hg : Gl X x) (hm : X.mg x = none) (hv : bootBuiltins x = some (.type T)) (ha : DA X W (e :: es) f) (hn : x ≠ "__name__" := by decide) (hdb : (x == ("__debug__" : Str)) = false := by decide)
    (he : starEach (e :: es) X.env = (false, eval e X.env) :: starEach es X.env := by rfl) (hpl : (backTo pos (starEach es X.env)).any (·.1) = false := by rfl) : DE X W (.Call (.Name x p) (e :: es) [] pos) (eCall fn f) :=
  pe_imp (pe_callTy hc hg hm hv ha hn hdb he hpl) (tCB_of hs)
end
section
variable {K : PySem.W.Frag} {F : Hp}
theorem dpa1 {vs : List V} {d : D} (h : DpAll K F vs [d]) : ∃ v, vs = [v] ∧ Dp K F v d := by
  cases h with | cons a b => cases b; exact ⟨_, rfl, a⟩
theorem dpa2 {vs : List V} {d e : D} (h : DpAll K F vs [d, e]) : ∃ v w, vs = [v, w] ∧ Dp K F v d ∧ Dp K F w e := by
  cases h with | cons a b => cases b with | cons c g => cases g; exact ⟨_, _, rfl, a, c⟩
theorem dpa0 {vs : List V} (h : DpAll K F vs []) : vs = [] := by cases h; rfl
end
def fLen : List D → Option D
  | [.list xs] => some (.int xs.length)
  | [.tuple xs] => some (.int xs.length)
  | [.str z] => if (codes z).length ≤ sizeLine then some (.int (codes z).length) else none
  | _ => none
def rLen (K : PySem.W.Frag) : List V → Hp → VK → Prop := fun xs H Q => (∃ p ys, xs = [.ref p] ∧ (SqL K H p ys ∨ SqT K H p ys) ∧ Q (.int ys.length) H) ∨ ∃ z, xs = [.str z] ∧ z.length ≤ sizeLine ∧ Q (.int z.length) H
theorem c_len {X : Cx} : CallR X (.builtin "len") (rLen X.K) := CallR.or call_len_seq call_len_str
theorem s_len {K : PySem.W.Frag} : CallS K (rLen K) fLen := by
  intro W F H σ st vs ds c Q R hd e k
  unfold fLen at e
  split at e
  · cases e
    obtain ⟨v, rfl, d⟩ := dpa1 hd
    obtain ⟨a, ws, rfl, h1, h2⟩ := dp_list d
    refine .inl ⟨a, ws, rfl, .inl (R.fh.seq h1), ?_⟩
    rw [DpAll.length h2]
    exact k _ F H R (Same.refl _) (.int _)
  · cases e
    obtain ⟨v, rfl, d⟩ := dpa1 hd
    obtain ⟨a, ws, rfl, h1, h2⟩ := dp_tup d
    refine .inl ⟨a, ws, rfl, .inr (sameT R.fh h1), ?_⟩
    rw [DpAll.length h2]
    exact k _ F H R (Same.refl _) (.int _)
  · split at e
    · rename_i z hz
      cases e
      obtain ⟨v, rfl, d⟩ := dpa1 hd
      rw [dp_str d]
      refine .inr ⟨z, rfl, by rw [codes_len]; exact hz, ?_⟩
      rw [codes_len]
      exact k _ F H R (Same.refl _) (.int _)
    · cases e
  · cases e
def fInt : List D → Option D
  | [.int i] => some (.int i)
  | [.bool b] => some (.int (if b then 1 else 0))
  | [.str a] => if (codes a).length ≤ 640 then (PySem.intText? a).map PyData.int else none
  | _ => none
def rInt : List V → Hp → VK → Prop := fun xs H Q => ((∃ i, xs = [.int i] ∧ Q (.int i) H) ∨ ∃ k, xs = [.bl k] ∧ Q (.int (if k then 1 else 0)) H) ∨ ∃ a n, xs = [.str a] ∧ PySem.intText? a = some n ∧ a.length ≤ 640 ∧ Q (.int n) H
theorem c_int {X : Cx} : CallR X (.type "int") rInt := CallR.or call_int1 call_int_str
theorem s_int {K : PySem.W.Frag} : CallS K rInt fInt := by
  intro W F H σ st vs ds c Q R hd e k
  unfold fInt at e
  split at e
  · cases e
    obtain ⟨v, rfl, d⟩ := dpa1 hd
    rw [dp_int d]
    exact .inl (.inl ⟨_, rfl, k _ F H R (Same.refl _) (.int _)⟩)
  · cases e
    obtain ⟨v, rfl, d⟩ := dpa1 hd
    rw [dp_bool d]
    exact .inl (.inr ⟨_, rfl, k _ F H R (Same.refl _) (.int _)⟩)
  · split at e
    · rename_i a hz
      obtain ⟨n, e1, rfl⟩ := Option.map_eq_some_iff.mp e
      obtain ⟨v, rfl, d⟩ := dpa1 hd
      rw [dp_str d]
      exact .inr ⟨a, n, rfl, e1, by rw [codes_len]; exact hz, k _ F H R (Same.refl _) (.int _)⟩
    · cases e
  · cases e
def fAbs : List D → Option D
  | [.int i] => some (.int (if i < 0 then -i else i))
  | _ => none
theorem s_abs {K : PySem.W.Frag} : CallS K (fun xs H Q => ∃ i, xs = [.int i] ∧ Q (.int (if i < 0 then -i else i)) H) fAbs := by
  intro W F H σ st vs ds c Q R hd e k
  unfold fAbs at e
  split at e
  · cases e
    obtain ⟨v, rfl, d⟩ := dpa1 hd
    rw [dp_int d]
    exact ⟨_, rfl, k _ F H R (Same.refl _) (.int _)⟩
  · cases e
def fStr : List D → Option D
  | [.int i] => if i.natAbs.log2 < 1920 then some (.str (toString i)) else none
  | _ => none
theorem s_str {K : PySem.W.Frag} : CallS K (fun xs H Q => ∃ i, xs = [.int i] ∧ i.natAbs.log2 < 1920 ∧ Q (.str (toString i)) H) fStr := by
  intro W F H σ st vs ds c Q R hd e k
  unfold fStr at e
  split at e
  · split at e
    · rename_i h
      cases e
      obtain ⟨v, rfl, d⟩ := dpa1 hd
      rw [dp_int d]
      exact ⟨_, rfl, h, k _ F H R (Same.refl _) (.str _)⟩
    · cases e
  · cases e
def fMin : List D → Option D
  | [.int i, .int j] => some (.int (if j < i then j else i))
  | _ => none
theorem s_min {K : PySem.W.Frag} : CallS K (fun xs H Q => ∃ i j, xs = [.int i, .int j] ∧ Q (.int (if j < i then j else i)) H) fMin := by
  intro W F H σ st vs ds c Q R hd e k
  unfold fMin at e
  split at e
  · cases e
    obtain ⟨v, w, rfl, d, d'⟩ := dpa2 hd
    rw [dp_int d, dp_int d']
    exact ⟨_, _, rfl, k _ F H R (Same.refl _) (.int _)⟩
  · cases e
def bools : List D → Option (List Bool)
  | [] => some []
  | .bool b :: r => (bools r).map (b :: ·)
  | _ => none
theorem bools_dp {K : PySem.W.Frag} {F : Hp} : ∀ {vs : List V} {ds : List D} {bs : List Bool}, DpAll K F vs ds → bools ds = some bs → vs = bs.map V.bl
  | _, _, _, .nil, e => by cases e; rfl
  | _, d :: r, bs, .cons h t, e => by
    cases h <;> first
      | (have e' := e
         obtain ⟨q, e1, rfl⟩ := Option.map_eq_some_iff.mp e'
         rw [bools_dp t e1]
         rfl)
      | cases e
def fAll : List D → Option D
  | [.list xs] => (bools xs).map fun bs => .bool (bs.all id)
  | _ => none
theorem s_all {K : PySem.W.Frag} : CallS K (rAll K) fAll := by
  intro W F H σ st vs ds c Q R hd e k
  unfold fAll at e
  split at e
  · obtain ⟨bs, e1, rfl⟩ := Option.map_eq_some_iff.mp e
    obtain ⟨v, rfl, d⟩ := dpa1 hd
    obtain ⟨a, ws, rfl, h1, h2⟩ := dp_list d
    rw [bools_dp h2 e1] at h1
    exact ⟨a, bs, rfl, R.fh.seq h1, k _ F H R (Same.refl _) (.bl _)⟩
  · cases e
def fTuple : List D → Option D
  | [.list xs] => some (.tuple xs)
  | [.tuple xs] => some (.tuple xs)
  | _ => none
theorem s_tuple {K : PySem.W.Frag} : CallS K (fun xs H Q => ∃ p ys, xs = [.ref p] ∧ ((SqL K H p ys ∧ ∀ l, H l = none → Q (.ref l) (upd H l (.tup ys))) ∨ (SqT K H p ys ∧ Q (.ref p) H))) fTuple := by
  intro W F H σ st vs ds c Q R hd e k
  unfold fTuple at e
  split at e
  · cases e
    obtain ⟨v, rfl, d⟩ := dpa1 hd
    obtain ⟨a, ws, rfl, h1, h2⟩ := dp_list d
    refine ⟨a, ws, rfl, .inl ⟨R.fh.seq h1, fun l hl => ?_⟩⟩
    have e5 : Same F (upd F l (.tup ws)) := same_upd (R.fh.free hl)
    exact k _ _ _ (R.laid hl) e5 (.tup (.inl (.inl upd_same)) (dpAllMono e5 _ _ h2))
  · cases e
    obtain ⟨v, rfl, d⟩ := dpa1 hd
    obtain ⟨a, ws, rfl, h1, h2⟩ := dp_tup d
    exact ⟨a, ws, rfl, .inr ⟨sameT R.fh h1, k _ F H R (Same.refl _) (.tup h1 h2)⟩⟩
  · cases e

/-! ### new lists -/
def oCall (fn : List D → Option (List D)) (f : AS) : OS := fun st => (f st).bind fun r => (fn r.1).map fun z => (z, r.2)
def fList : List D → Option (List D)
  | [.list xs] => some xs
  | [.tuple xs] => some xs
  | _ => none
section
variable {X : Cx} {W : Wd} {a b e : Expr} {es : List Expr} {f g : ES} {u : AS} {o o' : OS} {x : Str} {p pos apos : Pos}
theorem do_list (hg : Gl X "list") (hm : X.mg "list" = none) (hv : bootBuiltins "list" = some (.type "list")) (ha : DA X W [e] u) (he : starEach [e] X.env = (false, eval e X.env) :: starEach [] X.env := by rfl) (hpl : (backTo pos (starEach [] X.env)).any (·.1) = false := by rfl) :
    DO X W (.Call (.Name "list" p) [e] [] pos) (oCall fList u) := pe_imp (pe_callTy call_list_of hg hm hv ha (by decide) (by decide) he hpl) fun σ H Q ⟨F, st, z, R, e, k⟩ => by
  unfold oCall at e
  obtain ⟨r1, e1, e⟩ := Option.bind_eq_some_iff.mp e
  obtain ⟨c, e2, e⟩ := Option.map_eq_some_iff.mp e
  cases e
  refine ⟨F, st, r1, R, e1, fun vs F1 H1 R1 s1 d1 => ?_⟩
  unfold fList at e2
  split at e2
  · rename_i xs hx
    cases e2
    rw [hx] at d1
    obtain ⟨v, rfl, d⟩ := dpa1 d1
    obtain ⟨a, ws, rfl, h1, h2⟩ := dp_list d
    refine ⟨a, ws, rfl, .inl (R1.fh.seq h1), fun l hl => ?_⟩
    obtain ⟨fr, R2⟩ := R1.fresh (o := .lst ws) hl
    exact k _ _ _ _ R2 s1 upd_same fr h2
  · rename_i xs hx
    cases e2
    rw [hx] at d1
    obtain ⟨v, rfl, d⟩ := dpa1 d1
    obtain ⟨a, ws, rfl, h1, h2⟩ := dp_tup d
    refine ⟨a, ws, rfl, .inr (sameT R1.fh h1), fun l hl => ?_⟩
    obtain ⟨fr, R2⟩ := R1.fresh (o := .lst ws) hl
    exact k _ _ _ _ R2 s1 upd_same fr h2
  · cases e2
/-- a look at a list: one's own, or new -/
def tV (K : PySem.W.Frag) (W : Wd) (f : OS) : TE := fun σ H Q => ∃ F st r, Rel K W F H σ st ∧ f st = some r ∧ ∀ a vs F' H', Rel K W F' H' σ r.2 → Same F F' → H' a = some (.lst vs) → DpAll K F' vs r.1 → Q (.ref a) H'
abbrev DV (X : Cx) (W : Wd) (e : Expr) (f : OS) : Prop := PE X e (tV X.K W f)
theorem dv_o (h : DO X W e o) : DV X W e o := pe_imp h fun σ H Q ⟨F, st, z, R, e, k⟩ => ⟨F, st, z, R, e, fun a vs F' H' R' s' h' _ d' => k a vs F' H' R' s' h' d'⟩
theorem dv_nm (i : Nat) {x : Str} {pos : Pos} (hN : X.N[i]? = some x := by rfl) (hv : Vis X.env.scope x := by first | exact Or.inl rfl | exact Or.inr (Or.inl rfl) | exact Or.inr (Or.inr rfl)) (hd : (x == ("__debug__" : Str)) = false := by decide)
    (hcd : (x == ("__classdict__" : Str)) = false := by decide) : DV X W (.Name x pos) (oNm i) := pe_imp (pe_var (i := i) hN hv hd hcd) fun σ H Q ⟨F, st, r, R, e, k⟩ => by
  unfold oNm at e
  split at e
  · rename_i y hy
    cases e
    obtain ⟨a, vs, h1, h2, h3, h4, _⟩ := R.own i y hy
    exact ⟨_, h1, k a vs F H R (Same.refl _) h2 h4⟩
  · cases e
/-- a call of a built-in with a look at a list -/
def eCallV (fn : List D → Option D) (o : OS) : ES := fun st => (o st).bind fun r => (fn [.list r.1]).map fun z => (z, r.2)
/-- the list looked at stands still for the moment -/
theorem Rel.moment {K : PySem.W.Frag} {F H : Hp} {σ : L2.St} {st : List Sl} {a : Addr} {vs : List V} {xs : List D} (R : Rel K W F H σ st) (h : H a = some (.lst vs)) (d : DpAll K F vs xs) : ∃ F', Same F F' ∧ Same F' H ∧ Dp K F' (.ref a) (.list xs) := by
  by_cases hF : F a = none
  · refine ⟨upd F a (.lst vs), same_upd hF, fun b u e => ?_, .lst (.inl (.inl upd_same)) (dpAllMono (same_upd hF) _ _ d)⟩
    by_cases hb : b = a
    · subst hb; rw [upd_same] at e; cases e; exact h
    · rw [upd_ne hb] at e; exact R.fh b u e
  · cases q : F a with
    | none => exact absurd q hF
    | some o =>
      have e := R.fh a o q
      rw [h] at e
      cases e
      exact ⟨F, Same.refl _, R.fh, .lst (.inl (.inl q)) d⟩
theorem de_lenV (hg : Gl X "len") (hm : X.mg "len" = none) (hv : bootBuiltins "len" = some (.builtin "len")) (ha : DV X W e o) (he : starEach [e] X.env = (false, eval e X.env) :: starEach [] X.env := by rfl) (hpl : (backTo pos (starEach [] X.env)).any (·.1) = false := by rfl) :
    DE X W (.Call (.Name "len" p) [e] [] pos) (eCallV fLen o) := pe_imp (pe_callB call_len_seq hg hm hv (pa_cons ha pa_nil he) (by decide) (by decide) he hpl) fun σ H Q ⟨F, st, z, R, e, k⟩ => by
  unfold eCallV at e
  obtain ⟨r1, e1, e⟩ := Option.bind_eq_some_iff.mp e
  obtain ⟨c, e2, e⟩ := Option.map_eq_some_iff.mp e
  cases e
  refine ⟨F, st, r1, R, e1, fun a vs F1 H1 R1 s1 h1 d1 => ⟨a, vs, rfl, .inl (SqL.of h1), ?_⟩⟩
  cases e2
  rw [DpAll.length d1]
  exact k _ F1 H1 R1 s1 (.int _)
theorem de_tupleV (hg : Gl X "tuple") (hm : X.mg "tuple" = none) (hv : bootBuiltins "tuple" = some (.type "tuple")) (ha : DV X W e o) (he : starEach [e] X.env = (false, eval e X.env) :: starEach [] X.env := by rfl) (hpl : (backTo pos (starEach [] X.env)).any (·.1) = false := by rfl) :
    DE X W (.Call (.Name "tuple" p) [e] [] pos) (eCallV fTuple o) := pe_imp (pe_callTy call_tuple_of hg hm hv (pa_cons ha pa_nil he) (by decide) (by decide) he hpl) fun σ H Q ⟨F, st, z, R, e, k⟩ => by
  unfold eCallV at e
  obtain ⟨r1, e1, e⟩ := Option.bind_eq_some_iff.mp e
  obtain ⟨c, e2, e⟩ := Option.map_eq_some_iff.mp e
  cases e
  refine ⟨F, st, r1, R, e1, fun a vs F1 H1 R1 s1 h1 d1 => ⟨a, vs, rfl, .inl ⟨SqL.of h1, fun l hl => ?_⟩⟩⟩
  cases e2
  have e5 : Same F1 (upd F1 l (.tup vs)) := same_upd (R1.fh.free hl)
  exact k _ _ _ (R1.laid hl) (s1.trans e5) (.tup (.inl (.inl upd_same)) (dpAllMono e5 _ _ d1))
/-- a look at a list as the right side of in, of == -/
def bBinV (op : D → D → Option Bool) (f : ES) (o : OS) : BS := fun st => (f st).bind fun r => (o r.2).bind fun q => (op r.1 (.list q.1)).map fun z => (z, q.2)
theorem dt_cmpV {op : CmpOp} {r : R2} {opd : D → D → Option Bool} (ho : OpR X (compareOp op) r) (hs : OpT X.K r opd) (ha : DE X W a f) (hb : DV X W b o) (hm : behindInMarks op b = false := by first | exact nomark _ | with_unfolding_all rfl) : DT X W (.Compare a [op] [b] pos) (bBinV opd f o) :=
  pt_imp (pt_cmpR ho ha hb hm) fun σ H Q ⟨F, st, z, R, e, k⟩ => by
    unfold bBinV at e
    obtain ⟨r1, e1, e⟩ := Option.bind_eq_some_iff.mp e
    obtain ⟨r2, e2, e⟩ := Option.bind_eq_some_iff.mp e
    obtain ⟨c, e3, e⟩ := Option.map_eq_some_iff.mp e
    cases e
    refine ⟨F, st, r1, R, e1, fun x F1 H1 R1 s1 d1 => ⟨F1, r1.2, r2, R1, e2, fun y vs F2 H2 R2 s2 h2 d2 => ?_⟩⟩
    obtain ⟨F3, s3, t3, d3⟩ := R2.moment h2 d2
    exact hs F3 H2 x (.ref y) r1.1 (.list r2.1) c _ t3 (dpMono (s2.trans s3) _ _ d1) d3 e3 ⟨c, rfl, k F2 H2 R2 (s1.trans s2)⟩
/-- x[i], x a list of one's own -/
def eIxO (i : Nat) (g : ES) : ES := fun st => match st[i]? with
  | some (.own _) => (g st).bind fun q => match q.2[i]? with
    | some (.own xs) => (dIx (.list xs) q.1).map fun z => (z, q.2)
    | _ => none
  | _ => none
theorem de_ixO (i : Nat) {x : Str} {px : Pos} (hb : DE X W b g) (hp : PlainIx b := by exact fun _ _ => rfl) (hN : X.N[i]? = some x := by rfl) (hv : Vis X.env.scope x := by first | exact Or.inl rfl | exact Or.inr (Or.inl rfl) | exact Or.inr (Or.inr rfl)) (hd : (x == ("__debug__" : Str)) = false := by decide)
    (hcd : (x == ("__classdict__" : Str)) = false := by decide) : DE X W (.Subscript (.Name x px) b pos) (eIxO i g) := pe_imp (pe_ix ix_list (pe_var (i := i) hN hv hd hcd) hb hp) fun σ H Q ⟨F, st, z, R, e, k⟩ => by
  unfold eIxO at e
  split at e
  · rename_i ys hy
    obtain ⟨a, vs, h1, h2, _⟩ := R.own i ys hy
    obtain ⟨r1, e1, e⟩ := Option.bind_eq_some_iff.mp e
    refine ⟨_, h1, F, st, r1, R, e1, fun w F1 H1 R1 s1 d1 => ?_⟩
    split at e
    · rename_i xs hx
      obtain ⟨c, e2, e⟩ := Option.map_eq_some_iff.mp e
      cases e
      obtain ⟨a', ws, g1, g2, g3, g4, _⟩ := R1.own i xs hx
      rw [h1] at g1
      cases g1
      unfold dIx at e2
      split at e2
      · rename_i xs' i' hxs hi
        cases hxs
        rw [hi] at d1
        obtain ⟨v, g5, g6⟩ := DpAll.at g4 e2
        exact ⟨a, ws, _, v, rfl, dp_int d1, SqL.of g2, g5, k v F1 H1 R1 s1 g6⟩
      · rename_i hq _; cases hq
      · rename_i hq _; cases hq
      · cases e2
    · cases e
  · cases e
/-- two lists in a row -/
def oCat (o o' : OS) : OS := fun st => (o st).bind fun r => (o' r.2).bind fun q => if r.1.length + q.1.length ≤ sizeLine then some (r.1 ++ q.1, q.2) else none
theorem do_cat (ha : DO X W a o) (hb : DV X W b o') : DO X W (.BinOp a .Add b pos) (oCat o o') := pe_imp (pe_op op_cat ha hb) fun σ H Q ⟨F, st, z, R, e, k⟩ => by
  unfold oCat at e
  obtain ⟨r1, e1, e⟩ := Option.bind_eq_some_iff.mp e
  obtain ⟨r2, e2, e⟩ := Option.bind_eq_some_iff.mp e
  split at e
  · rename_i hl
    cases e
    refine ⟨F, st, r1, R, e1, fun a vs F1 H1 R1 s1 h1 fr1 d1 => ?_⟩
    have e5 : Same F1 (upd F1 a (.lst vs)) := same_upd fr1.1
    refine ⟨_, r1.2, r2, R1.freeze h1 fr1.1 fr1.2.1 fr1.2.2, e2, fun b ws F2 H2 R2 s2 h2 d2 => ?_⟩
    have h1' : H2 a = some (.lst vs) := R2.fh _ _ (s2 _ _ upd_same)
    refine ⟨a, b, vs, ws, rfl, rfl, h1', h2, by rw [DpAll.length d1, DpAll.length d2]; exact hl, fun p hp => ?_⟩
    obtain ⟨fr, R3⟩ := R2.fresh (o := .lst (vs ++ ws)) hp
    exact k _ _ _ _ R3 (s1.trans (e5.trans s2)) upd_same fr (DpAll.append (dpAllMono (e5.trans s2) _ _ d1) d2)
  · cases e
theorem dpa_strs {K : PySem.W.Frag} {F : Hp} : ∀ ys : List Str, DpAll K F (ys.map V.str) (ys.map PyData.str)
  | [] => .nil
  | y :: r => .cons (.str y) (dpa_strs r)
def oSplit (f g : ES) : OS := fun st => (f st).bind fun r => (g r.2).bind fun q => match r.1, q.1 with
  | .str a, .str b => if (codes b).length ≠ 0 ∧ (codes a).length + 2 ≤ sizeLine then some ((Txt.split a b).map PyData.str, q.2) else none
  | _, _ => none
theorem do_split (ho : DE X W a f) (he : DE X W b g) (hs : starEach [b] X.env = [(false, eval b X.env)] := by rfl) (hbase : attributeBase a "split" X.env (eval a X.env) = eval a X.env := by rfl) (hline : (apos.endLine == pos.line) = true := by rfl) :
    DO X W (.Call (.Attribute a "split" apos) [b] [] pos) (oSplit f g) := pe_imp (pe_split ho he hs hbase hline) fun σ H Q ⟨F, st, z, R, e, k⟩ => by
  unfold oSplit at e
  obtain ⟨r1, e1, e⟩ := Option.bind_eq_some_iff.mp e
  obtain ⟨r2, e2, e⟩ := Option.bind_eq_some_iff.mp e
  refine ⟨F, st, r1, R, e1, fun v F1 H1 R1 s1 d1 => ?_⟩
  split at e
  · rename_i a' b' h1 h2
    rw [h1] at d1
    rw [dp_str d1]
    refine ⟨⟨_, rfl⟩, F1, r1.2, r2, R1, e2, fun w F2 H2 R2 s2 d2 => ?_⟩
    rw [h2] at d2
    rw [dp_str d2]
    split at e
    · rename_i hl
      cases e
      refine ⟨_, _, rfl, rfl, ?_, by rw [codes_len]; exact hl.2, fun p hp => ?_⟩
      · rw [codes_len]
        exact beq_eq_false_iff_ne.mpr hl.1
      · obtain ⟨fr, R3⟩ := R2.fresh (o := .lst ((Txt.split a' b').map V.str)) hp
        exact k _ _ _ _ R3 (s1.trans s2) upd_same fr (dpa_strs _)
    · cases e
  · cases e
def strsOf : List D → Option (List Str)
  | [] => some []
  | .str b :: r => (strsOf r).map (b :: ·)
  | _ => none
theorem strsOf_dp {K : PySem.W.Frag} {F : Hp} : ∀ {vs : List V} {ds : List D} {bs : List Str}, DpAll K F vs ds → strsOf ds = some bs → vs = bs.map V.str
  | _, _, _, .nil, e => by cases e; rfl
  | _, d :: r, bs, .cons h t, e => by
    cases h <;> first
      | (have e' := e
         obtain ⟨q, e1, rfl⟩ := Option.map_eq_some_iff.mp e'
         rw [strsOf_dp t e1]
         rfl)
      | cases e
def dJoin (a b : D) : Option D := match a with
  | .str a => match b with
    | .list xs => (strsOf xs).bind fun ys => if (ys.map (·.length)).sum + ys.length * a.length ≤ 16777216 then some (.str (Txt.join a ys)) else none
    | .tuple xs => (strsOf xs).bind fun ys => if (ys.map (·.length)).sum + ys.length * a.length ≤ 16777216 then some (.str (Txt.join a ys)) else none
    | _ => none
  | _ => none
theorem de_join (ho : DE X W a f) (he : DE X W b g) (hs : starEach [b] X.env = [(false, eval b X.env)] := by rfl) (hbase : attributeBase a "join" X.env (eval a X.env) = eval a X.env := by rfl) (hline : (apos.endLine == pos.line) = true := by rfl) :
    DE X W (.Call (.Attribute a "join" apos) [b] [] pos) (eBin dJoin f g) := pe_imp (pe_join ho he hs hbase hline) fun σ H Q ⟨F, st, z, R, e, k⟩ => by
  unfold eBin at e
  obtain ⟨r1, e1, e⟩ := Option.bind_eq_some_iff.mp e
  obtain ⟨r2, e2, e⟩ := Option.bind_eq_some_iff.mp e
  obtain ⟨c, e3, e⟩ := Option.map_eq_some_iff.mp e
  cases e
  refine ⟨F, st, r1, R, e1, fun v F1 H1 R1 s1 d1 => ?_⟩
  unfold dJoin at e3
  split at e3
  · rename_i a' h1
    rw [h1] at d1
    rw [dp_str d1]
    refine ⟨⟨_, rfl⟩, F1, r1.2, r2, R1, e2, fun w F2 H2 R2 s2 d2 => ?_⟩
    split at e3
    · rename_i xs h2
      rw [h2] at d2
      obtain ⟨p, vs, rfl, g1, g2⟩ := dp_list d2
      obtain ⟨ys, e4, e5⟩ := Option.bind_eq_some_iff.mp e3
      rw [strsOf_dp g2 e4] at g1
      split at e5
      · rename_i hl
        cases e5
        exact ⟨a', p, ys, rfl, rfl, .inl (R2.fh.seq g1), hl, k _ F2 H2 R2 (s1.trans s2) (.str _)⟩
      · cases e5
    · rename_i xs h2
      rw [h2] at d2
      obtain ⟨p, vs, rfl, g1, g2⟩ := dp_tup d2
      obtain ⟨ys, e4, e5⟩ := Option.bind_eq_some_iff.mp e3
      rw [strsOf_dp g2 e4] at g1
      split at e5
      · rename_i hl
        cases e5
        exact ⟨a', p, ys, rfl, rfl, .inr (sameT R2.fh g1), hl, k _ F2 H2 R2 (s1.trans s2) (.str _)⟩
      · cases e5
    · cases e3
  · cases e3
/-! ### truth -/
def truD : D → Option Bool
  | .none => some false
  | .bool b => some b
  | .int i => some (i != 0)
  | .str z => if (codes z).length ≤ sizeLine then some (((codes z).length : Int) != 0) else none
  | .list xs => some (!xs.isEmpty)
  | .tuple xs => some (!xs.isEmpty)
  | _ => none
theorem dpa_empty {K : PySem.W.Frag} {F : Hp} {vs : List V} {xs : List D} (h : DpAll K F vs xs) : vs.isEmpty = xs.isEmpty := by cases h <;> rfl
theorem dt_tru (ha : DE X W a f) (he : ∀ whole, isTrue a X.env whole = (do let v ← whole; standAt a.pos; holding [v] (truthy v)) := by intro _; rfl) : DT X W a (bUn truD f) := pt_imp (pt_truth ha he) fun σ H Q ⟨F, st, z, R, e, k⟩ => by
  unfold bUn at e
  obtain ⟨r1, e1, e⟩ := Option.bind_eq_some_iff.mp e
  obtain ⟨c, e2, e⟩ := Option.map_eq_some_iff.mp e
  cases e
  refine ⟨F, st, r1, R, e1, fun x F1 H1 R1 s1 d1 => ⟨c, ?_, k F1 H1 R1 s1⟩⟩
  obtain ⟨r1a, r1b⟩ := r1
  cases d1 with
  | non => cases e2; rfl
  | bl b => cases e2; rfl
  | int i => cases e2; rfl
  | str z =>
    unfold truD at e2
    dsimp only at e2
    split at e2
    · rename_i hl
      cases e2
      exact ⟨by rw [codes_len]; exact hl, by rw [codes_len]⟩
    · cases e2
  | lst h1 h2 =>
    cases e2
    exact .inl ⟨_, R1.fh.seq h1, by rw [dpa_empty h2]⟩
  | tup h1 h2 =>
    cases e2
    exact .inr (.inl ⟨_, sameT R1.fh h1, by rw [dpa_empty h2]⟩)
/-! ### isinstance -/
def tyD : D → Option String
  | .none => some "NoneType"
  | .bool _ => some "bool"
  | .int _ => some "int"
  | .str _ => some "str"
  | .list _ => some "list"
  | .tuple _ => some "tuple"
  | _ => none
theorem tyD_dp {K : PySem.W.Frag} {F H : Hp} {v : V} {x : D} {n : String} (s : Same F H) (h : Dp K F v x) (e : tyD x = some n) : TyX K H v (.type n) := by
  cases h with
  | non => cases e; exact .base .non
  | bl b => cases e; exact .base (.bl b)
  | int i => cases e; exact .base (.int i)
  | str z => cases e; exact .base (.str z)
  | lst h1 h2 =>
    cases e
    rcases h1 with (h1 | ⟨o, h1⟩) | ⟨o, its, m, hk, hc, _⟩
    · exact .base (.lst (s _ _ h1))
    · exact .base (.frz (s _ _ h1))
    · exact .kList hk hc
  | tup h1 h2 =>
    cases e
    rcases h1 with (h1 | ⟨o, h1⟩) | ⟨o, its, m, hk, hc, _⟩
    · exact .base (.tup (s _ _ h1))
    · exact .fTuple (s _ _ h1)
    · exact .kTuple hk hc
def dIsi (T : String) (x : D) : Option D := (tyD x).bind fun n => (kitB n T).map PyData.bool
theorem de_isi {T : String} {y : Str} {py : Pos} (hg : Gl X "isinstance") (hm : X.mg "isinstance" = none) (hv : bootBuiltins "isinstance" = some (.builtin "isinstance")) (ha : DE X W a f) (hgy : Gl X y) (hmy : X.mg y = none) (hvy : bootBuiltins y = some (.type T))
    (hny : y ≠ "__name__" := by decide) (hdy : (y == ("__debug__" : Str)) = false := by decide) (hs : starEach [(.Name y py : Expr)] X.env = (false, eval (.Name y py) X.env) :: starEach [] X.env := by rfl)
    (he : starEach [a, .Name y py] X.env = (false, eval a X.env) :: starEach [(.Name y py : Expr)] X.env := by rfl) (hpl : (backTo pos (starEach [(.Name y py : Expr)] X.env)).any (·.1) = false := by rfl) :
    DE X W (.Call (.Name "isinstance" p) [a, .Name y py] [] pos) (eUn (dIsi T) f) := pe_imp (pe_callB call_isi hg hm hv (pa_cons ha (pa_cons (pe_bltn (v := .ty T) hgy hmy hvy rfl hny hdy) pa_nil hs) he) (by decide) (by decide) he hpl) fun σ H Q ⟨F, st, z, R, e, k⟩ => by
  unfold eUn at e
  obtain ⟨r1, e1, e⟩ := Option.bind_eq_some_iff.mp e
  obtain ⟨c, e2, e⟩ := Option.map_eq_some_iff.mp e
  cases e
  refine ⟨F, st, r1, R, e1, fun x F1 H1 R1 s1 d1 => ?_⟩
  obtain ⟨n, e3, e4⟩ := Option.bind_eq_some_iff.mp e2
  obtain ⟨b, e5, rfl⟩ := Option.map_eq_some_iff.mp e4
  exact ⟨x, .ty T, .type n, .type T, b, rfl, .ty T, tyD_dp R1.fh d1 e3, kit_ty e5, k _ F1 H1 R1 s1 (.bl b)⟩
def dIsi2 (T U : String) (x : D) : Option D := (tyD x).bind fun n => (kitB n T).bind fun b => (kitB n U).map fun c => .bool (b || c)
theorem de_isi2 {T U : String} {y z : Str} {py pz pt : Pos} {kt : Nat} (hg : Gl X "isinstance") (hm : X.mg "isinstance" = none) (hv : bootBuiltins "isinstance" = some (.builtin "isinstance")) (ha : DE X W a f) (hgy : Gl X y) (hmy : X.mg y = none) (hvy : bootBuiltins y = some (.type T))
    (hgz : Gl X z) (hmz : X.mg z = none) (hvz : bootBuiltins z = some (.type U))
    (hny : y ≠ "__name__" := by decide) (hdy : (y == ("__debug__" : Str)) = false := by decide) (hnz : z ≠ "__name__" := by decide) (hdz : (z == ("__debug__" : Str)) = false := by decide)
    (h1 : starEach [(.Name z pz : Expr)] X.env = (false, eval (.Name z pz) X.env) :: starEach [] X.env := by rfl)
    (h2 : starEach [(.Name y py : Expr), .Name z pz] X.env = (false, eval (.Name y py) X.env) :: starEach [(.Name z pz : Expr)] X.env := by rfl)
    (hs : starEach [(.Tuple [.Name y py, .Name z pz] kt pt : Expr)] X.env = (false, eval (.Tuple [.Name y py, .Name z pz] kt pt) X.env) :: starEach [] X.env := by rfl)
    (he : starEach [a, .Tuple [.Name y py, .Name z pz] kt pt] X.env = (false, eval a X.env) :: starEach [(.Tuple [.Name y py, .Name z pz] kt pt : Expr)] X.env := by rfl) (hpl : (backTo pos (starEach [(.Tuple [.Name y py, .Name z pz] kt pt : Expr)] X.env)).any (·.1) = false := by rfl) :
    DE X W (.Call (.Name "isinstance" p) [a, .Tuple [.Name y py, .Name z pz] kt pt] [] pos) (eUn (dIsi2 T U) f) :=
  pe_imp (pe_callB call_isiT hg hm hv (pa_cons ha (pa_cons (pe_tup (pa_cons (pe_bltn (v := .ty T) hgy hmy hvy rfl hny hdy) (pa_cons (pe_bltn (v := .ty U) hgz hmz hvz rfl hnz hdz) pa_nil h1) h2)) pa_nil hs) he) (by decide) (by decide) he hpl) fun σ H Q ⟨F, st, zz, R, e, k⟩ => by
  unfold eUn at e
  obtain ⟨r1, e1, e⟩ := Option.bind_eq_some_iff.mp e
  obtain ⟨c, e2, e⟩ := Option.map_eq_some_iff.mp e
  cases e
  refine ⟨F, st, r1, R, e1, fun x F1 H1 R1 s1 d1 => ⟨by show 2 ≤ sizeLine; decide, fun tp htp => ?_⟩⟩
  obtain ⟨n, e3, e4⟩ := Option.bind_eq_some_iff.mp e2
  obtain ⟨b, e5, e6⟩ := Option.bind_eq_some_iff.mp e4
  obtain ⟨c', e7, rfl⟩ := Option.map_eq_some_iff.mp e6
  have R2 := R1.laid (o := .tup [.ty T, .ty U]) htp
  have e9 : Same F1 (upd F1 tp (.tup [.ty T, .ty U])) := same_upd (R1.fh.free htp)
  have q : ∀ b c : Bool, kitB n T = some b → kitB n U = some c → PySem.W.kitAny X.K (.type n) [.type T, .type U] = some (b || c) := fun b c h1 h2 => by
    refine kitAny_cons (b := b) (kit_ty h1) (fun hb => ?_) fun hb => by rw [hb]; rfl
    refine kitAny_cons (b := c) (kit_ty h2) (fun hc => ?_) fun hc => by rw [hc, Bool.or_true]
    rw [hb, hc]
    rfl
  exact ⟨x, tp, [.ty T, .ty U], .type n, [.type T, .type U], _, rfl, upd_same, .cons (.ty T) (.cons (.ty U) .nil), tyD_dp R2.fh (dpMono e9 _ _ d1) e3, q b c' e5 e7, k _ _ _ R2 (s1.trans e9) (.bl _)⟩
end
end DL

set_option Elab.async false
set_option linter.all false
set_option maxRecDepth 100000
set_option maxHeartbeats 4000000
namespace DL
open PySem PySem.Spec L2

/-! ### statements -/
inductive Out where
  | nx (st : List Sl)
  | rt (x : D) (st : List Sl)
  | ro (xs : List D) (st : List Sl)
  | bk (st : List Sl)
  | ct (st : List Sl)
abbrev SS := List Sl → Option Out
def EndsOk (K : PySem.W.Frag) (W : Wd) (F : Hp) (D : Ends) : Out → Prop
  | .nx st => ∀ σ' F' H', Rel K W F' H' σ' st → Same F F' → D.nx σ' H'
  | .rt x st => ∀ v σ' F' H', Rel K W F' H' σ' st → Same F F' → Dp K F' v x → D.rt v H'
  | .ro xs st => ∀ a vs σ' F' H', Rel K W F' H' σ' st → Same F F' → H' a = some (.lst vs) → F' a = none → W.H0 a = none → DpAll K F' vs xs → D.rt (.ref a) H'
  | .bk st => ∀ σ' F' H', Rel K W F' H' σ' st → Same F F' → D.bk σ' H'
  | .ct st => ∀ σ' F' H', Rel K W F' H' σ' st → Same F F' → D.ct σ' H'
theorem EndsOk.mono {K : PySem.W.Frag} {W : Wd} {F F1 : Hp} {D : Ends} {o : Out} (e : Same F F1) (h : EndsOk K W F D o) : EndsOk K W F1 D o := by
  cases o with
  | nx st => exact fun σ' F' H' R s => h σ' F' H' R (e.trans s)
  | rt x st => exact fun v σ' F' H' R s => h v σ' F' H' R (e.trans s)
  | ro xs st => exact fun a vs σ' F' H' R s => h a vs σ' F' H' R (e.trans s)
  | bk st => exact fun σ' F' H' R s => h σ' F' H' R (e.trans s)
  | ct st => exact fun σ' F' H' R s => h σ' F' H' R (e.trans s)
def tS (K : PySem.W.Frag) (W : Wd) (g : SS) : TS := fun D σ H => ∃ F st o, Rel K W F H σ st ∧ g st = some o ∧ EndsOk K W F D o
abbrev DS (X : Cx) (W : Wd) (s : Stmt) (g : SS) : Prop := PS X s (tS X.K W g)
abbrev DSs (X : Cx) (W : Wd) (s : List Stmt) (g : SS) : Prop := PSs X s (tS X.K W g)

def sNone : SS := fun _ => none
def sNext : SS := fun st => some (.nx st)
def sBrk : SS := fun st => some (.bk st)
def sCnt : SS := fun st => some (.ct st)
def sSeq (f g : SS) : SS := fun st => (f st).bind fun o => match o with
  | .nx st' => g st'
  | o => some o
def sIf (c : BS) (f g : SS) : SS := fun st => (c st).bind fun r => if r.1 then f r.2 else g r.2
def sRet (f : ES) : SS := fun st => (f st).map fun r => .rt r.1 r.2
def sRetO (f : OS) : SS := fun st => (f st).map fun r => .ro r.1 r.2
def sRetN : SS := fun st => some (.rt .none st)
def sDrop (f : ES) : SS := fun st => (f st).map fun r => .nx r.2
def sSet (i : Nat) (f : ES) : SS := fun st => (f st).map fun r => .nx (r.2.set i (.d r.1))
def sSetO (i : Nat) (f : OS) : SS := fun st => (f st).map fun r => .nx (r.2.set i (.own r.1))
section
variable {X : Cx} {W : Wd} {s : Stmt} {rest : List Stmt} {a b e : Expr} {f g : SS} {u v : ES} {c : BS} {o : OS} {pos : Pos}
theorem ds_never : DS X W s sNone := ps_imp ps_never fun _ _ _ ⟨_, _, _, _, e, _⟩ => by cases e
theorem dss_never : DSs X W rest sNone := pss_imp pss_never fun _ _ _ ⟨_, _, _, _, e, _⟩ => by cases e
theorem dss_nil : DSs X W [] sNext := pss_imp pss_nil fun D σ H ⟨F, st, o, R, e, k⟩ => by
  cases e
  exact k σ F H R (Same.refl _)
theorem dss_cons (h1 : DS X W s f) (h2 : DSs X W rest g) : DSs X W (s :: rest) (sSeq f g) := pss_imp (pss_cons h1 h2) fun D σ H ⟨F, st, o, R, e, k⟩ => by
  unfold sSeq at e
  obtain ⟨o1, e1, e⟩ := Option.bind_eq_some_iff.mp e
  refine ⟨F, st, o1, R, e1, ?_⟩
  cases o1 with
  | nx st' => exact fun σ' F' H' R' s' => ⟨F', st', o, R', e, k.mono s'⟩
  | rt x st => cases e; exact k
  | ro xs st => cases e; exact k
  | bk st => cases e; exact k
  | ct st => cases e; exact k
theorem dss_one (h1 : DS X W s f) : DSs X W [s] f := pss_one h1
theorem ds_pass : DS X W (.Pass pos) sNext := ps_imp ps_pass fun D σ H ⟨F, st, o, R, e, k⟩ => by
  cases e
  exact k σ F H R (Same.refl _)
theorem ds_break : DS X W (.Break pos) sBrk := ps_imp ps_break fun D σ H ⟨F, st, o, R, e, k⟩ => by
  cases e
  exact k σ F H R (Same.refl _)
theorem ds_continue : DS X W (.Continue pos) sCnt := ps_imp ps_continue fun D σ H ⟨F, st, o, R, e, k⟩ => by
  cases e
  exact k σ F H R (Same.refl _)
theorem ds_if {c' : Expr} {x y : List Stmt} (hc : DT X W c' c) (ha : DSs X W x f) (hb : DSs X W y g) : DS X W (.If c' x y pos) (sIf c f g) := ps_imp (ps_if hc ha hb) fun D σ H ⟨F, st, o, R, e, k⟩ => by
  unfold sIf at e
  obtain ⟨r1, e1, e⟩ := Option.bind_eq_some_iff.mp e
  refine ⟨F, st, r1, R, e1, fun F1 H1 R1 s1 => ?_⟩
  obtain ⟨d, r1b⟩ := r1
  cases d with
  | true => exact ⟨F1, r1b, o, R1, e, k.mono s1⟩
  | false => exact ⟨F1, r1b, o, R1, e, k.mono s1⟩
theorem ds_ret (h : DE X W a u) : DS X W (.Return (some a) pos) (sRet u) := ps_imp (ps_ret h) fun D σ H ⟨F, st, o, R, e, k⟩ => by
  unfold sRet at e
  obtain ⟨r1, e1, e⟩ := Option.map_eq_some_iff.mp e
  cases e
  exact ⟨F, st, r1, R, e1, fun v F1 H1 R1 s1 d1 => k v σ F1 H1 R1 s1 d1⟩
theorem ds_retO (h : DO X W a o) : DS X W (.Return (some a) pos) (sRetO o) := ps_imp (ps_ret h) fun D σ H ⟨F, st, o', R, e, k⟩ => by
  unfold sRetO at e
  obtain ⟨r1, e1, e⟩ := Option.map_eq_some_iff.mp e
  cases e
  exact ⟨F, st, r1, R, e1, fun v vs F1 H1 R1 s1 h1 fr d1 => k v vs σ F1 H1 R1 s1 h1 fr.1 fr.2.1 d1⟩
/-- return x, x a list of one's own (not a parameter) -/
theorem ds_retNm (i : Nat) {x : Str} {px : Pos} (hP : W.P i = none) (hN : X.N[i]? = some x := by rfl) (hv : Vis X.env.scope x := by first | exact Or.inl rfl | exact Or.inr (Or.inl rfl) | exact Or.inr (Or.inr rfl)) (hd : (x == ("__debug__" : Str)) = false := by decide)
    (hcd : (x == ("__classdict__" : Str)) = false := by decide) : DS X W (.Return (some (.Name x px)) pos) (sRetO (oNm i)) := ps_imp (ps_ret (pe_var (i := i) hN hv hd hcd)) fun D σ H ⟨F, st, o', R, e, k⟩ => by
  unfold sRetO at e
  obtain ⟨r1, e1, e⟩ := Option.map_eq_some_iff.mp e
  cases e
  unfold oNm at e1
  split at e1
  · rename_i xs hx
    cases e1
    obtain ⟨a, vs, h1, h2, h3, h4, h5⟩ := R.own i xs hx
    refine ⟨_, h1, k a vs σ F H R (Same.refl _) h2 h3 ?_ h4⟩
    rcases h5 with h5 | h5
    · rw [hP] at h5; cases h5
    · exact h5
  · cases e1
theorem ds_retN : DS X W (.Return none pos) sRetN := ps_imp ps_retN fun D σ H ⟨F, st, o, R, e, k⟩ => by
  cases e
  exact k _ σ F H R (Same.refl _) .non
theorem ds_doc {x j pos pos'} : DS X W (.Expr (.Constant (.str x) j pos) pos') sNext := ps_imp ps_doc fun D σ H ⟨F, st, o, R, e, k⟩ => by
  cases e
  exact k σ F H R (Same.refl _)
theorem ds_drop (h : DE X W a u) (hs : swapsWith a none pos.line X.env = pure false := by rfl) : DS X W (.Expr a pos) (sDrop u) := ps_imp (ps_expr h hs) fun D σ H ⟨F, st, o, R, e, k⟩ => by
  unfold sDrop at e
  obtain ⟨r1, e1, e⟩ := Option.map_eq_some_iff.mp e
  cases e
  exact ⟨F, st, r1, R, e1, fun v F1 H1 R1 s1 d1 => k σ F1 H1 R1 s1⟩
theorem ds_set (i : Nat) {x : Str} {pos' : Pos} (hP : W.P i = none) (hN : X.N.Nodup) (h : DE X W a u) (hi : X.N[i]? = some x := by rfl) (hx : Loc X.env.scope x := by first | exact Or.inl rfl | exact Or.inr rfl) (hs : swapsWith a (some (.Name x pos')) pos.line X.env = pure false := by rfl)
    (hf : X.fn x = true ∨ X.env.scope.names.lookup x = some .local := by first | exact .inl rfl | exact .inr rfl | assumption) : DS X W (.Assign [.Name x pos'] a pos) (sSet i u) := ps_imp (ps_set (i := i) hN hi hx h hs hf) fun D σ H ⟨F, st, o, R, e, k⟩ => by
  unfold sSet at e
  obtain ⟨r1, e1, e⟩ := Option.map_eq_some_iff.mp e
  cases e
  exact ⟨F, st, r1, R, e1, fun v F1 H1 R1 s1 d1 => k _ F1 H1 (R1.setD hP d1) s1⟩
theorem ds_setO (i : Nat) {x : Str} {pos' : Pos} (hP : W.P i = none) (hN : X.N.Nodup) (h : DO X W a o) (hi : X.N[i]? = some x := by rfl) (hx : Loc X.env.scope x := by first | exact Or.inl rfl | exact Or.inr rfl) (hs : swapsWith a (some (.Name x pos')) pos.line X.env = pure false := by rfl)
    (hf : X.fn x = true ∨ X.env.scope.names.lookup x = some .local := by first | exact .inl rfl | exact .inr rfl | assumption) : DS X W (.Assign [.Name x pos'] a pos) (sSetO i o) := ps_imp (ps_set (i := i) hN hi hx h hs hf) fun D σ H ⟨F, st, o', R, e, k⟩ => by
  unfold sSetO at e
  obtain ⟨r1, e1, e⟩ := Option.map_eq_some_iff.mp e
  cases e
  exact ⟨F, st, r1, R, e1, fun v vs F1 H1 R1 s1 h1 fr d1 => k _ F1 H1 (R1.setO hP h1 fr.1 fr.2.1 d1 fr.2.2) s1⟩
/-! ### a list of one's own is changed -/
def sApp (i : Nat) (u : ES) : SS := fun st => match st[i]? with
  | some (.own _) => (u st).bind fun r => match r.2[i]? with
    | some (.own xs) => if xs.length < 16000000 then some (.nx (r.2.set i (.own (xs ++ [r.1])))) else none
    | _ => none
  | _ => none
theorem small16 {n : Nat} (h : n < 16000000) : n < sizeLine := Nat.lt_of_lt_of_le h (by decide)
theorem ds_app (i : Nat) {x : Str} {px apos cpos : Pos} (he : DE X W e u) (hN : X.N[i]? = some x := by rfl) (hv : Vis X.env.scope x := by first | exact Or.inl rfl | exact Or.inr (Or.inl rfl) | exact Or.inr (Or.inr rfl)) (hd : (x == ("__debug__" : Str)) = false := by decide)
    (hcd : (x == ("__classdict__" : Str)) = false := by decide) (hs' : starEach [e] X.env = (false, eval e X.env) :: starEach [] X.env := by rfl)
    (hbase : attributeBase (.Name x px) "append" X.env (eval (.Name x px) X.env) = eval (.Name x px) X.env := by rfl)
    (hfew : ((backTo cpos (starEach [e] X.env)).all (fun x => !x.1) && (backToKw cpos (keywordEach [] X.env)).all (fun x => x.1.isSome)
      && decide ([e].length + ([] : List Keyword).length + (if ([] : List Keyword).isEmpty then 0 else 1) < 30)) = true := by rfl)
    (hline : (apos.endLine == cpos.line) = true := by rfl) (hplain : (backTo cpos (starEach [] X.env)).any (·.1) = false := by rfl)
    (hs : swapsWith (.Call (.Attribute (.Name x px) "append" apos) [e] [] cpos) none pos.line X.env = pure false := by rfl) : DS X W (.Expr (.Call (.Attribute (.Name x px) "append" apos) [e] [] cpos) pos) (sApp i u) :=
  ps_imp (ps_expr (pe_bm PySem.F.plainAttrs_list PySem.F.slot_list_append PySem.F.type_list_append mt_append (pe_var (i := i) hN hv hd hcd) (pa_cons he pa_nil hs') hbase hfew hline hs' hplain) hs) fun D σ H ⟨F, st, o, R, e, k⟩ => by
  unfold sApp at e
  split at e
  · rename_i ys hy
    obtain ⟨a, vs, h1, h2, _⟩ := R.own i ys hy
    obtain ⟨r1, e1, e⟩ := Option.bind_eq_some_iff.mp e
    refine ⟨_, h1, .inl ⟨rfl, _, SqL.of h2⟩, F, st, r1, R, e1, fun w F1 H1 R1 s1 d1 => ?_⟩
    split at e
    · rename_i xs hx
      split at e
      · rename_i hl
        cases e
        obtain ⟨a', ws, g1, g2, g3, g4, _⟩ := R1.own i xs hx
        rw [h1] at g1
        cases g1
        exact ⟨a, ws, w, rfl, rfl, g2, by rw [DpAll.length g4]; exact small16 hl, k _ F1 _ (R1.change hx h1 (DpAll.append g4 (.cons d1 .nil))) s1⟩
      · cases e
    · cases e
  · cases e
def sRev (i : Nat) : SS := fun st => match st[i]? with
  | some (.own xs) => some (.nx (st.set i (.own xs.reverse)))
  | _ => none
theorem ds_rev (i : Nat) {x : Str} {px apos cpos : Pos} (hN : X.N[i]? = some x := by rfl) (hv : Vis X.env.scope x := by first | exact Or.inl rfl | exact Or.inr (Or.inl rfl) | exact Or.inr (Or.inr rfl)) (hd : (x == ("__debug__" : Str)) = false := by decide)
    (hcd : (x == ("__classdict__" : Str)) = false := by decide)
    (hbase : attributeBase (.Name x px) "reverse" X.env (eval (.Name x px) X.env) = eval (.Name x px) X.env := by rfl)
    (hline : (apos.endLine == cpos.line) = true := by rfl)
    (hs : swapsWith (.Call (.Attribute (.Name x px) "reverse" apos) [] [] cpos) none pos.line X.env = pure false := by rfl) : DS X W (.Expr (.Call (.Attribute (.Name x px) "reverse" apos) [] [] cpos) pos) (sRev i) :=
  ps_imp (ps_expr (pe_bm0 PySem.F.plainAttrs_list PySem.F.slot_list_reverse PySem.F.type_list_reverse mt_reverse (pe_var (i := i) hN hv hd hcd) hbase hline) hs) fun D σ H ⟨F, st, o, R, e, k⟩ => by
  unfold sRev at e
  split at e
  · rename_i xs hx
    cases e
    obtain ⟨a, vs, h1, h2, h3, h4, _⟩ := R.own i xs hx
    exact ⟨_, h1, .inl ⟨rfl, _, SqL.of h2⟩, a, vs, rfl, rfl, h2, k _ F _ (R.change hx h1 (DpAll.rev h4)) (Same.refl _)⟩
  · cases e
/-- x[i] = e -/
def sSetI (i : Nat) (ix : ES) (u : ES) : SS := fun st => (u st).bind fun r => match r.2[i]? with
  | some (.own _) => (ix r.2).bind fun q => match q.2[i]? with
    | some (.own xs) => match q.1 with
      | .int z => (ixN xs.length z).map fun j => .nx (q.2.set i (.own (xs.set j r.1)))
      | _ => none
    | _ => none
  | _ => none
theorem ds_setI (i : Nat) {x : Str} {ie : Expr} {ix : ES} {px tpos : Pos} (he : DE X W e u) (hi : DE X W ie ix) (hN : X.N[i]? = some x := by rfl) (hv : Vis X.env.scope x := by first | exact Or.inl rfl | exact Or.inr (Or.inl rfl) | exact Or.inr (Or.inr rfl)) (hd : (x == ("__debug__" : Str)) = false := by decide)
    (hcd : (x == ("__classdict__" : Str)) = false := by decide)
    (ha : ∀ v, assign (.Subscript (.Name x px) ie tpos) X.env v = (do
      let ov ← holding [v] (eval (.Name x px) X.env)
      let iv ← holding [v, ov] (eval ie X.env)
      standAt tpos
      holding [v, ov, iv] (setItem ov iv v)
      release [v, ov, iv] []) := by intro _; rfl)
    (hs : swapsWithSole [.Subscript (.Name x px) ie tpos] e pos.line X.env = pure false := by rfl) (hw : swappedStores [.Subscript (.Name x px) ie tpos] e X.env = pure none := by rfl)
    (h1 : (assignEach [.Subscript (.Name x px) ie tpos] X.env).map (·.2) = [assign (.Subscript (.Name x px) ie tpos) X.env] := by rfl) : DS X W (.Assign [.Subscript (.Name x px) ie tpos] e pos) (sSetI i ix u) :=
  ps_imp (ps_asg he (pg_sub (pe_var (i := i) hN hv hd hcd) hi set_list ha) hs hw h1) fun D σ H ⟨F, st, o, R, e, k⟩ => by
  unfold sSetI at e
  obtain ⟨r1, e1, e⟩ := Option.bind_eq_some_iff.mp e
  refine ⟨F, st, r1, R, e1, fun w F1 H1 R1 s1 d1 => ?_⟩
  split at e
  · rename_i ys hy
    obtain ⟨a, vs, h1, h2, _⟩ := R1.own i ys hy
    obtain ⟨r2, e2, e⟩ := Option.bind_eq_some_iff.mp e
    refine ⟨_, h1, F1, r1.2, r2, R1, e2, fun z F2 H2 R2 s2 d2 => ?_⟩
    split at e
    · rename_i xs hx
      split at e
      · rename_i zi hz
        obtain ⟨j, e3, e⟩ := Option.map_eq_some_iff.mp e
        cases e
        obtain ⟨a', ws, g1, g2, g3, g4, _⟩ := R2.own i xs hx
        rw [h1] at g1
        cases g1
        rw [hz] at d2
        exact ⟨a, ws, zi, j, rfl, dp_int d2, g2, by rw [DpAll.length g4]; exact e3, k _ F2 _ (R2.change hx h1 (DpAll.set (dpMono s2 _ _ d1) j g4)) (s1.trans s2)⟩
      · cases e
    · cases e
  · cases e
end

/-! ### targets, what is walked, for -/
abbrev GS := D → List Sl → Option (List Sl)
def DG (X : Cx) (W : Wd) (tg : Expr) (t : GS) : Prop := ∃ g : TG, PG X tg g ∧ ∀ F H σ st v x st' (Q : L2.St → Hp → Prop), Rel X.K W F H σ st → Dp X.K F v x → t x st = some st' → (∀ σ' F' H', Rel X.K W F' H' σ' st' → Same F F' → Q σ' H') → g v σ H Q
def DGs (X : Cx) (W : Wd) (tg : List Expr) (t : List D → List Sl → Option (List Sl)) : Prop := ∃ g : TGs, PGs X tg g ∧ ∀ F H σ st v x st' (Q : L2.St → Hp → Prop), Rel X.K W F H σ st → DpAll X.K F v x → t x st = some st' → (∀ σ' F' H', Rel X.K W F' H' σ' st' → Same F F' → Q σ' H') → g v σ H Q
def gNm (i : Nat) : GS := fun x st => some (st.set i (.d x))
def gsNil : List D → List Sl → Option (List Sl)
  | [], st => some st
  | _, _ => none
def gsCons (t : GS) (u : List D → List Sl → Option (List Sl)) : List D → List Sl → Option (List Sl)
  | x :: r, st => (t x st).bind fun st' => u r st'
  | _, _ => none
def gTupD (u : List D → List Sl → Option (List Sl)) : GS := fun x st => match x with
  | .tuple xs => u xs st
  | _ => none
section
variable {X : Cx} {W : Wd} {tg iter : Expr} {t : GS} {pos : Pos}
theorem dg_nm (i : Nat) {x : Str} (hP : W.P i = none) (hN : X.N.Nodup) (hi : X.N[i]? = some x := by rfl) (hx : Loc X.env.scope x := by first | exact Or.inl rfl | exact Or.inr rfl) (hf : X.fn x = true ∨ X.env.scope.names.lookup x = some .local := by first | exact .inl rfl | exact .inr rfl | assumption) : DG X W (.Name x pos) (gNm i) :=
  ⟨gName i, pg_name hN hi hx hf, fun F H σ st v x st' Q R d e k => by
    cases e
    exact k _ F H (R.setD hP d) (Same.refl _)⟩
theorem dgs_nil : DGs X W [] gsNil := ⟨gNil, pgs_nil, fun F H σ st v x st' Q R d e k => by
  cases d with
  | nil => cases e; exact ⟨rfl, k _ F H R (Same.refl _)⟩
  | cons _ _ => cases e⟩
theorem dgs_cons {e : Expr} {es : List Expr} {u : List D → List Sl → Option (List Sl)} (h1 : DG X W e t) (h2 : DGs X W es u) (hs : (assignEach (e :: es) X.env).map (·.2) = assign e X.env :: (assignEach es X.env).map (·.2) := by rfl) : DGs X W (e :: es) (gsCons t u) := by
  obtain ⟨g1, p1, k1⟩ := h1
  obtain ⟨g2, p2, k2⟩ := h2
  refine ⟨gCons g1 g2, pgs_cons p1 p2 hs, fun F H σ st v x st' Q R d e k => ?_⟩
  cases d with
  | nil => cases e
  | cons d1 d2 =>
    obtain ⟨st1, e1, e2⟩ := Option.bind_eq_some_iff.mp e
    exact ⟨_, _, rfl, k1 F H σ st _ _ st1 _ R d1 e1 fun σ1 F1 H1 R1 s1 => k2 F1 H1 σ1 st1 _ _ st' _ R1 (dpAllMono s1 _ _ d2) e2 fun σ2 F2 H2 R2 s2 => k σ2 F2 H2 R2 (s1.trans s2)⟩
theorem dg_tup {es : List Expr} {kk : Nat} {u : List D → List Sl → Option (List Sl)} {n : Nat} (hc : X.calm = true) (h : DGs X W es u) (hu : ∀ xs st st', u xs st = some st' → xs.length = n) (hn : (assignEach es X.env).length = n := by rfl)
    (hst : (assignEach es X.env).findIdx? (·.1) = none := by rfl) : DG X W (.Tuple es kk pos) (gTupD u) := by
  obtain ⟨g1, p1, k1⟩ := h
  refine ⟨gTup X.K n g1, pg_tup hc p1 hn hst, fun F H σ st v x st' Q R d e k => ?_⟩
  unfold gTupD at e
  split at e
  · rename_i xs
    obtain ⟨a, vs, rfl, h1, h2⟩ := dp_tup d
    exact ⟨a, vs, rfl, sameT R.fh h1, by rw [DpAll.length h2]; exact hu _ _ _ e, k1 F H σ st _ _ st' Q R h2 e k⟩
  · cases e
theorem gs2_len {t t' : GS} : ∀ xs st st', gsCons t (gsCons t' gsNil) xs st = some st' → xs.length = 2
  | [], _, _, e => by cases e
  | [a], st, st', e => by
    obtain ⟨s1, _, e2⟩ := Option.bind_eq_some_iff.mp e
    cases e2
  | [a, b], _, _, _ => rfl
  | a :: b :: c :: r, st, st', e => by
    obtain ⟨s1, _, e2⟩ := Option.bind_eq_some_iff.mp e
    obtain ⟨s2, _, e3⟩ := Option.bind_eq_some_iff.mp e2
    cases e3
/-- a, b = e -/
def sAsg (t : GS) (f : ES) : SS := fun st => (f st).bind fun r => (t r.1 r.2).map Out.nx
theorem ds_asg {e : Expr} {f : ES} (he : DE X W e f) (hg : DG X W tg t) (hs : swapsWithSole [tg] e pos.line X.env = pure false := by rfl) (hw : swappedStores [tg] e X.env = pure none := by rfl)
    (h1 : (assignEach [tg] X.env).map (·.2) = [assign tg X.env] := by rfl) : DS X W (.Assign [tg] e pos) (sAsg t f) := by
  obtain ⟨g1, p1, k1⟩ := hg
  refine ps_imp (ps_asg he p1 hs hw h1) fun D σ H ⟨F, st, o, R, e, k⟩ => ?_
  unfold sAsg at e
  obtain ⟨r1, e1, e⟩ := Option.bind_eq_some_iff.mp e
  obtain ⟨st', e2, e⟩ := Option.map_eq_some_iff.mp e
  cases e
  exact ⟨F, st, r1, R, e1, fun w F1 H1 R1 s1 d1 => k1 F1 H1 σ r1.2 w r1.1 st' _ R1 d1 e2 fun σ2 F2 H2 R2 s2 => k σ2 F2 H2 R2 (s1.trans s2)⟩

structure Wk (K : PySem.W.Frag) (W : Wd) (J : It) (F0 : Hp) (ds : List D) : Prop where
  go : ∀ i F H σ st, Rel K W F H σ st → Same F0 F → i < ds.length → J.go i H
  stop : ∀ i F H σ st, Rel K W F H σ st → Same F0 F → ds.length ≤ i → J.stop i H
  yld : ∀ i x F H H' σ st, Rel K W F H σ st → Same F0 F → J.yld i H x H' → ∀ d, ds[i]? = some d → ∃ F', (∀ (W' : Wd) (σ' : L2.St) (st' : List Sl), Rel K W' F H σ' st' → Rel K W' F' H' σ' st') ∧ Same F F' ∧ Dp K F' x d ∧ ∀ a o, H a = some o → H' a = some o
def DI (X : Cx) (W : Wd) (tg iter : Expr) (f : AS) : Prop := ∃ wi : TI, PI X tg iter wi ∧ ∀ σ H R F st r, Rel X.K W F H σ st → f st = some r → (∀ J F' H', Rel X.K W F' H' σ r.2 → Same F F' → Wk X.K W J F' r.1 → R J H') → wi σ H R
theorem wk_list {K : PySem.W.Frag} {a : Addr} {F : Hp} {vs : List V} {ds : List D} (h : SqL K F a vs) (d : DpAll K F vs ds) : Wk K W (Itl K a) F ds where
  go := fun i F' H σ st R s hi => by
    rw [← DpAll.length d] at hi
    exact ⟨vs, vs[i], R.fh.seq (s.seq h), List.getElem?_eq_getElem hi⟩
  stop := fun i F' H σ st R s hi => ⟨vs, R.fh.seq (s.seq h), by rw [DpAll.length d]; exact hi⟩
  yld := fun i x F' H H' σ st R s y e he => by
    obtain ⟨rfl, y⟩ := y
    obtain ⟨v, h1, h2⟩ := DpAll.get d he
    have q := y vs (R.fh.seq (s.seq h))
    rw [h1] at q
    cases q
    exact ⟨F', fun _ _ _ r => r, Same.refl _, dpMono s _ _ h2, fun _ _ z => z⟩
theorem wk_tup {K : PySem.W.Frag} {a : Addr} {F : Hp} {vs : List V} {ds : List D} (h : SqT K F a vs) (d : DpAll K F vs ds) : Wk K W (Itt K a) F ds where
  go := fun i F' H σ st R s hi => by
    rw [← DpAll.length d] at hi
    exact ⟨vs, vs[i], sameT R.fh (sameT s h), List.getElem?_eq_getElem hi⟩
  stop := fun i F' H σ st R s hi => ⟨vs, sameT R.fh (sameT s h), by rw [DpAll.length d]; exact hi⟩
  yld := fun i x F' H H' σ st R s y e he => by
    obtain ⟨rfl, y⟩ := y
    obtain ⟨v, h1, h2⟩ := DpAll.get d he
    have q := y vs (sameT R.fh (sameT s h))
    rw [h1] at q
    cases q
    exact ⟨F', fun _ _ _ r => r, Same.refl _, dpMono s _ _ h2, fun _ _ z => z⟩
def chars (z : Str) : List D := (codes z).map fun c => ds [c]
theorem chars_len (z : Str) : (chars z).length = z.cps.size := by simp [chars, codes]
theorem wk_str {K : PySem.W.Frag} {F : Hp} (z : Str) : Wk K W (Its z) F (chars z) where
  go := fun i F' H σ st R s hi => by
    rw [chars_len] at hi
    exact hi
  stop := fun i F' H σ st R s hi => by
    rw [chars_len] at hi
    exact hi
  yld := fun i x F' H H' σ st R s y e he => by
    obtain ⟨rfl, c, hc, rfl⟩ := y
    unfold chars at he
    rw [List.getElem?_map] at he
    have : (codes z)[i]? = some c := by
      unfold codes
      rw [Array.getElem?_toList]
      exact hc
    rw [this] at he
    cases he
    exact ⟨F', fun _ _ _ r => r, Same.refl _, .str _, fun _ _ z => z⟩
def rints (lo : Int) (n : Nat) : List D := (List.range n).map fun k => .int (lo + (k : Nat))
theorem rints_len (lo : Int) (n : Nat) : (rints lo n).length = n := by simp [rints]
theorem wk_rng {K : PySem.W.Frag} {F : Hp} (lo : Int) (n : Nat) : Wk K W (Itr lo n) F (rints lo n) where
  go := fun i F' H σ st R s hi => by
    rw [rints_len] at hi
    exact hi
  stop := fun i F' H σ st R s hi => by
    rw [rints_len] at hi
    exact hi
  yld := fun i x F' H H' σ st R s y e he => by
    obtain ⟨rfl, rfl⟩ := y
    have hi : i < n := by
      have := (List.getElem?_eq_some_iff.mp he).1
      rw [rints_len] at this
      exact this
    unfold rints at he
    rw [List.getElem?_map, List.getElem?_range hi] at he
    cases he
    exact ⟨F', fun _ _ _ r => r, Same.refl _, .int _, fun _ _ z => z⟩
def enums : Nat → List D → List D
  | _, [] => []
  | n, x :: r => .tuple [.int (n : Nat), x] :: enums (n + 1) r
theorem enums_len : ∀ (n : Nat) (xs : List D), (enums n xs).length = xs.length
  | _, [] => rfl
  | n, _ :: r => congrArg (· + 1) (enums_len (n + 1) r)
theorem enums_get : ∀ (n i : Nat) (xs : List D) (d : D), (enums n xs)[i]? = some d → ∃ x, xs[i]? = some x ∧ d = .tuple [.int ((n + i : Nat) : Int), x]
  | _, _, [], _, e => by simp [enums] at e
  | n, 0, x :: r, d, e => by
    simp [enums] at e
    exact ⟨x, rfl, e.symm⟩
  | n, i + 1, x :: r, d, e => by
    have e' : (enums (n + 1) r)[i]? = some d := by simpa [enums] using e
    obtain ⟨y, h1, h2⟩ := enums_get (n + 1) i r d e'
    refine ⟨y, by simpa using h1, ?_⟩
    rw [h2]
    have : n + 1 + i = n + (i + 1) := by omega
    rw [this]
theorem wk_enum {K : PySem.W.Frag} {a : Addr} {F : Hp} {vs : List V} {ds : List D} (h : SqL K F a vs) (d : DpAll K F vs ds) : Wk K W (Ite K a) F (enums 0 ds) where
  go := fun i F' H σ st R s hi => by
    rw [enums_len, ← DpAll.length d] at hi
    exact ⟨vs, vs[i], R.fh.seq (s.seq h), List.getElem?_eq_getElem hi⟩
  stop := fun i F' H σ st R s hi => ⟨vs, R.fh.seq (s.seq h), by rw [enums_len] at hi; rw [DpAll.length d]; exact hi⟩
  yld := fun i x F' H H' σ st R s y e he => by
    obtain ⟨T, w, rfl, hT, rfl, y⟩ := y
    obtain ⟨z, g1, rfl⟩ := enums_get 0 i ds e he
    obtain ⟨v, h1, h2⟩ := DpAll.get d g1
    have q := y vs (R.fh.seq (s.seq h))
    rw [h1] at q
    cases q
    have e5 : Same F' (upd F' T (.tup [.int (i : Nat), w])) := same_upd (R.fh.free hT)
    refine ⟨_, fun _ _ _ r => r.laid hT, e5, .tup (.inl (.inl upd_same)) (.cons ?_ (.cons (dpMono (s.trans e5) _ _ h2) .nil)), fun b u q => by rw [upd_ne (ne_of_none q hT)]; exact q⟩
    rw [Nat.zero_add]
    exact .int _
/-- the items of a list, a tuple or a text -/
def itemsD : D → Option (List D)
  | .list xs => some xs
  | .tuple xs => some xs
  | .str z => some (chars z)
  | _ => none
def iAny (f : ES) : AS := fun st => (f st).bind fun r => (itemsD r.1).map fun xs => (xs, r.2)
theorem pi_or {wi wi' : TI} (h : PI X tg iter wi) (h' : PI X tg iter wi') : PI X tg iter (fun σ H R => wi σ H R ∨ wi' σ H R) := ⟨fun pins s σ H R I q => by
  rcases q with q | q
  · exact h.run pins s σ H R I q
  · exact h'.run pins s σ H R I q⟩
theorem di_any {f : ES} (h : DE X W iter f) : DI X W tg iter (iAny f) := ⟨_, pi_or (pi_list h) (pi_or (pi_tup h) (pi_str h)), fun σ H R F st r Re e k => by
  unfold iAny at e
  obtain ⟨r1, e1, e⟩ := Option.bind_eq_some_iff.mp e
  obtain ⟨xs, e2, e⟩ := Option.map_eq_some_iff.mp e
  cases e
  obtain ⟨r1a, r1b⟩ := r1
  unfold itemsD at e2
  dsimp only at e2
  split at e2
  · cases e2
    refine .inl ⟨F, st, _, Re, e1, fun v F1 H1 R1 s1 d1 => ?_⟩
    obtain ⟨a, vs, rfl, h1, h2⟩ := dp_list d1
    exact ⟨a, rfl, ⟨vs, R1.fh.seq h1⟩, k _ F1 H1 R1 s1 (wk_list h1 h2)⟩
  · cases e2
    refine .inr (.inl ⟨F, st, _, Re, e1, fun v F1 H1 R1 s1 d1 => ?_⟩)
    obtain ⟨a, vs, rfl, h1, h2⟩ := dp_tup d1
    exact ⟨a, rfl, ⟨vs, sameT R1.fh h1⟩, k _ F1 H1 R1 s1 (wk_tup h1 h2)⟩
  · cases e2
    refine .inr (.inr ⟨F, st, _, Re, e1, fun v F1 H1 R1 s1 d1 => ?_⟩)
    rename_i z _
    rw [dp_str d1]
    exact ⟨z, rfl, k _ F1 H1 R1 s1 (wk_str z)⟩
  · cases e2⟩
def iRng (f : AS) : AS := fun st => (f st).bind fun r => match r.1 with
  | [.int j] => if -(2 ^ 62) ≤ j ∧ j < 2 ^ 62 then some (rints 0 j.toNat, r.2) else none
  | _ => none
theorem di_rng {a : Expr} {f : AS} {p : Pos} (hg : Gl X "range") (hm : X.mg "range" = none) (ha : DA X W [a] f) (hs : starEach [a] X.env = [(false, eval a X.env)] := by rfl) : DI X W tg (.Call (.Name "range" p) [a] [] pos) (iRng f) := ⟨_, pi_range1 hg hm ha hs, fun σ H R F st r Re e k => by
  unfold iRng at e
  obtain ⟨r1, e1, e⟩ := Option.bind_eq_some_iff.mp e
  refine ⟨F, st, r1, Re, e1, fun vs F1 H1 R1 s1 d1 => ?_⟩
  split at e
  · rename_i j hj
    split at e
    · rename_i hb
      cases e
      rw [hj] at d1
      obtain ⟨v, rfl, d⟩ := dpa1 d1
      rw [dp_int d]
      exact ⟨j, rfl, hb.1, hb.2, k _ F1 H1 R1 s1 (wk_rng 0 j.toNat)⟩
    · cases e
  · cases e⟩
def iEnu (f : AS) : AS := fun st => (f st).bind fun r => match r.1 with
  | [.list xs] => some (enums 0 xs, r.2)
  | _ => none
theorem di_enum {a : Expr} {f : AS} {p tpos : Pos} {elts : List Expr} {kk : Nat} (hg : Gl X "enumerate") (hm : X.mg "enumerate" = none) (ha : DA X W [a] f) (hs : starEach [a] X.env = [(false, eval a X.env)] := by rfl) : DI X W (.Tuple elts kk tpos) (.Call (.Name "enumerate" p) [a] [] pos) (iEnu f) := ⟨_, pi_enum hg hm ha hs, fun σ H R F st r Re e k => by
  unfold iEnu at e
  obtain ⟨r1, e1, e⟩ := Option.bind_eq_some_iff.mp e
  refine ⟨F, st, r1, Re, e1, fun vs F1 H1 R1 s1 d1 => ?_⟩
  split at e
  · rename_i xs hj
    cases e
    rw [hj] at d1
    obtain ⟨v, rfl, d⟩ := dpa1 d1
    obtain ⟨a, ws, rfl, h1, h2⟩ := dp_list d
    exact ⟨a, ws, rfl, R1.fh.seq h1, k _ F1 H1 R1 s1 (wk_enum h1 h2)⟩
  · cases e⟩
/-- for -/
def forS (t : GS) (body : SS) : List D → SS
  | [], st => some (.nx st)
  | x :: xs, st => (t x st).bind fun st1 => (body st1).bind fun o => match o with
    | .nx st' => forS t body xs st'
    | .ct st' => forS t body xs st'
    | .bk st' => some (.nx st')
    | o => some o
def sFor (t : GS) (it : AS) (body : SS) : SS := fun st => (it st).bind fun r => forS t body r.1 r.2
theorem ds_for {body : List Stmt} {it : AS} {g : SS} (hp : PassesOwn (model X.prog X.w) X.A X.env X.xe) (hc : X.calm = true) (hi : DI X W tg iter it) (hg : DG X W tg t) (hb : DSs X W body g) (hs : ∀ x, foldedSetIterable iter X.env x = pure x := by intro _; rfl) :
    DS X W (.For tg iter body [] pos) (sFor t it g) := by
  obtain ⟨wi, pi, ki⟩ := hi
  obtain ⟨gg, pg, kg⟩ := hg
  refine ps_imp (ps_for hp hc pi pg hb hs) fun D σ H ⟨F, st, o, R, e, k⟩ => ?_
  unfold sFor at e
  obtain ⟨r1, e1, e⟩ := Option.bind_eq_some_iff.mp e
  refine ki σ H _ F st r1 R e1 fun J F1 H1 R1 s1 wk => ?_
  refine ⟨fun i m σ H => m = r1.1.length - i ∧ i ≤ r1.1.length ∧ ∃ F st, Rel X.K W F H σ st ∧ Same F1 F ∧ forS t g (r1.1.drop i) st = some o, ⟨r1.1.length, by simp, Nat.zero_le _, F1, r1.2, R1, Same.refl _, e⟩, ?_⟩
  rintro i m σ2 H2 ⟨rfl, hi, F2, st2, R2, s2, e2⟩
  by_cases hlt : i < r1.1.length
  · rw [List.drop_eq_getElem_cons hlt] at e2
    obtain ⟨st3, e3, e2⟩ := Option.bind_eq_some_iff.mp e2
    obtain ⟨o3, e4, e2⟩ := Option.bind_eq_some_iff.mp e2
    refine .inr ⟨wk.go i F2 H2 σ2 st2 R2 s2 hlt, fun σ H => i + 1 ≤ r1.1.length ∧ ∃ F st, Rel X.K W F H σ st ∧ Same F1 F ∧ forS t g (r1.1.drop (i + 1)) st = some o, fun σ' H' ⟨q1, q2⟩ => ⟨r1.1.length - (i + 1), by omega, rfl, q1, q2⟩, fun x H3 y => ?_⟩
    obtain ⟨F3, up, s3, d3, _⟩ := wk.yld i x F2 H2 H3 σ2 st2 R2 s2 y _ (List.getElem?_eq_getElem hlt)
    refine kg F3 H3 σ2 st2 x _ st3 _ (up _ _ _ R2) d3 e3 fun σ4 F4 H4 R4 s4 => ?_
    refine ⟨F4, st3, o3, R4, e4, ?_⟩
    have s14 : Same F1 F4 := s2.trans (s3.trans s4)
    cases o3 with
    | nx st' => exact fun σ' F' H' R' s' => ⟨hlt, F', st', R', s14.trans s', e2⟩
    | ct st' => exact fun σ' F' H' R' s' => ⟨hlt, F', st', R', s14.trans s', e2⟩
    | bk st' =>
      cases e2
      exact fun σ' F' H' R' s' => k σ' F' H' R' (s1.trans (s14.trans s'))
    | rt x st' =>
      cases e2
      exact (k.mono (s1.trans s14) : EndsOk X.K W F4 D (.rt x st'))
    | ro xs st' =>
      cases e2
      exact (k.mono (s1.trans s14) : EndsOk X.K W F4 D (.ro xs st'))
  · have e5 : i = r1.1.length := by omega
    subst e5
    rw [List.drop_length] at e2
    cases e2
    exact .inl ⟨wk.stop _ F2 H2 σ2 st2 R2 s2 (Nat.le_refl _), k σ2 F2 H2 R2 (s1.trans s2)⟩
end
end DL

set_option Elab.async false
set_option linter.all false
set_option maxRecDepth 100000
set_option maxHeartbeats 4000000
namespace DL
open PySem PySem.Spec L2

/-! ### the entry moved -/
section
variable {K : PySem.W.Frag} {W : Wd} {F H : Hp} {σ : L2.St} {st : List Sl}
theorem Rel.h0 (R : Rel K W F H σ st) {b : Addr} (h : H b = none) : W.H0 b = none := by
  cases q : W.H0 b with
  | none => rfl
  | some u =>
    refine absurd (R.frm b u q fun i e => ?_) (by rw [h]; intro z; cases z)
    obtain ⟨⟨xs, h1⟩, h2⟩ := R.par i b e
    obtain ⟨a, vs, h3, h4, _⟩ := R.own i xs h1
    rw [h2] at h3
    cases h3
    rw [h] at h4
    cases h4
def ownAt (σ : L2.St) (st : List Sl) (i : Nat) : Option Addr := match st[i]?, σ[i]? with
  | some (.own _), some (some (.ref a)) => some a
  | _, _ => none
theorem ownAt_of {i : Nat} {a : Addr} (h : ownAt σ st i = some a) : (∃ xs, st[i]? = some (.own xs)) ∧ σ[i]? = some (some (.ref a)) := by
  unfold ownAt at h
  split at h
  · rename_i xs b h1 h2
    cases h
    exact ⟨⟨xs, h1⟩, h2⟩
  · cases h
theorem ownAt_is {i : Nat} {a : Addr} {xs : List D} (h1 : st[i]? = some (.own xs)) (h2 : σ[i]? = some (some (.ref a))) : ownAt σ st i = some a := by
  unfold ownAt
  rw [h1, h2]
def shift (F H : Hp) (σ : L2.St) (st : List Sl) : Wd := ⟨F, H, ownAt σ st⟩
theorem Rel.shift (R : Rel K W F H σ st) : Rel K (shift F H σ st) F H σ st :=
  ⟨R.fh, Same.refl _, fun b o e => .inl e, fun b o e _ => e, R.len, R.val, fun i xs e => by
    obtain ⟨a, vs, h1, h2, h3, h4, _⟩ := R.own i xs e
    exact ⟨a, vs, h1, h2, h3, h4, .inl (ownAt_is e h1)⟩, R.apart, fun i a e => ownAt_of e⟩
theorem Rel.back {F2 H2 : Hp} {st2 : List Sl} (R : Rel K W F H σ st) (R2 : Rel K (DL.shift F H σ st) F2 H2 σ st2) : Rel K W F2 H2 σ st2 := by
  have no : ∀ b o, W.H0 b = some o → (∀ i, W.P i ≠ some b) → ∀ i, ownAt σ st i ≠ some b := fun b o e f i z => by
    obtain ⟨⟨xs, h1⟩, h2⟩ := ownAt_of z
    obtain ⟨a, vs, h3, _, _, _, h4⟩ := R.own i xs h1
    rw [h2] at h3
    cases h3
    rcases h4 with h4 | h4
    · exact f i h4
    · rw [e] at h4; cases h4
  refine ⟨R2.fh, R.ff.trans R2.ff, fun b o e => ?_, fun b o e f => R2.frm b o (R.frm b o e f) (no b o e f), R2.len, R2.val, fun i xs e => ?_, R2.apart, fun i a e => ?_⟩
  · rcases R2.new b o e with h | h
    · exact R.new b o h
    · exact .inr (R.h0 h)
  · obtain ⟨a, vs, h1, h2, h3, h4, h5⟩ := R2.own i xs e
    refine ⟨a, vs, h1, h2, h3, h4, ?_⟩
    rcases h5 with h5 | h5
    · obtain ⟨⟨ys, g1⟩, g2⟩ := ownAt_of (show ownAt σ st i = some a from h5)
      obtain ⟨a', ws, g3, _, _, _, g4⟩ := R.own i ys g1
      rw [g2] at g3
      cases g3
      exact g4
    · exact .inr (R.h0 h5)
  · obtain ⟨⟨xs, h1⟩, h2⟩ := R.par i a e
    exact R2.par i a (ownAt_is h1 h2)
/-- what the shifted entry keeps -/
theorem Rel.kept {F2 H2 : Hp} {σ2 : L2.St} {st2 : List Sl} {b : Addr} {o : HO} (R2 : Rel K (DL.shift F H σ st) F2 H2 σ2 st2) (h : H b = some o) (hF : F b = none) (hno : ∀ (i : Nat) (xs : List D), st[i]? = some (.own xs) → σ[i]? ≠ some (some (.ref b))) : H2 b = some o ∧ F2 b = none := by
  refine ⟨R2.frm b o h fun i z => ?_, ?_⟩
  · obtain ⟨⟨xs, h1⟩, h2⟩ := ownAt_of (show ownAt σ st i = some b from z)
    exact hno i xs h1 h2
  · cases q : F2 b with
    | none => rfl
    | some u =>
      rcases R2.new b u q with z | z
      · have z' : F b = some u := z
        rw [hF] at z'; cases z'
      · have z' : H b = none := z
        rw [h] at z'; cases z'
end

/-! ### list comprehensions -/
def wipeD (st : List Sl) : List Nat → List Sl
  | [] => st
  | v :: vs => (wipeD st vs).set v .no
def notOwn (st : List Sl) (i : Nat) : Bool := match st[i]? with
  | some (.own _) => false
  | _ => true
/-- items, target's slot, test, element -/
def compS (i : Nat) (c : BS) (f : ES) : List D → OS
  | [], st => some ([], st)
  | x :: xs, st => (c (st.set i (.d x))).bind fun p => if p.1 then (f p.2).bind fun q => (compS i c f xs (q.2.set i .no)).map fun r => (q.1 :: r.1, r.2) else compS i c f xs (p.2.set i .no)
def oComp (i : Nat) (c : BS) (f : ES) (it : AS) : OS := fun st => (it st).bind fun r => if notOwn r.2 i && decide (r.1.length ≤ 1000000) then compS i c f r.1 (r.2.set i .no) else none
def bYes : BS := fun st => some (true, st)
section
variable {X : Cx} {W : Wd}
abbrev DTs (X : Cx) (W : Wd) (ifs : List Expr) (c : BS) : Prop := PTs X ifs (tT X.K W c)
theorem pts_imp {ifs : List Expr} {t t' : TT} (h : PTs X ifs t) (i : ∀ σ H Q, t' σ H Q → t σ H Q) : PTs X ifs t' := ⟨fun pins s σ H Q I q => h.run pins s σ H Q I (i σ H Q q)⟩
theorem dts_nil : DTs X W [] bYes := pts_imp pts_nil fun σ H Q ⟨F, st, r, R, e, k⟩ => by
  cases e
  exact k F H R (Same.refl _)
theorem dts_one {c' : Expr} {c : BS} (h : DT X W c' c) : DTs X W [c'] c := pts_one h
theorem compS_len {i : Nat} {c : BS} {f : ES} : ∀ {xs : List D} {st : List Sl} {r : List D × List Sl}, compS i c f xs st = some r → r.1.length ≤ xs.length
  | [], st, r, e => by cases e; exact Nat.le_refl _
  | x :: xs, st, r, e => by
    obtain ⟨p, e1, e⟩ := Option.bind_eq_some_iff.mp e
    split at e
    · obtain ⟨q, e2, e⟩ := Option.bind_eq_some_iff.mp e
      obtain ⟨r', e3, e⟩ := Option.map_eq_some_iff.mp e
      cases e
      exact Nat.succ_le_succ (compS_len e3)
    · exact Nat.le_succ_of_le (compS_len e)
theorem set_set {α : Type} (l : List α) (i : Nat) (a b : α) : (l.set i a).set i b = l.set i b := List.set_set ..
/-- slots that part in one place only -/
theorem Rel.other {K : PySem.W.Frag} {F H : Hp} {σ σ2 : L2.St} {st : List Sl} {i : Nat} (R : Rel K W F H σ2 st) (hP : W.P i = none) (e : σ2.set i none = σ.set i none) : Rel K W F H σ (st.set i .no) := by
  have R1 := R.forget (i := i) (u := none) hP
  rw [e] at R1
  have hl : σ.length = σ2.length := by have := congrArg List.length e; rw [List.length_set, List.length_set] at this; exact this.symm
  have at_ : ∀ (j : Nat) (s : Sl), s ≠ .no → (st.set i .no)[j]? = some s → j ≠ i := fun j s hs q hj => by
    subst hj
    by_cases hl : j < st.length
    · rw [List.getElem?_set_self hl] at q; exact hs (Option.some.inj q).symm
    · rw [List.getElem?_eq_none (by rw [List.length_set]; omega)] at q; cases q
  have up : ∀ (j : Nat), j ≠ i → (σ.set i none)[j]? = σ[j]? := fun j hj => List.getElem?_set_ne (Ne.symm hj)
  refine ⟨R1.fh, R1.ff, R1.new, R1.frm, by have := R1.len; rw [List.length_set] at this ⊢; rw [List.length_set] at this; exact this, fun j x q => ?_, fun j xs q => ?_, fun j k xs ys a hjk q1 q2 q3 => ?_, fun j a q => ?_⟩
  · obtain ⟨v, h1, h2⟩ := R1.val j x q
    rw [up j (at_ j _ (by intro z; cases z) q)] at h1
    exact ⟨v, h1, h2⟩
  · obtain ⟨a, vs, h1, h2⟩ := R1.own j xs q
    rw [up j (at_ j _ (by intro z; cases z) q)] at h1
    exact ⟨a, vs, h1, h2⟩
  · have hj := at_ j _ (by intro z; cases z) q1
    have hk := at_ k _ (by intro z; cases z) q2
    rw [← up j hj] at q3
    rw [← up k hk]
    exact R1.apart j k xs ys a hjk q1 q2 q3
  · obtain ⟨h1, h2⟩ := R1.par j a q
    have hj : j ≠ i := fun z => by rw [z, hP] at q; cases q
    rw [up j hj] at h2
    exact ⟨h1, h2⟩
theorem noP {K : PySem.W.Frag} {F H : Hp} {σ : L2.St} {st : List Sl} {i : Nat} (R : Rel K W F H σ st) (h : notOwn st i = true) : W.P i = none := by
  cases q : W.P i with
  | none => rfl
  | some a =>
    obtain ⟨⟨xs, h1⟩, _⟩ := R.par i a q
    unfold notOwn at h
    rw [h1] at h
    cases h
/-- an object that nothing leans on changes -/
theorem Rel.outside {K : PySem.W.Frag} {F H : Hp} {σ : L2.St} {st : List Sl} {a : Addr} {o : HO} (R : Rel K W F H σ st) (hF : F a = none) (h0 : W.H0 a = none) (hno : ∀ (j : Nat) (xs : List D), st[j]? = some (.own xs) → σ[j]? ≠ some (some (.ref a))) : Rel K W F (upd H a o) σ st := by
  refine ⟨fun b u e => ?_, R.ff, R.new, fun b u e f => ?_, R.len, R.val, fun j xs e => ?_, R.apart, R.par⟩
  · rw [upd_ne (ne_of_none e hF)]; exact R.fh b u e
  · rw [upd_ne (ne_of_none e h0)]; exact R.frm b u e f
  · obtain ⟨c, vs, h1, h2, h3⟩ := R.own j xs e
    refine ⟨c, vs, h1, ?_, h3⟩
    rw [upd_ne (fun z => hno j xs e (by rw [h1, z]))]
    exact h2
def tTx (K : PySem.W.Frag) (f : BS) : TT := fun σ H Q => ∃ W, tT K W f σ H Q
def tDx (K : PySem.W.Frag) (f : ES) : TE := fun σ H Q => ∃ W, tD K W f σ H Q
theorem lc_of {i : Nat} {wi : TI} {it : AS} {c : BS} {f : ES}
    (ki : ∀ (σ : L2.St) (H : Hp) (R : It → Hp → Prop) (F : Hp) (st : List Sl) (r : List D × List Sl), Rel X.K W F H σ st → it st = some r → (∀ J F' H', Rel X.K W F' H' σ r.2 → Same F F' → Wk X.K W J F' r.1 → R J H') → wi σ H R) :
    ∀ σ H Q, tO X.K W (oComp i c f it) σ H Q → tLc wi (gName i) (tTx X.K c) (tDx X.K f) [i] σ H Q := by
  intro σ H Q ⟨F, st, r, R, e, k⟩
  unfold oComp at e
  obtain ⟨r1, e1, e⟩ := Option.bind_eq_some_iff.mp e
  split at e
  · rename_i hchk
    obtain ⟨hno, hlen⟩ := Bool.and_eq_true_iff.mp hchk
    have hlen := of_decide_eq_true hlen
    refine ki σ H _ F st r1 R e1 fun J F1 H1 R1 s1 wk => ?_
    intro D hD
    have hP : W.P i = none := noP R1 hno
    have hw : wipe σ [i] = σ.set i none := rfl
    obtain ⟨⟨f1, f2, f3⟩, R1'⟩ := R1.fresh (o := .lst []) hD
    have own_i : ∀ (st : List Sl) (j : Nat) (xs : List DL.D), (st.set i .no)[j]? = some (.own xs) → j ≠ i ∧ st[j]? = some (.own xs) := fun st j xs q => by
      by_cases hj : j = i
      · subst hj
        by_cases hl : j < st.length
        · rw [List.getElem?_set_self hl] at q; cases q
        · rw [List.getElem?_eq_none (by rw [List.length_set]; omega)] at q; cases q
      · rw [List.getElem?_set_ne (Ne.symm hj)] at q; exact ⟨hj, q⟩
    refine ⟨fun n m H => m = r1.1.length - n ∧ n ≤ r1.1.length ∧ ∃ F st accV acc rest, Rel X.K W F H (σ.set i none) st ∧ st.set i .no = st ∧ Same F1 F ∧ H D = some (.lst accV) ∧ F D = none ∧
        (∀ (j : Nat) (xs : List DL.D), st[j]? = some (.own xs) → (σ.set i none)[j]? ≠ some (some (.ref D))) ∧ DpAll X.K F accV acc ∧ compS i c f (r1.1.drop n) st = some rest ∧ r = (acc ++ rest.1, rest.2) ∧ acc.length ≤ n,
      ⟨r1.1.length, by simp, Nat.zero_le _, F1, r1.2.set i .no, [], [], r, R1'.forget hP, set_set .., Same.refl _, upd_same, f1, fun j xs q => ?_, .nil, e, rfl, Nat.le_refl _⟩, ?_⟩
    · obtain ⟨hj, q⟩ := own_i _ j xs q
      rw [List.getElem?_set_ne (Ne.symm hj)]
      exact f3 j xs q
    · rintro n m H2 ⟨rfl, hn, F2, st2, accV, acc, rest, R2, hst, s2, hD2, hF2, hno2, dacc, ec, er, hacc⟩
      by_cases hlt : n < r1.1.length
      · rw [List.drop_eq_getElem_cons hlt] at ec
        obtain ⟨p, ec1, ec⟩ := Option.bind_eq_some_iff.mp ec
        refine .inr ⟨wk.go n F2 H2 _ st2 R2 s2 hlt, fun H => n + 1 ≤ r1.1.length ∧ ∃ F st accV acc rest, Rel X.K W F H (σ.set i none) st ∧ st.set i .no = st ∧ Same F1 F ∧ H D = some (.lst accV) ∧ F D = none ∧
          (∀ (j : Nat) (xs : List DL.D), st[j]? = some (.own xs) → (σ.set i none)[j]? ≠ some (some (.ref D))) ∧ DpAll X.K F accV acc ∧ compS i c f (r1.1.drop (n + 1)) st = some rest ∧ r = (acc ++ rest.1, rest.2) ∧ acc.length ≤ n + 1,
          fun H' ⟨q1, q2⟩ => ⟨r1.1.length - (n + 1), by omega, rfl, q1, q2⟩, fun x H3 y => ?_⟩
        obtain ⟨F3, up, s3, d3, _⟩ := wk.yld n x F2 H2 H3 _ st2 R2 s2 y _ (List.getElem?_eq_getElem hlt)
        have R3 := up _ _ _ R2.shift
        have hPs : (shift F2 H2 (σ.set i none) st2).P i = none := by
          show ownAt (σ.set i none) st2 i = none
          cases q : ownAt (σ.set i none) st2 i with
          | none => rfl
          | some a =>
            obtain ⟨⟨xs, h1⟩, _⟩ := ownAt_of q
            rw [← hst] at h1
            exact absurd rfl (own_i st2 i xs h1).1
        have R3' := R3.setD (v := x) hPs d3
        refine ⟨by show ((σ.set i none).set i (some x)).set i none = σ.set i none; exact (set_set ..).trans (set_set ..), shift F2 H2 (σ.set i none) st2, F3, _, p, R3', ec1, fun F4 H4 R4 s4 => ?_⟩
        have wipe2 : ((σ.set i none).set i (some x)).set i none = (σ.set i none).set i none := set_set ..
        -- behind a test or an element: back to the loop's own entry
        have again : ∀ {F5 H5 : Hp} {st5 : List Sl}, Rel X.K (shift F2 H2 (σ.set i none) st2) F5 H5 ((σ.set i none).set i (some x)) st5 → Rel X.K W F5 H5 (σ.set i none) (st5.set i .no) ∧ H5 D = some (.lst accV) ∧ F5 D = none ∧
            (∀ (j : Nat) (xs : List DL.D), (st5.set i .no)[j]? = some (.own xs) → (σ.set i none)[j]? ≠ some (some (.ref D))) := fun {F5 H5 st5} R5 => by
          have R6 := Rel.other R5 hPs wipe2
          obtain ⟨g1, g2⟩ := Rel.kept R5 hD2 hF2 hno2
          refine ⟨R2.back R6, g1, g2, fun j xs q z => ?_⟩
          obtain ⟨a, vs, h1, _, _, _, h5⟩ := R6.own j xs q
          rw [z] at h1
          cases h1
          rcases h5 with h5 | h5
          · obtain ⟨⟨ys, q1⟩, q2⟩ := ownAt_of (show ownAt (σ.set i none) st2 j = some D from h5)
            exact hno2 j ys q1 q2
          · have h5' : H2 D = none := h5
            rw [hD2] at h5'; cases h5'
        obtain ⟨b, p2⟩ := p
        cases b with
        | true =>
          obtain ⟨q, ec2, ec⟩ := Option.bind_eq_some_iff.mp ec
          obtain ⟨rest', ec3, ec⟩ := Option.map_eq_some_iff.mp ec
          cases ec
          refine ⟨shift F2 H2 (σ.set i none) st2, F4, p2, q, R4, ec2, fun y F5 H5 R5 s5 d5 => ?_⟩
          obtain ⟨R7, g1, g2, g3⟩ := again R5
          refine ⟨accV, g1, ?_, hlt, F5, q.2.set i .no, accV ++ [y], acc ++ [q.1], rest', R7.outside g2 f2 g3, set_set .., s2.trans (s3.trans (s4.trans s5)), upd_same, g2, g3, ?_, ec3, ?_, ?_⟩
          · rw [DpAll.length dacc]
            have : acc.length < 1000000 := by omega
            exact Nat.lt_trans this (by decide)
          · exact DpAll.append (dpAllMono (s3.trans (s4.trans s5)) _ _ dacc) (.cons d5 .nil)
          · rw [er, List.append_assoc]
            rfl
          · rw [List.length_append, List.length_singleton]
            omega
        | false =>
          obtain ⟨R7, g1, g2, g3⟩ := again R4
          exact ⟨hlt, F4, p2.set i .no, accV, acc, rest, R7, set_set .., s2.trans (s3.trans s4), g1, g2, g3, dpAllMono (s3.trans s4) _ _ dacc, ec, er, by omega⟩
      · have e5 : n = r1.1.length := by omega
        subst e5
        rw [List.drop_length] at ec
        cases ec
        subst er
        refine .inl ⟨wk.stop _ F2 H2 _ st2 R2 s2 (Nat.le_refl _), ?_⟩
        have R8 : Rel X.K W F2 H2 σ (st2.set i .no) := Rel.other R2 hP (set_set ..)
        rw [hst] at R8
        refine k D accV F2 H2 R8 (s1.trans s2) hD2 ⟨hF2, f2, fun j xs q => ?_⟩ (by rw [List.append_nil]; exact dacc)
        have hj := (own_i st2 j xs (by rw [hst]; exact q)).1
        have := hno2 j xs q
        rw [List.getElem?_set_ne (Ne.symm hj)] at this
        exact this
  · cases e
theorem do_lc (i : Nat) {x : Str} {own : List (Str × Nat)} {elt iter : Expr} {ifs : List Expr} {scope : Scope} {pos px : Pos} {it : AS} {c : BS} {f : ES} (hc : X.calm = true) (hN : X.N.Nodup) (hi : DI X W (.Name x px) iter it) (ok : BlkOk X.N X.env.scope scope own)
    (hg : ∀ (s : Shared) (H : Hp) (C : Addr) (cl : List (Str × Addr)) (fp : List Addr), PG (X.blk s H scope (compEnvC scope cl C X.env) fp) (.Name x px) (gName i))
    (ht : ∀ (W : Wd) (s : Shared) (H : Hp) (C : Addr) (cl : List (Str × Addr)) (fp : List Addr), DTs (X.blk s H scope (compEnvC scope cl C X.env) fp) W ifs c)
    (he : ∀ (W : Wd) (s : Shared) (H : Hp) (C : Addr) (cl : List (Str × Addr)) (fp : List Addr), DE (X.blk s H scope (compEnvC scope cl C X.env) fp) W elt f)
    (ho : own.map (·.2) = [i] := by rfl) (hs : ∀ x, foldedSetIterable iter X.env x = pure x := by intro _; rfl) : DO X W (.ListComp elt [⟨.Name x px, iter, ifs, 0⟩] scope pos) (oComp i c f it) := by
  obtain ⟨wi, pi, ki⟩ := hi
  refine pe_imp (pe_lc (tt := tTx X.K c) (te := tDx X.K f) hc hN pi ok hg (fun s H C cl fp => ⟨fun pins s' σ H' Q I ⟨W', q⟩ => (ht W' s H C cl fp).run pins s' σ H' Q I q⟩) (fun s H C cl fp => ⟨fun pins s' σ H' Q I ⟨W', q⟩ => (he W' s H C cl fp).run pins s' σ H' Q I q⟩) hs) ?_
  rw [ho]
  exact lc_of ki
theorem tO_of_fz {K : PySem.W.Frag} {o : OS} : ∀ σ H Q, tD K W (eFz o) σ H Q → tO K W o σ H Q := fun σ H Q ⟨F, st, z, R, e, k⟩ => by
  unfold eFz at e
  obtain ⟨r1, e1, e⟩ := Option.map_eq_some_iff.mp e
  cases e
  refine ⟨F, st, r1, R, e1, fun a vs F1 H1 R1 s1 ha fr d1 => ?_⟩
  have e1 : Same F1 (upd F1 a (.lst vs)) := same_upd fr.1
  exact k _ _ H1 (R1.freeze ha fr.1 fr.2.1 fr.2.2) (s1.trans e1) (.lst (.inl (.inl upd_same)) (dpAllMono e1 _ _ d1))
/-- name = [..] on one line, the name a local: it stands still from then on -/
theorem ds_setLc (j : Nat) (i : Nat) {x y : Str} {own : List (Str × Nat)} {elt iter : Expr} {ifs : List Expr} {scope : Scope} {pos spos px py : Pos} {it : AS} {c : BS} {f : ES} (hP : W.P j = none) (hc : X.calm = true) (hN : X.N.Nodup) (hi : DI X W (.Name x px) iter it) (ok : BlkOk X.N X.env.scope scope own)
    (hg : ∀ (s : Shared) (H : Hp) (C : Addr) (cl : List (Str × Addr)) (fp : List Addr), PG (X.blk s H scope (compEnvC scope cl C X.env) fp) (.Name x px) (gName i))
    (ht : ∀ (W : Wd) (s : Shared) (H : Hp) (C : Addr) (cl : List (Str × Addr)) (fp : List Addr), DTs (X.blk s H scope (compEnvC scope cl C X.env) fp) W ifs c)
    (he : ∀ (W : Wd) (s : Shared) (H : Hp) (C : Addr) (cl : List (Str × Addr)) (fp : List Addr), DE (X.blk s H scope (compEnvC scope cl C X.env) fp) W elt f)
    (hsw : swapsWith (.ListComp elt [⟨.Name x px, iter, ifs, 0⟩] scope pos) (some (.Name y py)) spos.line X.env = pure true) (hy : X.N[j]? = some y := by rfl) (hyl : X.env.scope.names.lookup y = some .local := by rfl)
    (ho : own.map (·.2) = [i] := by rfl) (hs : ∀ x, foldedSetIterable iter X.env x = pure x := by intro _; rfl) : DS X W (.Assign [.Name y py] (.ListComp elt [⟨.Name x px, iter, ifs, 0⟩] scope pos) spos) (sSet j (eFz (oComp i c f it))) := by
  obtain ⟨wi, pi, ki⟩ := hi
  refine ps_imp (ps_setLc (tt := tTx X.K c) (te := tDx X.K f) hc hN hy hyl hsw pi ok hg (fun s H C cl fp => ⟨fun pins s' σ H' Q I ⟨W', q⟩ => (ht W' s H C cl fp).run pins s' σ H' Q I q⟩) (fun s H C cl fp => ⟨fun pins s' σ H' Q I ⟨W', q⟩ => (he W' s H C cl fp).run pins s' σ H' Q I q⟩) hs) fun D σ H ⟨F, st, o, R, e, k⟩ => ?_
  rw [ho]
  unfold sSet at e
  obtain ⟨r1, e1, e⟩ := Option.map_eq_some_iff.mp e
  cases e
  exact lc_of ki σ H _ (tO_of_fz σ H _ ⟨F, st, r1, R, e1, fun v F1 H1 R1 s1 d1 => k _ F1 H1 (R1.setD hP d1) s1⟩)
end
end DL

set_option Elab.async false
set_option linter.all false
set_option maxRecDepth 100000
set_option maxHeartbeats 4000000
namespace DL
open PySem PySem.Spec L2
open PyProof.Rows (envOfC)

/-! ### what a def promises -/
inductive Res where
  | d (x : D)
  | o (xs : List D)
abbrev PF := List D → Option Res
/-- a def whose first parameter is a list that it may change -/
abbrev SF := List D → List D → Option (Res × List D)
def ResOk (K : PySem.W.Frag) (F' H' H : Hp) (v : V) : Res → Prop
  | .d x => Dp K F' v x
  | .o xs => ∃ a vs, v = .ref a ∧ H' a = some (.lst vs) ∧ F' a = none ∧ H a = none ∧ DpAll K F' vs xs
def spP (K : PySem.W.Frag) (n : Nat) (g : PF) : Sp := fun vs H Q _ => vs.length = n ∧ ∃ F ds r, Same F H ∧ DpAll K F vs ds ∧ g ds = some r ∧
  ∀ v F' H', Same F F' → Same F' H' → (∀ b o, F' b = some o → F b = some o ∨ H b = none) → Same H H' → ResOk K F' H' H v r → Q v H'
def spS (K : PySem.W.Frag) (n : Nat) (g : SF) : Sp := fun vs H Q _ => vs.length = n ∧ ∃ F a us ws s ds r, vs = .ref a :: us ∧ Same F H ∧ H a = some (.lst ws) ∧ F a = none ∧ DpAll K F ws s ∧ DpAll K F us ds ∧ g s ds = some r ∧
  ∀ v F' H' ws', Same F F' → Same F' H' → (∀ b o, F' b = some o → F b = some o ∨ H b = none) → (∀ b o, H b = some o → b ≠ a → H' b = some o) → H' a = some (.lst ws') → F' a = none → DpAll K F' ws' r.2 → ResOk K F' H' H v r.1 → Q v H'
def startD (m : Nat) (ds : List D) : List Sl := ds.map Sl.d ++ List.replicate (m - ds.length) .no
def outP : Out → Option Res
  | .nx _ => some (.d .none)
  | .rt x _ => some (.d x)
  | .ro xs _ => some (.o xs)
  | _ => none
def runP (m n : Nat) (g : SS) : PF := fun ds => if ds.length = n then (g (startD m ds)).bind outP else none
def own0 (st : List Sl) : Option (List D) := match st with
  | .own xs :: _ => some xs
  | _ => none
def outS : Out → Option (Res × List D)
  | .nx st => (own0 st).map fun s => (.d .none, s)
  | .rt x st => (own0 st).map fun s => (.d x, s)
  | .ro xs st => (own0 st).map fun s => (.o xs, s)
  | _ => none
def runS (m n : Nat) (g : SS) : SF := fun s ds => if ds.length + 1 = n then (g (.own s :: startD (m - 1) ds)).bind outS else none

section
variable {P : Program} {w : World} {K : PySem.W.Frag} {mg : Str → Option Value} {base : Heap} {x qual : Str} {st : Stmt} {f : Addr} {fd : FuncData} {N ps : List Str} {k : Nat} {g : SS}
theorem pre_le (S : FnScope N ps (defScope st)) : ps.length ≤ N.length := by
  have := congrArg List.length S.pre
  rw [List.length_take] at this
  omega
theorem start_len {vs : List V} (h : vs.length ≤ N.length) : (L2.start N vs).length = N.length := by
  unfold L2.start
  rw [List.length_append, List.length_map, List.length_replicate]
  omega
theorem startD_len {m : Nat} {ds : List D} (h : ds.length ≤ m) : (startD m ds).length = m := by
  unfold startD
  rw [List.length_append, List.length_map, List.length_replicate]
  omega
theorem start_at {vs : List V} {i : Nat} {v : V} (h : vs[i]? = some v) : (L2.start N vs)[i]? = some (some v) := by
  unfold L2.start
  rw [List.getElem?_append_left (by rw [List.length_map]; exact (List.getElem?_eq_some_iff.mp h).1), List.getElem?_map, h]
  rfl
theorem startD_at {m : Nat} {ds : List D} {i : Nat} {s : Sl} (h : (startD m ds)[i]? = some s) : s = .no ∨ ∃ x, ds[i]? = some x ∧ s = .d x := by
  unfold startD at h
  by_cases hi : i < ds.length
  · rw [List.getElem?_append_left (by rw [List.length_map]; exact hi), List.getElem?_map, List.getElem?_eq_getElem hi] at h
    cases h
    exact .inr ⟨_, List.getElem?_eq_getElem hi, rfl⟩
  · rw [List.getElem?_append_right (by rw [List.length_map]; omega), List.getElem?_replicate] at h
    split at h <;> cases h
    exact .inl rfl
theorem okP (F : Fun K x qual st f fd) (S : FnScope N ps (defScope st))
    (hb : ∀ (cdv : Value) (A : Around) (outer : List Env) (s : Shared) (H : Hp) (E : XK) (W : Wd), Room k (A.deeper (envOfC qual (defScope st) s.heap.objs.size f cdv)) → (∀ i, W.P i = none) →
      DSs (cxOf CX0 P w K mg base N qual (defScope st) f cdv A outer s H E).nox W (defBody st) g) : FnOk P w K mg base CX0 (k + 1) f fd ps (spP K ps.length (runP N.length ps.length g)) := by
  refine F.ok S (fun vs H Q E h => h.1) (fun cdv A outer s H vs Q E hr h => ?_)
  obtain ⟨hl, F0, ds, r, sm, dp, e, k'⟩ := h
  unfold runP at e
  split at e
  · rename_i hds
    obtain ⟨o, e1, e2⟩ := Option.bind_eq_some_iff.mp e
    refine ⟨_, hb cdv A outer s H E ⟨F0, H, fun _ => none⟩ hr (fun _ => rfl), F0, startD N.length ds, o, ?_, e1, ?_⟩
    · refine ⟨sm, Same.refl _, fun b o e => .inl e, fun b o e _ => e, ?_, fun i x q => ?_, fun i xs q => ?_, fun i j xs ys a _ q _ _ => ?_, fun i a q => by cases q⟩
      · rw [start_len (by rw [hl]; exact pre_le S), startD_len (by rw [hds]; exact pre_le S)]
      · rcases startD_at q with z | ⟨y, q1, z⟩
        · cases z
        · cases z
          obtain ⟨v, h1, h2⟩ := DpAll.get dp q1
          exact ⟨v, start_at h1, h2⟩
      · rcases startD_at q with z | ⟨y, q1, z⟩ <;> cases z
      · rcases startD_at q with z | ⟨y, q1, z⟩ <;> cases z
    · cases o with
      | nx st' =>
        cases e2
        exact fun σ' F' H' R' s' => k' .non F' H' s' R'.fh R'.new (fun b o e => R'.frm b o e fun i z => by cases z) .non
      | rt x st' =>
        cases e2
        exact fun v σ' F' H' R' s' d' => k' v F' H' s' R'.fh R'.new (fun b o e => R'.frm b o e fun i z => by cases z) d'
      | ro xs st' =>
        cases e2
        exact fun a vs' σ' F' H' R' s' h1 h2 h3 d' => k' (.ref a) F' H' s' R'.fh R'.new (fun b o e => R'.frm b o e fun i z => by cases z) ⟨a, vs', rfl, h1, h2, h3, d'⟩
      | bk st' => cases e2
      | ct st' => cases e2
  · cases e
theorem okS (F : Fun K x qual st f fd) (S : FnScope N ps (defScope st)) (hn : 0 < ps.length)
    (hb : ∀ (cdv : Value) (A : Around) (outer : List Env) (s : Shared) (H : Hp) (E : XK) (W : Wd), Room k (A.deeper (envOfC qual (defScope st) s.heap.objs.size f cdv)) → (∀ i, i ≠ 0 → W.P i = none) →
      DSs (cxOf CX0 P w K mg base N qual (defScope st) f cdv A outer s H E).nox W (defBody st) g) : FnOk P w K mg base CX0 (k + 1) f fd ps (spS K ps.length (runS N.length ps.length g)) := by
  refine F.ok S (fun vs H Q E h => h.1) (fun cdv A outer s H vs Q E hr h => ?_)
  obtain ⟨hl, F0, a, us, ws, sl, ds, r, rfl, sm, ha, hF, dw, dp, e, k'⟩ := h
  unfold runS at e
  split at e
  · rename_i hds
    obtain ⟨o, e1, e2⟩ := Option.bind_eq_some_iff.mp e
    have hus : us.length = ds.length := DpAll.length dp
    have hpl := pre_le S
    have up0 : ∀ {i : Nat} {s : Sl}, (Sl.own sl :: startD (N.length - 1) ds)[i]? = some s → (i = 0 ∧ s = .own sl) ∨ s = .no ∨ ∃ j x, i = j + 1 ∧ ds[j]? = some x ∧ s = .d x := fun {i s} q => by
      cases i with
      | zero => exact .inl ⟨rfl, by simpa using q.symm⟩
      | succ j =>
        rw [List.getElem?_cons_succ] at q
        rcases startD_at q with z | ⟨y, q1, z⟩
        · exact .inr (.inl z)
        · exact .inr (.inr ⟨j, y, rfl, q1, z⟩)
    refine ⟨_, hb cdv A outer s H E ⟨F0, H, fun i => if i = 0 then some a else none⟩ hr (fun i hi => if_neg hi), F0, .own sl :: startD (N.length - 1) ds, o, ?_, e1, ?_⟩
    · refine ⟨sm, Same.refl _, fun b o e => .inl e, fun b o e _ => e, ?_, fun i x q => ?_, fun i xs q => ?_, fun i j xs ys b hij q1 q2 _ => ?_, fun i b q => ?_⟩
      · rw [start_len (by rw [hl]; exact hpl), List.length_cons, startD_len (by omega)]
        omega
      · rcases up0 q with ⟨_, z⟩ | z | ⟨j, y, rfl, q1, z⟩
        · cases z
        · cases z
        · cases z
          obtain ⟨v, h1, h2⟩ := DpAll.get dp q1
          exact ⟨v, start_at (by rw [List.getElem?_cons_succ]; exact h1), h2⟩
      · rcases up0 q with ⟨rfl, z⟩ | z | ⟨j, y, rfl, q1, z⟩
        · cases z
          exact ⟨a, ws, start_at rfl, ha, hF, dw, .inl rfl⟩
        · cases z
        · cases z
      · rcases up0 q1 with ⟨rfl, z⟩ | z | ⟨_, y, _, _, z⟩
        · rcases up0 q2 with ⟨rfl, z'⟩ | z' | ⟨_, y, _, _, z'⟩
          · exact absurd rfl hij
          · cases z'
          · cases z'
        · cases z
        · cases z
      · have hi : i = 0 := by
          by_cases h : i = 0
          · exact h
          · have q' : (if i = 0 then some a else none) = some b := q
            rw [if_neg h] at q'; cases q'
        subst hi
        have q' : some a = some b := q
        cases q'
        exact ⟨⟨sl, rfl⟩, start_at rfl⟩
    · have fin : ∀ {σ' : L2.St} {F' H' : Hp} {st' : List Sl} {s' : List D}, Rel K ⟨F0, H, fun i => if i = 0 then some a else none⟩ F' H' σ' st' → own0 st' = some s' →
          (∀ b o, H b = some o → b ≠ a → H' b = some o) ∧ ∃ ws', H' a = some (.lst ws') ∧ F' a = none ∧ DpAll K F' ws' s' := fun {σ' F' H' st' s'} R' q => by
        refine ⟨fun b o e hb => R'.frm b o e fun i z => ?_, ?_⟩
        · have z' : (if i = 0 then some a else none) = some b := z
          by_cases h : i = 0
          · rw [if_pos h] at z'; cases z'; exact hb rfl
          · rw [if_neg h] at z'; cases z'
        · obtain ⟨⟨xs, h1⟩, h2⟩ := R'.par 0 a rfl
          have : xs = s' := by
            unfold own0 at q
            split at q
            · cases q
              rw [List.getElem?_cons_zero] at h1
              cases h1
              rfl
            · cases q
          subst this
          obtain ⟨b, vs', g1, g2, g3, g4, _⟩ := R'.own 0 xs h1
          rw [h2] at g1
          cases g1
          exact ⟨vs', g2, g3, g4⟩
      cases o with
      | nx st' =>
        obtain ⟨s', q1, q2⟩ := Option.map_eq_some_iff.mp e2
        cases q2
        exact fun σ' F' H' R' sF => by
          obtain ⟨h1, ws', h2, h3, h4⟩ := fin R' q1
          exact k' .non F' H' ws' sF R'.fh R'.new h1 h2 h3 h4 .non
      | rt x st' =>
        obtain ⟨s', q1, q2⟩ := Option.map_eq_some_iff.mp e2
        cases q2
        exact fun v σ' F' H' R' sF d' => by
          obtain ⟨h1, ws', h2, h3, h4⟩ := fin R' q1
          exact k' v F' H' ws' sF R'.fh R'.new h1 h2 h3 h4 d'
      | ro xs st' =>
        obtain ⟨s', q1, q2⟩ := Option.map_eq_some_iff.mp e2
        cases q2
        exact fun b vs' σ' F' H' R' sF g1 g2 g3 d' => by
          obtain ⟨h1, ws', h2, h3, h4⟩ := fin R' q1
          exact k' (.ref b) F' H' ws' sF R'.fh R'.new h1 h2 h3 h4 ⟨b, vs', rfl, g1, g2, g3, d'⟩
      | bk st' => cases e2
      | ct st' => cases e2
  · cases e
/-- no promise -/
theorem FnOk.nothing {ps : List Str} {j : Nat} {f : Addr} {fd : FuncData} : FnOk P w K mg base CX0 j f fd ps (spP K ps.length fun _ => none) :=
  ⟨fun vs H Q E h => h.1, fun A outer s H args us vs Q E _ _ _ _ h => by obtain ⟨_, _, _, _, _, _, e, _⟩ := h; cases e⟩
end

/-! ### calls -/
section
variable {X : Cx} {W : Wd} {k : Nat} {f : Addr} {fd : FuncData} {ps : List Str} {g : PF} {gs : SF} {x : Str} {p pos : Pos} {e : Expr} {es : List Expr} {u : AS}
def eCallP (g : PF) (u : AS) : ES := fun st => (u st).bind fun r => (g r.1).bind fun q => match q with
  | .d x => some (x, r.2)
  | .o _ => none
def oCallP (g : PF) (u : AS) : OS := fun st => (u st).bind fun r => (g r.1).bind fun q => match q with
  | .d _ => none
  | .o xs => some (xs, r.2)
theorem Rel.behind {K : PySem.W.Frag} {F H F' H' : Hp} {σ : L2.St} {st : List Sl} (R : Rel K W F H σ st) (s1 : Same F F') (s2 : Same F' H') (new : ∀ b o, F' b = some o → F b = some o ∨ H b = none) (s3 : Same H H') : Rel K W F' H' σ st := by
  refine ⟨s2, R.ff.trans s1, fun b o e => ?_, fun b o e h => s3 b o (R.frm b o e h), R.len, fun i x e => ?_, fun i xs e => ?_, R.apart, R.par⟩
  · rcases new b o e with h | h
    · exact R.new b o h
    · exact .inr (R.h0 h)
  · obtain ⟨v, h1, h2⟩ := R.val i x e
    exact ⟨v, h1, dpMono s1 _ _ h2⟩
  · obtain ⟨a, vs, h1, h2, h3, h4, h5⟩ := R.own i xs e
    refine ⟨a, vs, h1, s3 _ _ h2, ?_, dpAllMono s1 _ _ h4, h5⟩
    cases q : F' a with
    | none => rfl
    | some o =>
      rcases new a o q with h | h
      · rw [h3] at h; cases h
      · rw [h2] at h; cases h
theorem fresh_of {K : PySem.W.Frag} {F H F' H' : Hp} {σ : L2.St} {st : List Sl} {a : Addr} (R : Rel K W F H σ st) (hF : F' a = none) (hH : H a = none) : Fresh W F' H' σ st a := by
  refine ⟨hF, R.h0 hH, fun i xs e z => ?_⟩
  obtain ⟨b, vs, h1, h2, _⟩ := R.own i xs e
  rw [z] at h1
  cases h1
  rw [hH] at h2
  cases h2
theorem spP_d {K : PySem.W.Frag} {n : Nat} {F1 H1 : Hp} {σ : L2.St} {st : List Sl} {vs : List V} {ds : List D} {y : D} {Q : VK} (hn : ds.length = n) (R1 : Rel K W F1 H1 σ st) (d1 : DpAll K F1 vs ds) (e : g ds = some (.d y))
    (k : ∀ v F' H', Rel K W F' H' σ st → Same F1 F' → Dp K F' v y → Q v H') : spP K n g (vs ++ []) H1 Q E0 := by
  rw [List.append_nil]
  refine ⟨by rw [DpAll.length d1]; exact hn, F1, ds, .d y, R1.fh, d1, e, fun v F' H' s1 s2 new s3 r => k v F' H' (R1.behind s1 s2 new s3) s1 r⟩
theorem spP_o {K : PySem.W.Frag} {n : Nat} {F1 H1 : Hp} {σ : L2.St} {st : List Sl} {vs : List V} {ds : List D} {ys : List D} {Q : VK} (hn : ds.length = n) (R1 : Rel K W F1 H1 σ st) (d1 : DpAll K F1 vs ds) (e : g ds = some (.o ys))
    (k : ∀ a vs F' H', Rel K W F' H' σ st → Same F1 F' → H' a = some (.lst vs) → Fresh W F' H' σ st a → DpAll K F' vs ys → Q (.ref a) H') : spP K n g (vs ++ []) H1 Q E0 := by
  rw [List.append_nil]
  refine ⟨by rw [DpAll.length d1]; exact hn, F1, ds, .o ys, R1.fh, d1, e, fun v F' H' s1 s2 new s3 r => ?_⟩
  obtain ⟨a, vs', rfl, h1, h2, h3, h4⟩ := r
  exact k a vs' F' H' (R1.behind s1 s2 new s3) s1 h1 (fresh_of R1 h2 h3) h4
/-- the def is a function of so many arguments -/
def Ar (n : Nat) (g : PF) : Prop := ∀ ds r, g ds = some r → ds.length = n
theorem ar_run {m n : Nat} {b : SS} : Ar n (runP m n b) := fun ds r e => by
  unfold runP at e
  split at e
  · assumption
  · cases e
theorem ar_none {n : Nat} : Ar n (fun _ => none) := fun ds r e => by cases e
theorem de_call (F : FnOk X.prog X.w X.K X.mg X.base CX0 k f fd ps (spP X.K ps.length g)) (hr : Room k X.A) (hm : X.mg x = some (.ref f)) (hk : PySem.W.keepIn X.K (.ref f) = true) (hb : Binds X.K fd ps []) (ar : Ar ps.length g) (ha : DA X W (e :: es) u) (hg : Gl X x := by rfl)
    (hdb : (x == ("__debug__" : Str)) = false := by decide) (he : starEach (e :: es) X.env = (false, eval e X.env) :: starEach es X.env := by rfl) (hpl : (backTo pos (starEach es X.env)).any (·.1) = false := by rfl) :
    DE X W (.Call (.Name x p) (e :: es) [] pos) (eCallP g u) := pe_imp (pe_call F hr hg hm hk hb .nil pass0 ha hdb he hpl) fun σ H Q ⟨F, st, z, R, e, k⟩ => by
  unfold eCallP at e
  obtain ⟨r1, e1, e⟩ := Option.bind_eq_some_iff.mp e
  obtain ⟨q, e2, e⟩ := Option.bind_eq_some_iff.mp e
  refine ⟨F, st, r1, R, e1, fun vs F1 H1 R1 s1 d1 => ?_⟩
  cases q with
  | d y =>
    cases e
    exact spP_d (ar _ _ e2) R1 d1 e2 fun v F' H' R' s' => k v F' H' R' (s1.trans s')
  | o ys => cases e
theorem do_call (F : FnOk X.prog X.w X.K X.mg X.base CX0 k f fd ps (spP X.K ps.length g)) (hr : Room k X.A) (hm : X.mg x = some (.ref f)) (hk : PySem.W.keepIn X.K (.ref f) = true) (hb : Binds X.K fd ps []) (ar : Ar ps.length g) (ha : DA X W (e :: es) u) (hg : Gl X x := by rfl)
    (hdb : (x == ("__debug__" : Str)) = false := by decide) (he : starEach (e :: es) X.env = (false, eval e X.env) :: starEach es X.env := by rfl) (hpl : (backTo pos (starEach es X.env)).any (·.1) = false := by rfl) :
    DO X W (.Call (.Name x p) (e :: es) [] pos) (oCallP g u) := pe_imp (pe_call F hr hg hm hk hb .nil pass0 ha hdb he hpl) fun σ H Q ⟨F, st, z, R, e, k⟩ => by
  unfold oCallP at e
  obtain ⟨r1, e1, e⟩ := Option.bind_eq_some_iff.mp e
  obtain ⟨q, e2, e⟩ := Option.bind_eq_some_iff.mp e
  refine ⟨F, st, r1, R, e1, fun vs F1 H1 R1 s1 d1 => ?_⟩
  cases q with
  | d y => cases e
  | o ys =>
    cases e
    exact spP_o (ar _ _ e2) R1 d1 e2 fun a vs F' H' R' s' => k a vs F' H' R' (s1.trans s')
theorem de_call0 (F : FnOk X.prog X.w X.K X.mg X.base CX0 k f fd ps (spP X.K ps.length g)) (hr : Room k X.A) (hm : X.mg x = some (.ref f)) (hk : PySem.W.keepIn X.K (.ref f) = true) (hb : Binds X.K fd ps []) (ar : Ar ps.length g) (hg : Gl X x := by rfl)
    (hdb : (x == ("__debug__" : Str)) = false := by decide) : DE X W (.Call (.Name x p) [] [] pos) (eCallP g aNil) := pe_imp (pe_call0 F hr hg hm hk hb .nil pass0 hdb) fun σ H Q ⟨F, st, z, R, e, k⟩ => by
  unfold eCallP at e
  obtain ⟨r1, e1, e⟩ := Option.bind_eq_some_iff.mp e
  obtain ⟨q, e2, e⟩ := Option.bind_eq_some_iff.mp e
  cases e1
  cases q with
  | d y =>
    cases e
    exact spP_d (vs := []) (ar _ _ e2) R .nil e2 fun v F' H' R' s' => k v F' H' R' s'
  | o ys => cases e
theorem do_call0 (F : FnOk X.prog X.w X.K X.mg X.base CX0 k f fd ps (spP X.K ps.length g)) (hr : Room k X.A) (hm : X.mg x = some (.ref f)) (hk : PySem.W.keepIn X.K (.ref f) = true) (hb : Binds X.K fd ps []) (ar : Ar ps.length g) (hg : Gl X x := by rfl)
    (hdb : (x == ("__debug__" : Str)) = false := by decide) : DO X W (.Call (.Name x p) [] [] pos) (oCallP g aNil) := pe_imp (pe_call0 F hr hg hm hk hb .nil pass0 hdb) fun σ H Q ⟨F, st, z, R, e, k⟩ => by
  unfold oCallP at e
  obtain ⟨r1, e1, e⟩ := Option.bind_eq_some_iff.mp e
  obtain ⟨q, e2, e⟩ := Option.bind_eq_some_iff.mp e
  cases e1
  cases q with
  | d y => cases e
  | o ys =>
    cases e
    exact spP_o (vs := []) (ar _ _ e2) R .nil e2 fun a vs F' H' R' s' => k a vs F' H' R' s'
/-! a call with a list that may change ahead -/
def callS (gs : SF) (i : Nat) (u : AS) : List Sl → Option (Res × List Sl) := fun st => match st[i]? with
  | some (.own _) => (u st).bind fun r => match r.2[i]? with
    | some (.own s) => (gs s r.1).map fun q => (q.1, r.2.set i (.own q.2))
    | _ => none
  | _ => none
def eCallS (gs : SF) (i : Nat) (u : AS) : ES := fun st => (callS gs i u st).bind fun q => match q.1 with
  | .d x => some (x, q.2)
  | .o _ => none
def oCallS (gs : SF) (i : Nat) (u : AS) : OS := fun st => (callS gs i u st).bind fun q => match q.1 with
  | .d _ => none
  | .o xs => some (xs, q.2)
def ArS (n : Nat) (g : SF) : Prop := ∀ s ds r, g s ds = some r → ds.length + 1 = n
theorem ars_run {m n : Nat} {b : SS} : ArS n (runS m n b) := fun s ds r e => by
  unfold runS at e
  split at e
  · assumption
  · cases e
/-- behind a call that changes the list of slot i -/
theorem Rel.behindS {K : PySem.W.Frag} {F H F' H' : Hp} {σ : L2.St} {st : List Sl} {i : Nat} {a : Addr} {s s' : List D} {ws' : List V} (R : Rel K W F H σ st) (hi : st[i]? = some (.own s)) (ha : σ[i]? = some (some (.ref a))) (s1 : Same F F') (s2 : Same F' H')
    (new : ∀ b o, F' b = some o → F b = some o ∨ H b = none) (keep : ∀ b o, H b = some o → b ≠ a → H' b = some o) (h1 : H' a = some (.lst ws')) (h2 : F' a = none) (h3 : DpAll K F' ws' s') : Rel K W F' H' σ (st.set i (.own s')) := by
  obtain ⟨c, vs, g1, g2, g3, g4, g5⟩ := R.own i s hi
  rw [ha] at g1
  cases g1
  have hil : i < st.length := (List.getElem?_eq_some_iff.mp hi).1
  have sw : ∀ (j : Nat) (zs : List D), (st.set i (.own s'))[j]? = some (.own zs) → ∃ zs', st[j]? = some (.own zs') := fun j zs q => by
    by_cases hj : j = i
    · subst hj; exact ⟨s, hi⟩
    · rw [List.getElem?_set_ne (Ne.symm hj)] at q; exact ⟨zs, q⟩
  refine ⟨s2, R.ff.trans s1, fun b o e => ?_, fun b o e h => ?_, by rw [List.length_set]; exact R.len, fun j x q => ?_, fun j zs q => ?_, fun j k zs zs' b hjk q1 q2 => ?_, fun j b q => ?_⟩
  · rcases new b o e with h | h
    · exact R.new b o h
    · exact .inr (R.h0 h)
  · refine keep b o (R.frm b o e h) fun z => ?_
    subst z
    rcases g5 with g5 | g5
    · exact h i g5
    · rw [e] at g5; cases g5
  · by_cases hj : j = i
    · subst hj; rw [List.getElem?_set_self hil] at q; cases q
    · rw [List.getElem?_set_ne (Ne.symm hj)] at q
      obtain ⟨v, h4, h5⟩ := R.val j x q
      exact ⟨v, h4, dpMono s1 _ _ h5⟩
  · by_cases hj : j = i
    · subst hj
      rw [List.getElem?_set_self hil] at q
      cases q
      exact ⟨a, ws', ha, h1, h2, h3, g5⟩
    · rw [List.getElem?_set_ne (Ne.symm hj)] at q
      obtain ⟨c, vs', q1, q2, q3, q4, q5⟩ := R.own j zs q
      have hca : c ≠ a := fun z => by subst z; exact R.apart j i zs s c hj q hi q1 ha
      refine ⟨c, vs', q1, keep c _ q2 hca, ?_, dpAllMono s1 _ _ q4, q5⟩
      cases z : F' c with
      | none => rfl
      | some o =>
        rcases new c o z with h | h
        · rw [q3] at h; cases h
        · rw [q2] at h; cases h
  · obtain ⟨w1, q1'⟩ := sw j zs q1
    obtain ⟨w2, q2'⟩ := sw k zs' q2
    exact R.apart j k w1 w2 b hjk q1' q2'
  · obtain ⟨⟨zs, q1⟩, q2⟩ := R.par j b q
    refine ⟨?_, q2⟩
    by_cases hj : j = i
    · subst hj; exact ⟨s', by rw [List.getElem?_set_self hil]⟩
    · exact ⟨zs, by rw [List.getElem?_set_ne (Ne.symm hj)]; exact q1⟩
theorem callS_of {n i : Nat} {σ : L2.St} {H : Hp} {Q : VK} {F : Hp} {st : List Sl} {z : Res × List Sl} (ar : ArS n gs) (R : Rel X.K W F H σ st) (e : callS gs i u st = some z)
    (k : ∀ v F' H', Rel X.K W F' H' σ z.2 → Same F F' → (match z.1 with
      | .d x => Dp X.K F' v x
      | .o xs => ∃ a vs, v = .ref a ∧ H' a = some (.lst vs) ∧ Fresh W F' H' σ z.2 a ∧ DpAll X.K F' vs xs) → Q v H') : tCall (spS X.K n gs) [] E0 (tCons (tVar i) (tA X.K W u)) σ H Q := by
  unfold callS at e
  split at e
  · rename_i ys hy
    obtain ⟨a, vs, h1, h2, _⟩ := R.own i ys hy
    obtain ⟨r1, e1, e⟩ := Option.bind_eq_some_iff.mp e
    refine ⟨_, h1, F, st, r1, R, e1, fun us F1 H1 R1 s1 d1 => ?_⟩
    split at e
    · rename_i s hs
      obtain ⟨q, e2, e⟩ := Option.map_eq_some_iff.mp e
      cases e
      obtain ⟨a', ws, g1, g2, g3, g4, g5⟩ := R1.own i s hs
      rw [h1] at g1
      cases g1
      rw [List.append_nil]
      refine ⟨by rw [List.length_cons, DpAll.length d1]; exact ar _ _ _ e2, F1, a, us, ws, s, r1.1, q, rfl, R1.fh, g2, g3, g4, d1, e2, fun v F' H' ws' t1 t2 new keep j1 j2 j3 res => ?_⟩
      have R2 := R1.behindS hs h1 t1 t2 new keep j1 j2 j3
      refine k v F' H' R2 (s1.trans t1) ?_
      obtain ⟨qa, qb⟩ := q
      cases qa with
      | d x => exact res
      | o xs =>
        obtain ⟨b, vs', rfl, i1, i2, i3, i4⟩ := res
        refine ⟨b, vs', rfl, i1, ⟨i2, R1.h0 i3, fun j zs q z => ?_⟩, i4⟩
        obtain ⟨c, vs'', m1, m2, _⟩ := R2.own j zs q
        rw [z] at m1
        cases m1
        by_cases hj : j = i
        · subst hj
          rw [h1] at z
          cases z
          rw [g2] at i3; cases i3
        · rw [List.getElem?_set_ne (Ne.symm hj)] at q
          obtain ⟨c', _, m1', m2', _⟩ := R1.own j zs q
          rw [z] at m1'
          cases m1'
          rw [i3] at m2'; cases m2'
    · cases e
  · cases e
theorem de_callS (i : Nat) {y : Str} {py : Pos} (F : FnOk X.prog X.w X.K X.mg X.base CX0 k f fd ps (spS X.K ps.length gs)) (hr : Room k X.A) (hm : X.mg x = some (.ref f)) (hk : PySem.W.keepIn X.K (.ref f) = true) (hb : Binds X.K fd ps []) (ar : ArS ps.length gs) (ha : DA X W es u) (hg : Gl X x := by rfl)
    (hN : X.N[i]? = some y := by rfl) (hv : Vis X.env.scope y := by first | exact Or.inl rfl | exact Or.inr (Or.inl rfl) | exact Or.inr (Or.inr rfl)) (hd : (y == ("__debug__" : Str)) = false := by decide)
    (hcd : (y == ("__classdict__" : Str)) = false := by decide)
    (hdb : (x == ("__debug__" : Str)) = false := by decide) (he : starEach (.Name y py :: es) X.env = (false, eval (.Name y py) X.env) :: starEach es X.env := by rfl) (hpl : (backTo pos (starEach es X.env)).any (·.1) = false := by rfl) :
    DE X W (.Call (.Name x p) (.Name y py :: es) [] pos) (eCallS gs i u) := pe_imp (pe_call F hr hg hm hk hb .nil pass0 (pa_cons (pe_var (i := i) hN hv hd hcd) ha he) hdb he hpl) fun σ H Q ⟨F, st, z, R, e, k⟩ => by
  unfold eCallS at e
  obtain ⟨q, e1, e⟩ := Option.bind_eq_some_iff.mp e
  obtain ⟨qa, qb⟩ := q
  cases qa with
  | d y =>
    cases e
    exact callS_of ar R e1 fun v F' H' R' s' d' => k v F' H' R' s' d'
  | o ys => cases e
theorem do_callS (i : Nat) {y : Str} {py : Pos} (F : FnOk X.prog X.w X.K X.mg X.base CX0 k f fd ps (spS X.K ps.length gs)) (hr : Room k X.A) (hm : X.mg x = some (.ref f)) (hk : PySem.W.keepIn X.K (.ref f) = true) (hb : Binds X.K fd ps []) (ar : ArS ps.length gs) (ha : DA X W es u) (hg : Gl X x := by rfl)
    (hN : X.N[i]? = some y := by rfl) (hv : Vis X.env.scope y := by first | exact Or.inl rfl | exact Or.inr (Or.inl rfl) | exact Or.inr (Or.inr rfl)) (hd : (y == ("__debug__" : Str)) = false := by decide)
    (hcd : (y == ("__classdict__" : Str)) = false := by decide)
    (hdb : (x == ("__debug__" : Str)) = false := by decide) (he : starEach (.Name y py :: es) X.env = (false, eval (.Name y py) X.env) :: starEach es X.env := by rfl) (hpl : (backTo pos (starEach es X.env)).any (·.1) = false := by rfl) :
    DO X W (.Call (.Name x p) (.Name y py :: es) [] pos) (oCallS gs i u) := pe_imp (pe_call F hr hg hm hk hb .nil pass0 (pa_cons (pe_var (i := i) hN hv hd hcd) ha he) hdb he hpl) fun σ H Q ⟨F, st, z, R, e, k⟩ => by
  unfold oCallS at e
  obtain ⟨q, e1, e⟩ := Option.bind_eq_some_iff.mp e
  obtain ⟨qa, qb⟩ := q
  cases qa with
  | d y => cases e
  | o ys =>
    cases e
    exact callS_of ar R e1 fun v F' H' R' s' d' => by
      obtain ⟨a, vs, rfl, h1, h2, h3⟩ := d'
      exact k a vs F' H' R' s' h1 h2 h3
/-! a call that is handed a list of one's own for a look, and gives a plain value -/
def eCallB (g : PF) (i : Nat) (u : AS) : ES := fun st => match st[i]? with
  | some (.own _) => (u st).bind fun r => match r.2[i]? with
    | some (.own xs) => (g (.list xs :: r.1)).bind fun q => match q with
      | .d x => if (scV x).isSome then some (x, r.2) else none
      | .o _ => none
    | _ => none
  | _ => none
theorem dp_flat {K : PySem.W.Frag} {F F' : Hp} {v : V} {x : D} (h : Dp K F v x) (e : (scV x).isSome = true) : Dp K F' v x := by
  cases h with
  | non => exact .non
  | bl b => exact .bl b
  | int i => exact .int i
  | str z => exact .str z
  | lst _ _ => cases e
  | tup _ _ => cases e
theorem de_callB1 (i : Nat) {y : Str} {py : Pos} (F : FnOk X.prog X.w X.K X.mg X.base CX0 k f fd ps (spP X.K ps.length g)) (hr : Room k X.A) (hm : X.mg x = some (.ref f)) (hk : PySem.W.keepIn X.K (.ref f) = true) (hb : Binds X.K fd ps []) (ar : Ar ps.length g) (ha : DA X W es u) (hg : Gl X x := by rfl)
    (hN : X.N[i]? = some y := by rfl) (hv : Vis X.env.scope y := by first | exact Or.inl rfl | exact Or.inr (Or.inl rfl) | exact Or.inr (Or.inr rfl)) (hd : (y == ("__debug__" : Str)) = false := by decide)
    (hcd : (y == ("__classdict__" : Str)) = false := by decide)
    (hdb : (x == ("__debug__" : Str)) = false := by decide) (he : starEach (.Name y py :: es) X.env = (false, eval (.Name y py) X.env) :: starEach es X.env := by rfl) (hpl : (backTo pos (starEach es X.env)).any (·.1) = false := by rfl) :
    DE X W (.Call (.Name x p) (.Name y py :: es) [] pos) (eCallB g i u) := pe_imp (pe_call F hr hg hm hk hb .nil pass0 (pa_cons (pe_var (i := i) hN hv hd hcd) ha he) hdb he hpl) fun σ H Q ⟨F, st, z, R, e, k⟩ => by
  unfold eCallB at e
  split at e
  · rename_i ys hy
    obtain ⟨a, vs, h1, h2, _⟩ := R.own i ys hy
    obtain ⟨r1, e1, e⟩ := Option.bind_eq_some_iff.mp e
    refine ⟨_, h1, F, st, r1, R, e1, fun us F1 H1 R1 s1 d1 => ?_⟩
    split at e
    · rename_i xs hs
      obtain ⟨q, e2, e⟩ := Option.bind_eq_some_iff.mp e
      obtain ⟨a', ws, g1, g2, g3, g4, g5⟩ := R1.own i xs hs
      rw [h1] at g1
      cases g1
      obtain ⟨F2, t1, t2, d2⟩ := R1.moment g2 g4
      cases q with
      | d x' =>
        dsimp only at e
        split at e
        · rename_i hsc
          cases e
          rw [List.append_nil]
          have hl := ar _ _ e2
          refine ⟨by rw [List.length_cons, DpAll.length d1]; exact hl, F2, .list xs :: r1.1, _, t2, .cons d2 (dpAllMono t1 _ _ d1), e2, fun v F' H' u1 u2 new u3 res => ?_⟩
          exact k v F1 H' (R1.behind (Same.refl _) (R1.fh.trans u3) (fun b o e => .inl e) u3) s1 (dp_flat res hsc)
        · cases e
      | o _ => cases e
    · cases e
  · cases e
end
end DL

set_option Elab.async false
set_option linter.all false
set_option maxRecDepth 100000
set_option maxHeartbeats 4000000
namespace DL
open PySem PySem.Spec L2

/-- a written text's codes -/
def cs (s : String) : List Nat := s.toList.map Char.toNat
theorem de_cs {X : Cx} {W : Wd} {s : String} {j pos} : DE X W (.Constant (.str (Str.ofString s)) j pos) (eK (ds (cs s))) := de_str (Str.ofString_eq_toList s)
/-- a name of the module that stands for data -/
def GlobK (K : PySem.W.Frag) (mg : Str → Option Value) (x : Str) (d : D) : Prop := ∃ v u, mg x = some u ∧ RelV v u ∧ Dp K (fun _ => none) v d
theorem de_g {X : Cx} {W : Wd} {x : Str} {d : D} {pos : Pos} (h : GlobK X.K X.mg x d) (hg : Gl X x := by rfl) (hd : (x == ("__debug__" : Str)) = false := by decide) : DE X W (.Name x pos) (eK d) := by
  obtain ⟨v, u, h1, h2, h3⟩ := h
  exact de_c (pe_glob hg h1 h2 hd) h3
/-- a written dict with text keys and ints -/
def TabK (w : World) (K : PySem.W.Frag) (mg : Str → Option Value) (x : Str) (kvs : List (List Nat × Int)) : Prop := ∃ a, mg x = some (.ref a) ∧ ∀ k i, kvs.lookup k = some i → KDct K w a ⟨k.toArray⟩ (.int i)
def dTab (kvs : List (List Nat × Int)) : D → Option D
  | .str z => (kvs.lookup (codes z)).map PyData.int
  | _ => none
theorem de_tab {X : Cx} {W : Wd} {x : Str} {kvs : List (List Nat × Int)} {b : Expr} {f : ES} {pos px : Pos} (h : TabK X.w X.K X.mg x kvs) (hb : DE X W b f) (hg : Gl X x := by rfl) (hd : (x == ("__debug__" : Str)) = false := by decide) (hp : PlainIx b := by exact fun _ _ => rfl) :
    DE X W (.Subscript (.Name x px) b pos) (eUn (dTab kvs) f) := by
  obtain ⟨a, h1, h2⟩ := h
  refine pe_imp (pe_ix ix_kdict (pe_glob (v := .ref a) hg h1 rfl hd) hb hp) fun σ H Q ⟨F, st, z, R, e, k⟩ => ?_
  unfold eUn at e
  obtain ⟨r1, e1, e⟩ := Option.bind_eq_some_iff.mp e
  obtain ⟨c, e2, e⟩ := Option.map_eq_some_iff.mp e
  cases e
  refine ⟨F, st, r1, R, e1, fun y F1 H1 R1 s1 d1 => ?_⟩
  unfold dTab at e2
  split at e2
  · rename_i zz hz
    obtain ⟨i, e3, rfl⟩ := Option.map_eq_some_iff.mp e2
    rw [hz] at d1
    exact ⟨a, zz, .int i, rfl, dp_str d1, h2 _ _ e3, k _ F1 H1 R1 s1 (.int i)⟩
  · cases e2
/-- a def of the text as it stands behind the top -/
structure Dfn (K : PySem.W.Frag) (mg : Str → Option Value) (x : Str) (st : Stmt) (ps : List Str) (f : Addr) (fd : FuncData) : Prop where
  F : Fun K x x st f fd
  m : mg x = some (.ref f)
  b : Binds K fd ps []
theorem bb_len : bootBuiltins "len" = some (.builtin "len") := by decide +kernel
theorem bb_abs : bootBuiltins "abs" = some (.builtin "abs") := by decide +kernel
theorem bb_min : bootBuiltins "min" = some (.builtin "min") := by decide +kernel
theorem bb_all : bootBuiltins "all" = some (.builtin "all") := by decide +kernel
theorem bb_isinstance : bootBuiltins "isinstance" = some (.builtin "isinstance") := by decide +kernel
theorem bb_int : bootBuiltins "int" = some (.type "int") := by decide +kernel
theorem bb_str : bootBuiltins "str" = some (.type "str") := by decide +kernel
theorem bb_bool : bootBuiltins "bool" = some (.type "bool") := by decide +kernel
theorem bb_tuple : bootBuiltins "tuple" = some (.type "tuple") := by decide +kernel
theorem bb_list : bootBuiltins "list" = some (.type "list") := by decide +kernel
theorem bb_dict : bootBuiltins "dict" = some (.type "dict") := by decide +kernel

/-! ### split_tokens: what it computes -/
def splitL (m : Str) : List Str → List (List Str) → List Str → List (List Str)
  | [], acc, cur => acc ++ [cur]
  | t :: r, acc, cur => if t = m then splitL m r (acc ++ [cur]) [] else splitL m r acc (cur ++ [t])
def f_split_tokens : PF
  | [.list ts, .str m] => (strsOf ts).bind fun ys => if ys.length ≤ 100000 then some (.d (.list ((splitL m ys [] []).map fun p => .list (p.map PyData.str)))) else none
  | _ => none
theorem ar_split_tokens : Ar 2 f_split_tokens := fun ds r e => by
  unfold f_split_tokens at e
  split at e
  · rfl
  · cases e
end DL

set_option Elab.async false
set_option linter.all false
set_option maxRecDepth 100000
set_option maxHeartbeats 4000000
namespace DL
open PySem PySem.Spec L2
section
variable {K : PySem.W.Frag} {h : Heap} {mg : Str → Option Value} {x : Str} {st : Stmt} {ps : List Str}
theorem dfn_go {C : Prop} {f : Addr} {oc : Value} {od an : Option Addr} {osl : Array (Option Value)} {kV doc pm cdv ct : Value} (KX : K.In h) (G : h.Ns mainGlobals mg)
    (a : PySem.W.nsIn K mainGlobals x = some (some (.ref f))) (l : K.lookup f = some ⟨oc, od, .func (PySem.W.fnOf x x (defArgs st) (defBody st) (defScope st) .none kV doc pm an cdv ct), osl⟩)
    (c : PySem.W.codeIn K cdv x = true) (k : PySem.W.keepIn K (.ref f) = true)
    (b : ∀ (kV doc pm : Value) (an : Option Addr) (cdv ct : Value) (us : List Value), us.length = ps.length → bindArgs (PySem.W.fnOf x x (defArgs st) (defBody st) (defScope st) .none kV doc pm an cdv ct) ⟨us, []⟩ = pure (ps.zip us))
    (go : ∀ f fd, Dfn K mg x st ps f fd → C) : C :=
  go f _ ⟨fun_mk l c k, PySem.W.mg_of KX G a, (fun_mk l c k).binds b⟩
/-- the law's own def: its arguments bind at any state -/
theorem dfn_law {C : Prop} {f : Addr} {oc : Value} {od an : Option Addr} {osl : Array (Option Value)} {kV doc pm cdv ct : Value} (KX : K.In h) (G : h.Ns mainGlobals mg)
    (a : PySem.W.nsIn K mainGlobals x = some (some (.ref f))) (l : K.lookup f = some ⟨oc, od, .func (PySem.W.fnOf x x (defArgs st) (defBody st) (defScope st) .none kV doc pm an cdv ct), osl⟩)
    (c : PySem.W.codeIn K cdv x = true) (k : PySem.W.keepIn K (.ref f) = true)
    (b : ∀ (kV doc pm : Value) (an : Option Addr) (cdv ct : Value) (us : List Value), us.length = ps.length → bindArgs (PySem.W.fnOf x x (defArgs st) (defBody st) (defScope st) .none kV doc pm an cdv ct) ⟨us, []⟩ = pure (ps.zip us))
    (go : ∀ f fd, Dfn K mg x st ps f fd → (∀ (s : Shared) (us : List Value), us.length = ps.length → BindsTo s fd ⟨us, []⟩ (ps.zip us)) → C) : C :=
  go f _ ⟨fun_mk l c k, PySem.W.mg_of KX G a, (fun_mk l c k).binds b⟩ fun s us hl => .of_eq (b _ _ _ _ _ _ us hl)
theorem glob_str {z : Str} {t : Tok} {l : List Nat} (KX : K.In h) (G : h.Ns mainGlobals mg) (a : PySem.W.nsIn K mainGlobals x = some (some (.str z t))) (e : codes z = l) : GlobK K mg x (ds l) :=
  ⟨.str z, _, PySem.W.mg_of KX G a, ⟨t, rfl⟩, by subst e; exact .str z⟩
theorem glob_int {z : Int} {t : Tok} (KX : K.In h) (G : h.Ns mainGlobals mg) (a : PySem.W.nsIn K mainGlobals x = some (some (.int z t))) : GlobK K mg x (.int z) :=
  ⟨.int z, _, PySem.W.mg_of KX G a, ⟨t, rfl⟩, .int z⟩
def strsV : List Value → Option (List (List Nat))
  | [] => some []
  | .str z _ :: r => (strsV r).map (codes z :: ·)
  | _ => none
theorem strsV_vals : ∀ {us : List Value} {ls : List (List Nat)}, strsV us = some ls → Vals (ls.map fun l => V.str ⟨l.toArray⟩) us
  | [], ls, e => by cases e; exact .nil
  | .str z t :: r, ls, e => by
    obtain ⟨q, e1, rfl⟩ := Option.map_eq_some_iff.mp e
    exact .cons ⟨t, rfl⟩ (strsV_vals e1)
  | .none :: _, _, e => by cases e
  | .bool _ :: _, _, e => by cases e
  | .int _ _ :: _, _, e => by cases e
  | .ref _ :: _, _, e => by cases e
  | .type _ :: _, _, e => by cases e
  | .builtin _ :: _, _, e => by cases e
  | .bytes _ _ :: _, _, e => by cases e
  | .float _ _ :: _, _, e => by cases e
  | .ellipsis :: _, _, e => by cases e
  | .notImplemented :: _, _, e => by cases e
theorem dpa_ds {F : Hp} : ∀ ls : List (List Nat), DpAll K F (ls.map fun l => V.str ⟨l.toArray⟩) (ls.map fun l => ds l)
  | [] => .nil
  | _ :: r => .cons (.str _) (dpa_ds r)
theorem glob_tup {p : Addr} {od : Option Addr} {its : Array Value} {n : Nat} {sl : Array (Option Value)} {ls : List (List Nat)} (KX : K.In h) (G : h.Ns mainGlobals mg) (a : PySem.W.nsIn K mainGlobals x = some (some (.ref p)))
    (l : K.lookup p = some ⟨.type "tuple", od, .seq its n, sl⟩) (e : strsV its.toList = some ls) (z : its.size ≤ 1000) : GlobK K mg x (.tuple (ls.map fun l => ds l)) :=
  ⟨.ref p, _, PySem.W.mg_of KX G a, rfl, .tup (.inr ⟨_, its, n, l, rfl, rfl, le1000 z, strsV_vals e⟩) (dpa_ds ls)⟩
theorem glob_str_go {C : Prop} {z : Str} {t : Tok} {l : List Nat} (KX : K.In h) (G : h.Ns mainGlobals mg) (a : PySem.W.nsIn K mainGlobals x = some (some (.str z t))) (e : codes z = l) (go : GlobK K mg x (ds l) → C) : C := go (glob_str KX G a e)
theorem glob_int_go {C : Prop} {z : Int} {t : Tok} (KX : K.In h) (G : h.Ns mainGlobals mg) (a : PySem.W.nsIn K mainGlobals x = some (some (.int z t))) (go : GlobK K mg x (.int z) → C) : C := go (glob_int KX G a)
theorem glob_tup_go {C : Prop} {p : Addr} {od : Option Addr} {its : Array Value} {n : Nat} {sl : Array (Option Value)} {ls : List (List Nat)} (KX : K.In h) (G : h.Ns mainGlobals mg) (a : PySem.W.nsIn K mainGlobals x = some (some (.ref p)))
    (l : K.lookup p = some ⟨.type "tuple", od, .seq its n, sl⟩) (e : strsV its.toList = some ls) (z : its.size ≤ 1000) (go : GlobK K mg x (.tuple (ls.map fun l => ds l)) → C) : C := go (glob_tup KX G a l e z)
theorem tab_go {C : Prop} {w : World} {p : Addr} {kvs : List (List Nat × Int)} (KX : K.In h) (G : h.Ns mainGlobals mg) (a : PySem.W.nsIn K mainGlobals x = some (some (.ref p))) (r : ∀ k i, kvs.lookup k = some i → KDct K w p ⟨k.toArray⟩ (.int i)) (go : TabK w K mg x kvs → C) : C :=
  go ⟨p, PySem.W.mg_of KX G a, r⟩
theorem tab_cons {w : World} {p : Addr} {es : Array DictEntry} {n : Nat} {k : List Nat} {i : Int} {t : Tok} {kvs : List (List Nat × Int)}
    (l : K.lookup p = some ⟨.type "dict", none, .dict es n, #[]⟩) (hk : PySem.W.KeysLit w.params es.toList) (e : PySem.W.nsIn K p ⟨k.toArray⟩ = some (some (.int i t)))
    (r : ∀ k i, kvs.lookup k = some i → KDct K w p ⟨k.toArray⟩ (.int i)) : ∀ k' i', ((k, i) :: kvs).lookup k' = some i' → KDct K w p ⟨k'.toArray⟩ (.int i') := fun k' i' q => by
  rw [List.lookup_cons] at q
  split at q
  · rename_i hb
    cases q
    rw [eq_of_beq hb]
    exact ⟨es, n, _, l, hk, e, ⟨t, rfl⟩⟩
  · exact r k' i' q
theorem walk_law {l : PySem.W.OpenLaw} {q : Program} {loose : List Str} {XP : (Str → Option Value) → Heap → Prop} {YP : World → Heap → Prop} {d : DefRec} {K : Params → PySem.W.Frag} {k : Nat} {g : PF} (hn : l.most = some 63) (hdf : d.params.defaults = []) (hr : Room k callerA)
    (hY : ∀ (w : World) (h : Heap), YP w h → (K w.params).In h)
    (F : ∀ (w : World) (mg : Str → Option Value) (fa : Addr) (h : Heap), (K w.params).In h → h.Ns mainGlobals mg → mg d.name = some (.ref fa) →
      ∃ fd : FuncData, (∀ (s : Shared) (u : Value), BindsTo s fd ⟨[u], []⟩ [("script", u)]) ∧ ∀ base : Heap, FnOk l.prog w (K w.params) mg base CX0 k fa fd ["script"] (spP (K w.params) 1 g))
    (law : ∀ ns : List Int, ns.length ≤ 63 → g [.list (ns.map PyData.int)] = some (.d (.bool true))) :
    PySem.W.WalkO q loose XP YP l.row.toRowW d [] (fun f vs => PySem.call f vs) := by
  refine L2.walk_of (n := 63) (k := k) (x := "script") (CX := fun _ => CX0) (sp := fun w => spP (K w.params) 1 g) hn (by decide) hdf hr hY (fun w mg fa h h1 h2 h3 => ?_) (fun w H a ns hl _ hS => ?_) fun _ _ _ _ _ z => z
  · obtain ⟨fd, b, f⟩ := F w mg fa h h1 h2 h3
    exact ⟨fd, b, fun base _ _ => f base⟩
  · have dpi : ∀ ns : List Int, DpAll (K w.params) H (ns.map V.int) (ns.map PyData.int) := fun ns => by
      induction ns with
      | nil => exact .nil
      | cons n r ih => exact .cons (.int n) ih
    exact ⟨rfl, H, [.list (ns.map PyData.int)], _, Same.refl _, .cons (.lst hS (dpi ns)) .nil, law ns hl, fun v F' H' _ _ _ _ r => dp_bool r⟩
end
end DL

set_option Elab.async false
set_option linter.all false
set_option maxRecDepth 100000
set_option maxHeartbeats 4000000
namespace DL
open PySem PySem.Spec L2
open PyProof.Rows (envOfC)

/-! ### statements that may raise an own error -/
inductive OutX where
  | n (o : Out)
  | x (c : Str) (fs : List (Str × D))
abbrev XS := List Sl → Option OutX
/-- the error of the class cls with the dict d is one of the class named c with these fields -/
def ExOk (K : PySem.W.Frag) (mg : Str → Option Value) (F' H' : Hp) (cls : Value) (d : Option Addr) (c : Str) (fs : List (Str × D)) : Prop :=
  ∃ (C dx : Addr) (vs : List (Str × V)), cls = .ref C ∧ mg c = some (.ref C) ∧ d = some dx ∧ F' dx = some (.xd vs) ∧ vs.map (·.1) = fs.map (·.1) ∧ DpAll K F' (vs.map (·.2)) (fs.map (·.2))
def EndsX (K : PySem.W.Frag) (mg : Str → Option Value) (W : Wd) (Wx : WX) (F : Hp) (D : Ends) : OutX → Prop
  | .n o => EndsOk K W F D o
  | .x c fs => ∀ cls d σ' F' H', Same F F' → Same F' H' → (∀ b o, F' b = some o → W.F0 b = some o ∨ W.H0 b = none) → (∀ b o, W.H0 b = some o → (∀ i, W.P i ≠ some b) → H' b = some o) → ExOk K mg F' H' cls d c fs → Wx cls d σ' H'
theorem EndsX.mono {K : PySem.W.Frag} {mg : Str → Option Value} {W : Wd} {Wx : WX} {F F1 : Hp} {D : Ends} {o : OutX} (e : Same F F1) (h : EndsX K mg W Wx F D o) : EndsX K mg W Wx F1 D o := by
  cases o with
  | n o => exact EndsOk.mono e h
  | x c fs => exact fun cls d σ' F' H' s => h cls d σ' F' H' (e.trans s)
def tX (K : PySem.W.Frag) (mg : Str → Option Value) (W : Wd) (Wx : WX) (g : XS) : TS := fun D σ H => ∃ F st o, Rel K W F H σ st ∧ g st = some o ∧ EndsX K mg W Wx F D o
abbrev DX (X : Cx) (W : Wd) (Wx : WX) (s : Stmt) (g : XS) : Prop := PS X s (tX X.K X.mg W Wx g)
abbrev DXs (X : Cx) (W : Wd) (Wx : WX) (s : List Stmt) (g : XS) : Prop := PSs X s (tX X.K X.mg W Wx g)
def xLift (g : SS) : XS := fun st => (g st).map .n
def xNext : XS := fun st => some (.n (.nx st))
def xSeq (f g : XS) : XS := fun st => (f st).bind fun o => match o with
  | .n (.nx st') => g st'
  | o => some o
def xIf (c : BS) (f g : XS) : XS := fun st => (c st).bind fun r => if r.1 then f r.2 else g r.2
def forX (t : GS) (body : XS) : List D → XS
  | [], st => some (.n (.nx st))
  | x :: xs, st => (t x st).bind fun st1 => (body st1).bind fun o => match o with
    | .n (.nx st') => forX t body xs st'
    | .n (.ct st') => forX t body xs st'
    | .n (.bk st') => some (.n (.nx st'))
    | o => some o
def xFor (t : GS) (it : AS) (body : XS) : XS := fun st => (it st).bind fun r => forX t body r.1 r.2
def xRaise (c : Str) (ns : List Str) (u : AS) : XS := fun st => (u st).bind fun r => if r.1.length = ns.length then some (.x c (ns.zip r.1).reverse) else none
section
variable {X : Cx} {W : Wd} {Wx : WX} {s : Stmt} {rest : List Stmt} {a b e : Expr} {f g : XS} {u : AS} {c : BS} {pos : Pos} {tg iter : Expr} {t : GS}
theorem dx_of {g : SS} (h : DS X W s g) : DX X W Wx s (xLift g) := ps_imp h fun D σ H ⟨F, st, o, R, e, k⟩ => by
  obtain ⟨o1, e1, rfl⟩ := Option.map_eq_some_iff.mp e
  exact ⟨F, st, o1, R, e1, k⟩
theorem dxs_nil : DXs X W Wx [] xNext := pss_imp pss_nil fun D σ H ⟨F, st, o, R, e, k⟩ => by
  cases e
  exact k σ F H R (Same.refl _)
theorem dxs_cons (h1 : DX X W Wx s f) (h2 : DXs X W Wx rest g) : DXs X W Wx (s :: rest) (xSeq f g) := pss_imp (pss_cons h1 h2) fun D σ H ⟨F, st, o, R, e, k⟩ => by
  unfold xSeq at e
  obtain ⟨o1, e1, e⟩ := Option.bind_eq_some_iff.mp e
  refine ⟨F, st, o1, R, e1, ?_⟩
  cases o1 with
  | x c fs => cases e; exact k
  | n o1 =>
    cases o1 with
    | nx st' => exact fun σ' F' H' R' s' => ⟨F', st', o, R', e, k.mono s'⟩
    | rt x st => cases e; exact k
    | ro xs st => cases e; exact k
    | bk st => cases e; exact k
    | ct st => cases e; exact k
theorem dxs_one (h1 : DX X W Wx s f) : DXs X W Wx [s] f := pss_one h1
theorem dx_if {c' : Expr} {x y : List Stmt} (hc : DT X W c' c) (ha : DXs X W Wx x f) (hb : DXs X W Wx y g) : DX X W Wx (.If c' x y pos) (xIf c f g) := ps_imp (ps_if hc ha hb) fun D σ H ⟨F, st, o, R, e, k⟩ => by
  unfold xIf at e
  obtain ⟨r1, e1, e⟩ := Option.bind_eq_some_iff.mp e
  refine ⟨F, st, r1, R, e1, fun F1 H1 R1 s1 => ?_⟩
  obtain ⟨d, r1b⟩ := r1
  cases d with
  | true => exact ⟨F1, r1b, o, R1, e, k.mono s1⟩
  | false => exact ⟨F1, r1b, o, R1, e, k.mono s1⟩
theorem dx_for {body : List Stmt} {it : AS} (hp : PassesOwn (model X.prog X.w) X.A X.env X.xe) (hc : X.calm = true) (hi : DI X W tg iter it) (hg : DG X W tg t) (hb : DXs X W Wx body g) (hs : ∀ x, foldedSetIterable iter X.env x = pure x := by intro _; rfl) :
    DX X W Wx (.For tg iter body [] pos) (xFor t it g) := by
  obtain ⟨wi, pi, ki⟩ := hi
  obtain ⟨gg, pg, kg⟩ := hg
  refine ps_imp (ps_for hp hc pi pg hb hs) fun D σ H ⟨F, st, o, R, e, k⟩ => ?_
  unfold xFor at e
  obtain ⟨r1, e1, e⟩ := Option.bind_eq_some_iff.mp e
  refine ki σ H _ F st r1 R e1 fun J F1 H1 R1 s1 wk => ?_
  refine ⟨fun i m σ H => m = r1.1.length - i ∧ i ≤ r1.1.length ∧ ∃ F st, Rel X.K W F H σ st ∧ Same F1 F ∧ forX t g (r1.1.drop i) st = some o, ⟨r1.1.length, by simp, Nat.zero_le _, F1, r1.2, R1, Same.refl _, e⟩, ?_⟩
  rintro i m σ2 H2 ⟨rfl, hi, F2, st2, R2, s2, e2⟩
  by_cases hlt : i < r1.1.length
  · rw [List.drop_eq_getElem_cons hlt] at e2
    obtain ⟨st3, e3, e2⟩ := Option.bind_eq_some_iff.mp e2
    obtain ⟨o3, e4, e2⟩ := Option.bind_eq_some_iff.mp e2
    refine .inr ⟨wk.go i F2 H2 σ2 st2 R2 s2 hlt, fun σ H => i + 1 ≤ r1.1.length ∧ ∃ F st, Rel X.K W F H σ st ∧ Same F1 F ∧ forX t g (r1.1.drop (i + 1)) st = some o, fun σ' H' ⟨q1, q2⟩ => ⟨r1.1.length - (i + 1), by omega, rfl, q1, q2⟩, fun x H3 y => ?_⟩
    obtain ⟨F3, up, s3, d3, _⟩ := wk.yld i x F2 H2 H3 σ2 st2 R2 s2 y _ (List.getElem?_eq_getElem hlt)
    refine kg F3 H3 σ2 st2 x _ st3 _ (up _ _ _ R2) d3 e3 fun σ4 F4 H4 R4 s4 => ?_
    refine ⟨F4, st3, o3, R4, e4, ?_⟩
    have s14 : Same F1 F4 := s2.trans (s3.trans s4)
    cases o3 with
    | x c fs =>
      cases e2
      exact (k.mono (s1.trans s14) : EndsX X.K X.mg W Wx F4 D (.x c fs))
    | n o3 =>
      cases o3 with
      | nx st' => exact fun σ' F' H' R' s' => ⟨hlt, F', st', R', s14.trans s', e2⟩
      | ct st' => exact fun σ' F' H' R' s' => ⟨hlt, F', st', R', s14.trans s', e2⟩
      | bk st' =>
        cases e2
        exact fun σ' F' H' R' s' => k σ' F' H' R' (s1.trans (s14.trans s'))
      | rt x st' =>
        cases e2
        exact (k.mono (s1.trans s14) : EndsX X.K X.mg W Wx F4 D (.n (.rt x st')))
      | ro xs st' =>
        cases e2
        exact (k.mono (s1.trans s14) : EndsX X.K X.mg W Wx F4 D (.n (.ro xs st')))
  · have e5 : i = r1.1.length := by omega
    subst e5
    rw [List.drop_length] at e2
    cases e2
    exact .inl ⟨wk.stop _ F2 H2 σ2 st2 R2 s2 (Nat.le_refl _), k σ2 F2 H2 R2 (s1.trans s2)⟩
/-- the own __init__ of an error class: each parameter becomes the field of its name -/
def spInit (C : Addr) (ns : List Str) : Sp := fun vs H Q _ => ∃ (a : Addr) (us : List V), vs = .ref a :: us ∧ us.length = ns.length ∧ H a = some (exo a C none) ∧
  ∀ dx, H dx = none → dx ≠ a → Q .non (upd (upd H dx (exd dx (ns.zip us).reverse)) a (exo a C (some dx)))
/-- what the written part says of an error class -/
structure XcOk (P : Program) (w : World) (K : PySem.W.Frag) (mg : Str → Option Value) (base : Heap) (c : Str) (ns : List Str) (C : Addr) (k : Nat) : Prop where
  cls : OexC K C
  m : mg c = some (.ref C)
  ini : ∃ (fI : Addr) (fd : FuncData) (ps : List Str), PySem.W.findIn K (.ref C) "__init__" = some (some (.ref fI)) ∧ PySem.W.typeIn K (.ref fI) = some (.type "function") ∧ Binds K fd ps [] ∧ FnOk P w K mg base CX0 k fI fd ps (spInit C ns)
theorem zip_rev_fst {ns : List Str} {us : List V} (h : us.length = ns.length) : (ns.zip us).map (·.1) = ns := by
  rw [List.map_fst_zip]
  omega
theorem zip_rev_snd {α : Type} {ns : List Str} {us : List α} (h : us.length = ns.length) : (ns.zip us).map (·.2) = us := by
  rw [List.map_snd_zip]
  omega
theorem dx_raise {k : Nat} {x : Str} {ns : List Str} {C : Addr} {es : List Expr} {p pos' : Pos} (T : XcOk X.prog X.w X.K X.mg X.base x ns C k) (hr : Room (k + 1) X.A) (hc : X.calm = true) (tk : Takes X Wx) (ha : DA X W (e :: es) u) (hg : Gl X x := by rfl)
    (hn : ns.length ≤ 100 := by decide)
    (hdb : (x == ("__debug__" : Str)) = false := by decide) (he : starEach (e :: es) X.env = (false, eval e X.env) :: starEach es X.env := by rfl) (hpl : (backTo pos' (starEach es X.env)).any (·.1) = false := by rfl) :
    DX X W Wx (.Raise (some (.Call (.Name x p) (e :: es) [] pos')) none pos) (xRaise x ns u) := by
  obtain ⟨fI, fd, ps, iC, tI, hb, F1⟩ := T.ini
  refine ps_imp (ps_raise hc tk (pmk_oex T.cls iC tI F1 hr hb .nil pass0 hg T.m ha hdb he hpl)) fun D σ H ⟨F, st, o, R, e, k⟩ => ?_
  unfold xRaise at e
  obtain ⟨r1, e1, e⟩ := Option.bind_eq_some_iff.mp e
  split at e
  · rename_i hl
    cases e
    refine ⟨F, st, r1, R, e1, fun vs F1 H1 R1 s1 d1 => ?_⟩
    have hvl : vs.length = ns.length := by rw [DpAll.length d1, hl]
    refine ⟨by omega, fun a ha1 => ⟨a, vs, by rw [List.append_nil], hvl, upd_same, fun dx hdx hne => ?_⟩⟩
    have hdx1 : H1 dx = none := by rw [upd_ne hne] at hdx; exact hdx
    refine ⟨rfl, dx, (ns.zip vs).reverse, upd_same, by rw [upd_ne hne]; exact upd_same, hdx1, ?_⟩
    have R2 : Rel X.K W (upd F1 dx (.xd (ns.zip vs).reverse)) (upd H1 dx (.xd (ns.zip vs).reverse)) σ r1.2 := R1.laid hdx1
    have eH : upd (del (upd (upd (upd H1 a (exo a C none)) dx (exd dx (ns.zip vs).reverse)) a (exo a C (some dx))) a) dx (.xd (ns.zip vs).reverse) = upd H1 dx (.xd (ns.zip vs).reverse) := by
      funext b
      by_cases h1 : b = dx
      · subst h1; rw [upd_same, upd_same]
      · rw [upd_ne h1, upd_ne h1]
        by_cases h2 : b = a
        · subst h2; rw [del_same, ha1]
        · rw [del_ne h2, upd_ne h2, upd_ne h1, upd_ne h2]
    rw [eH]
    have hF1 : F1 dx = none := R1.fh.free hdx1
    have sF : Same F1 (upd F1 dx (.xd (ns.zip vs).reverse)) := same_upd hF1
    refine k _ _ σ _ _ (s1.trans sF) R2.fh R2.new R2.frm ⟨C, dx, (ns.zip vs).reverse, rfl, T.m, rfl, upd_same, ?_, ?_⟩
    · rw [List.map_reverse, List.map_reverse, zip_rev_fst hvl, List.map_fst_zip (by omega)]
    · rw [List.map_reverse, List.map_reverse, zip_rev_snd hvl, zip_rev_snd hl]
      exact DpAll.rev (dpAllMono sF _ _ d1)
  · cases e
end
/-! ### a def that may raise -/
inductive ResX where
  | n (r : Res)
  | x (c : Str) (fs : List (Str × D))
abbrev PX := List D → Option ResX
def spPX (K : PySem.W.Frag) (mg : Str → Option Value) (n : Nat) (g : PX) : Sp := fun vs H Q E => vs.length = n ∧ ∃ F ds r, Same F H ∧ DpAll K F vs ds ∧ g ds = some r ∧ match r with
  | .n r => ∀ v F' H', Same F F' → Same F' H' → (∀ b o, F' b = some o → F b = some o ∨ H b = none) → Same H H' → ResOk K F' H' H v r → Q v H'
  | .x c fs => ∀ cls d F' H', Same F F' → Same F' H' → (∀ b o, F' b = some o → F b = some o ∨ H b = none) → Same H H' → ExOk K mg F' H' cls d c fs → E cls d H'
def outX : OutX → Option ResX
  | .n o => (outP o).map .n
  | .x c fs => some (.x c fs)
def runX (m n : Nat) (g : XS) : PX := fun ds => if ds.length = n then (g (startD m ds)).bind outX else none
section
variable {P : Program} {w : World} {K : PySem.W.Frag} {mg : Str → Option Value} {base : Heap} {x qual : Str} {st : Stmt} {f : Addr} {fd : FuncData} {N ps : List Str} {k : Nat} {g : XS}
theorem okX (F : Fun K x qual st f fd) (S : FnScope N ps (defScope st))
    (hb : ∀ (cdv : Value) (A : Around) (outer : List Env) (s : Shared) (H : Hp) (E : XK) (W : Wd), Room k (A.deeper (envOfC qual (defScope st) s.heap.objs.size f cdv)) → (∀ i, W.P i = none) →
      DXs (cxOf (L2.CX P w) P w K mg base N qual (defScope st) f cdv A outer s H E) W (fun cls d _ H => E cls d H) (defBody st) g) : FnOk P w K mg base (L2.CX P w) (k + 1) f fd ps (spPX K mg ps.length (runX N.length ps.length g)) := by
  refine F.okX S (fun vs H Q E h => h.1) (fun cdv A outer s H vs Q E hr h => ?_)
  obtain ⟨hl, F0, ds, r, sm, dp, e, k'⟩ := h
  unfold runX at e
  split at e
  · rename_i hds
    obtain ⟨o, e1, e2⟩ := Option.bind_eq_some_iff.mp e
    refine ⟨_, hb cdv A outer s H E ⟨F0, H, fun _ => none⟩ hr (fun _ => rfl), F0, startD N.length ds, o, ?_, e1, ?_⟩
    · refine ⟨sm, Same.refl _, fun b o e => .inl e, fun b o e _ => e, ?_, fun i x q => ?_, fun i xs q => ?_, fun i j xs ys a _ q _ _ => ?_, fun i a q => by cases q⟩
      · rw [start_len (by rw [hl]; exact pre_le S), startD_len (by rw [hds]; exact pre_le S)]
      · rcases startD_at q with z | ⟨y, q1, z⟩
        · cases z
        · cases z
          obtain ⟨v, h1, h2⟩ := DpAll.get dp q1
          exact ⟨v, start_at h1, h2⟩
      · rcases startD_at q with z | ⟨y, q1, z⟩ <;> cases z
      · rcases startD_at q with z | ⟨y, q1, z⟩ <;> cases z
    · cases o with
      | x c fs =>
        cases e2
        exact fun cls d σ' F' H' s1 s2 new frm ex => k' cls d F' H' s1 s2 new (fun b o e => frm b o e fun i z => by cases z) ex
      | n o =>
        obtain ⟨r1, e3, rfl⟩ := Option.map_eq_some_iff.mp e2
        cases o with
        | nx st' =>
          cases e3
          exact fun σ' F' H' R' s' => k' .non F' H' s' R'.fh R'.new (fun b o e => R'.frm b o e fun i z => by cases z) .non
        | rt x st' =>
          cases e3
          exact fun v σ' F' H' R' s' d' => k' v F' H' s' R'.fh R'.new (fun b o e => R'.frm b o e fun i z => by cases z) d'
        | ro xs st' =>
          cases e3
          exact fun a vs' σ' F' H' R' s' h1 h2 h3 d' => k' (.ref a) F' H' s' R'.fh R'.new (fun b o e => R'.frm b o e fun i z => by cases z) ⟨a, vs', rfl, h1, h2, h3, d'⟩
        | bk st' => cases e3
        | ct st' => cases e3
  · cases e
end
end DL

set_option Elab.async false
set_option linter.all false
set_option maxRecDepth 100000
set_option maxHeartbeats 4000000
namespace DL
open PySem PySem.Spec L2

/-! ### more of lists and texts -/
section
variable {X : Cx} {W : Wd} {a b e e' : Expr} {f g u : ES} {o o' : OS} {pos apos cpos : Pos}
theorem DpAll.flat {K : PySem.W.Frag} {F : Hp} {vs : List V} {xs : List D} (h : DpAll K F vs xs) : ∀ n : Nat, DpAll K F (List.replicate n vs).flatten (List.replicate n xs).flatten
  | 0 => .nil
  | n + 1 => by
    rw [List.replicate_succ, List.replicate_succ, List.flatten_cons, List.flatten_cons]
    exact DpAll.append h (DpAll.flat h n)
/-- a new list times an int -/
def oRep (o : OS) (g : ES) : OS := fun st => (o st).bind fun r => (g r.2).bind fun q => match q.1 with
  | .int k => if k ≤ 1000 ∧ r.1.length ≤ 1000 ∧ 0 ≤ k then some ((List.replicate k.toNat r.1).flatten, q.2) else none
  | _ => none
theorem do_rep (ha : DO X W a o) (hb : DE X W b g) : DO X W (.BinOp a .Mult b pos) (oRep o g) := pe_imp (pe_op op_rep ha hb) fun σ H Q ⟨F, st, z, R, e, k⟩ => by
  unfold oRep at e
  obtain ⟨r1, e1, e⟩ := Option.bind_eq_some_iff.mp e
  obtain ⟨r2, e2, e⟩ := Option.bind_eq_some_iff.mp e
  split at e
  · rename_i n hn
    split at e
    · rename_i hl
      cases e
      refine ⟨F, st, r1, R, e1, fun a vs F1 H1 R1 s1 h1 fr1 d1 => ?_⟩
      have e5 : Same F1 (upd F1 a (.lst vs)) := same_upd fr1.1
      refine ⟨_, r1.2, r2, R1.freeze h1 fr1.1 fr1.2.1 fr1.2.2, e2, fun b F2 H2 R2 s2 d2 => ?_⟩
      have h1' : H2 a = some (.lst vs) := R2.fh _ _ (s2 _ _ upd_same)
      rw [hn] at d2
      have hvl := DpAll.length d1
      have hm : vs.length * n.toNat ≤ 1000 * 1000 := Nat.mul_le_mul (by omega) (by omega)
      refine ⟨a, n, vs, rfl, dp_int d2, h1', by omega, by omega, Nat.le_trans hm (by decide), fun p hp => ?_⟩
      obtain ⟨fr, R3⟩ := R2.fresh (o := .lst (List.replicate n.toNat vs).flatten) hp
      exact k _ _ _ _ R3 (s1.trans (e5.trans s2)) upd_same fr (DpAll.flat (dpAllMono (e5.trans s2) _ _ d1) _)
    · cases e
  · cases e
/-- a list of one's own and a new one -/
def oCatN (i : Nat) (o : OS) : OS := fun st => match st[i]? with
  | some (.own _) => (o st).bind fun q => match q.2[i]? with
    | some (.own xs) => if xs.length + q.1.length ≤ sizeLine then some (xs ++ q.1, q.2) else none
    | _ => none
  | _ => none
theorem do_catN (i : Nat) {x : Str} {px : Pos} (hb : DO X W b o) (hN : X.N[i]? = some x := by rfl) (hv : Vis X.env.scope x := by first | exact Or.inl rfl | exact Or.inr (Or.inl rfl) | exact Or.inr (Or.inr rfl)) (hd : (x == ("__debug__" : Str)) = false := by decide)
    (hcd : (x == ("__classdict__" : Str)) = false := by decide) : DO X W (.BinOp (.Name x px) .Add b pos) (oCatN i o) := pe_imp (pe_op op_cat (pe_var (i := i) hN hv hd hcd) hb) fun σ H Q ⟨F, st, z, R, e, k⟩ => by
  unfold oCatN at e
  split at e
  · rename_i ys hy
    obtain ⟨a, vs0, h1, _⟩ := R.own i ys hy
    obtain ⟨r1, e1, e⟩ := Option.bind_eq_some_iff.mp e
    split at e
    · rename_i xs hx
      split at e
      · rename_i hl
        cases e
        refine ⟨_, h1, F, st, r1, R, e1, fun b vs F1 H1 R1 s1 hb1 fr1 d1 => ?_⟩
        obtain ⟨a', ws, g1, g2, g3, g4, _⟩ := R1.own i xs hx
        rw [h1] at g1
        cases g1
        refine ⟨a, b, ws, vs, rfl, rfl, g2, hb1, by rw [DpAll.length g4, DpAll.length d1]; exact hl, fun p hp => ?_⟩
        obtain ⟨fr, R3⟩ := R1.fresh (o := .lst (ws ++ vs)) hp
        exact k _ _ _ _ R3 s1 upd_same fr (DpAll.append g4 d1)
      · cases e
    · cases e
  · cases e
/-- a text times an int -/
theorem op_mulS : OpR X (binaryOp .Mult) (fun x y H Q => ∃ (i : Str) (n : Int), x = .str i ∧ y = .int n ∧ MulOk i n ∧ Q (.str (Txt.mul i n)) H) := by
  intro pins s σ H x y v u Q I rx ry h
  obtain ⟨i, j, rfl, rfl, hz, q⟩ := h
  obtain ⟨t, rfl⟩ := rx
  obtain ⟨t', rfl⟩ := ry
  exact SB.mul hz (fun t' k => ⟨.str _, H, I.tok _, ⟨_, rfl⟩, q⟩)
theorem mulOk_of {x : Str} {n : Int} (h0 : 0 ≤ n) (h1 : n ≤ 1000) (hx : x.length ≤ 1000) : MulOk x n := by
  have hm : x.length * n.toNat ≤ 1000 * 1000 := Nat.mul_le_mul hx (by omega)
  refine ⟨?_, fun h _ => ?_, fun _ _ => ?_⟩
  · rw [Bool.or_eq_false_iff]
    exact ⟨decide_eq_false (by omega), decide_eq_false (by omega)⟩
  · have hn : 0 < n := by omega
    intro hh
    have h2 : (x.length : Int) ≤ (2 ^ 63 - 1) / n := by
      apply (Int.le_ediv_iff_mul_le hn).mpr
      have h3 : (x.length : Int) * n ≤ 1000 * 1000 := by
        have h4 : (x.length : Int) * n ≤ 1000 * n := Int.mul_le_mul_of_nonneg_right (by omega) (by omega)
        omega
      omega
    omega
  · unfold Builtin.Str.tooLong
    rw [sizeLine_eq]
    exact decide_eq_false (by omega)
def dMulS : D → D → Option D
  | .str x, .int n => if 0 ≤ n ∧ n ≤ 1000 ∧ (codes x).length ≤ 1000 then some (.str (Txt.mul x n)) else none
  | _, _ => none
theorem de_mulS (ha : DE X W a f) (hb : DE X W b g) : DE X W (.BinOp a .Mult b pos) (eBin dMulS f g) := pe_imp (pe_op op_mulS ha hb) fun σ H Q ⟨F, st, z, R, e, k⟩ => by
  unfold eBin at e
  obtain ⟨r1, e1, e⟩ := Option.bind_eq_some_iff.mp e
  obtain ⟨r2, e2, e⟩ := Option.bind_eq_some_iff.mp e
  obtain ⟨c, e3, e⟩ := Option.map_eq_some_iff.mp e
  cases e
  refine ⟨F, st, r1, R, e1, fun v F1 H1 R1 s1 d1 => ⟨F1, r1.2, r2, R1, e2, fun w F2 H2 R2 s2 d2 => ?_⟩⟩
  unfold dMulS at e3
  split at e3
  · rename_i x n hx hn
    split at e3
    · rename_i hc
      cases e3
      rw [hx] at d1
      rw [hn] at d2
      exact ⟨x, n, dp_str d1, dp_int d2, mulOk_of hc.1 hc.2.1 (by have := hc.2.2; rwa [← codes_len] at this), k _ F2 H2 R2 (s1.trans s2) (.str _)⟩
    · cases e3
  · cases e3
/-- x.find(y) -/
def dFind : D → D → Option D
  | .str x, .str y => some (.int (Txt.find x y))
  | _, _ => none
theorem de_find (ho : DE X W a f) (he : DE X W e g) (hbase : attributeBase a "find" X.env (eval a X.env) = eval a X.env := by rfl)
    (hfew : ((backTo cpos (starEach [e] X.env)).all (fun x => !x.1) && (backToKw cpos (keywordEach [] X.env)).all (fun x => x.1.isSome)
      && decide ([e].length + ([] : List Keyword).length + (if ([] : List Keyword).isEmpty then 0 else 1) < 30)) = true := by rfl)
    (hs' : starEach [e] X.env = (false, eval e X.env) :: starEach [] X.env := by rfl) (hline : (apos.endLine == cpos.line) = true := by rfl) (hplain : (backTo cpos (starEach [] X.env)).any (·.1) = false := by rfl) :
    DE X W (.Call (.Attribute a "find" apos) [e] [] cpos) (eBin dFind f g) := pe_imp (pe_bm PySem.F.plainAttrs_str PySem.F.slot_str_find PySem.F.type_str_find mt_find ho (pa_cons he pa_nil hs') hbase hfew hline hs' hplain) fun σ H Q ⟨F, st, z, R, e, k⟩ => by
  unfold eBin at e
  obtain ⟨r1, e1, e⟩ := Option.bind_eq_some_iff.mp e
  obtain ⟨r2, e2, e⟩ := Option.bind_eq_some_iff.mp e
  obtain ⟨c, e3, e⟩ := Option.map_eq_some_iff.mp e
  cases e
  refine ⟨F, st, r1, R, e1, fun v F1 H1 R1 s1 d1 => ?_⟩
  unfold dFind at e3
  split at e3
  · rename_i x y hx hy
    cases e3
    rw [hx] at d1
    have d1' := dp_str d1
    subst d1'
    refine ⟨rfl, F1, r1.2, r2, R1, e2, fun w F2 H2 R2 s2 d2 => ?_⟩
    rw [hy] at d2
    have d2' := dp_str d2
    subst d2'
    exact ⟨x, y, rfl, rfl, k _ F2 H2 R2 (s1.trans s2) (.int _)⟩
  · cases e3
/-- a, b, .. = a list -/
def gLstD (u : List D → List Sl → Option (List Sl)) : GS := fun x st => match x with
  | .list xs => u xs st
  | _ => none
theorem dg_lst {es : List Expr} {kk : Nat} {u : List D → List Sl → Option (List Sl)} {n : Nat} (hc : X.calm = true) (h : DGs X W es u) (hu : ∀ xs st st', u xs st = some st' → xs.length = n) (hn : (assignEach es X.env).length = n := by rfl)
    (hst : (assignEach es X.env).findIdx? (·.1) = none := by rfl) : DG X W (.Tuple es kk pos) (gLstD u) := by
  obtain ⟨g1, p1, k1⟩ := h
  refine ⟨gLst X.K n g1, pg_lst hc p1 hn hst, fun F H σ st v x st' Q R d e k => ?_⟩
  unfold gLstD at e
  split at e
  · rename_i xs
    obtain ⟨a, vs, rfl, h1, h2⟩ := dp_list d
    exact ⟨a, vs, rfl, R.fh.seq h1, by rw [DpAll.length h2]; exact hu _ _ _ e, k1 F H σ st _ _ st' Q R h2 e k⟩
  · cases e
/-- x.insert(i, e) -/
def sIns (i : Nat) (ix u : ES) : SS := fun st => match st[i]? with
  | some (.own _) => (ix st).bind fun p => (u p.2).bind fun r => match r.2[i]? with
    | some (.own xs) => match p.1 with
      | .int z => if xs.length < 16000000 ∧ 0 ≤ z ∧ z ≤ 16000000 then some (.nx (r.2.set i (.own (xs.take z.toNat ++ [r.1] ++ xs.drop z.toNat)))) else none
      | _ => none
    | _ => none
  | _ => none
theorem ds_ins (i : Nat) {x : Str} {px : Pos} (hi : DE X W e f) (he : DE X W e' u) (hN : X.N[i]? = some x := by rfl) (hv : Vis X.env.scope x := by first | exact Or.inl rfl | exact Or.inr (Or.inl rfl) | exact Or.inr (Or.inr rfl)) (hd : (x == ("__debug__" : Str)) = false := by decide)
    (hcd : (x == ("__classdict__" : Str)) = false := by decide) (hs' : starEach [e, e'] X.env = (false, eval e X.env) :: starEach [e'] X.env := by rfl) (hs2 : starEach [e'] X.env = (false, eval e' X.env) :: starEach [] X.env := by rfl)
    (hbase : attributeBase (.Name x px) "insert" X.env (eval (.Name x px) X.env) = eval (.Name x px) X.env := by rfl)
    (hfew : ((backTo cpos (starEach [e, e'] X.env)).all (fun x => !x.1) && (backToKw cpos (keywordEach [] X.env)).all (fun x => x.1.isSome)
      && decide ([e, e'].length + ([] : List Keyword).length + (if ([] : List Keyword).isEmpty then 0 else 1) < 30)) = true := by rfl)
    (hline : (apos.endLine == cpos.line) = true := by rfl) (hplain : (backTo cpos (starEach [e'] X.env)).any (·.1) = false := by rfl)
    (hs : swapsWith (.Call (.Attribute (.Name x px) "insert" apos) [e, e'] [] cpos) none pos.line X.env = pure false := by rfl) : DS X W (.Expr (.Call (.Attribute (.Name x px) "insert" apos) [e, e'] [] cpos) pos) (sIns i f u) :=
  ps_imp (ps_expr (pe_bm PySem.F.plainAttrs_list PySem.F.slot_list_insert PySem.F.type_list_insert mt_insert (pe_var (i := i) hN hv hd hcd) (pa_cons hi (pa_cons he pa_nil hs2) hs') hbase hfew hline hs' hplain) hs) fun D σ H ⟨F, st, o, R, e, k⟩ => by
  unfold sIns at e
  split at e
  · rename_i ys hy
    obtain ⟨a, vs, h1, h2, _⟩ := R.own i ys hy
    obtain ⟨p1, e1, e⟩ := Option.bind_eq_some_iff.mp e
    obtain ⟨r1, e2, e⟩ := Option.bind_eq_some_iff.mp e
    refine ⟨_, h1, .inl ⟨rfl, _, SqL.of h2⟩, F, st, p1, R, e1, fun w F1 H1 R1 s1 d1 => ⟨F1, p1.2, r1, R1, e2, fun w2 F2 H2 R2 s2 d2 => ?_⟩⟩
    split at e
    · rename_i xs hx
      split at e
      · rename_i z hz
        split at e
        · rename_i hc
          cases e
          obtain ⟨a', ws, g1, g2, g3, g4, _⟩ := R2.own i xs hx
          rw [h1] at g1
          cases g1
          rw [hz] at d1
          have d1' := dp_int d1
          subst d1'
          refine ⟨a, ws, z, w2, rfl, rfl, g2, by rw [DpAll.length g4]; exact small16 hc.1, hc.2.1, by omega, k _ F2 _ (R2.change hx h1 ?_) (s1.trans s2)⟩
          exact DpAll.append (DpAll.append (DpAll.take _ g4) (.cons d2 .nil)) (DpAll.drop _ g4)
        · cases e
      · cases e
    · cases e
  · cases e
end
/-! ### min of alike data -/
def notNoneD : D → Bool
  | .none => false
  | _ => true
def alikeB (xs : List D) : Bool := xs.all fun x => notNoneD x && xs.all fun y => PySem.W.alike x y
theorem alikeB_ok {xs : List D} (h : alikeB xs = true) : PySem.W.AlikeAll xs := by
  unfold alikeB at h
  rw [List.all_eq_true] at h
  refine ⟨fun x hx y hy => ?_, fun x hx z => ?_⟩
  · exact List.all_eq_true.mp (Bool.and_eq_true_iff.mp (h x hx)).2 y hy
  · have := (Bool.and_eq_true_iff.mp (h x hx)).1
    rw [z] at this
    cases this
def rMinD (K : PySem.W.Frag) : List V → Hp → VK → Prop := fun vs H Q => ∃ (a : Addr) (x : D) (xs : List D) (ws : List V), vs = [.ref a] ∧ SqL K H a ws ∧ DpAll K H ws (x :: xs) ∧ PySem.W.AlikeAll (x :: xs) ∧ PyData.canLayAll0 (x :: xs) = true ∧ PyData.depthAll (x :: xs) ≤ 60 ∧
  ∀ (i : Nat) (w : V), ws[i]? = some w → (x :: xs)[i]? = some (PySem.W.minD x xs) → Q w H
theorem can_get : ∀ {xs : List D} {i : Nat} {d : D}, PyData.canLayAll0 xs = true → xs[i]? = some d → d.canLay0 = true
  | [], _, _, _, e => by simp at e
  | x :: r, 0, d, h, e => by
    have h' : (PyData.canLay0 x && PyData.canLayAll0 r) = true := h
    simp at e
    rw [← e]
    exact (Bool.and_eq_true_iff.mp h').1
  | x :: r, i + 1, d, h, e => by
    have h' : (PyData.canLay0 x && PyData.canLayAll0 r) = true := h
    exact can_get (Bool.and_eq_true_iff.mp h').2 (by simpa using e)
theorem cr_minD {X : Cx} (hc : X.calm = true) (hu : X.A.units + 64 < cLine) : CallR X (.builtin "min") (rMinD X.K) := by
  intro pins s σ H vs us Q I r h
  obtain ⟨a, x, xs, ws, rfl, hs, dp, al, cl, dep, q⟩ := h
  obtain ⟨its, rv, hl, _⟩ := I.list hs
  rw [Vals.ref1 r]
  obtain ⟨as, ra⟩ := Dp.readsAll I (x :: xs) ws its dp rv
  have ra' : ReadsAll s.heap its.toArray.toList (x :: xs) as := by simpa using ra
  refine PySem.W.min_list_data (I.ok.hd hc) hl.isList ra' al (by omega) fun i v h' tk bs hi rd hk => ?_
  obtain ⟨bs2, rd2, hil, _, _⟩ := PySem.W.readsAll_at ra' i v (by simpa using hi)
  have hw : ∃ w, ws[i]? = some w ∧ RelV w v := by
    have hi' : its[i]? = some v := by simpa using hi
    have key : ∀ {ws : List V} {us : List Value} {i : Nat} {v : Value}, Vals ws us → us[i]? = some v → ∃ w, ws[i]? = some w ∧ RelV w v := by
      intro ws us i v r
      induction r generalizing i with
      | nil => intro e; simp at e
      | cons r1 _ ih =>
        intro e
        cases i with
        | zero => simp at e; subst e; exact ⟨_, rfl, r1⟩
        | succ j => exact ih (by simpa using e)
    exact key rv hi'
  obtain ⟨w, hw, rw'⟩ := hw
  have e1 : (x :: xs)[i]? = some ((x :: xs).getD i .none) := by
    rw [List.getD_eq_getElem?_getD, List.getElem?_eq_getElem hil]
    rfl
  have e2 : (x :: xs).getD i .none = PySem.W.minD x xs := SeqAt.plain_unique _ _ v _ _ (PyData.plain_of_canLay0 _ (can_get cl e1)) (PySem.W.reads_keeps hk rd2) rd
  rw [e2] at e1
  exact ⟨w, H, I.kept hk, rw', q i w hw e1⟩
def fMinL : List D → Option D
  | [.list (x :: xs)] => if alikeB (x :: xs) = true ∧ PyData.canLayAll0 (x :: xs) = true ∧ PyData.depthAll (x :: xs) ≤ 60 then some (PySem.W.minD x xs) else none
  | _ => none
theorem s_minL {K : PySem.W.Frag} : CallS K (rMinD K) fMinL := by
  intro W F H σ st vs ds c Q R hd e k
  unfold fMinL at e
  split at e
  · rename_i x xs
    split at e
    · rename_i hc
      cases e
      obtain ⟨v, rfl, d⟩ := dpa1 hd
      obtain ⟨a, ws, rfl, h1, h2⟩ := dp_list d
      refine ⟨a, x, xs, ws, rfl, R.fh.seq h1, dpAllMono R.fh _ _ h2, alikeB_ok hc.1, hc.2.1, hc.2.2, fun i w hw hm => ?_⟩
      obtain ⟨w', h3, h4⟩ := DpAll.get h2 hm
      rw [hw] at h3
      cases h3
      exact k w F H R (Same.refl _) h4
    · cases e
  · cases e
/-! ### m.join(xs), xs a list of one's own -/
def eJoinV (f : ES) (o : OS) : ES := fun st => (f st).bind fun r => (o r.2).bind fun q => (dJoin r.1 (.list q.1)).map fun z => (z, q.2)
section
variable {X : Cx} {W : Wd} {a b : Expr} {f : ES} {o : OS} {pos apos : Pos}
theorem de_joinV (ho : DE X W a f) (he : DV X W b o) (hs : starEach [b] X.env = [(false, eval b X.env)] := by rfl) (hbase : attributeBase a "join" X.env (eval a X.env) = eval a X.env := by rfl) (hline : (apos.endLine == pos.line) = true := by rfl) :
    DE X W (.Call (.Attribute a "join" apos) [b] [] pos) (eJoinV f o) := pe_imp (pe_join ho he hs hbase hline) fun σ H Q ⟨F, st, z, R, e, k⟩ => by
  unfold eJoinV at e
  obtain ⟨r1, e1, e⟩ := Option.bind_eq_some_iff.mp e
  obtain ⟨r2, e2, e⟩ := Option.bind_eq_some_iff.mp e
  obtain ⟨c, e3, e⟩ := Option.map_eq_some_iff.mp e
  cases e
  refine ⟨F, st, r1, R, e1, fun v F1 H1 R1 s1 d1 => ?_⟩
  unfold dJoin at e3
  split at e3
  · rename_i a' h1
    rw [h1] at d1
    rw [dp_str d1]
    refine ⟨⟨_, rfl⟩, F1, r1.2, r2, R1, e2, fun p vs F2 H2 R2 s2 g1 d2 => ?_⟩
    simp only at e3
    obtain ⟨ys, e4, e5⟩ := Option.bind_eq_some_iff.mp e3
    rw [strsOf_dp d2 e4] at g1
    split at e5
    · rename_i hl
      cases e5
      exact ⟨a', p, ys, rfl, rfl, .inl (SqL.of g1), hl, k _ F2 H2 R2 (s1.trans s2) (.str _)⟩
    · cases e5
  · cases e3
end
end DL

set_option Elab.async false
set_option linter.all false
set_option maxRecDepth 100000
set_option maxHeartbeats 4000000
namespace DL
open PySem PySem.Spec L2

/-! ### list comprehensions whose target is a couple of names -/
def wipe2 (st : List Sl) (i j : Nat) : List Sl := (st.set j .no).set i .no
def compT (i j : Nat) (c : BS) (f : ES) : List D → OS
  | [], st => some ([], st)
  | .tuple [a, b] :: xs, st => (c ((st.set i (.d a)).set j (.d b))).bind fun p => if p.1 then (f p.2).bind fun q => (compT i j c f xs (wipe2 q.2 i j)).map fun r => (q.1 :: r.1, r.2) else compT i j c f xs (wipe2 p.2 i j)
  | _, _ => none
def oCompT (i j : Nat) (c : BS) (f : ES) (it : AS) : OS := fun st => (it st).bind fun r => if (notOwn r.2 i && notOwn r.2 j) && decide (r.1.length ≤ 1000000) then compT i j c f r.1 (wipe2 r.2 i j) else none
section
variable {X : Cx} {W : Wd}
theorem own2 {st : List Sl} {i j : Nat} {k : Nat} {xs : List D} (q : (wipe2 st i j)[k]? = some (.own xs)) : k ≠ i ∧ k ≠ j ∧ st[k]? = some (.own xs) := by
  unfold wipe2 at q
  by_cases hi : k = i
  · subst hi
    by_cases hl : k < (st.set j .no).length
    · rw [List.getElem?_set_self hl] at q; cases q
    · rw [List.getElem?_eq_none (by rw [List.length_set]; omega)] at q; cases q
  · rw [List.getElem?_set_ne (Ne.symm hi)] at q
    by_cases hj : k = j
    · subst hj
      by_cases hl : k < st.length
      · rw [List.getElem?_set_self hl] at q; cases q
      · rw [List.getElem?_eq_none (by rw [List.length_set]; omega)] at q; cases q
    · rw [List.getElem?_set_ne (Ne.symm hj)] at q
      exact ⟨hi, hj, q⟩
theorem val2 {st : List Sl} {i j : Nat} {k : Nat} {x : D} (q : (wipe2 st i j)[k]? = some (.d x)) : k ≠ i ∧ k ≠ j := by
  unfold wipe2 at q
  by_cases hi : k = i
  · subst hi
    by_cases hl : k < (st.set j .no).length
    · rw [List.getElem?_set_self hl] at q; cases q
    · rw [List.getElem?_eq_none (by rw [List.length_set]; omega)] at q; cases q
  · rw [List.getElem?_set_ne (Ne.symm hi)] at q
    by_cases hj : k = j
    · subst hj
      by_cases hl : k < st.length
      · rw [List.getElem?_set_self hl] at q; cases q
      · rw [List.getElem?_eq_none (by rw [List.length_set]; omega)] at q; cases q
    · exact ⟨hi, hj⟩
theorem wipe2_idem {st : List Sl} {i j : Nat} : wipe2 (wipe2 st i j) i j = wipe2 st i j := by
  unfold wipe2
  by_cases h : i = j
  · subst h; simp [set_set]
  · have e : ((st.set j .no).set i .no).set j .no = (st.set j .no).set i .no := by rw [List.set_comm (l := st.set j .no) _ _ h, set_set]
    rw [e, set_set]
theorem Rel.other2 {K : PySem.W.Frag} {F H : Hp} {σ σ2 : L2.St} {st : List Sl} {i j : Nat} (R : Rel K W F H σ2 st) (hPi : W.P i = none) (hPj : W.P j = none) (e : (σ2.set j none).set i none = (σ.set j none).set i none) : Rel K W F H σ (wipe2 st i j) := by
  have R1 := (R.forget (i := j) (u := none) hPj).forget (i := i) (u := none) hPi
  rw [e] at R1
  have up : ∀ (k : Nat), k ≠ i → k ≠ j → ((σ.set j none).set i none)[k]? = σ[k]? := fun k hi hj => by rw [List.getElem?_set_ne (Ne.symm hi), List.getElem?_set_ne (Ne.symm hj)]
  refine ⟨R1.fh, R1.ff, R1.new, R1.frm, ?_, fun k x q => ?_, fun k xs q => ?_, fun k l xs ys a hkl q1 q2 q3 => ?_, fun k a q => ?_⟩
  · have := R1.len
    rw [List.length_set, List.length_set, List.length_set, List.length_set] at this
    unfold wipe2
    rw [List.length_set, List.length_set]
    exact this
  · obtain ⟨v, h1, h2⟩ := R1.val k x q
    obtain ⟨hi, hj⟩ := val2 q
    rw [up k hi hj] at h1
    exact ⟨v, h1, h2⟩
  · obtain ⟨a, vs, h1, h2⟩ := R1.own k xs q
    obtain ⟨hi, hj, _⟩ := own2 q
    rw [up k hi hj] at h1
    exact ⟨a, vs, h1, h2⟩
  · obtain ⟨hi, hj, _⟩ := own2 q1
    obtain ⟨hi', hj', _⟩ := own2 q2
    rw [← up k hi hj] at q3
    rw [← up l hi' hj']
    exact R1.apart k l xs ys a hkl q1 q2 q3
  · obtain ⟨h1, h2⟩ := R1.par k a q
    have hi : k ≠ i := fun z => by rw [z, hPi] at q; cases q
    have hj : k ≠ j := fun z => by rw [z, hPj] at q; cases q
    rw [up k hi hj] at h2
    exact ⟨h1, h2⟩
theorem lc_of2 {i j : Nat} {wi : TI} {it : AS} {c : BS} {f : ES} (hij : i ≠ j)
    (ki : ∀ (σ : L2.St) (H : Hp) (R : It → Hp → Prop) (F : Hp) (st : List Sl) (r : List D × List Sl), Rel X.K W F H σ st → it st = some r → (∀ J F' H', Rel X.K W F' H' σ r.2 → Same F F' → Wk X.K W J F' r.1 → R J H') → wi σ H R) :
    ∀ σ H Q, tO X.K W (oCompT i j c f it) σ H Q → tLc wi (gTup X.K 2 (gCons (gName i) (gCons (gName j) gNil))) (tTx X.K c) (tDx X.K f) [i, j] σ H Q := by
  intro σ H Q ⟨F, st, r, R, e, k⟩
  unfold oCompT at e
  obtain ⟨r1, e1, e⟩ := Option.bind_eq_some_iff.mp e
  split at e
  · rename_i hchk
    obtain ⟨hno, hlen⟩ := Bool.and_eq_true_iff.mp hchk
    obtain ⟨hno1, hno2'⟩ := Bool.and_eq_true_iff.mp hno
    have hlen := of_decide_eq_true hlen
    refine ki σ H _ F st r1 R e1 fun J F1 H1 R1 s1 wk => ?_
    intro D hD
    have hPi : W.P i = none := noP R1 hno1
    have hPj : W.P j = none := noP R1 hno2'
    obtain ⟨⟨f1, f2, f3⟩, R1'⟩ := R1.fresh (o := .lst []) hD
    have R1'' := (R1'.forget (i := j) (u := none) hPj).forget (i := i) (u := none) hPi
    have hw : wipe σ [i, j] = (σ.set j none).set i none := rfl
    have upσ : ∀ (k : Nat), k ≠ i → k ≠ j → ((σ.set j none).set i none)[k]? = σ[k]? := fun k hi hj => by rw [List.getElem?_set_ne (Ne.symm hi), List.getElem?_set_ne (Ne.symm hj)]
    refine ⟨fun n m H => m = r1.1.length - n ∧ n ≤ r1.1.length ∧ ∃ F st accV acc rest, Rel X.K W F H ((σ.set j none).set i none) st ∧ wipe2 st i j = st ∧ Same F1 F ∧ H D = some (.lst accV) ∧ F D = none ∧
        (∀ (k : Nat) (xs : List DL.D), st[k]? = some (.own xs) → ((σ.set j none).set i none)[k]? ≠ some (some (.ref D))) ∧ DpAll X.K F accV acc ∧ compT i j c f (r1.1.drop n) st = some rest ∧ r = (acc ++ rest.1, rest.2) ∧ acc.length ≤ n,
      ⟨r1.1.length, by simp, Nat.zero_le _, F1, wipe2 r1.2 i j, [], [], r, R1'', wipe2_idem, Same.refl _, upd_same, f1, fun k xs q => ?_, .nil, e, rfl, Nat.le_refl _⟩, ?_⟩
    · obtain ⟨hi, hj, q⟩ := own2 q
      rw [upσ k hi hj]
      exact f3 k xs q
    · rintro n m H2 ⟨rfl, hn, F2, st2, accV, acc, rest, R2, hst, s2, hD2, hF2, hno2, dacc, ec, er, hacc⟩
      by_cases hlt : n < r1.1.length
      · rw [List.drop_eq_getElem_cons hlt] at ec
        have hx : ∃ a b, r1.1[n] = .tuple [a, b] := by
          generalize r1.1[n] = x at ec
          have hdef : compT i j c f (x :: r1.1.drop (n + 1)) st2 = none ∨ ∃ a b, x = .tuple [a, b] := by
            cases x with
            | tuple zs =>
              match zs with
              | [a, b] => exact .inr ⟨a, b, rfl⟩
              | [] => exact .inl rfl
              | [_] => exact .inl rfl
              | _ :: _ :: _ :: _ => exact .inl rfl
            | none => exact .inl rfl
            | bool _ => exact .inl rfl
            | int _ => exact .inl rfl
            | str _ => exact .inl rfl
            | list _ => exact .inl rfl
            | dict _ => exact .inl rfl
          rcases hdef with h | h
          · rw [h] at ec; cases ec
          · exact h
        obtain ⟨xa, xb, hx⟩ := hx
        have hd : r1.1[n]? = some (.tuple [xa, xb]) := by rw [List.getElem?_eq_getElem hlt, hx]
        rw [hx] at ec
        obtain ⟨p, ec1, ec⟩ := Option.bind_eq_some_iff.mp ec
        refine .inr ⟨wk.go n F2 H2 _ st2 R2 s2 hlt, fun H => n + 1 ≤ r1.1.length ∧ ∃ F st accV acc rest, Rel X.K W F H ((σ.set j none).set i none) st ∧ wipe2 st i j = st ∧ Same F1 F ∧ H D = some (.lst accV) ∧ F D = none ∧
          (∀ (k : Nat) (xs : List DL.D), st[k]? = some (.own xs) → ((σ.set j none).set i none)[k]? ≠ some (some (.ref D))) ∧ DpAll X.K F accV acc ∧ compT i j c f (r1.1.drop (n + 1)) st = some rest ∧ r = (acc ++ rest.1, rest.2) ∧ acc.length ≤ n + 1,
          fun H' ⟨q1, q2⟩ => ⟨r1.1.length - (n + 1), by omega, rfl, q1, q2⟩, fun x H3 y => ?_⟩
        obtain ⟨F3, up, s3, d3, _⟩ := wk.yld n x F2 H2 H3 _ st2 R2 s2 y _ hd
        have R3 := up _ _ _ R2.shift
        have hPs : ∀ k, (k = i ∨ k = j) → (shift F2 H2 ((σ.set j none).set i none) st2).P k = none := fun k hk => by
          show ownAt ((σ.set j none).set i none) st2 k = none
          cases q : ownAt ((σ.set j none).set i none) st2 k with
          | none => rfl
          | some a =>
            obtain ⟨⟨xs, h1⟩, _⟩ := ownAt_of q
            rw [← hst] at h1
            obtain ⟨g1, g2, _⟩ := own2 h1
            rcases hk with hk | hk
            · exact absurd hk g1
            · exact absurd hk g2
        obtain ⟨a, vs, rfl, ht, dt⟩ := dp_tup d3
        obtain ⟨va, vb, rfl, da, db⟩ : ∃ va vb, vs = [va, vb] ∧ Dp X.K F3 va xa ∧ Dp X.K F3 vb xb := by
          cases dt with
          | cons h1 h2 =>
            cases h2 with
            | cons h3 h4 =>
              cases h4
              exact ⟨_, _, rfl, h1, h3⟩
        have R3' := (R3.setD (v := va) (hPs i (.inl rfl)) da).setD (v := vb) (hPs j (.inr rfl)) db
        have wipe3 : ((((((σ.set j none).set i none).set i (some va)).set j (some vb)).set j none).set i none) = ((σ.set j none).set i none) := by
          rw [set_set, set_set, List.set_comm _ _ hij, set_set, set_set]
          
        refine ⟨a, [va, vb], rfl, sameT R3.fh ht, rfl, va, [vb], rfl, vb, [], rfl, rfl, wipe3, shift F2 H2 ((σ.set j none).set i none) st2, F3, _, p, R3', ec1, fun F4 H4 R4 s4 => ?_⟩
        have wipe4 : ((((((σ.set j none).set i none).set i (some va)).set j (some vb)).set j none).set i none) = ((((σ.set j none).set i none).set j none).set i none) := by
          rw [wipe3, List.set_comm _ _ hij, set_set, set_set, List.set_comm _ _ (Ne.symm hij)]
        -- behind a test or an element: back to the loop's own entry
        have again : ∀ {F5 H5 : Hp} {st5 : List Sl}, Rel X.K (shift F2 H2 ((σ.set j none).set i none) st2) F5 H5 ((((σ.set j none).set i none).set i (some va)).set j (some vb)) st5 → Rel X.K W F5 H5 ((σ.set j none).set i none) (wipe2 st5 i j) ∧ H5 D = some (.lst accV) ∧ F5 D = none ∧
            (∀ (k : Nat) (xs : List DL.D), (wipe2 st5 i j)[k]? = some (.own xs) → ((σ.set j none).set i none)[k]? ≠ some (some (.ref D))) := fun {F5 H5 st5} R5 => by
          have R6 := Rel.other2 R5 (hPs i (.inl rfl)) (hPs j (.inr rfl)) wipe4
          obtain ⟨g1, g2⟩ := Rel.kept R5 hD2 hF2 hno2
          refine ⟨R2.back R6, g1, g2, fun k xs q z => ?_⟩
          obtain ⟨a, vs, h1, _, _, _, h5⟩ := R6.own k xs q
          rw [z] at h1
          cases h1
          rcases h5 with h5 | h5
          · obtain ⟨⟨ys, q1⟩, q2⟩ := ownAt_of (show ownAt ((σ.set j none).set i none) st2 k = some D from h5)
            exact hno2 k ys q1 q2
          · have h5' : H2 D = none := h5
            rw [hD2] at h5'; cases h5'
        obtain ⟨b, p2⟩ := p
        cases b with
        | true =>
          obtain ⟨q, ec2, ec⟩ := Option.bind_eq_some_iff.mp ec
          obtain ⟨rest', ec3, ec⟩ := Option.map_eq_some_iff.mp ec
          cases ec
          refine ⟨shift F2 H2 ((σ.set j none).set i none) st2, F4, p2, q, R4, ec2, fun y F5 H5 R5 s5 d5 => ?_⟩
          obtain ⟨R7, g1, g2, g3⟩ := again R5
          refine ⟨accV, g1, ?_, hlt, F5, wipe2 q.2 i j, accV ++ [y], acc ++ [q.1], rest', R7.outside g2 f2 g3, wipe2_idem, s2.trans (s3.trans (s4.trans s5)), upd_same, g2, g3, ?_, ec3, ?_, ?_⟩
          · rw [DpAll.length dacc]
            have : acc.length < 1000000 := by omega
            exact Nat.lt_trans this (by decide)
          · exact DpAll.append (dpAllMono (s3.trans (s4.trans s5)) _ _ dacc) (.cons d5 .nil)
          · rw [er, List.append_assoc]
            rfl
          · rw [List.length_append, List.length_singleton]
            omega
        | false =>
          obtain ⟨R7, g1, g2, g3⟩ := again R4
          exact ⟨hlt, F4, wipe2 p2 i j, accV, acc, rest, R7, wipe2_idem, s2.trans (s3.trans s4), g1, g2, g3, dpAllMono (s3.trans s4) _ _ dacc, ec, er, by omega⟩
      · have e5 : n = r1.1.length := by omega
        subst e5
        rw [List.drop_length] at ec
        cases ec
        subst er
        refine .inl ⟨wk.stop _ F2 H2 _ st2 R2 s2 (Nat.le_refl _), ?_⟩
        have e6 : ((((σ.set j none).set i none).set j none).set i none) = ((σ.set j none).set i none) := by
          rw [List.set_comm _ _ hij, set_set, set_set, List.set_comm _ _ (Ne.symm hij)]
        have R8 : Rel X.K W F2 H2 σ (wipe2 st2 i j) := Rel.other2 R2 hPi hPj e6
        rw [hst] at R8
        refine k D accV F2 H2 R8 (s1.trans s2) hD2 ⟨hF2, f2, fun k xs q => ?_⟩ (by rw [List.append_nil]; exact dacc)
        obtain ⟨hi, hj, _⟩ := own2 (show (wipe2 st2 i j)[k]? = some (.own xs) by rw [hst]; exact q)
        have := hno2 k xs q
        rw [upσ k hi hj] at this
        exact this
  · cases e
theorem do_lc2 (i j : Nat) {x y : Str} {own : List (Str × Nat)} {elt iter : Expr} {ifs : List Expr} {scope : Scope} {pos px py pt : Pos} {kt : Nat} {it : AS} {c : BS} {f : ES} (hij : i ≠ j) (hc : X.calm = true) (hN : X.N.Nodup) (hi : DI X W (.Tuple [.Name x px, .Name y py] kt pt) iter it) (ok : BlkOk X.N X.env.scope scope own)
    (hg : ∀ (s : Shared) (H : Hp) (C : Addr) (cl : List (Str × Addr)) (fp : List Addr), PG (X.blk s H scope (compEnvC scope cl C X.env) fp) (.Tuple [.Name x px, .Name y py] kt pt) (gTup X.K 2 (gCons (gName i) (gCons (gName j) gNil))))
    (ht : ∀ (W : Wd) (s : Shared) (H : Hp) (C : Addr) (cl : List (Str × Addr)) (fp : List Addr), DTs (X.blk s H scope (compEnvC scope cl C X.env) fp) W ifs c)
    (he : ∀ (W : Wd) (s : Shared) (H : Hp) (C : Addr) (cl : List (Str × Addr)) (fp : List Addr), DE (X.blk s H scope (compEnvC scope cl C X.env) fp) W elt f)
    (ho : own.map (·.2) = [i, j] := by rfl) (hs : ∀ x, foldedSetIterable iter X.env x = pure x := by intro _; rfl) : DO X W (.ListComp elt [⟨.Tuple [.Name x px, .Name y py] kt pt, iter, ifs, 0⟩] scope pos) (oCompT i j c f it) := by
  obtain ⟨wi, pi, ki⟩ := hi
  refine pe_imp (pe_lc (tt := tTx X.K c) (te := tDx X.K f) hc hN pi ok hg (fun s H C cl fp => ⟨fun pins s' σ H' Q I ⟨W', q⟩ => (ht W' s H C cl fp).run pins s' σ H' Q I q⟩) (fun s H C cl fp => ⟨fun pins s' σ H' Q I ⟨W', q⟩ => (he W' s H C cl fp).run pins s' σ H' Q I q⟩) hs) ?_
  rw [ho]
  exact lc_of2 hij ki
end
end DL

set_option Elab.async false
set_option linter.all false
set_option maxRecDepth 100000
set_option maxHeartbeats 4000000
namespace DL
open PySem PySem.Spec L2 PyProof.Rows

/-! ### try whose first clause, with a name, takes whatever the body raises -/
def wHit (K : PySem.W.Frag) (c : Value) (i : Nat) (ts : Addr → Value → Option Addr → TS) (D : Ends) : WX := fun cls d σ H =>
  PySem.W.exmOne K cls c = some true ∧ ∀ a, H a = none →
    ts a cls d { nx := fun τ G => D.nx (τ.set i none) G, rt := D.rt, bk := fun τ G => D.bk (τ.set i none) G, ct := fun τ G => D.ct (τ.set i none) G } (σ.set i (some (.ref a))) H
section
variable {X : Cx} {x n : Str} {c : Value} {i : Nat} {body suite : List Stmt} {b₀ : Stmt} {others : List ExceptHandler} {np hpos pos : Pos} {tb : WX → TS} {ts : Addr → Value → Option Addr → TS}
theorem ps_try_first (hs : X.stack = X.env :: X.outer) (hf : X.env.frame = some X.env.locals) (hN : X.N.Nodup) (hi : X.N[i]? = some n) (hln : X.env.kindOf n = some .local) (hc : Names X x c)
    (hb : ∀ (W : WX) (pn : List (Addr × Obj)) (ex : Value → Shared → Prop), Takes (X.tr pn ex) W → PassesOwn (model X.prog X.w) X.A X.env ex → PSs (X.tr pn ex) body (tb W))
    (hsu : ∀ (a : Addr) (ob : Obj) (cls : Value) (d : Option Addr) (pn : List (Addr × Obj)), Zc cls d ob → (∃ fv, ob.data = .fields fv) → PSs (X.suite a ((a, ob) :: pn)) (b₀ :: suite) (ts a cls d)) :
    PS X (.Try body (.ExceptHandler (some (.Name x np)) (some n) (b₀ :: suite) hpos :: others) [] [] pos) (fun D σ H => tb (wHit X.K c i ts D) D σ H) := by
  refine ⟨fun ps s σ H D inv goal => ?_⟩
  have well := inv.ok
  have frames : X.A.frames = some (X.env :: X.outer) := well.frames.trans (congrArg some hs)
  have isLoc : Loc X.env.scope n := .inl hln
  have ran := (hb (wHit X.K c i ts D) (X.pn ++ ps) (fun v t0 => wpAny (model X.prog X.w) X.A (noteFrame v X.env) (fun _ t1 =>
    wpAny (model X.prog X.w) X.A (setFlight v none) (fun _ t2 => wpAny (model X.prog X.w) X.A
      (handleBy v X.env (.ExceptHandler (some (.Name x np)) (some n) (b₀ :: suite) hpos :: others)) (SP X ps D) X.xe t2) X.xe t1) X.xe t0) (fun v t0 air => ?_) PassesOwn.looking).run [] s σ H D (inv.toTry _) goal
  · refine wpAny_Try_except (wpAny_mono ran (fun fl t1 done => ?_) fun _ _ z => z)
    cases fl with
    | next =>
      obtain ⟨τ, G, inv1, g⟩ := done
      exact wpAny_execs_nil ⟨τ, G, inv1.ofTry well, g⟩
    | brk =>
      obtain ⟨τ, G, inv1, g⟩ := done
      exact ⟨τ, G, inv1.ofTry well, g⟩
    | cont =>
      obtain ⟨τ, G, inv1, g⟩ := done
      exact ⟨τ, G, inv1.ofTry well, g⟩
    | ret w =>
      obtain ⟨y, τ, G, inv1, ry, g⟩ := done
      exact ⟨y, τ, G, inv1.ofTry well, ry, g⟩
  · obtain ⟨a, B, sI, ps1, τ, G, cls, d, rfl, inv1, below, upto, sky, free, osEq, bare, hit, suit⟩ := air
    have inv2 : Inv X ps τ G sI := inv1.ofTry well
    have sky2 : Sky B (X.env :: X.outer) a (Zc cls d) X.env.locals t0.heap := hs ▸ sky
    refine Sky.land Zc.steady frames hf sky2 fun h1 fly up1 => ?_
    have inv3 : Inv X ps τ G { t0 with heap := h1 } := inv2.landed below fly.1 (upto.trans up1) osEq bare
    obtain ⟨ob, fv, gx, gz, gd⟩ := fly.there
    have off : a ∉ frs (X.env :: X.outer) := fun m => by
      obtain ⟨_, o', e1, no⟩ := fly.2.2.1.mem m
      rw [gx] at e1
      cases e1
      exact no _ gd
    have notL : a ≠ X.env.locals := fun z => off (List.mem_filterMap.mpr ⟨X.env, List.mem_cons_self, hf.trans (congrArg some z.symm)⟩)
    have notF : a ∉ X.fs := fun m => by
      obtain ⟨en, m1, z⟩ := List.mem_filterMap.mp m
      exact off (List.mem_filterMap.mpr ⟨en, List.mem_cons_of_mem _ m1, z⟩)
    have invS := inv3.suite gx gd free notL notF
    have kind : PySem.W.Looks (model X.prog X.w) h1 (typeOf (.ref a)) cls := fun A Q E s k z => wpAny_typeOf_ref (k _ _ gx) (by rw [gz.1]; exact z)
    have tells := PySem.W.exm_one (M := model X.prog X.w) inv3.kIn kind hit
    refine wpAny_handleBy_cons (codeAny_handlers_test ?_) (by intro z; cases z)
    have named : ∀ {Q E : Value → Shared → Prop}, Q c { t0 with heap := h1 } → wpAny (model X.prog X.w) (X.A.mark (some (.ref a))) (eval (.Name x np) X.env) Q E { t0 with heap := h1 } := fun z => by
      obtain ⟨g1, g2, g3⟩ := hc
      rcases g3 with g3 | ⟨g3, g4, g5⟩
      · exact ld_glob (X := X.suite a ((a, ob) :: (X.pn ++ ps))) invS g1 g3 z g2
      · exact ld_blt (X := X.suite a ((a, ob) :: (X.pn ++ ps))) invS g1 g3 g4 z g5 g2
    refine named (tells.here (codeAny_handlers_suite_as (HandSPX.lands_againZ fly fun h2 fly2 up2 => ?_)))
    have inv4 : Inv X ps τ G { t0 with heap := h2 } := inv2.landed below fly2.1 ((upto.trans up1).trans up2) osEq bare
    obtain ⟨ob2, fv2, gx2, gz2, gd2⟩ := fly2.there
    have invS2 := inv4.suite gx2 gd2 free notL notF
    refine store_ok (X := X.suite a ((a, ob2) :: (X.pn ++ ps))) (v := .ref a) invS2 hN hi isLoc rfl (fun t3 invS3 => ?_) (.inr hln)
    refine wpAny_mono ((hsu a ob2 cls d (X.pn ++ ps) gz2 ⟨_, gd2⟩).run [] t3 _ G _ invS3 (suit a free)) (fun fl t4 done => ?_) (fun _ _ z => z.elim)
    have leave : ∀ {τ' : L2.St} {G' : Hp} {Q : Shared → Prop}, Inv (X.suite a ((a, ob2) :: (X.pn ++ ps))) [] τ' G' t4 → (∀ t5, Inv X ps (τ'.set i none) G' t5 → Q t5) →
        wpAny (model X.prog X.w) X.A (do bindName X.env n .none; unbindBehindTheSuite X.env n hpos) (fun _ t5 => Q t5) X.xe t4 := fun invE z => gone_ok (invE.unsuite well) hN hi hln z
    cases fl with
    | next =>
      obtain ⟨τ', G', invE, g⟩ := done
      exact leave invE fun _ z => ⟨_, _, z, g⟩
    | brk =>
      obtain ⟨τ', G', invE, g⟩ := done
      exact leave invE fun _ z => ⟨_, _, z, g⟩
    | cont =>
      obtain ⟨τ', G', invE, g⟩ := done
      exact leave invE fun _ z => ⟨_, _, z, g⟩
    | ret w =>
      obtain ⟨y, τ', G', invE, ry, g⟩ := done
      exact leave invE fun _ z => ⟨_, _, _, z, ry, g⟩
end
end DL

set_option Elab.async false
set_option linter.all false
set_option maxRecDepth 100000
set_option maxHeartbeats 4000000
namespace DL
open PySem PySem.Spec PySem.Calls PyProof.Rows PySem.W

/-! ### isinstance of a caught error that has fields -/
section
variable {prog : Program} {w : World} {A : Around} {E : Value → Shared → Prop} {t0 : Shared} {K : Frag} {e D : Addr} {oe : Obj} {od : Option Obj}
theorem found_data {C : Addr} {name : Str} {d g : Value} (h1 : (clsIn K C).isSome = true) (h2 : findIn K (.ref C) name = some (some d)) (h3 : specialIn K d "__get__" = some (some g)) (h4 : takesIn K d = some true) : findObj K C od name = some (.bind g d) := by
  obtain ⟨cd, e1⟩ := Option.isSome_iff_exists.mp h1
  unfold findObj
  simp [e1, h2, h3, h4]
theorem exc_class {Q : Option Value → Shared → Prop} (T : L2.ExcC K D) (X : K.In t0.heap) (I : InstAt t0.heap e oe D od) (k : Q (some (.ref D)) { t0 with toks := t0.toks + 1 }) : wpAny (model prog w) A (getAttr? (.ref e) "__class__") Q E t0 := by
  have found : findObj K D od "__class__" = some (.bind (.builtin "getset_descriptor.__get__") (.builtin "object.__class__")) := found_data (by obtain ⟨cd, z, _⟩ := any_some T.hd; rw [z]; rfl) T.ha T.hn T.ht
  obtain ⟨hh, gg, dd, tt, oo⟩ := t0
  have type_ := I.type (M := model prog w)
  have own_ := looks_findIn (M := model prog w) X T.hg
  have none_ := looks_findIn (M := model prog w) X T.hk
  have find_ := looks_find (M := model prog w) X I found
  have isB : Looks (model prog w) hh (isInstance (.ref e) (.type "BaseException")) true := type_.andThen (looks_subIn X T.hs)
  have z0 : (false && onTheHeap (Value.builtin "BaseException.__getattribute__")) = false := by rfl
  have z2 : (Value.builtin "BaseException.__getattribute__" == Value.builtin "object.__getattribute__") = false := by decide +kernel
  have z1 : (onTheHeap (Value.ref D) && Value.builtin "BaseException.__getattribute__" == Value.builtin "object.__getattribute__") = false := by simp [z2]
  unfold getAttr? getAttrBy? getAttrBy
  refine wpAny_bind (wpAny_mkText (wpAny_bind (wpAny_attempt (wpAny_holding (wpAny_bind (type_.at (wpAny_bind (own_.at ?_))))))))
  show wpAny (model prog w) A (if (onTheHeap (Value.ref D) && Value.builtin "BaseException.__getattribute__" == Value.builtin "object.__getattribute__") = true then _ else _) _ _ _
  rw [z1, if_neg Bool.false_ne_true]
  unfold getAttrByItsOwn hookBefore
  apply wpAny_bind
  rw [if_pos (by rfl : onTheHeap (Value.ref D) = true)]
  refine none_.at (wpAny_bind (wpAny_attempt (wpAny_holding ?_)))
  unfold callGetattribute
  rw [z0, if_neg Bool.false_ne_true]
  unfold boundAndCalled
  rw [PySem.F.excAttr_ValueError.ga.bind (.ref e)]
  refine wpAny_bind (wpAny_pure (show wpAny _ _ (call (.builtin "BaseException.__getattribute__") [.ref e, .str "__class__" tt]) _ _ _ from ?_))
  refine wpAny_call (codeAny_call_builtin PySem.F.excAttr_ValueError.ga.plain PySem.F.entry_bexc_ga ?_)
  refine @check_slot (model prog w) _ _ ⟨hh, gg, dd, tt + 1, oo⟩ "BaseException.__getattribute__" "BaseException" "__getattribute__" (.ref e) [.str "__class__" tt] [] _ (by decide +kernel) (by decide +kernel) isB (PySem.F.args_bexc_ga (.ref e) (.str "__class__" tt)) ?_
  unfold Builtin.«object.__getattribute__»
  refine wpAny_bind (wpAny_of_eq (a := ((Value.ref e : Value), [Value.str "__class__" tt])) (by first | rfl | (simp only [slotArgs]; rfl)) ?_)
  refine wpAny_bind (wpAny_pure (wpAny_bind (type_.at (wpAny_bind (find_.at ?_)))))
  show wpAny _ _ (holding [Value.builtin "object.__class__"] (call (.builtin "getset_descriptor.__get__") [.builtin "object.__class__", .ref e, .ref D]) >>= ret) _ _ _
  refine wpAny_bind (wpAny_holding (wpAny_call (class_get (s := ⟨hh, gg, dd, tt + 1, oo⟩) (ox := oe) (od := od) X I T.hm (wpAny_pure ?_))))
  show wpAny _ _ (handedOut (.ref D)) _ _ _
  rw [handedOut_of (v := .ref D) rfl]
  first
    | exact wpAny_pure (wpAny_pure k)
    | exact wpAny_pure k
    | exact wpAny_pure (wpAny_bind (wpAny_pure (wpAny_pure k)))
theorem kitx_exc (T : L2.ExcC K D) : KitX K (.ref e) (.ref D) (fun h => InstAt h e oe D od) := by
  have obj : ∃ c' d' cd' sl', K.lookup D = some ⟨c', d', .cls cd', sl'⟩ := by
    obtain ⟨cdD, h1, _⟩ := any_some T.hd
    unfold clsIn at h1
    split at h1
    · exact ⟨_, _, _, _, by assumption⟩
    · cases h1
  obtain ⟨c', d', cd', sl', ho⟩ := obj
  refine ⟨fun _ _ _ I => I.type, fun _ _ X _ A' Q' E' s' keep q => ?_, fun h tp dd its n sl X there => ?_, fun X I k => exc_class T X I k⟩
  · unfold isType loadHead
    exact wpAny_bind (wpAny_loadPart (keep _ _ (X _ _ ho)) (wpAny_pure q))
  · refine Bool.eq_false_iff.mpr fun q => ?_
    have same : D = tp := Value.ref.inj (beq_iff_eq.mp q)
    subst same
    have z := (X _ _ ho).symm.trans there
    cases z
end
end DL
namespace DL
open PySem PySem.Spec L2 PyProof.Rows
/-- isinstance(e, c), e the error that the suite holds, its fields at dd -/
theorem call_isX {X : Cx} {a D dd : Addr} {oe : Obj} {pn : List (Addr × Obj)} (C : ExcC X.K D) (hz : Zc (.ref D) (some dd) oe) (hf : ∃ fv, oe.data = .fields fv) : CallR (X.suite a ((a, oe) :: pn)) (.builtin "isinstance") (fun xs H Q => ∃ fs, H dd = some (.xd fs) ∧ rIsE X.K D a xs H Q) := by
  intro pins s σ H xs us Q I r h
  obtain ⟨fs, hdd, c, cv, b, rfl, hcv, e, q⟩ := h
  cases r with
  | cons rx rr =>
    cases rr with
    | cons rt rr =>
      cases rr
      cases rx
      have same := hcv _ rt
      subst same
      obtain ⟨got, _⟩ := I.pin (a, oe) (List.mem_append.mpr (.inl List.mem_cons_self))
      obtain ⟨fv, hv⟩ := hf
      have there : ObjOk X.prog X.w H s.heap dd (.xd fs) := I.hok dd _ hdd
      obtain ⟨mA, hns, _⟩ := there
      obtain ⟨od, ho, _⟩ := lookIn_ns hns
      have J : PySem.W.InstAt s.heap a oe D (some od) := ⟨got, hz.1, by unfold PySem.W.notCls; rw [hv] <;> rfl, by rw [hz.2]; exact ho⟩
      exact PySem.W.kia_one (kitx_exc C) I.kIn J e (fun z => nomatch z) fun tk => ⟨.bl b, H, I.kept (t' := tk) fun _ _ z => z, rfl, q⟩
end DL

set_option Elab.async false
set_option linter.all false
set_option maxRecDepth 100000
set_option maxHeartbeats 4000000
namespace DL
open PySem PySem.Spec L2

/-! ### the suite of a clause with a name: what it reads of the error -/
/-- the caught error at a stands in slot i; its dict dd holds the fields fs -/
structure Cau (K : PySem.W.Frag) (i : Nat) (a dd : Addr) (vfs : List (Str × V)) (fs : List (Str × D)) (F : Hp) (σ : L2.St) : Prop where
  at_ : σ[i]? = some (some (.ref a))
  dict : F dd = some (.xd vfs)
  names : vfs.map (·.1) = fs.map (·.1)
  vals : DpAll K F (vfs.map (·.2)) (fs.map (·.2))
theorem Cau.mono {K : PySem.W.Frag} {i : Nat} {a dd : Addr} {vfs : List (Str × V)} {fs : List (Str × D)} {F F' : Hp} {σ : L2.St} (h : Cau K i a dd vfs fs F σ) (s : Same F F') : Cau K i a dd vfs fs F' σ :=
  ⟨h.at_, s _ _ h.dict, h.names, dpAllMono s _ _ h.vals⟩
theorem lookup_dp {K : PySem.W.Frag} {F : Hp} {f : Str} : ∀ {vfs : List (Str × V)} {fs : List (Str × D)} {x : D}, vfs.map (·.1) = fs.map (·.1) → DpAll K F (vfs.map (·.2)) (fs.map (·.2)) → fs.lookup f = some x → ∃ v, vfs.lookup f = some v ∧ Dp K F v x
  | [], [], _, _, _, e => by simp [List.lookup] at e
  | [], _ :: _, _, h, _, _ => by simp at h
  | _ :: _, [], _, h, _, _ => by simp at h
  | (k, v) :: vr, (k', y) :: fr, x, h, d, e => by
    simp only [List.map_cons, List.cons.injEq] at h
    obtain ⟨h1, h2⟩ := h
    subst h1
    cases d with
    | cons d1 d2 =>
      simp only [List.lookup_cons] at e ⊢
      cases hk : (f == k) with
      | true =>
        simp only [hk] at e ⊢
        cases e
        exact ⟨v, rfl, d1⟩
      | false =>
        simp only [hk] at e ⊢
        exact lookup_dp h2 d2 e
section
variable {X : Cx} {W : Wd} {i : Nat} {a C dd : Addr} {oe : Obj} {pn : List (Addr × Obj)} {vfs : List (Str × V)} {fs : List (Str × D)} {e : Expr} {es : List Expr} {f g : ES} {u : AS} {pos : Pos}
def tDc (K : PySem.W.Frag) (W : Wd) (i : Nat) (a dd : Addr) (vfs : List (Str × V)) (fs : List (Str × D)) (f : ES) : TE := fun σ H Q => ∃ F st r, Rel K W F H σ st ∧ Cau K i a dd vfs fs F σ ∧ f st = some r ∧ ∀ v F' H', Rel K W F' H' σ r.2 → Same F F' → Dp K F' v r.1 → Q v H'
def tAc (K : PySem.W.Frag) (W : Wd) (i : Nat) (a dd : Addr) (vfs : List (Str × V)) (fs : List (Str × D)) (f : AS) : TA := fun σ H Q => ∃ F st r, Rel K W F H σ st ∧ Cau K i a dd vfs fs F σ ∧ f st = some r ∧ ∀ vs F' H', Rel K W F' H' σ r.2 → Same F F' → DpAll K F' vs r.1 → Q vs H'
abbrev DCe (X : Cx) (K : PySem.W.Frag) (W : Wd) (i : Nat) (a dd : Addr) (vfs : List (Str × V)) (fs : List (Str × D)) (e : Expr) (f : ES) : Prop := PE X e (tDc K W i a dd vfs fs f)
abbrev DCa (X : Cx) (K : PySem.W.Frag) (W : Wd) (i : Nat) (a dd : Addr) (vfs : List (Str × V)) (fs : List (Str × D)) (es : List Expr) (f : AS) : Prop := PA X es (tAc K W i a dd vfs fs f)
theorem ce_of {Y : Cx} {K : PySem.W.Frag} (h : PE Y e (tD K W f)) : DCe Y K W i a dd vfs fs e f := pe_imp h fun σ H Q ⟨F, st, r, R, _, e, k⟩ => ⟨F, st, r, R, e, k⟩
theorem ca_nil {Y : Cx} {K : PySem.W.Frag} : DCa Y K W i a dd vfs fs [] aNil := pa_imp pa_nil fun σ H Q ⟨F, st, r, R, _, e, k⟩ => by
  cases e
  exact k [] F H R (Same.refl _) .nil
theorem ca_cons {Y : Cx} {K : PySem.W.Frag} (ha : DCe Y K W i a dd vfs fs e f) (hr : DCa Y K W i a dd vfs fs es u) (hs : starEach (e :: es) Y.env = (false, eval e Y.env) :: starEach es Y.env := by rfl) : DCa Y K W i a dd vfs fs (e :: es) (aCons f u) :=
  pa_imp (pa_cons ha hr hs) fun σ H Q ⟨F, st, z, R, c, e, k⟩ => by
  unfold aCons at e
  obtain ⟨r1, e1, e⟩ := Option.bind_eq_some_iff.mp e
  obtain ⟨r2, e2, e⟩ := Option.map_eq_some_iff.mp e
  cases e
  exact ⟨F, st, r1, R, c, e1, fun x F1 H1 R1 s1 d1 => ⟨F1, r1.2, r2, R1, c.mono s1, e2, fun vs F2 H2 R2 s2 d2 => k _ F2 H2 R2 (s1.trans s2) (.cons (dpMono s2 _ _ d1) d2)⟩⟩
/-- e.f -/
def eFld (fs : List (Str × D)) (f : Str) : ES := fun st => (fs.lookup f).map fun x => (x, st)
theorem ce_fld {n f : Str} {px : Pos} (T : XfC X.K C) (hno : PySem.W.findIn X.K (.ref C) f = some none) (hz : Zc (.ref C) (some dd) oe) (hf : ∃ fv, oe.data = .fields fv)
    (hN : (X.suite a ((a, oe) :: pn)).N[i]? = some n := by rfl) (hv : Vis (X.suite a ((a, oe) :: pn)).env.scope n := by first | exact Or.inl rfl | exact Or.inr (Or.inl rfl) | exact Or.inr (Or.inr rfl)) (hd : (n == ("__debug__" : Str)) = false := by decide)
    (hcd : (n == ("__classdict__" : Str)) = false := by decide) (hb : attributeBase (.Name n px) f X.env (eval (.Name n px) X.env) = eval (.Name n px) X.env := by rfl) :
    DCe (X.suite a ((a, oe) :: pn)) X.K W i a dd vfs fs (.Attribute (.Name n px) f pos) (eFld fs f) := pe_imp (pe_xf T hno hz hf (pe_var (i := i) hN hv hd hcd) hb) fun σ H Q ⟨F, st, r, R, c, e, k⟩ => by
  unfold eFld at e
  obtain ⟨x, e1, rfl⟩ := Option.map_eq_some_iff.mp e
  obtain ⟨v, h1, h2⟩ := lookup_dp c.names c.vals e1
  exact ⟨_, c.at_, rfl, rfl, dd, vfs, v, rfl, R.fh _ _ c.dict, h1, k v F H R (Same.refl _) h2⟩
/-- isinstance(e, A) for a class that the error is of -/
theorem ce_is {n y : Str} {cv : V} {u : Value} {p px py : Pos} (T : ExcC X.K C) (hz : Zc (.ref C) (some dd) oe) (hf : ∃ fv, oe.data = .fields fv) (hy : PE (X.suite a ((a, oe) :: pn)) (.Name y py) (tC cv)) (hu : ∀ w, RelV cv w → w = u) (hk : PySem.W.kitOne X.K (.ref C) u = some true)
    (hm : X.mg "isinstance" = none) (hg : Gl (X.suite a ((a, oe) :: pn)) "isinstance" := by rfl)
    (hN : (X.suite a ((a, oe) :: pn)).N[i]? = some n := by rfl) (hv : Vis (X.suite a ((a, oe) :: pn)).env.scope n := by first | exact Or.inl rfl | exact Or.inr (Or.inl rfl) | exact Or.inr (Or.inr rfl)) (hd : (n == ("__debug__" : Str)) = false := by decide)
    (hcd : (n == ("__classdict__" : Str)) = false := by decide)
    (hs : starEach [(.Name y py : Expr)] X.env = (false, eval (.Name y py) X.env) :: starEach [] X.env := by rfl)
    (he : starEach [(.Name n px : Expr), .Name y py] X.env = (false, eval (.Name n px) X.env) :: starEach [(.Name y py : Expr)] X.env := by rfl) (hpl : (backTo pos (starEach [(.Name y py : Expr)] X.env)).any (·.1) = false := by rfl) :
    DCe (X.suite a ((a, oe) :: pn)) X.K W i a dd vfs fs (.Call (.Name "isinstance" p) [.Name n px, .Name y py] [] pos) (eK (.bool true)) :=
  pe_imp (pe_callB (call_isX T hz hf) hg hm bb_isinstance (pa_cons (pe_var (i := i) hN hv hd hcd) (pa_cons hy pa_nil hs) he) (by decide) (by decide) he hpl) fun σ H Q ⟨F, st, r, R, c, e, k⟩ => by
  cases e
  exact ⟨_, c.at_, vfs, R.fh _ _ c.dict, cv, u, true, rfl, hu, hk, k _ F H R (Same.refl _) (.bl true)⟩
theorem ce_and {Y : Cx} {K : PySem.W.Frag} {b : Expr} (ha : DCe Y K W i a dd vfs fs e f) (hb : DCe Y K W i a dd vfs fs b g) : DCe Y K W i a dd vfs fs (.BoolOp .And [e, b] pos) (eAnd f g) := pe_imp (pe_and ha (pe_one hb)) fun σ H Q ⟨F, st, z, R, c, e, k⟩ => by
  unfold eAnd at e
  obtain ⟨r1, e1, e⟩ := Option.bind_eq_some_iff.mp e
  obtain ⟨q, e2, e⟩ := Option.bind_eq_some_iff.mp e
  have hq : r1.1 = .bool q := by
    obtain ⟨y, y2⟩ := r1
    cases y <;> cases e2
    rfl
  refine ⟨F, st, r1, R, c, e1, fun v F1 H1 R1 s1 d1 => ⟨q, ?_, ?_⟩⟩
  · rw [hq] at d1
    cases d1
    rfl
  · cases q with
    | true =>
      rw [if_pos rfl] at e ⊢
      exact ⟨F1, r1.2, z, R1, c.mono s1, e, fun v F' H' R' s' => k v F' H' R' (s1.trans s')⟩
    | false =>
      rw [if_neg Bool.false_ne_true] at e ⊢
      cases e
      exact k _ F1 H1 R1 s1 (.bl false)
end
end DL

set_option Elab.async false
set_option linter.all false
set_option maxRecDepth 100000
set_option maxHeartbeats 4000000
namespace DL
open PySem PySem.Spec L2

/-! ### try: f(..) / except C as e: return (..) -/
def ArX (n : Nat) (g : PX) : Prop := ∀ ds r, g ds = some r → ds.length = n
theorem arx_run {m n : Nat} {b : XS} : ArX n (runX m n b) := fun ds r e => by
  unfold runX at e
  split at e
  · assumption
  · cases e
def sTryRet (g : PX) (u : AS) (c : Str) (i : Nat) (h : List (Str × D) → AS) : SS := fun st => (u st).bind fun r => (g r.1).bind fun q => match q with
  | .n _ => some (.nx r.2)
  | .x c' fs => if c' = c ∧ i < r.2.length then (h fs (r.2.set i .no)).bind fun z => if z.1.length ≤ 1000 then some (.rt (.tuple z.1) z.2) else none else none
section
variable {X : Cx} {W : Wd} {k : Nat} {f C : Addr} {fd : FuncData} {ps : List Str} {g : PX} {fx cx n : Str} {e : Expr} {es items : List Expr} {u : AS} {i : Nat} {h : List (Str × D) → AS} {others : List ExceptHandler} {p np tp rp hpos cpos epos tpos : Pos} {kt : Nat}
theorem ds_tryRet (hP : W.P i = none) (F : FnOk X.prog X.w X.K X.mg X.base (L2.CX X.prog X.w) k f fd ps (spPX X.K X.mg ps.length g)) (hr : Room k X.A) (hm : X.mg fx = some (.ref f)) (hk : PySem.W.keepIn X.K (.ref f) = true) (hb : Binds X.K fd ps []) (ar : ArX ps.length g)
    (ha : ∀ (pn : List (Addr × Obj)) (ex : Value → Shared → Prop), DA (X.tr pn ex) W (e :: es) u) (hN : X.N.Nodup) (hC : X.mg cx = some (.ref C)) (te : PySem.W.exmOne X.K (.ref C) (.ref C) = some true)
    (hsu : ∀ (a : Addr) (oe : Obj) (dd : Addr) (pn : List (Addr × Obj)) (vfs : List (Str × V)) (fs : List (Str × D)), Zc (.ref C) (some dd) oe → (∃ fv, oe.data = .fields fv) → DCa (X.suite a ((a, oe) :: pn)) X.K W i a dd vfs fs items (h fs))
    (hs : X.stack = X.env :: X.outer := by rfl) (hf : X.env.frame = some X.env.locals := by rfl) (hi : X.N[i]? = some n := by rfl) (hln : X.env.kindOf n = some .local := by rfl)
    (hgf : Gl X fx := by rfl) (hgc : Gl X cx := by rfl) (hdf : (fx == ("__debug__" : Str)) = false := by decide) (hdc : (cx == ("__debug__" : Str)) = false := by decide)
    (he : starEach (e :: es) X.env = (false, eval e X.env) :: starEach es X.env := by rfl) (hpl : (backTo cpos (starEach es X.env)).any (·.1) = false := by rfl)
    (hsw : swapsWith (.Call (.Name fx p) (e :: es) [] cpos) none epos.line X.env = pure false := by rfl) :
    DS X W (.Try [.Expr (.Call (.Name fx p) (e :: es) [] cpos) epos] (.ExceptHandler (some (.Name cx np)) (some n) [.Return (some (.Tuple items kt tp)) rp] hpos :: others) [] [] tpos) (sTryRet g u cx i h) := by
  refine ps_imp (ps_try_first (tb := fun Wx => tDrop (tCallS (spPX X.K X.mg ps.length g) (WE Wx) (tA X.K W u)))
    (ts := fun a cls d D σ H => ∃ dd vfs fs F st z, cls = .ref C ∧ d = some dd ∧ Rel X.K W F H σ st ∧ Cau X.K i a dd vfs fs F σ ∧ h fs st = some z ∧ z.1.length ≤ 1000 ∧ ∀ v F' H', Rel X.K W F' H' σ z.2 → Same F F' → Dp X.K F' v (.tuple z.1) → D.rt v H')
    hs hf hN hi hln ⟨hgc, hdc, .inl hC⟩ (fun Wx pn ex tk _ => pss_one (ps_expr (pe_callS (X := X.tr pn ex) F hr hgf hm hk hb (fun σ => passAt tk σ) (ha pn ex) hdf he hpl) hsw)) (fun a oe cls d pn hz hfv => ?_)) fun D σ H ⟨F0, st, o, R, e, kk⟩ => ?_
  · refine ⟨fun pins s σ H D I ⟨dd, vfs, fs, F, st, z, e1, e2, R, c, e3, hl, k⟩ => ?_⟩
    subst e1 e2
    refine (pss_one (ps_ret (pe_tup (hsu a oe dd pn vfs fs hz hfv)))).run pins s σ H D I ⟨F, st, z, R, c, e3, fun vs F1 H1 R1 s1 d1 => ⟨by rw [DpAll.length d1]; exact le1000 hl, fun q hq => ?_⟩⟩
    have e4 : Same F1 (upd F1 q (.tup vs)) := same_upd (R1.fh.free hq)
    exact k _ _ _ (R1.laid hq) (s1.trans e4) (.tup (.inl (.inl upd_same)) (dpAllMono e4 _ _ d1))
  · unfold sTryRet at e
    obtain ⟨r1, e1, e⟩ := Option.bind_eq_some_iff.mp e
    obtain ⟨q, e2, e⟩ := Option.bind_eq_some_iff.mp e
    refine ⟨F0, st, r1, R, e1, fun vs F1 H1 R1 s1 d1 => ⟨by rw [DpAll.length d1]; exact ar _ _ e2, F1, r1.1, q, R1.fh, d1, e2, ?_⟩⟩
    cases q with
    | n r =>
      cases e
      exact fun v F' H' t1 t2 new t3 _ => kk σ F' H' (R1.behind t1 t2 new t3) (s1.trans t1)
    | x c' fs =>
      dsimp only at e
      split at e
      · rename_i hc
        obtain ⟨hc1, hil⟩ := hc
        obtain ⟨z, e3, e⟩ := Option.bind_eq_some_iff.mp e
        split at e
        · rename_i hl
          cases e
          intro cls d F' H' t1 t2 new t3 hex
          obtain ⟨C', dx, vfs, rfl, hC', rfl, hdx, hnm, hdp⟩ := hex
          rw [hc1, hC] at hC'
          cases hC'
          refine ⟨te, fun a hfree => ⟨dx, vfs, fs, F', r1.2.set i .no, z, rfl, rfl, (R1.behind t1 t2 new t3).forget hP, ⟨?_, hdx, hnm, hdp⟩, e3, hl, fun v F2 H2 R2 s2 d2 => kk v _ F2 H2 R2 ((s1.trans t1).trans s2) d2⟩⟩
          rw [List.getElem?_set_self (by rw [← R1.len]; exact hil)]
        · cases e
      · cases e
end
/-! ### the own __init__ of an error with two fields -/
section
variable {P : Program} {w : World} {K : PySem.W.Frag} {mg : Str → Option Value} {base : Heap} {x qual f1 f2 : Str} {st : Stmt} {f C : Addr} {fd : FuncData} {N ps : List Str}
theorem pure_init2 (T : OexC K C) (h1 : PySem.W.findIn K (.ref C) f1 = some none) (h2 : PySem.W.findIn K (.ref C) f2 = some none) (hN : N.length = 3) {vs : List V} {H : Hp} {Q : VK} {E : XK} (h : spInit C [f1, f2] vs H Q E) :
    tSeq (tOst K f1 (tVar 0) (tVar 1)) (tOst K f2 (tVar 0) (tVar 2)) { nx := fun _ H' => Q .non H', rt := Q } (L2.start N vs) H := by
  obtain ⟨a, us, rfl, hl, ha, k⟩ := h
  match us, hl with
  | [u1, u2], _ =>
    have e0 : L2.start N [V.ref a, u1, u2] = [some (.ref a), some u1, some u2] := by simp [L2.start, hN]
    rw [e0]
    refine ⟨u1, rfl, .ref a, rfl, a, C, rfl, T, h1, .inl ⟨ha, fun dx hdx hne => ?_⟩⟩
    refine ⟨u2, rfl, .ref a, rfl, a, C, rfl, T, h2, .inr ⟨dx, [(f1, u1)], upd_same, by rw [upd_ne hne]; exact upd_same, by simp, ?_⟩⟩
    have e : upd (upd (upd H dx (exd dx [(f1, u1)])) a (exo a C (some dx))) dx (exd dx [(f2, u2), (f1, u1)]) = upd (upd H dx (exd dx [(f2, u2), (f1, u1)])) a (exo a C (some dx)) := by
      funext b
      by_cases hb : b = dx
      · subst hb
        rw [upd_same, upd_ne hne, upd_same]
      · rw [upd_ne hb]
        by_cases hb2 : b = a
        · subst hb2
          rw [upd_same, upd_same]
        · rw [upd_ne hb2, upd_ne hb2, upd_ne hb, upd_ne hb]
    rw [e]
    exact k dx hdx hne
theorem ok_init2 {k : Nat} (F : Fun K x qual st f fd) (S : FnScope N N (defScope st)) (hN : N.length = 3) (T : OexC K C) (h1 : PySem.W.findIn K (.ref C) f1 = some none) (h2 : PySem.W.findIn K (.ref C) f2 = some none)
    (hbody : ∀ (cdv : Value) (A : Around) (outer : List Env) (s : Shared) (H : Hp) (E : XK), PSs (cxOf CX0 P w K mg base N qual (defScope st) f cdv A outer s H E).nox (defBody st) (tSeq (tOst K f1 (tVar 0) (tVar 1)) (tOst K f2 (tVar 0) (tVar 2)))) : FnOk P w K mg base CX0 (k + 1) f fd N (spInit C [f1, f2]) := by
  refine F.ok S (fun vs H Q E h => ?_) (fun cdv A outer s H vs Q E hr h => ⟨_, hbody cdv A outer s H E, ?_⟩)
  · obtain ⟨a, us, rfl, hl, _⟩ := h
    rw [List.length_cons, hl, hN]
    rfl
  · exact pure_init2 (Q := Q) (E := E) T h1 h2 hN h
end
end DL

set_option Elab.async false
set_option linter.all false
set_option maxRecDepth 100000
set_option maxHeartbeats 4000000
namespace DL
open PySem PySem.Spec L2

/-! ### o.replace('..', '..') if '..' in b else e: behind the test a token is out -/
def PTT (X : Cx) (e : Expr) (t : TT) : Prop := ∀ (pins : List (Addr × Obj)) (s : Shared) (σ : L2.St) (H : Hp) (Q : Bool → Hp → Prop), Inv X pins σ H s → t σ H Q →
  wpAny (model X.prog X.w) X.A (isTrue e X.env (eval e X.env)) (fun d s1 => 1 ≤ s1.toks ∧ ∃ H1, Inv X pins σ H1 s1 ∧ Q d H1) X.xe s
section
variable {X : Cx} {W : Wd} {b o e : Expr} {f g u : ES} {pos p1 c0 c1 c2 apos cpos : Pos} {j0 j1 j2 : Nat} {y y' z : String}
theorem ptt_in {x : Str} {r : R2} {tb : TE} (ho : OpR X (compareOp .In) r) (hb : PE X b tb) (hm : behindInMarks .In b = false) : PTT X (.Compare (.Constant (.str x) j0 c0) [.In] [b] p1) (tTest (tOp r (tC (.str x)) tb)) := by
  intro pins s σ H Q I h
  have I1 : Inv X pins σ H { s with toks := s.toks + 1 } := I.tok _
  refine wpAny_isTrue_Compare1 (Calls.Constant_str (wpAny_mono (wpAny_toks_of (n := 1) (by show 1 ≤ s.toks + 1; omega) (hb.run pins _ σ H _ I1 h)) (fun v s2 hh => ?_) fun _ _ w => w.2)) hm
  obtain ⟨k2, w2, H2, I2, r2, q2⟩ := hh
  refine wpAny_mono (wpAny_toks_of k2 (ho pins s2 σ H2 (.str x) w2 (.str x s.toks) v _ I2 ⟨_, rfl⟩ r2 q2)) (fun v3 s3 hh => ?_) fun _ _ w => w.2
  obtain ⟨k3, w3, H3, I3, r3, d, e3, q3⟩ := hh
  subst e3
  cases r3
  exact wpAny_truthy_bool ⟨k3, H3, I3, q3⟩
theorem pe_ifRepl {c a d : Expr} {tt : TT} {ta td : TE} (hc : PTT X c tt) (ha : PET X a ta) (hd : PE X d td) : PE X (.IfExp c a d pos) (tIf tt ta td) := by
  refine ⟨fun pins s σ H Q I h => wpAny_IfExp (thn (hc pins s σ H _ I h) fun v s1 hh => ?_)⟩
  obtain ⟨k, H1, I1, q1⟩ := hh
  cases v with
  | true => exact ha pins s1 σ H1 Q k I1 q1
  | false => exact hd.run pins s1 σ H1 Q I1 q1
def dRepl (y z : Str) : D → Option D
  | .str x => if (codes x).length ≤ 1000 ∧ z.length ≤ 100 then some (.str (Txt.replace x y z)) else none
  | _ => none
theorem de_ifRepl (hb : DE X W b g) (ho : DE X W o u) (he : DE X W e f) (hyz : ((Str.ofString y') == (Str.ofString z)) = false := by decide) (hm : behindInMarks .In b = false := by first | exact nomark _ | with_unfolding_all rfl)
    (hst : starEach [.Constant (.str (Str.ofString y')) j1 c1, .Constant (.str (Str.ofString z)) j2 c2] X.env = [(false, eval (.Constant (.str (Str.ofString y')) j1 c1) X.env), (false, eval (.Constant (.str (Str.ofString z)) j2 c2) X.env)] := by rfl)
    (hbase : attributeBase o "replace" X.env (eval o X.env) = eval o X.env := by rfl) (hline : (apos.endLine == cpos.line) = true := by rfl) :
    DE X W (.IfExp (.Compare (.Constant (.str (Str.ofString y)) j0 c0) [.In] [b] p1) (.Call (.Attribute o "replace" apos) [.Constant (.str (Str.ofString y')) j1 c1, .Constant (.str (Str.ofString z)) j2 c2] [] cpos) e pos)
      (eIf (bBin dIn (eK (ds (cs y))) g) (eUn (dRepl (Str.ofString y') (Str.ofString z)) u) f) := pe_imp (pe_ifRepl (ptt_in op_inn hb hm) (CwR.pet_replC ho hyz hst hbase hline) he) fun σ H Q ⟨F, st, w, R, e, k⟩ => by
  unfold eIf at e
  obtain ⟨r1, e1, e⟩ := Option.bind_eq_some_iff.mp e
  have hK : ∀ σ H Q, tD X.K W (eK (ds (cs y))) σ H Q → tC (.str (Str.ofString y)) σ H Q := fun σ H Q ⟨F, st, r, R, e, k⟩ => by
    cases e
    exact k _ F H R (Same.refl _) (by rw [Str.ofString_eq_toList y]; exact .str _)
  have key : ∀ Q, tT X.K W (bBin dIn (eK (ds (cs y))) g) σ H Q → tTest (tOp (rInn X.K) (tC (.str (Str.ofString y))) (tD X.K W g)) σ H Q := fun Q h => hK _ _ _ (tOpT_of sIn σ H Q h)
  refine key _ ⟨F, st, r1, R, e1, fun F1 H1 R1 s1 => ?_⟩
  obtain ⟨c, r1b⟩ := r1
  cases c with
  | true =>
    rw [if_pos rfl] at e ⊢
    unfold eUn at e
    obtain ⟨r2, e2, e⟩ := Option.bind_eq_some_iff.mp e
    obtain ⟨q, e3, e⟩ := Option.map_eq_some_iff.mp e
    cases e
    refine ⟨F1, r1b, r2, R1, e2, fun v F2 H2 R2 s2 d2 => ?_⟩
    unfold dRepl at e3
    split at e3
    · rename_i x hx
      split at e3
      · rename_i hc
        cases e3
        rw [hx] at d2
        have hl : x.length ≤ 1000 := by have := hc.1; rwa [← codes_len] at this
        have hm2 : (x.length + 1) * (Str.ofString z).length ≤ 1001 * 100 := Nat.mul_le_mul (by omega) hc.2
        exact ⟨x, dp_str d2, by omega, k _ F2 H2 R2 (s1.trans s2) (.str _)⟩
      · cases e3
    · cases e3
  | false =>
    rw [if_neg Bool.false_ne_true] at e ⊢
    exact ⟨F1, r1b, w, R1, e, fun v F2 H2 R2 s2 d2 => k v F2 H2 R2 (s1.trans s2) d2⟩
end
end DL

set_option Elab.async false
set_option linter.all false
set_option maxRecDepth 100000
set_option maxHeartbeats 4000000
namespace DL
open PySem PySem.Spec L2

/-! ### what the written part says of an error class with an own __init__ -/
def clsBody : Stmt → List Stmt
  | .ClassDef (body := b) .. => b
  | _ => []
structure ErrC (K : PySem.W.Frag) (mg : Str → Option Value) (c : Str) (fs : List Str) (C : Addr) : Prop where
  cls : OexC K C
  xf : XfC K C
  ex : ExcC K C
  m : mg c = some (.ref C)
  te : PySem.W.exmOne K (.ref C) (.ref C) = some true
  no : ∀ f ∈ fs, PySem.W.findIn K (.ref C) f = some none
structure IniC (K : PySem.W.Frag) (C : Addr) (qual : Str) (st : Stmt) (ps : List Str) (f : Addr) (fd : FuncData) : Prop where
  F : Fun K "__init__" qual st f fd
  b : Binds K fd ps []
  i : PySem.W.findIn K (.ref C) "__init__" = some (some (.ref f))
  t : PySem.W.typeIn K (.ref f) = some (.type "function")
theorem xc_of {P : Program} {w : World} {K : PySem.W.Frag} {mg : Str → Option Value} {base : Heap} {c qual : Str} {ns fs ps : List Str} {C f : Addr} {k : Nat} {st : Stmt} {fd : FuncData} (E : ErrC K mg c fs C) (I : IniC K C qual st ps f fd) (ok : FnOk P w K mg base CX0 k f fd ps (spInit C ns)) : XcOk P w K mg base c ns C k :=
  ⟨E.cls, E.m, f, fd, ps, I.i, I.t, I.b, ok⟩
section
variable {K : PySem.W.Frag} {h : Heap} {mg : Str → Option Value} {c qual : Str} {fs ps : List Str} {C f : Addr} {st : Stmt}
theorem err_go {G' : Prop} {nm q : Str} {N : Addr} {bs bm : List Value} {sn : List Str} {sub : List Value} {ab : Bool} {col : Option Bool} {dd : Option Addr} {m0 m1 m2 m3 m5 : Option Value} (KX : K.In h) (G : h.Ns mainGlobals mg)
    (aC : PySem.W.nsIn K mainGlobals c = some (some (.ref C))) (xL : K.lookup C = some (excClassObj nm q C N bs bm true sn sub ab col dd m0 m1 m2 m3 m5 "ValueError.__new__")) (hb : PySem.HandSPX.refsVE bm = true)
    (sa : PySem.W.findIn K (.ref C) "__setattr__" = some (some (.builtin "object.__setattr__"))) (ga : PySem.W.findIn K (.ref C) "__getattribute__" = some (some (.builtin "BaseException.__getattribute__"))) (gg : PySem.W.findIn K (.ref C) "__getattr__" = some none)
    (no : ∀ f ∈ fs, PySem.W.findIn K (.ref C) f = some none) (kC : PySem.W.keepIn K (.ref C) = true) (eC : PySem.W.subIn K (.ref C) (.type "BaseException") = some true) (tC : PySem.W.typeIn K (.ref C) = some (.type "type")) (hC : PySem.W.hasDictIn K C = true) (sC : PySem.W.subIn K (.ref C) (.ref C) = some true)
    (ca : PySem.W.findIn K (.ref C) "__class__" = some (some (.builtin "object.__class__"))) (cn : PySem.W.specialIn K (.builtin "object.__class__") "__get__" = some (some (.builtin "getset_descriptor.__get__"))) (ct : PySem.W.takesIn K (.builtin "object.__class__") = some true) (cm : PySem.W.mroIn K C (.type "object") = some true)
    (go : ErrC K mg c fs C → G') : G' :=
  go ⟨⟨⟨nm, q, N, bs, bm, sn, sub, ab, col, dd, m0, m1, m2, m3, m5, xL, hb⟩, sa, eC, tC, kC⟩, ⟨ga, gg, eC, hC⟩, ⟨ga, gg, eC, hC, ca, cn, ct, cm⟩, PySem.W.mg_of KX G aC, PySem.W.exm_ref eC hC tC sC, no⟩
theorem ini_go {G' : Prop} (_ : ErrC K mg c fs C) {oc : Value} {od an : Option Addr} {osl : Array (Option Value)} {kV doc pm cdv ct : Value}
    (i : PySem.W.findIn K (.ref C) "__init__" = some (some (.ref f))) (t : PySem.W.typeIn K (.ref f) = some (.type "function"))
    (l : K.lookup f = some ⟨oc, od, .func (PySem.W.fnOf "__init__" qual (defArgs st) (defBody st) (defScope st) .none kV doc pm an cdv ct), osl⟩) (c' : PySem.W.codeIn K cdv qual = true) (k : PySem.W.keepIn K (.ref f) = true)
    (b : ∀ (kV doc pm : Value) (an : Option Addr) (cdv ct : Value) (us : List Value), us.length = ps.length → bindArgs (PySem.W.fnOf "__init__" qual (defArgs st) (defBody st) (defScope st) .none kV doc pm an cdv ct) ⟨us, []⟩ = pure (ps.zip us))
    (go : ∀ fd, IniC K C qual st ps f fd → G') : G' :=
  go _ ⟨fun_mk l c' k, (fun_mk l c' k).binds b, i, t⟩
end
section
variable {K : PySem.W.Frag} {h : Heap} {mg : Str → Option Value} {c x f1 f2 : Str} {fs : List Str} {C A : Addr} {T : String}
theorem no_two (h1 : PySem.W.findIn K (.ref C) f1 = some none) (h2 : PySem.W.findIn K (.ref C) f2 = some none) : ∀ f ∈ [f1, f2], PySem.W.findIn K (.ref C) f = some none := fun f hf => by
  rcases List.mem_cons.mp hf with rfl | hf
  · exact h1
  · rcases List.mem_cons.mp hf with rfl | hf
    · exact h2
    · cases hf
theorem cls_go {G' : Prop} (KX : K.In h) (G : h.Ns mainGlobals mg) (a : PySem.W.nsIn K mainGlobals x = some (some (.ref C))) (go : mg x = some (.ref C) → G') : G' := go (PySem.W.mg_of KX G a)
theorem isa_go {G' : Prop} (_ : ErrC K mg c fs C) (_ : mg x = some (.ref A)) (k : PySem.W.kitOne K (.ref C) (.ref A) = some true) (go : PySem.W.kitOne K (.ref C) (.ref A) = some true → G') : G' := go k
theorem isa_goT {G' : Prop} (_ : ErrC K mg c fs C) (k : PySem.W.kitOne K (.ref C) (.type T) = some true) (go : PySem.W.kitOne K (.ref C) (.type T) = some true → G') : G' := go k
end
end DL

set_option Elab.async false
set_option linter.all false
set_option maxRecDepth 100000
set_option maxHeartbeats 4000000
namespace DL
open PySem PySem.Spec L2
def k_LETTERS : D := (ds (cs "abcdefghijklmnopqrstuvwxyz"))
def k_FIGURES : D := (ds (cs "0123456789"))
def k_SIGNS : D := (ds (cs "abcdefghijklmnopqrstuvwxyz0123456789 .,:+"))
def k_KEPT : D := (.tuple [(ds (cs "name")), (ds (cs "hidden")), (ds (cs "release")), (ds (cs "feature")), (ds (cs "row")), (ds (cs "start")), (ds (cs "later")), (ds (cs "signer")), (ds (cs "book")), (ds (cs "end")), (ds (cs "after")), (ds (cs "up")), (ds (cs "down")), (ds (cs "never")), (ds (cs "from")), (ds (cs "not")), (ds (cs "at")), (ds (cs "none")), (ds (cs "on")), (ds (cs "need")), (ds (cs "clash")), (ds (cs "either")), (ds (cs "same")), (ds (cs "most")), (ds (cs "least")), (ds (cs "of")), (ds (cs "and")), (ds (cs "or")), (ds (cs "come")), (ds (cs "go")), (ds (cs "publish")), (ds (cs "withdraw")), (ds (cs "answer")), (ds (cs "letter")), (ds (cs "heard"))])
def k_GREATEST_PRICE : D := (.int 1000000000)
def k_FIRST_WORDS : D := (.tuple [(ds (cs "name")), (ds (cs "hidden")), (ds (cs "release")), (ds (cs "feature")), (ds (cs "row")), (ds (cs "start")), (ds (cs "later")), (ds (cs "signer")), (ds (cs "book")), (ds (cs "end"))])
def k_LIMITS : List (List Nat × Int) := [(cs "lines", 900), (cs "signs", 400)]
def b_sign_fault : SS :=
  (sSeq (sIf (bBin dEq (eNm 0) (eK (ds (cs ""))))
  (sRet (eK (ds (cs "empty"))))
  sNext)
  (sSeq (sFor (gNm 1) (iAny (eNm 0))
  (sIf (bBin dNotIn (eNm 1) (eK k_SIGNS))
  (sRet (eK (ds (cs "sign"))))
  sNext))
  (sSeq (sIf (bOr (bBin dEq (eBin dIx (eNm 0) (eK (.int 0))) (eK (ds (cs " ")))) (bOr (bBin dEq (eBin dIx (eNm 0) (eUn dNeg (eK (.int 1)))) (eK (ds (cs " ")))) (bBin dIn (eK (ds (cs "  "))) (eNm 0))))
  (sRet (eK (ds (cs "sign"))))
  sNext)
  (sRet (eK (ds (cs "")))))))
def f_sign_fault : PF := runP 2 1 b_sign_fault
def b_is_figures : SS :=
  (sSeq (sIf (bOr (bBin dEq (eNm 0) (eK (ds (cs "")))) (bAnd (bBin dEq (eBin dIx (eNm 0) (eK (.int 0))) (eK (ds (cs "0")))) (bBin dNe (eNm 0) (eK (ds (cs "0"))))))
  (sRet (eK (.bool false)))
  sNext)
  (sSeq (sFor (gNm 1) (iAny (eNm 0))
  (sIf (bBin dNotIn (eNm 1) (eK k_FIGURES))
  (sRet (eK (.bool false)))
  sNext))
  (sRet (eK (.bool true)))))
def f_is_figures : PF := runP 2 1 b_is_figures
def b_is_number : SS :=
  (sSeq (sIf (bOr (bNot (bUn truD (eCallP f_is_figures (aCons (eNm 0) aNil)))) (bBin dGt (eCall fLen (aCons (eNm 0) aNil)) (eK (.int 10))))
  (sRet (eK (.bool false)))
  sNext)
  (sRet (eB (bChain dLe dLe (eNm 1) (eCall fInt (aCons (eNm 0) aNil)) (eNm 2)))))
def f_is_number : PF := runP 3 3 b_is_number
def b_is_word : SS :=
  (sSeq (sIf (bOr (bBin dEq (eNm 0) (eK (ds (cs "")))) (bOr (bBin dGt (eCall fLen (aCons (eNm 0) aNil)) (eK (.int 12))) (bBin dNotIn (eBin dIx (eNm 0) (eK (.int 0))) (eK k_LETTERS))))
  (sRet (eK (.bool false)))
  sNext)
  (sSeq (sFor (gNm 1) (iAny (eNm 0))
  (sIf (bAnd (bBin dNotIn (eNm 1) (eK k_LETTERS)) (bBin dNotIn (eNm 1) (eK k_FIGURES)))
  (sRet (eK (.bool false)))
  sNext))
  (sRet (eB (bBin dNotIn (eNm 0) (eK k_KEPT))))))
def f_is_word : PF := runP 2 1 b_is_word
def b_is_version : SS :=
  (sSeq (sSet 1 (eFz (oSplit (eNm 0) (eK (ds (cs "."))))))
  (sSeq (sIf (bBin dGt (eCall fLen (aCons (eNm 1) aNil)) (eK (.int 3)))
  (sRet (eK (.bool false)))
  sNext)
  (sSeq (sFor (gNm 2) (iAny (eNm 1))
  (sIf (bNot (bUn truD (eCallP f_is_number (aCons (eNm 2) (aCons (eK (.int 0)) (aCons (eK (.int 999)) aNil))))))
  (sRet (eK (.bool false)))
  sNext))
  (sRet (eK (.bool true))))))
def f_is_version : PF := runP 3 1 b_is_version
def b_is_release : SS :=
  (sRet (eOr (eB (bBin dEq (eNm 0) (eK (ds (cs "on"))))) (eCallP f_is_version (aCons (eNm 0) aNil))))
def f_is_release : PF := runP 1 1 b_is_release
def b_is_price : SS :=
  (sRet (eOr (eB (bBin dEq (eNm 0) (eK (ds (cs "never"))))) (eCallP f_is_number (aCons (eNm 0) (aCons (eK (.int 1)) (aCons (eK k_GREATEST_PRICE) aNil))))))
def f_is_price : PF := runP 1 1 b_is_price
def b_price_of : SS :=
  (sSeq (sIf (bBin dEq (eNm 0) (eK (ds (cs "never"))))
  (sRet (eK .none))
  sNext)
  (sRet (eCall fInt (aCons (eNm 0) aNil))))
def f_price_of : PF := runP 1 1 b_price_of
def b_is_short_name : SS :=
  (sSeq (sSet 1 (eFz (oSplit (eNm 0) (eK (ds (cs "+"))))))
  (sSeq (sIf (bBin dGt (eCall fLen (aCons (eNm 1) aNil)) (eK (.int 2)))
  (sRet (eK (.bool false)))
  sNext)
  (sSeq (sFor (gNm 2) (iAny (eNm 1))
  (sIf (bNot (bUn truD (eCallP f_is_word (aCons (eNm 2) aNil))))
  (sRet (eK (.bool false)))
  sNext))
  (sRet (eK (.bool true))))))
def f_is_short_name : PF := runP 3 1 b_is_short_name
def b_is_whole_name : SS :=
  (sSeq (sSet 1 (eFz (oSplit (eNm 0) (eK (ds (cs "."))))))
  (sSeq (sIf (bBin dEq (eCall fLen (aCons (eNm 1) aNil)) (eK (.int 1)))
  (sRet (eCallP f_is_short_name (aCons (eNm 0) aNil)))
  sNext)
  (sRet (eAnd (eB (bBin dEq (eCall fLen (aCons (eNm 1) aNil)) (eK (.int 2)))) (eAnd (eCallP f_is_word (aCons (eBin dIx (eNm 1) (eK (.int 0))) aNil)) (eCallP f_is_short_name (aCons (eBin dIx (eNm 1) (eK (.int 1))) aNil)))))))
def f_is_whole_name : PF := runP 2 1 b_is_whole_name
def b_read_condition : SS :=
  (sSeq (sIf (bOr (bBin dLt (eCall fLen (aCons (eNm 0) aNil)) (eK (.int 2))) (bBin dGt (eCall fLen (aCons (eNm 0) aNil)) (eK (.int 4))))
  (sRet (eK .none))
  sNext)
  (sSeq (sSet 2 (eBin dIx (eNm 0) (eK (.int 0))))
  (sSeq (sIf (bUn truD (eNm 1))
  (sIf (bNot (bUn truD (eCallP f_is_whole_name (aCons (eNm 2) aNil))))
  (sRet (eK .none))
  sNext)
  (sIf (bNot (bUn truD (eCallP f_is_short_name (aCons (eNm 2) aNil))))
  (sRet (eK .none))
  sNext))
  (sSeq (sIf (bBin dEq (eCall fLen (aCons (eNm 0) aNil)) (eK (.int 2)))
  (sSeq (sIf (bBin dEq (eBin dIx (eNm 0) (eK (.int 1))) (eK (ds (cs "none"))))
  (sRet (eTup (aCons (eNm 2) (aCons (eK (ds (cs "none"))) aNil))))
  sNext)
  (sRet (eK .none)))
  sNext)
  (sSeq (sIf (bNot (bUn truD (eCallP f_is_release (aCons (eBin dIx (eNm 0) (eUn dNeg (eK (.int 1)))) aNil))))
  (sRet (eK .none))
  sNext)
  (sSeq (sIf (bBin dEq (eCall fLen (aCons (eNm 0) aNil)) (eK (.int 4)))
  (sSeq (sIf (bAnd (bBin dEq (eBin dIx (eNm 0) (eK (.int 1))) (eK (ds (cs "not")))) (bBin dEq (eBin dIx (eNm 0) (eK (.int 2))) (eK (ds (cs "from")))))
  (sRet (eTup (aCons (eNm 2) (aCons (eK (ds (cs "not"))) (aCons (eBin dIx (eNm 0) (eK (.int 3))) aNil)))))
  sNext)
  (sRet (eK .none)))
  sNext)
  (sSeq (sIf (bOr (bBin dEq (eBin dIx (eNm 0) (eK (.int 1))) (eK (ds (cs "from")))) (bBin dEq (eBin dIx (eNm 0) (eK (.int 1))) (eK (ds (cs "at")))))
  (sRet (eTup (aCons (eNm 2) (aCons (eBin dIx (eNm 0) (eK (.int 1))) (aCons (eBin dIx (eNm 0) (eK (.int 2))) aNil)))))
  sNext)
  (sRet (eK .none)))))))))
def f_read_condition : PF := runP 3 2 b_read_condition
def b_read_conditions : SS :=
  (sSeq (sSet 4 (eCallP f_split_tokens (aCons (eNm 0) (aCons (eNm 1) aNil))))
  (sSeq (sIf (bNot (bChain dLe dLe (eNm 2) (eCall fLen (aCons (eNm 4) aNil)) (eNm 3)))
  (sRet (eK .none))
  sNext)
  (sSeq (sSetO 5 (oLst aNil))
  (sSeq (sFor (gNm 6) (iAny (eNm 4))
  (sSeq (sSet 7 (eCallP f_read_condition (aCons (eNm 6) (aCons (eK (.bool false)) aNil))))
  (sSeq (sIf (bUn dIsN (eNm 7))
  (sRet (eK .none))
  sNext)
  (sApp 5 (eNm 7)))))
  (sRet (eCallV fTuple (oNm 5)))))))
def f_read_conditions : PF := runP 8 4 b_read_conditions
def b_read_need : SS :=
  (sSeq (sSet 1 (eCallP f_split_tokens (aCons (eNm 0) (aCons (eK (ds (cs ":"))) aNil))))
  (sSeq (sIf (bBin dNe (eCall fLen (aCons (eNm 1) aNil)) (eK (.int 2)))
  (sRet (eK .none))
  sNext)
  (sSeq (sSet 2 (eCallP f_read_conditions (aCons (eBin dIx (eNm 1) (eK (.int 0))) (aCons (eK (ds (cs "and"))) (aCons (eK (.int 1)) (aCons (eK (.int 4)) aNil))))))
  (sSeq (sSet 3 (eCallP f_read_conditions (aCons (eBin dIx (eNm 1) (eK (.int 1))) (aCons (eK (ds (cs "or"))) (aCons (eK (.int 1)) (aCons (eK (.int 6)) aNil))))))
  (sSeq (sIf (bOr (bUn dIsN (eNm 2)) (bUn dIsN (eNm 3)))
  (sRet (eK .none))
  sNext)
  (sRet (eTup (aCons (eK (ds (cs "need"))) (aCons (eNm 2) (aCons (eNm 3) aNil))))))))))
def f_read_need : PF := runP 4 1 b_read_need
def b_read_counted : SS :=
  (sSeq (sIf (bOr (bBin dLt (eCall fLen (aCons (eNm 0) aNil)) (eK (.int 4))) (bOr (bNot (bUn truD (eCallP f_is_number (aCons (eBin dIx (eNm 0) (eK (.int 1))) (aCons (eK (.int 0)) (aCons (eK (.int 6)) aNil)))))) (bBin dNe (eBin dIx (eNm 0) (eK (.int 2))) (eK (ds (cs "of"))))))
  (sRet (eK .none))
  sNext)
  (sSeq (sSet 1 (eCallP f_read_conditions (aCons (eSl (eNm 0) (pYes (eK (.int 3))) pNo) (aCons (eK (ds (cs ","))) (aCons (eK (.int 1)) (aCons (eK (.int 6)) aNil))))))
  (sSeq (sIf (bUn dIsN (eNm 1))
  (sRet (eK .none))
  sNext)
  (sRet (eTup (aCons (eBin dIx (eNm 0) (eK (.int 0))) (aCons (eCall fInt (aCons (eBin dIx (eNm 0) (eK (.int 1))) aNil)) (aCons (eNm 1) aNil))))))))
def f_read_counted : PF := runP 2 1 b_read_counted
def b_read_form : SS :=
  (sSeq (sIf (bBin dEq (eNm 0) (eFz (oLst aNil)))
  (sRet (eK .none))
  sNext)
  (sSeq (sIf (bBin dEq (eBin dIx (eNm 0) (eK (.int 0))) (eK (ds (cs "need"))))
  (sRet (eCallP f_read_need (aCons (eSl (eNm 0) (pYes (eK (.int 1))) pNo) aNil)))
  sNext)
  (sSeq (sIf (bOr (bBin dEq (eBin dIx (eNm 0) (eK (.int 0))) (eK (ds (cs "most")))) (bBin dEq (eBin dIx (eNm 0) (eK (.int 0))) (eK (ds (cs "least")))))
  (sRet (eCallP f_read_counted (aCons (eNm 0) aNil)))
  sNext)
  (sSeq (sIf (bOr (bBin dEq (eBin dIx (eNm 0) (eK (.int 0))) (eK (ds (cs "clash")))) (bBin dEq (eBin dIx (eNm 0) (eK (.int 0))) (eK (ds (cs "either")))))
  (sSeq (sSet 1 (eCallP f_read_conditions (aCons (eSl (eNm 0) (pYes (eK (.int 1))) pNo) (aCons (eK (ds (cs ","))) (aCons (eIf (bBin dEq (eBin dIx (eNm 0) (eK (.int 0))) (eK (ds (cs "clash")))) (eK (.int 2)) (eK (.int 1))) (aCons (eK (.int 6)) aNil))))))
  (sSeq (sIf (bUn dIsN (eNm 1))
  (sRet (eK .none))
  sNext)
  (sRet (eTup (aCons (eBin dIx (eNm 0) (eK (.int 0))) (aCons (eNm 1) aNil))))))
  sNext)
  (sSeq (sIf (bBin dEq (eBin dIx (eNm 0) (eK (.int 0))) (eK (ds (cs "same"))))
  (sSeq (sSet 1 (eCallP f_read_conditions (aCons (eSl (eNm 0) (pYes (eK (.int 1))) pNo) (aCons (eK (ds (cs ","))) (aCons (eK (.int 2)) (aCons (eK (.int 2)) aNil))))))
  (sSeq (sIf (bUn dIsN (eNm 1))
  (sRet (eK .none))
  sNext)
  (sRet (eTup (aCons (eK (ds (cs "same"))) (aCons (eBin dIx (eNm 1) (eK (.int 0))) (aCons (eBin dIx (eNm 1) (eK (.int 1))) aNil)))))))
  sNext)
  (sRet (eK .none)))))))
def f_read_form : PF := runP 2 1 b_read_form
def b_bound_check : SS :=
  (sIf (bBin dGt (eNm 1) (eUn (dTab k_LIMITS) (eNm 0)))
  sNone
  sNext)
def f_bound_check : PF := runP 2 2 b_bound_check
def b_text_rows : SS :=
  (sSeq (sSet 1 (eFz (oSplit (eNm 0) (eK (ds (cs "\n"))))))
  (sSeq (sIf (bBin dEq (eBin dIx (eNm 1) (eUn dNeg (eK (.int 1)))) (eK (ds (cs ""))))
  (sRet (eSl (eNm 1) pNo (pYes (eUn dNeg (eK (.int 1))))))
  sNext)
  (sRet (eNm 1))))
def f_text_rows : PF := runP 2 1 b_text_rows
def b_checked_rows : SS :=
  (sSeq (sSet 1 (eCallP f_text_rows (aCons (eNm 0) aNil)))
  (sSeq (sDrop (eCallP f_bound_check (aCons (eK (ds (cs "lines"))) (aCons (eCall fLen (aCons (eNm 1) aNil)) aNil))))
  (sSeq (sFor (gNm 2) (iAny (eNm 1))
  (sDrop (eCallP f_bound_check (aCons (eK (ds (cs "signs"))) (aCons (eCall fLen (aCons (eNm 2) aNil)) aNil)))))
  (sRet (eNm 1)))))
def f_checked_rows : PF := runP 3 1 b_checked_rows
def b_read_release : SS :=
  (sSeq (sIf (bOr (bBin dNe (eCall fLen (aCons (eNm 0) aNil)) (eK (.int 9))) (bOr (bNot (bUn truD (eCallP f_is_word (aCons (eBin dIx (eNm 0) (eK (.int 1))) aNil)))) (bNot (bUn truD (eCallP f_is_version (aCons (eBin dIx (eNm 0) (eK (.int 2))) aNil))))))
  (sRet (eK .none))
  sNext)
  (sSeq (sIf (bOr (bBin dNe (eBin dIx (eNm 0) (eK (.int 3))) (eK (ds (cs "after")))) (bOr (bBin dNe (eBin dIx (eNm 0) (eK (.int 5))) (eK (ds (cs "up")))) (bBin dNe (eBin dIx (eNm 0) (eK (.int 7))) (eK (ds (cs "down"))))))
  (sRet (eK .none))
  sNext)
  (sSeq (sIf (bAnd (bBin dNe (eBin dIx (eNm 0) (eK (.int 4))) (eK (ds (cs "none")))) (bNot (bUn truD (eCallP f_is_version (aCons (eBin dIx (eNm 0) (eK (.int 4))) aNil)))))
  (sRet (eK .none))
  sNext)
  (sSeq (sIf (bOr (bNot (bUn truD (eCallP f_is_price (aCons (eBin dIx (eNm 0) (eK (.int 6))) aNil)))) (bNot (bUn truD (eCallP f_is_price (aCons (eBin dIx (eNm 0) (eK (.int 8))) aNil)))))
  (sRet (eK .none))
  sNext)
  (sRet (eTup (aCons (eK (ds (cs "release"))) (aCons (eBin dIx (eNm 0) (eK (.int 1))) (aCons (eBin dIx (eNm 0) (eK (.int 2))) (aCons (eBin dIx (eNm 0) (eK (.int 4))) (aCons (eCallP f_price_of (aCons (eBin dIx (eNm 0) (eK (.int 6))) aNil)) (aCons (eCallP f_price_of (aCons (eBin dIx (eNm 0) (eK (.int 8))) aNil)) aNil))))))))))))
def f_read_release : PF := runP 1 1 b_read_release
def b_read_feature : SS :=
  (sSeq (sIf (bOr (bBin dNe (eCall fLen (aCons (eNm 0) aNil)) (eK (.int 9))) (bOr (bNot (bUn truD (eCallP f_is_word (aCons (eBin dIx (eNm 0) (eK (.int 1))) aNil)))) (bOr (bNot (bUn truD (eCallP f_is_word (aCons (eBin dIx (eNm 0) (eK (.int 2))) aNil)))) (bNot (bUn truD (eCallP f_is_version (aCons (eBin dIx (eNm 0) (eK (.int 4))) aNil)))))))
  (sRet (eK .none))
  sNext)
  (sSeq (sIf (bOr (bBin dNe (eBin dIx (eNm 0) (eK (.int 3))) (eK (ds (cs "from")))) (bOr (bBin dNe (eBin dIx (eNm 0) (eK (.int 5))) (eK (ds (cs "up")))) (bBin dNe (eBin dIx (eNm 0) (eK (.int 7))) (eK (ds (cs "down"))))))
  (sRet (eK .none))
  sNext)
  (sSeq (sIf (bOr (bNot (bUn truD (eCallP f_is_price (aCons (eBin dIx (eNm 0) (eK (.int 6))) aNil)))) (bNot (bUn truD (eCallP f_is_price (aCons (eBin dIx (eNm 0) (eK (.int 8))) aNil)))))
  (sRet (eK .none))
  sNext)
  (sRet (eTup (aCons (eK (ds (cs "feature"))) (aCons (eBin dIx (eNm 0) (eK (.int 1))) (aCons (eBin dIx (eNm 0) (eK (.int 2))) (aCons (eBin dIx (eNm 0) (eK (.int 4))) (aCons (eCallP f_price_of (aCons (eBin dIx (eNm 0) (eK (.int 6))) aNil)) (aCons (eCallP f_price_of (aCons (eBin dIx (eNm 0) (eK (.int 8))) aNil)) aNil)))))))))))
def f_read_feature : PF := runP 1 1 b_read_feature
def b_read_signer : SS :=
  (sSeq (sIf (bOr (bBin dLt (eCall fLen (aCons (eNm 0) aNil)) (eK (.int 5))) (bOr (bNot (bUn truD (eCallP f_is_word (aCons (eBin dIx (eNm 0) (eK (.int 1))) aNil)))) (bOr (bNot (bUn truD (eCallP f_is_number (aCons (eBin dIx (eNm 0) (eK (.int 2))) (aCons (eK (.int 1)) (aCons (eK (.int 99)) aNil)))))) (bBin dNe (eBin dIx (eNm 0) (eK (.int 3))) (eK (ds (cs ":")))))))
  (sRet (eK .none))
  sNext)
  (sSeq (sFor (gNm 1) (iAny (eSl (eNm 0) (pYes (eK (.int 4))) pNo))
  (sIf (bNot (bUn truD (eCallP f_is_short_name (aCons (eNm 1) aNil))))
  (sRet (eK .none))
  sNext))
  (sRet (eTup (aCons (eK (ds (cs "signer"))) (aCons (eBin dIx (eNm 0) (eK (.int 1))) (aCons (eCall fInt (aCons (eBin dIx (eNm 0) (eK (.int 2))) aNil)) (aCons (eCall fTuple (aCons (eSl (eNm 0) (pYes (eK (.int 4))) pNo) aNil)) aNil))))))))
def f_read_signer : PF := runP 2 1 b_read_signer
def b_read_line : SS :=
  (sSeq (sSet 1 (eBin dIx (eNm 0) (eK (.int 0))))
  (sSeq (sIf (bBin dEq (eNm 1) (eK (ds (cs "release"))))
  (sRet (eCallP f_read_release (aCons (eNm 0) aNil)))
  sNext)
  (sSeq (sIf (bBin dEq (eNm 1) (eK (ds (cs "feature"))))
  (sRet (eCallP f_read_feature (aCons (eNm 0) aNil)))
  sNext)
  (sSeq (sIf (bBin dEq (eNm 1) (eK (ds (cs "signer"))))
  (sRet (eCallP f_read_signer (aCons (eNm 0) aNil)))
  sNext)
  (sSeq (sIf (bBin dEq (eNm 1) (eK (ds (cs "row"))))
  (sSeq (sSet 2 (eCallP f_read_form (aCons (eSl (eNm 0) (pYes (eK (.int 1))) pNo) aNil)))
  (sSeq (sIf (bUn dIsN (eNm 2))
  (sRet (eK .none))
  sNext)
  (sRet (eTup (aCons (eK (ds (cs "row"))) (aCons (eNm 2) aNil))))))
  sNext)
  (sSeq (sIf (bBin dEq (eNm 1) (eK (ds (cs "end"))))
  (sRet (eIf (bBin dEq (eCall fLen (aCons (eNm 0) aNil)) (eK (.int 1))) (eTup (aCons (eK (ds (cs "end"))) aNil)) (eK .none)))
  sNext)
  (sSeq (sIf (bOr (bBin dEq (eNm 1) (eK (ds (cs "start")))) (bBin dEq (eNm 1) (eK (ds (cs "later")))))
  (sSeq (sIf (bAnd (bBin dEq (eCall fLen (aCons (eNm 0) aNil)) (eK (.int 3))) (bAnd (bUn truD (eCallP f_is_short_name (aCons (eBin dIx (eNm 0) (eK (.int 1))) aNil))) (bUn truD (eCallP f_is_release (aCons (eBin dIx (eNm 0) (eK (.int 2))) aNil)))))
  (sRet (eCall fTuple (aCons (eNm 0) aNil)))
  sNext)
  (sRet (eK .none)))
  sNext)
  (sSeq (sIf (bAnd (bBin dEq (eCall fLen (aCons (eNm 0) aNil)) (eK (.int 2))) (bUn truD (eCallP f_is_word (aCons (eBin dIx (eNm 0) (eK (.int 1))) aNil))))
  (sRet (eCall fTuple (aCons (eNm 0) aNil)))
  sNext)
  (sRet (eK .none))))))))))
def f_read_line : PF := runP 3 1 b_read_line
def b_read_lines : SS :=
  (sSeq (sSet 1 (eCallP f_checked_rows (aCons (eNm 0) aNil)))
  (sSeq (sSetO 2 (oLst aNil))
  (sSeq (sFor (gTupD (gsCons (gNm 3) (gsCons (gNm 4) gsNil))) (iEnu (aCons (eNm 1) aNil))
  (sSeq (sSet 5 (eCallP f_sign_fault (aCons (eNm 4) aNil)))
  (sSeq (sIf (bBin dNe (eNm 5) (eK (ds (cs ""))))
  sNone
  sNext)
  (sSeq (sSet 6 (eFz (oSplit (eNm 4) (eK (ds (cs " "))))))
  (sSeq (sIf (bBin dNotIn (eBin dIx (eNm 6) (eK (.int 0))) (eK k_FIRST_WORDS))
  sNone
  sNext)
  (sSeq (sSet 7 (eCallP f_read_line (aCons (eNm 6) aNil)))
  (sSeq (sIf (bUn dIsN (eNm 7))
  sNone
  sNext)
  (sApp 2 (eNm 7)))))))))
  (sRetO (oNm 2)))))
def f_read_lines : PF := runP 8 1 b_read_lines
def bx_read_lines : XS :=
  (xSeq (xLift (sSet 1 (eCallP f_checked_rows (aCons (eNm 0) aNil))))
  (xSeq (xLift (sSetO 2 (oLst aNil)))
  (xSeq (xFor (gTupD (gsCons (gNm 3) (gsCons (gNm 4) gsNil))) (iEnu (aCons (eNm 1) aNil))
  (xSeq (xLift (sSet 5 (eCallP f_sign_fault (aCons (eNm 4) aNil))))
  (xSeq (xIf (bBin dNe (eNm 5) (eK (ds (cs ""))))
  (xRaise "BadText" ["line", "what"] (aCons (eBin dAdd (eNm 3) (eK (.int 1))) (aCons (eNm 5) aNil)))
  xNext)
  (xSeq (xLift (sSet 6 (eFz (oSplit (eNm 4) (eK (ds (cs " ")))))))
  (xSeq (xIf (bBin dNotIn (eBin dIx (eNm 6) (eK (.int 0))) (eK k_FIRST_WORDS))
  (xRaise "BadText" ["line", "what"] (aCons (eBin dAdd (eNm 3) (eK (.int 1))) (aCons (eK (ds (cs "word"))) aNil)))
  xNext)
  (xSeq (xLift (sSet 7 (eCallP f_read_line (aCons (eNm 6) aNil))))
  (xSeq (xIf (bUn dIsN (eNm 7))
  (xRaise "BadText" ["line", "what"] (aCons (eBin dAdd (eNm 3) (eK (.int 1))) (aCons (eK (ds (cs "form"))) aNil)))
  xNext)
  (xLift (sApp 2 (eNm 7))))))))))
  (xLift (sRetO (oNm 2))))))
def fx_read_lines : PX := runX 8 1 bx_read_lines
def b_law_cell : SS :=
  (sRet (eIf (bBin dLt (eNm 1) (eCall fLen (aCons (eNm 0) aNil))) (eCall fInt (aCons (eBin dIx (eNm 0) (eNm 1)) aNil)) (eK (.int 0))))
def f_law_cell : PF := runP 2 2 b_law_cell
def b_law_source : SS :=
  (sSeq (sSet 2 (eBin dAdd (eK (.int 1009)) (eBin dMul (eNm 1) (eK (.int 7919)))))
  (sSeq (sFor (gNm 3) (iAny (eSl (eNm 0) pNo (pYes (eK (.int 63)))))
  (sSet 2 (eBin dMod (eBin dAdd (eBin dAdd (eBin dAdd (eBin dMul (eNm 2) (eK (.int 69621))) (eBin dMul (eBin dMod (eCall fAbs (aCons (eCall fInt (aCons (eNm 3) aNil)) aNil)) (eK (.int 1000003))) (eK (.int 2)))) (eCall fInt (aCons (eB (bBin dLt (eNm 3) (eK (.int 0)))) aNil))) (eK (.int 17))) (eK (.int 2147483647)))))
  (sSeq (sSet 3 (eCall fAbs (aCons (eCallP f_law_cell (aCons (eNm 0) (aCons (eNm 1) aNil))) aNil)))
  (sSeq (sSet 4 (eIf (bBin dGe (eNm 3) (eBin dPow (eK (.int 10)) (eK (.int 18)))) (eNm 3) (eK (.int 0))))
  (sRetO (oLst (aCons (eNm 4) (aCons (eNm 2) (aCons (eBin dMod (eBin dAdd (eBin dAdd (eBin dMul (eNm 2) (eK (.int 48271))) (eBin dMod (eNm 3) (eK (.int 1000033)))) (eK (.int 5))) (eK (.int 2147483629))) (aCons (eK (.int 0)) aNil))))))))))
def f_law_source : PF := runP 5 2 b_law_source
def b_law_pick : SS :=
  (sSeq (sIf (bBin dLe (eNm 1) (eK (.int 1)))
  (sRet (eK (.int 0)))
  sNext)
  (sSeq (sIf (bBin dGt (eIxO 0 (eK (.int 0))) (eK (.int 0)))
  (sSeq (sSet 2 (eBin dMod (eCall fInt (aCons (eIxO 0 (eK (.int 0))) aNil)) (eNm 1)))
  (sSeq (sSetI 0 (eK (.int 0)) (eBin dDiv (eCall fInt (aCons (eIxO 0 (eK (.int 0))) aNil)) (eNm 1)))
  (sRet (eNm 2))))
  sNext)
  (sSeq (sSetI 0 (eK (.int 3)) (eBin dAdd (eIxO 0 (eK (.int 3))) (eK (.int 1))))
  (sSeq (sSetI 0 (eK (.int 1)) (eBin dMod (eBin dAdd (eBin dAdd (eBin dMul (eIxO 0 (eK (.int 1))) (eK (.int 48271))) (eBin dMul (eIxO 0 (eK (.int 3))) (eK (.int 7919)))) (eK (.int 11))) (eK (.int 2147483647))))
  (sSeq (sSetI 0 (eK (.int 2)) (eBin dMod (eBin dAdd (eBin dAdd (eBin dMul (eIxO 0 (eK (.int 2))) (eK (.int 69621))) (eBin dMod (eIxO 0 (eK (.int 1))) (eK (.int 65521)))) (eIxO 0 (eK (.int 3)))) (eK (.int 2147483629))))
  (sRet (eBin dMod (eBin dAdd (eBin dDiv (eIxO 0 (eK (.int 1))) (eK (.int 8))) (eBin dDiv (eIxO 0 (eK (.int 2))) (eK (.int 16)))) (eNm 1))))))))
def f_law_pick : SF := runS 3 2 b_law_pick
def b_law_number : SS :=
  (sSeq (sSet 2 (eCallS f_law_pick 0 (aCons (eK (.int 4)) aNil)))
  (sSeq (sIf (bBin dEq (eNm 2) (eK (.int 0)))
  (sRet (eCallS f_law_pick 0 (aCons (eCall fMin (aCons (eNm 1) (aCons (eK (.int 12)) aNil))) aNil)))
  sNext)
  (sSeq (sIf (bBin dEq (eNm 2) (eK (.int 1)))
  (sRet (eBin dSub (eBin dSub (eNm 1) (eK (.int 1))) (eCallS f_law_pick 0 (aCons (eCall fMin (aCons (eNm 1) (aCons (eK (.int 12)) aNil))) aNil))))
  sNext)
  (sSeq (sSet 3 (eK (.int 0)))
  (sSeq (sFor (gNm 4) (iRng (aCons (eK (.int 4)) aNil))
  (sSet 3 (eBin dAdd (eBin dMul (eNm 3) (eK (.int 1000003))) (eCallS f_law_pick 0 (aCons (eK (.int 1000003)) aNil)))))
  (sRet (eBin dMod (eNm 3) (eNm 1))))))))
def f_law_number : SF := runS 5 2 b_law_number
def b_law_kept : SS :=
  (sSeq (sSet 0 (eK (ds (cs "name hidden release feature row start later signer book end after up down never from not at none on need"))))
  (sSeq (sSet 0 (eBin dAdd (eNm 0) (eK (ds (cs " clash either same most least of and or come go publish withdraw answer letter heard")))))
  (sRet (eFz (oSplit (eNm 0) (eK (ds (cs " "))))))))
def f_law_kept : PF := runP 1 0 b_law_kept
def b_law_words : SS :=
  (sSeq (sSet 2 (eK (ds (cs "abcdefghijklmnopqrstuvwxyz"))))
  (sSeq (sSet 3 (eBin dAdd (eNm 2) (eK (ds (cs "0123456789")))))
  (sSeq (sSetO 4 (oLst aNil))
  (sSeq (sSet 5 (eCallP f_law_kept aNil))
  (sSeq (sSet 6 (eB (bBin dEq (eCallS f_law_pick 0 (aCons (eK (.int 3)) aNil)) (eK (.int 0)))))
  (sSeq (sSet 7 (eBin dAdd (eBin dAdd (eBin dIx (eNm 2) (eCallS f_law_pick 0 (aCons (eK (.int 26)) aNil))) (eBin dIx (eNm 3) (eCallS f_law_pick 0 (aCons (eK (.int 36)) aNil)))) (eBin dIx (eNm 3) (eCallS f_law_pick 0 (aCons (eK (.int 36)) aNil)))))
  (sSeq (sFor (gNm 8) (iRng (aCons (eNm 1) aNil))
  (sSeq (sSet 9 (eIf (bUn truD (eNm 6)) (eNm 7) (eBin dIx (eNm 2) (eCallS f_law_pick 0 (aCons (eK (.int 26)) aNil)))))
  (sSeq (sFor (gNm 10) (iRng (aCons (eIf (bUn truD (eNm 6)) (eK (.int 2)) (eIf (bBin dEq (eCallS f_law_pick 0 (aCons (eK (.int 5)) aNil)) (eK (.int 0))) (eCallS f_law_pick 0 (aCons (eK (.int 12)) aNil)) (eCallS f_law_pick 0 (aCons (eK (.int 4)) aNil)))) aNil))
  (sSet 9 (eBin dAdd (eNm 9) (eBin dIx (eNm 3) (eCallS f_law_pick 0 (aCons (eK (.int 36)) aNil))))))
  (sSeq (sFor (gNm 10) (iRng (aCons (eBin dAdd (eNm 1) (eK (.int 40))) aNil))
  (sSeq (sIf (bAnd (bBin dNotIn (eNm 9) (eNm 5)) (bBinV dNotIn (eNm 9) (oNm 4)))
  sBrk
  sNext)
  (sSet 9 (eBin dAdd (eBin dAdd (eBin dAdd (eK (ds (cs "z"))) (eCall fStr (aCons (eNm 10) aNil))) (eK (ds (cs "x")))) (eCall fStr (aCons (eNm 8) aNil))))))
  (sApp 4 (eNm 9))))))
  (sRetO (oNm 4)))))))))
def f_law_words : SF := runS 11 2 b_law_words
def b_law_same (self : PF) : SS :=
  (sSeq (sIf (bUn truD (eUn (dIsi2 "tuple" "list") (eNm 1)))
  (sSeq (sIf (bOr (bNot (bUn truD (eUn (dIsi2 "tuple" "list") (eNm 0)))) (bOr (bBin dNe (eUn (dIsi "list") (eNm 0)) (eUn (dIsi "list") (eNm 1))) (bBin dNe (eCall fLen (aCons (eNm 0) aNil)) (eCall fLen (aCons (eNm 1) aNil)))))
  (sRet (eK (.bool false)))
  sNext)
  (sRet (eCall fAll (aCons (eFz (oComp 2 bYes (eCallP self (aCons (eBin dIx (eNm 0) (eNm 2)) (aCons (eBin dIx (eNm 1) (eNm 2)) aNil))) (iRng (aCons (eCall fLen (aCons (eNm 1) aNil)) aNil)))) aNil))))
  sNext)
  (sSeq (sIf (bUn truD (eUn (dIsi "dict") (eNm 1)))
  (sRet (eAnd (eUn (dIsi "dict") (eNm 0)) (eAnd (eB (bBin dEq (eCall fLen (aCons (eNm 0) aNil)) (eCall fLen (aCons (eNm 1) aNil)))) (eCall fAll (aCons (eFz (oComp 3 bYes (eAnd (eB (bBin dIn (eNm 3) (eNm 0))) (eCallP self (aCons (eBin dIx (eNm 0) (eNm 3)) (aCons (eBin dIx (eNm 1) (eNm 3)) aNil)))) (iAny (eNm 1)))) aNil)))))
  sNext)
  (sSeq (sSet 4 (eAnd (eB (bBin dEq (eUn (dIsi "bool") (eNm 0)) (eUn (dIsi "bool") (eNm 1)))) (eB (bBin dEq (eUn (dIsi "int") (eNm 0)) (eUn (dIsi "int") (eNm 1))))))
  (sRet (eAnd (eNm 4) (eAnd (eB (bBin dEq (eUn (dIsi "str") (eNm 0)) (eUn (dIsi "str") (eNm 1)))) (eB (bBin dEq (eNm 0) (eNm 1)))))))))
def f_law_same : Nat → PF
  | 0 => fun _ => none
  | n + 1 => runP 5 2 (b_law_same (f_law_same n))
theorem ar_law_same : ∀ n, Ar 2 (f_law_same n)
  | 0 => ar_none
  | n + 1 => ar_run
def b_law_condition_words : SS :=
  (sSeq (sIf (bBin dEq (eBin dIx (eNm 0) (eK (.int 1))) (eK (ds (cs "none"))))
  (sRet (eBin dAdd (eBin dIx (eNm 0) (eK (.int 0))) (eK (ds (cs " none")))))
  sNext)
  (sSeq (sIf (bBin dEq (eBin dIx (eNm 0) (eK (.int 1))) (eK (ds (cs "not"))))
  (sRet (eBin dAdd (eBin dAdd (eBin dIx (eNm 0) (eK (.int 0))) (eK (ds (cs " not from ")))) (eBin dIx (eNm 0) (eK (.int 2)))))
  sNext)
  (sRet (eBin dAdd (eBin dAdd (eBin dAdd (eBin dAdd (eBin dIx (eNm 0) (eK (.int 0))) (eK (ds (cs " ")))) (eBin dIx (eNm 0) (eK (.int 1)))) (eK (ds (cs " ")))) (eBin dIx (eNm 0) (eK (.int 2)))))))
def f_law_condition_words : PF := runP 1 1 b_law_condition_words
def b_law_parts : SS :=
  (sSeq (sIf (bBin dEq (eBin dIx (eNm 0) (eK (.int 0))) (eK (ds (cs "need"))))
  (sRet (eFz (oCat (oCall fList (aCons (eBin dIx (eNm 0) (eK (.int 1))) aNil)) (oCall fList (aCons (eBin dIx (eNm 0) (eK (.int 2))) aNil)))))
  sNext)
  (sRet (eFz (oIf (bBin dEq (eBin dIx (eNm 0) (eK (.int 0))) (eK (ds (cs "same")))) (oLst (aCons (eBin dIx (eNm 0) (eK (.int 1))) (aCons (eBin dIx (eNm 0) (eK (.int 2))) aNil))) (oCall fList (aCons (eBin dIx (eNm 0) (eUn dNeg (eK (.int 1)))) aNil))))))
def f_law_parts : PF := runP 1 1 b_law_parts
def b_law_form_words : SS :=
  (sSeq (sSet 1 (eFz (oComp 2 bYes (eCallP f_law_condition_words (aCons (eNm 2) aNil)) (iAny (eCallP f_law_parts (aCons (eNm 0) aNil))))))
  (sSeq (sIf (bBin dEq (eBin dIx (eNm 0) (eK (.int 0))) (eK (ds (cs "need"))))
  (sRet (eBin dAdd (eBin dAdd (eBin dAdd (eK (ds (cs "need "))) (eBin dJoin (eK (ds (cs " and "))) (eSl (eNm 1) pNo (pYes (eCall fLen (aCons (eBin dIx (eNm 0) (eK (.int 1))) aNil)))))) (eK (ds (cs " : ")))) (eBin dJoin (eK (ds (cs " or "))) (eSl (eNm 1) (pYes (eCall fLen (aCons (eBin dIx (eNm 0) (eK (.int 1))) aNil))) pNo))))
  sNext)
  (sRet (eBin dAdd (eBin dAdd (eBin dIx (eNm 0) (eK (.int 0))) (eIf (bOr (bBin dEq (eBin dIx (eNm 0) (eK (.int 0))) (eK (ds (cs "most")))) (bBin dEq (eBin dIx (eNm 0) (eK (.int 0))) (eK (ds (cs "least"))))) (eBin dAdd (eBin dAdd (eK (ds (cs " "))) (eCall fStr (aCons (eBin dIx (eNm 0) (eK (.int 1))) aNil))) (eK (ds (cs " of ")))) (eK (ds (cs " "))))) (eBin dJoin (eK (ds (cs " , "))) (eNm 1))))))
def f_law_form_words : PF := runP 3 1 b_law_form_words
def b_law_price_word : SS :=
  (sRet (eIf (bUn dIsN (eNm 0)) (eK (ds (cs "never"))) (eCall fStr (aCons (eNm 0) aNil))))
def f_law_price_word : PF := runP 1 1 b_law_price_word
def b_law_line_words : SS :=
  (sSeq (sIf (bOr (bBin dEq (eBin dIx (eNm 0) (eK (.int 0))) (eK (ds (cs "release")))) (bBin dEq (eBin dIx (eNm 0) (eK (.int 0))) (eK (ds (cs "feature")))))
  (sSeq (sSet 1 (eBin dAdd (eBin dAdd (eBin dJoin (eK (ds (cs " "))) (eSl (eNm 0) pNo (pYes (eK (.int 3))))) (eIf (bBin dEq (eBin dIx (eNm 0) (eK (.int 0))) (eK (ds (cs "release")))) (eK (ds (cs " after "))) (eK (ds (cs " from "))))) (eBin dIx (eNm 0) (eK (.int 3)))))
  (sRet (eBin dAdd (eBin dAdd (eBin dAdd (eBin dAdd (eNm 1) (eK (ds (cs " up ")))) (eCallP f_law_price_word (aCons (eBin dIx (eNm 0) (eK (.int 4))) aNil))) (eK (ds (cs " down ")))) (eCallP f_law_price_word (aCons (eBin dIx (eNm 0) (eK (.int 5))) aNil)))))
  sNext)
  (sSeq (sIf (bBin dEq (eBin dIx (eNm 0) (eK (.int 0))) (eK (ds (cs "signer"))))
  (sRet (eBin dAdd (eBin dAdd (eBin dAdd (eBin dAdd (eBin dAdd (eK (ds (cs "signer "))) (eBin dIx (eNm 0) (eK (.int 1)))) (eK (ds (cs " ")))) (eCall fStr (aCons (eBin dIx (eNm 0) (eK (.int 2))) aNil))) (eK (ds (cs " : ")))) (eBin dJoin (eK (ds (cs " "))) (eBin dIx (eNm 0) (eK (.int 3))))))
  sNext)
  (sRet (eIf (bBin dEq (eBin dIx (eNm 0) (eK (.int 0))) (eK (ds (cs "row")))) (eBin dAdd (eK (ds (cs "row "))) (eCallP f_law_form_words (aCons (eBin dIx (eNm 0) (eK (.int 1))) aNil))) (eBin dJoin (eK (ds (cs " "))) (eNm 0))))))
def f_law_line_words : PF := runP 2 1 b_law_line_words
def b_law_a_version : SS :=
  (sSeq (sSet 1 (eCall fStr (aCons (eCallS f_law_pick 0 (aCons (eK (.int 1000)) aNil)) aNil)))
  (sSeq (sFor (gNm 2) (iRng (aCons (eCallS f_law_pick 0 (aCons (eK (.int 3)) aNil)) aNil))
  (sSet 1 (eBin dAdd (eBin dAdd (eNm 1) (eK (ds (cs ".")))) (eCall fStr (aCons (eIf (bBin dEq (eCallS f_law_pick 0 (aCons (eK (.int 2)) aNil)) (eK (.int 0))) (eCallS f_law_pick 0 (aCons (eK (.int 1000)) aNil)) (eCallS f_law_pick 0 (aCons (eK (.int 3)) aNil))) aNil)))))
  (sRet (eNm 1))))
def f_law_a_version : SF := runS 3 1 b_law_a_version
def b_law_a_release : SS :=
  (sRet (eIf (bBin dEq (eCallS f_law_pick 0 (aCons (eK (.int 5)) aNil)) (eK (.int 0))) (eK (ds (cs "on"))) (eCallS f_law_a_version 0 aNil)))
def f_law_a_release : SF := runS 1 1 b_law_a_release
def b_law_a_name : SS :=
  (sSeq (sSet 2 (eBin dIx (eNm 1) (eCallS f_law_pick 0 (aCons (eCall fLen (aCons (eNm 1) aNil)) aNil))))
  (sRet (eIf (bBin dEq (eCallS f_law_pick 0 (aCons (eK (.int 5)) aNil)) (eK (.int 0))) (eBin dAdd (eBin dAdd (eNm 2) (eK (ds (cs "+")))) (eBin dIx (eNm 1) (eCallS f_law_pick 0 (aCons (eCall fLen (aCons (eNm 1) aNil)) aNil)))) (eNm 2))))
def f_law_a_name : SF := runS 3 2 b_law_a_name
def b_law_a_price : SS :=
  (sRet (eIf (bBin dEq (eCallS f_law_pick 0 (aCons (eK (.int 5)) aNil)) (eK (.int 0))) (eK .none) (eBin dAdd (eK (.int 1)) (eCallS f_law_number 0 (aCons (eBin dPow (eK (.int 10)) (eK (.int 9))) aNil)))))
def f_law_a_price : SF := runS 1 1 b_law_a_price
def b_law_a_condition : SS :=
  (sSeq (sSet 2 (eCallS f_law_pick 0 (aCons (eK (.int 4)) aNil)))
  (sSeq (sSet 3 (eCallS f_law_a_name 0 (aCons (eNm 1) aNil)))
  (sSeq (sIf (bBin dEq (eNm 2) (eK (.int 3)))
  (sRet (eTup (aCons (eNm 3) (aCons (eK (ds (cs "none"))) aNil))))
  sNext)
  (sRet (eTup (aCons (eNm 3) (aCons (eBin dIx (eFz (oLst (aCons (eK (ds (cs "from"))) (aCons (eK (ds (cs "not"))) (aCons (eK (ds (cs "at"))) aNil))))) (eNm 2)) (aCons (eCallS f_law_a_release 0 aNil) aNil))))))))
def f_law_a_condition : SF := runS 4 2 b_law_a_condition
def b_law_a_conditions : SS :=
  (sRet (eCall fTuple (aCons (eFz (oComp 4 bYes (eCallS f_law_a_condition 0 (aCons (eNm 1) aNil)) (iRng (aCons (eBin dAdd (eNm 2) (eCallS f_law_pick 0 (aCons (eBin dAdd (eBin dSub (eNm 3) (eNm 2)) (eK (.int 1))) aNil))) aNil)))) aNil)))
def f_law_a_conditions : SF := runS 5 4 b_law_a_conditions
def b_law_a_form : SS :=
  (sSeq (sSet 2 (eCallS f_law_pick 0 (aCons (eK (.int 6)) aNil)))
  (sSeq (sIf (bBin dEq (eNm 2) (eK (.int 0)))
  (sRet (eTup (aCons (eK (ds (cs "need"))) (aCons (eCallS f_law_a_conditions 0 (aCons (eNm 1) (aCons (eK (.int 1)) (aCons (eK (.int 4)) aNil)))) (aCons (eCallS f_law_a_conditions 0 (aCons (eNm 1) (aCons (eK (.int 1)) (aCons (eK (.int 6)) aNil)))) aNil)))))
  sNext)
  (sSeq (sIf (bBin dEq (eNm 2) (eK (.int 1)))
  (sRet (eTup (aCons (eK (ds (cs "clash"))) (aCons (eCallS f_law_a_conditions 0 (aCons (eNm 1) (aCons (eK (.int 2)) (aCons (eK (.int 6)) aNil)))) aNil))))
  sNext)
  (sSeq (sIf (bBin dEq (eNm 2) (eK (.int 2)))
  (sRet (eTup (aCons (eK (ds (cs "either"))) (aCons (eCallS f_law_a_conditions 0 (aCons (eNm 1) (aCons (eK (.int 1)) (aCons (eK (.int 6)) aNil)))) aNil))))
  sNext)
  (sSeq (sIf (bBin dEq (eNm 2) (eK (.int 3)))
  (sRet (eTup (aCons (eK (ds (cs "same"))) (aCons (eCallS f_law_a_condition 0 (aCons (eNm 1) aNil)) (aCons (eCallS f_law_a_condition 0 (aCons (eNm 1) aNil)) aNil)))))
  sNext)
  (sRet (eTup (aCons (eBin dIx (eFz (oLst (aCons (eK (ds (cs "most"))) (aCons (eK (ds (cs "least"))) aNil)))) (eBin dSub (eNm 2) (eK (.int 4)))) (aCons (eCallS f_law_pick 0 (aCons (eK (.int 7)) aNil)) (aCons (eCallS f_law_a_conditions 0 (aCons (eNm 1) (aCons (eK (.int 1)) (aCons (eK (.int 6)) aNil)))) aNil))))))))))
def f_law_a_form : SF := runS 3 2 b_law_a_form
def b_law_a_line : SS :=
  (sSeq (sSet 2 (eCallS f_law_pick 0 (aCons (eK (.int 12)) aNil)))
  (sSeq (sSet 3 (eBin dIx (eNm 1) (eCallS f_law_pick 0 (aCons (eCall fLen (aCons (eNm 1) aNil)) aNil))))
  (sSeq (sIf (bBin dLt (eNm 2) (eK (.int 3)))
  (sRet (eTup (aCons (eK (ds (cs "row"))) (aCons (eCallS f_law_a_form 0 (aCons (eNm 1) aNil)) aNil))))
  sNext)
  (sSeq (sIf (bBin dEq (eNm 2) (eK (.int 3)))
  (sSeq (sSet 4 (eIf (bBin dEq (eCallS f_law_pick 0 (aCons (eK (.int 2)) aNil)) (eK (.int 0))) (eK (ds (cs "none"))) (eCallS f_law_a_version 0 aNil)))
  (sRet (eTup (aCons (eK (ds (cs "release"))) (aCons (eNm 3) (aCons (eCallS f_law_a_version 0 aNil) (aCons (eNm 4) (aCons (eCallS f_law_a_price 0 aNil) (aCons (eCallS f_law_a_price 0 aNil) aNil)))))))))
  sNext)
  (sSeq (sIf (bBin dEq (eNm 2) (eK (.int 4)))
  (sSeq (sSet 5 (eBin dIx (eNm 1) (eCallS f_law_pick 0 (aCons (eCall fLen (aCons (eNm 1) aNil)) aNil))))
  (sRet (eTup (aCons (eK (ds (cs "feature"))) (aCons (eNm 3) (aCons (eNm 5) (aCons (eCallS f_law_a_version 0 aNil) (aCons (eCallS f_law_a_price 0 aNil) (aCons (eCallS f_law_a_price 0 aNil) aNil)))))))))
  sNext)
  (sSeq (sIf (bBin dLt (eNm 2) (eK (.int 7)))
  (sRet (eTup (aCons (eBin dIx (eFz (oLst (aCons (eK (ds (cs "start"))) (aCons (eK (ds (cs "later"))) aNil)))) (eBin dSub (eNm 2) (eK (.int 5)))) (aCons (eCallS f_law_a_name 0 (aCons (eNm 1) aNil)) (aCons (eCallS f_law_a_release 0 aNil) aNil)))))
  sNext)
  (sSeq (sIf (bBin dEq (eNm 2) (eK (.int 7)))
  (sSeq (sSet 6 (eFz (oComp 7 bYes (eCallS f_law_a_name 0 (aCons (eNm 1) aNil)) (iRng (aCons (eBin dAdd (eK (.int 1)) (eCallS f_law_pick 0 (aCons (eK (.int 8)) aNil))) aNil)))))
  (sRet (eTup (aCons (eK (ds (cs "signer"))) (aCons (eNm 3) (aCons (eBin dAdd (eK (.int 1)) (eCallS f_law_pick 0 (aCons (eK (.int 99)) aNil))) (aCons (eCall fTuple (aCons (eNm 6) aNil)) aNil)))))))
  sNext)
  (sSeq (sIf (bBin dEq (eNm 2) (eK (.int 8)))
  (sRet (eTup (aCons (eK (ds (cs "end"))) aNil)))
  sNext)
  (sRet (eTup (aCons (eBin dIx (eFz (oLst (aCons (eK (ds (cs "name"))) (aCons (eK (ds (cs "hidden"))) (aCons (eK (ds (cs "book"))) aNil))))) (eBin dSub (eNm 2) (eK (.int 9)))) (aCons (eNm 3) aNil))))))))))))
def f_law_a_line : SF := runS 8 2 b_law_a_line
def b_law_a_lines : SS :=
  (sSeq (sSet 2 (eFz (oCallS f_law_words 0 (aCons (eK (.int 6)) aNil))))
  (sSeq (sSetO 3 (oLst aNil))
  (sSeq (sFor (gNm 4) (iRng (aCons (eNm 1) aNil))
  (sSeq (sSet 5 (eCallS f_law_a_line 0 (aCons (eNm 2) aNil)))
  (sApp 3 (eIf (bBin dLe (eCall fLen (aCons (eCallP f_law_line_words (aCons (eNm 5) aNil)) aNil)) (eK (.int 400))) (eNm 5) (eTup (aCons (eK (ds (cs "end"))) aNil))))))
  (sRetO (oNm 3)))))
def f_law_a_lines : SF := runS 6 2 b_law_a_lines
def b_law_a_sign : SS :=
  (sSeq (sSet 2 (eCallS f_law_pick 0 (aCons (eK (.int 8)) aNil)))
  (sSeq (sSet 3 (eCallS f_law_pick 0 (aCons (eBin dAdd (eCall fLen (aCons (eNm 1) aNil)) (eK (.int 1))) aNil)))
  (sSeq (sIf (bBin dEq (eNm 2) (eK (.int 0)))
  (sRet (eBin dMulS (eK (ds (cs " "))) (eBin dAdd (eK (.int 1)) (eCallS f_law_pick 0 (aCons (eK (.int 3)) aNil)))))
  sNext)
  (sSeq (sIf (bBin dEq (eNm 2) (eK (.int 1)))
  (sRet (eBin dAdd (eK (ds (cs " "))) (eNm 1)))
  sNext)
  (sSeq (sIf (bBin dEq (eNm 2) (eK (.int 2)))
  (sRet (eBin dAdd (eNm 1) (eK (ds (cs " ")))))
  sNext)
  (sSeq (sIf (bBin dEq (eNm 2) (eK (.int 3)))
  (sRet (eIf (bBin dIn (eK (ds (cs " "))) (eNm 1)) (eUn (dRepl (Str.ofString " ") (Str.ofString "  ")) (eNm 1)) (eBin dAdd (eNm 1) (eK (ds (cs " "))))))
  sNext)
  (sSeq (sIf (bBin dEq (eNm 2) (eK (.int 4)))
  (sRet (eBin dAdd (eBin dAdd (eSl (eNm 1) pNo (pYes (eNm 3))) (eK (ds (cs "\t")))) (eSl (eNm 1) (pYes (eNm 3)) pNo)))
  sNext)
  (sSeq (sSet 4 (eK (ds (cs "ABZ-_/*#;!?()=<>~\x40[]{}'\"&|^$"))))
  (sSeq (sSet 5 (eBin dIx (eNm 4) (eCallS f_law_pick 0 (aCons (eCall fLen (aCons (eNm 4) aNil)) aNil))))
  (sRet (eBin dAdd (eBin dAdd (eSl (eNm 1) pNo (pYes (eNm 3))) (eNm 5)) (eSl (eNm 1) (pYes (eNm 3)) pNo))))))))))))
def f_law_a_sign : SF := runS 6 2 b_law_a_sign
def b_law_a_wrong : SS :=
  (sSeq (sSet 2 (eK (ds (cs "abcdefghijklm"))))
  (sSeq (sSetO 3 (oLst (aCons (eK (ds (cs "name"))) (aCons (eBin dAdd (eBin dAdd (eBin dAdd (eK (ds (cs "name "))) (eNm 0)) (eK (ds (cs " ")))) (eNm 1)) (aCons (eK (ds (cs "name up"))) (aCons (eBin dAdd (eK (ds (cs "name 1"))) (eSl (eNm 0) pNo (pYes (eK (.int 3))))) (aCons (eBin dAdd (eBin dAdd (eBin dAdd (eK (ds (cs "name "))) (eNm 0)) (eK (ds (cs ".")))) (eNm 1)) (aCons (eBin dAdd (eK (ds (cs "name "))) (eNm 2)) (aCons (eBin dAdd (eBin dAdd (eBin dAdd (eK (ds (cs "name "))) (eNm 0)) (eK (ds (cs "+")))) (eNm 1)) aNil)))))))))
  (sSeq (sSetO 3 (oCatN 3 (oLst (aCons (eBin dAdd (eBin dAdd (eK (ds (cs "release "))) (eNm 0)) (eK (ds (cs " 01 after none up 1 down 1")))) (aCons (eBin dAdd (eBin dAdd (eK (ds (cs "release "))) (eNm 0)) (eK (ds (cs " 1 after none up 0 down 1")))) aNil)))))
  (sSeq (sSetO 3 (oCatN 3 (oLst (aCons (eBin dAdd (eBin dAdd (eK (ds (cs "release "))) (eNm 0)) (eK (ds (cs " 1 after none up 1000000001 down 1")))) (aCons (eBin dAdd (eBin dAdd (eK (ds (cs "release "))) (eNm 0)) (eK (ds (cs " 1 after none up 1")))) aNil)))))
  (sSeq (sSetO 3 (oCatN 3 (oLst (aCons (eBin dAdd (eBin dAdd (eK (ds (cs "release "))) (eNm 0)) (eK (ds (cs " on after none up 1 down 1")))) (aCons (eBin dAdd (eBin dAdd (eK (ds (cs "release "))) (eNm 0)) (eK (ds (cs " 1.2.3.4 after none up 1 down 1")))) aNil)))))
  (sSeq (sSetO 3 (oCatN 3 (oLst (aCons (eBin dAdd (eBin dAdd (eK (ds (cs "release "))) (eNm 0)) (eK (ds (cs " 1000 after none up 1 down 1")))) (aCons (eBin dAdd (eBin dAdd (eK (ds (cs "release "))) (eNm 0)) (eK (ds (cs " 1 from none up 1 down 1")))) aNil)))))
  (sSeq (sSetO 3 (oCatN 3 (oLst (aCons (eBin dAdd (eBin dAdd (eK (ds (cs "release "))) (eNm 0)) (eK (ds (cs " 1 after none down 1 up 1")))) (aCons (eBin dAdd (eBin dAdd (eBin dAdd (eBin dAdd (eK (ds (cs "feature "))) (eNm 0)) (eK (ds (cs " ")))) (eNm 1)) (eK (ds (cs " from on up 1 down 1")))) aNil)))))
  (sSeq (sSetO 3 (oCatN 3 (oLst (aCons (eBin dAdd (eBin dAdd (eK (ds (cs "feature "))) (eNm 0)) (eK (ds (cs " from 1 up 1 down 1")))) (aCons (eBin dAdd (eBin dAdd (eBin dAdd (eBin dAdd (eK (ds (cs "feature "))) (eNm 0)) (eK (ds (cs " ")))) (eNm 1)) (eK (ds (cs " after 1 up 1 down 1")))) (aCons (eK (ds (cs "row"))) aNil))))))
  (sSeq (sSetO 3 (oCatN 3 (oLst (aCons (eBin dAdd (eBin dAdd (eK (ds (cs "row "))) (eNm 0)) (eK (ds (cs " none")))) (aCons (eBin dAdd (eBin dAdd (eK (ds (cs "row need "))) (eNm 0)) (eK (ds (cs " from 1")))) (aCons (eBin dAdd (eBin dAdd (eK (ds (cs "row need "))) (eNm 0)) (eK (ds (cs " from 1 :")))) (aCons (eBin dAdd (eBin dAdd (eK (ds (cs "row need : "))) (eNm 0)) (eK (ds (cs " none")))) aNil)))))))
  (sSeq (sSetO 3 (oCatN 3 (oLst (aCons (eBin dAdd (eBin dAdd (eBin dAdd (eBin dAdd (eK (ds (cs "row need "))) (eBin dJoin (eK (ds (cs " and "))) (eFz (oRep (oLst (aCons (eBin dAdd (eNm 0) (eK (ds (cs " none")))) aNil)) (eK (.int 5)))))) (eK (ds (cs " : ")))) (eNm 1)) (eK (ds (cs " none")))) aNil))))
  (sSeq (sSetO 3 (oCatN 3 (oLst (aCons (eBin dAdd (eBin dAdd (eBin dAdd (eK (ds (cs "row need "))) (eNm 0)) (eK (ds (cs " none : ")))) (eBin dJoin (eK (ds (cs " or "))) (eFz (oRep (oLst (aCons (eBin dAdd (eNm 1) (eK (ds (cs " none")))) aNil)) (eK (.int 7)))))) (aCons (eBin dAdd (eBin dAdd (eK (ds (cs "row clash "))) (eNm 0)) (eK (ds (cs " none")))) aNil)))))
  (sSeq (sSetO 3 (oCatN 3 (oLst (aCons (eBin dAdd (eK (ds (cs "row clash "))) (eBin dJoin (eK (ds (cs " , "))) (eFz (oRep (oLst (aCons (eBin dAdd (eNm 0) (eK (ds (cs " none")))) aNil)) (eK (.int 7)))))) (aCons (eK (ds (cs "row either"))) (aCons (eBin dAdd (eBin dAdd (eK (ds (cs "row either "))) (eNm 0)) (eK (ds (cs " none ,")))) aNil))))))
  (sSeq (sSetO 3 (oCatN 3 (oLst (aCons (eBin dAdd (eBin dAdd (eK (ds (cs "row either "))) (eNm 0)) (eK (ds (cs " from none")))) (aCons (eBin dAdd (eBin dAdd (eK (ds (cs "row either "))) (eNm 0)) (eK (ds (cs " not 1")))) (aCons (eBin dAdd (eBin dAdd (eK (ds (cs "row either "))) (eNm 0)) (eK (ds (cs " not from")))) (aCons (eBin dAdd (eK (ds (cs "row either "))) (eNm 0)) aNil)))))))
  (sSeq (sSetO 3 (oCatN 3 (oLst (aCons (eBin dAdd (eK (ds (cs "row same "))) (eBin dJoin (eK (ds (cs " , "))) (eFz (oRep (oLst (aCons (eBin dAdd (eNm 0) (eK (ds (cs " none")))) aNil)) (eK (.int 3)))))) (aCons (eBin dAdd (eBin dAdd (eK (ds (cs "row most 7 of "))) (eNm 0)) (eK (ds (cs " none")))) (aCons (eBin dAdd (eBin dAdd (eK (ds (cs "row least 1 "))) (eNm 0)) (eK (ds (cs " none")))) aNil))))))
  (sSeq (sSetO 3 (oCatN 3 (oLst (aCons (eBin dAdd (eBin dAdd (eK (ds (cs "row most of "))) (eNm 0)) (eK (ds (cs " none")))) (aCons (eBin dAdd (eBin dAdd (eK (ds (cs "start "))) (eNm 0)) (eK (ds (cs " none")))) (aCons (eBin dAdd (eK (ds (cs "start "))) (eNm 0)) (aCons (eBin dAdd (eBin dAdd (eK (ds (cs "later "))) (eNm 0)) (eK (ds (cs " 1.")))) (aCons (eBin dAdd (eBin dAdd (eBin dAdd (eK (ds (cs "signer "))) (eNm 0)) (eK (ds (cs " 0 : ")))) (eNm 1)) aNil))))))))
  (sSeq (sSetO 3 (oCatN 3 (oLst (aCons (eBin dAdd (eBin dAdd (eBin dAdd (eK (ds (cs "signer "))) (eNm 0)) (eK (ds (cs " 100 : ")))) (eNm 1)) (aCons (eBin dAdd (eBin dAdd (eK (ds (cs "signer "))) (eNm 0)) (eK (ds (cs " 1 :")))) (aCons (eBin dAdd (eBin dAdd (eBin dAdd (eK (ds (cs "book "))) (eNm 0)) (eK (ds (cs " ")))) (eNm 1)) (aCons (eK (ds (cs "end end"))) aNil)))))))
  (sRetO (oNm 3))))))))))))))))))
def f_law_a_wrong : PF := runP 4 2 b_law_a_wrong
def b_law_a_near : SS :=
  (sSeq (sSetO 2 (oLst (aCons (eK (ds (cs "name abcdefghijkl"))) (aCons (eBin dAdd (eBin dAdd (eK (ds (cs "release "))) (eNm 0)) (eK (ds (cs " 0 after none up 1 down 1000000000")))) (aCons (eBin dAdd (eBin dAdd (eK (ds (cs "release "))) (eNm 0)) (eK (ds (cs " 999.0.999 after 1 up never down never")))) aNil)))))
  (sSeq (sSetO 2 (oCatN 2 (oLst (aCons (eBin dAdd (eBin dAdd (eBin dAdd (eBin dAdd (eK (ds (cs "feature "))) (eNm 0)) (eK (ds (cs " ")))) (eNm 1)) (eK (ds (cs " from 1 up 1 down 1")))) (aCons (eBin dAdd (eBin dAdd (eBin dAdd (eBin dAdd (eK (ds (cs "row need "))) (eBin dJoin (eK (ds (cs " and "))) (eFz (oRep (oLst (aCons (eBin dAdd (eNm 0) (eK (ds (cs " none")))) aNil)) (eK (.int 4)))))) (eK (ds (cs " : ")))) (eNm 1)) (eK (ds (cs " at on")))) aNil)))))
  (sSeq (sSetO 2 (oCatN 2 (oLst (aCons (eBin dAdd (eBin dAdd (eBin dAdd (eK (ds (cs "row need "))) (eNm 0)) (eK (ds (cs " none : ")))) (eBin dJoin (eK (ds (cs " or "))) (eFz (oRep (oLst (aCons (eBin dAdd (eNm 1) (eK (ds (cs " none")))) aNil)) (eK (.int 6)))))) (aCons (eBin dAdd (eK (ds (cs "row clash "))) (eBin dJoin (eK (ds (cs " , "))) (eFz (oRep (oLst (aCons (eBin dAdd (eNm 0) (eK (ds (cs " none")))) aNil)) (eK (.int 6)))))) aNil)))))
  (sSeq (sSetO 2 (oCatN 2 (oLst (aCons (eBin dAdd (eBin dAdd (eK (ds (cs "row either "))) (eNm 0)) (eK (ds (cs " not from 1")))) (aCons (eBin dAdd (eBin dAdd (eK (ds (cs "row most 6 of "))) (eNm 0)) (eK (ds (cs " none")))) (aCons (eBin dAdd (eBin dAdd (eBin dAdd (eBin dAdd (eK (ds (cs "row least 0 of "))) (eNm 0)) (eK (ds (cs "+")))) (eNm 1)) (eK (ds (cs " none")))) aNil))))))
  (sRetO (oCatN 2 (oLst (aCons (eBin dAdd (eBin dAdd (eK (ds (cs "start "))) (eNm 0)) (eK (ds (cs " on")))) (aCons (eBin dAdd (eBin dAdd (eBin dAdd (eBin dAdd (eK (ds (cs "later "))) (eNm 0)) (eK (ds (cs "+")))) (eNm 1)) (eK (ds (cs " on")))) (aCons (eBin dAdd (eBin dAdd (eBin dAdd (eK (ds (cs "signer "))) (eNm 0)) (eK (ds (cs " 99 : ")))) (eNm 1)) (aCons (eBin dAdd (eBin dAdd (eBin dAdd (eBin dAdd (eBin dAdd (eK (ds (cs "signer "))) (eNm 0)) (eK (ds (cs " 1 : ")))) (eNm 1)) (eK (ds (cs "+")))) (eNm 0)) (aCons (eK (ds (cs "end"))) aNil))))))))))))
def f_law_a_near : PF := runP 3 2 b_law_a_near
def b_law_a_fault : SS :=
  (sSeq (sSet 4 (eFz (oCallP f_law_a_wrong (aCons (eNm 1) (aCons (eNm 2) aNil)))))
  (sSeq (sSet 5 (eCallS f_law_pick 0 (aCons (eK (.int 6)) aNil)))
  (sSeq (sIf (bBin dEq (eNm 5) (eK (.int 0)))
  (sRet (eTup (aCons (eK (ds (cs ""))) (aCons (eK (ds (cs "empty"))) aNil))))
  sNext)
  (sSeq (sIf (bBin dEq (eNm 5) (eK (.int 1)))
  (sRet (eTup (aCons (eCallS f_law_a_sign 0 (aCons (eNm 3) aNil)) (aCons (eK (ds (cs "sign"))) aNil))))
  sNext)
  (sSeq (sSet 6 (eTup (aCons (eK (ds (cs "name"))) (aCons (eK (ds (cs "hidden"))) (aCons (eK (ds (cs "release"))) (aCons (eK (ds (cs "feature"))) (aCons (eK (ds (cs "row"))) (aCons (eK (ds (cs "start"))) (aCons (eK (ds (cs "later"))) (aCons (eK (ds (cs "signer"))) (aCons (eK (ds (cs "book"))) (aCons (eK (ds (cs "end"))) aNil))))))))))))
  (sSeq (sIf (bBin dEq (eNm 5) (eK (.int 2)))
  (sSeq (sSet 7 (eBin dIx (eFz (oLst (aCons (eNm 1) (aCons (eK (ds (cs "need"))) (aCons (eK (ds (cs "names"))) (aCons (eK (ds (cs "1"))) (aCons (eK (ds (cs "rows"))) (aCons (eK (ds (cs "ends"))) (aCons (eK (ds (cs ":"))) (aCons (eK (ds (cs "from"))) aNil)))))))))) (eCallS f_law_pick 0 (aCons (eK (.int 8)) aNil))))
  (sRet (eTup (aCons (eIf (bAnd (bBin dIn (eK (ds (cs " "))) (eNm 3)) (bBin dNotIn (eNm 7) (eNm 6))) (eBin dAdd (eNm 7) (eSl (eNm 3) (pYes (eBin dFind (eNm 3) (eK (ds (cs " "))))) pNo)) (eBin dAdd (eK (ds (cs "none "))) (eNm 1))) (aCons (eK (ds (cs "word"))) aNil)))))
  sNext)
  (sSeq (sSet 8 (eBin dIx (eNm 4) (eCallS f_law_pick 0 (aCons (eCall fLen (aCons (eNm 4) aNil)) aNil))))
  (sSeq (sIf (bBin dEq (eNm 5) (eK (.int 3)))
  (sRet (eTup (aCons (eBin dAdd (eBin dAdd (eNm 8) (eK (ds (cs " ")))) (eBin dIx (eFz (oLst (aCons (eK (ds (cs "-"))) (aCons (eK (ds (cs "A"))) (aCons (eK (ds (cs "=1"))) aNil))))) (eCallS f_law_pick 0 (aCons (eK (.int 3)) aNil)))) (aCons (eK (ds (cs "sign"))) aNil))))
  sNext)
  (sRet (eTup (aCons (eNm 8) (aCons (eK (ds (cs "form"))) aNil))))))))))))
def f_law_a_fault : SF := runS 9 4 b_law_a_fault
def b_law_a_refusal : SS :=
  (sSeq (sTryRet fx_read_lines (aCons (eNm 0) aNil) "BadText" 1 (fun fs => (aCons (eK (ds (cs "BadText"))) (aCons (eFld fs "line") (aCons (eFld fs "what") (aCons (eAnd (eK (.bool true)) (eK (.bool true))) aNil))))))
  (sRet (eTup (aCons (eK (ds (cs "read"))) (aCons (eK (.int 0)) (aCons (eK (ds (cs ""))) (aCons (eK (.bool false)) aNil)))))))
def f_law_a_refusal : PF := runP 2 1 b_law_a_refusal
def b_law : SS :=
  (sSeq (sSetO 1 (oCallP f_law_source (aCons (eNm 0) (aCons (eK (.int 0)) aNil))))
  (sSeq (sAsg (gLstD (gsCons (gNm 2) (gsCons (gNm 3) gsNil))) (eFz (oCallS f_law_words 1 (aCons (eK (.int 2)) aNil))))
  (sSeq (sSet 4 (eFz (oCallS f_law_a_lines 1 (aCons (eCallS f_law_pick 1 (aCons (eK (.int 8)) aNil)) aNil))))
  (sSeq (sSet 5 (eFz (oComp 6 bYes (eCallP f_law_line_words (aCons (eNm 6) aNil)) (iAny (eNm 4)))))
  (sSeq (sSet 7 (eFz (oCallP f_law_a_near (aCons (eNm 2) (aCons (eNm 3) aNil)))))
  (sSeq (sSet 8 (eFz (oLst aNil)))
  (sSeq (sSetO 9 (oCall fList (aCons (eNm 5) aNil)))
  (sSeq (sSetO 10 (oCall fList (aCons (eNm 5) aNil)))
  (sSeq (sFor (gNm 11) (iRng (aCons (eBin dAdd (eK (.int 1)) (eCallS f_law_pick 1 (aCons (eK (.int 2)) aNil))) aNil))
  (sSeq (sSet 12 (eBin dIx (eNm 7) (eCallS f_law_pick 1 (aCons (eCall fLen (aCons (eNm 7) aNil)) aNil))))
  (sSeq (sAsg (gTupD (gsCons (gNm 13) (gsCons (gNm 14) gsNil))) (eCallS f_law_a_fault 1 (aCons (eNm 2) (aCons (eNm 3) (aCons (eNm 12) aNil)))))
  (sSeq (sSet 15 (eIf (bBin dEq (eCallS f_law_pick 1 (aCons (eK (.int 3)) aNil)) (eK (.int 0))) (eCallV fLen (oNm 9)) (eCallS f_law_pick 1 (aCons (eBin dAdd (eCallV fLen (oNm 9)) (eK (.int 1))) aNil))))
  (sSeq (sIns 9 (eNm 15) (eNm 13))
  (sSeq (sIns 10 (eNm 15) (eNm 12))
  (sSet 8 (eFz (oCat (oCompT 16 17 bYes (eTup (aCons (eIf (bBin dGe (eNm 16) (eNm 15)) (eBin dAdd (eNm 16) (eK (.int 1))) (eNm 16)) (aCons (eNm 17) aNil))) (iAny (eNm 8))) (oLst (aCons (eTup (aCons (eNm 15) (aCons (eNm 14) aNil))) aNil)))))))))))
  (sSeq (sAsg (gTupD (gsCons (gNm 16) (gsCons (gNm 14) gsNil))) (eCall fMinL (aCons (eNm 8) aNil)))
  (sSeq (sSet 18 (eBin dAdd (eJoinV (eK (ds (cs "\n"))) (oNm 9)) (eK (ds (cs "\n")))))
  (sSeq (sIf (bNot (bUn truD (eCallP (f_law_same 10) (aCons (eCallP f_law_a_refusal (aCons (eNm 18) aNil)) (aCons (eTup (aCons (eK (ds (cs "BadText"))) (aCons (eBin dAdd (eNm 16) (eK (.int 1))) (aCons (eNm 14) (aCons (eK (.bool true)) aNil))))) aNil)))))
  (sRet (eK (.bool false)))
  sNext)
  (sSeq (sSet 19 (eFz (oCallP f_read_lines (aCons (eJoinV (eK (ds (cs "\n"))) (oNm 10)) aNil))))
  (sRet (eAnd (eUn (dIsi "list") (eNm 19)) (eAnd (eB (bBin dEq (eCall fLen (aCons (eNm 19) aNil)) (eCallV fLen (oNm 10)))) (eB (bBin dEq (eBin dIx (eCallP f_law_a_refusal (aCons (eNm 18) aNil)) (eK (.int 0))) (eK (ds (cs "BadText")))))))))))))))))))))
def f_law : PF := runP 20 1 b_law
end DL

set_option Elab.async false
set_option linter.all false
set_option maxRecDepth 100000
set_option maxHeartbeats 4000000
namespace DL
open PySem PySem.Spec L2
def top (i : Nat) : Stmt := PySem.Challenge.pw_mustask_k01_first_wrong_line.main.body.getD i (.Pass ⟨0, 0, 0, 0⟩)
abbrev s_BadText_init : Stmt := (clsBody (top 3)).getD 0 (.Pass ⟨0, 0, 0, 0⟩)
abbrev s_sign_fault : Stmt := top 10
abbrev s_is_figures : Stmt := top 11
abbrev s_is_number : Stmt := top 12
abbrev s_is_word : Stmt := top 13
abbrev s_is_version : Stmt := top 14
abbrev s_is_release : Stmt := top 15
abbrev s_is_price : Stmt := top 16
abbrev s_price_of : Stmt := top 17
abbrev s_is_short_name : Stmt := top 18
abbrev s_is_whole_name : Stmt := top 19
abbrev s_split_tokens : Stmt := top 20
abbrev s_read_condition : Stmt := top 22
abbrev s_read_conditions : Stmt := top 23
abbrev s_read_need : Stmt := top 24
abbrev s_read_counted : Stmt := top 25
abbrev s_read_form : Stmt := top 26
abbrev s_bound_check : Stmt := top 29
abbrev s_text_rows : Stmt := top 32
abbrev s_checked_rows : Stmt := top 33
abbrev s_read_release : Stmt := top 34
abbrev s_read_feature : Stmt := top 35
abbrev s_read_signer : Stmt := top 36
abbrev s_read_line : Stmt := top 37
abbrev s_read_lines : Stmt := top 38
abbrev s_law_cell : Stmt := top 40
abbrev s_law_source : Stmt := top 41
abbrev s_law_pick : Stmt := top 42
abbrev s_law_number : Stmt := top 43
abbrev s_law_kept : Stmt := top 44
abbrev s_law_words : Stmt := top 45
abbrev s_law_same : Stmt := top 46
abbrev s_law_condition_words : Stmt := top 47
abbrev s_law_parts : Stmt := top 51
abbrev s_law_form_words : Stmt := top 48
abbrev s_law_price_word : Stmt := top 49
abbrev s_law_line_words : Stmt := top 50
abbrev s_law_a_version : Stmt := top 52
abbrev s_law_a_release : Stmt := top 53
abbrev s_law_a_name : Stmt := top 54
abbrev s_law_a_price : Stmt := top 55
abbrev s_law_a_condition : Stmt := top 56
abbrev s_law_a_conditions : Stmt := top 57
abbrev s_law_a_form : Stmt := top 58
abbrev s_law_a_line : Stmt := top 59
abbrev s_law_a_lines : Stmt := top 60
abbrev s_law_a_sign : Stmt := top 61
abbrev s_law_a_wrong : Stmt := top 62
abbrev s_law_a_near : Stmt := top 63
abbrev s_law_a_fault : Stmt := top 64
abbrev s_law_a_refusal : Stmt := top 65
abbrev s_law : Stmt := top 66
structure Txt (w : World) (K : PySem.W.Frag) (mg : Str → Option Value) where
  a_sign_fault : Addr
  t_sign_fault : FuncData
  d_sign_fault : Dfn K mg "sign_fault" s_sign_fault ["line"] a_sign_fault t_sign_fault
  a_is_figures : Addr
  t_is_figures : FuncData
  d_is_figures : Dfn K mg "is_figures" s_is_figures ["token"] a_is_figures t_is_figures
  a_is_number : Addr
  t_is_number : FuncData
  d_is_number : Dfn K mg "is_number" s_is_number ["token", "least", "most"] a_is_number t_is_number
  a_is_word : Addr
  t_is_word : FuncData
  d_is_word : Dfn K mg "is_word" s_is_word ["token"] a_is_word t_is_word
  a_is_version : Addr
  t_is_version : FuncData
  d_is_version : Dfn K mg "is_version" s_is_version ["token"] a_is_version t_is_version
  a_is_release : Addr
  t_is_release : FuncData
  d_is_release : Dfn K mg "is_release" s_is_release ["token"] a_is_release t_is_release
  a_is_price : Addr
  t_is_price : FuncData
  d_is_price : Dfn K mg "is_price" s_is_price ["token"] a_is_price t_is_price
  a_price_of : Addr
  t_price_of : FuncData
  d_price_of : Dfn K mg "price_of" s_price_of ["token"] a_price_of t_price_of
  a_is_short_name : Addr
  t_is_short_name : FuncData
  d_is_short_name : Dfn K mg "is_short_name" s_is_short_name ["token"] a_is_short_name t_is_short_name
  a_is_whole_name : Addr
  t_is_whole_name : FuncData
  d_is_whole_name : Dfn K mg "is_whole_name" s_is_whole_name ["token"] a_is_whole_name t_is_whole_name
  a_split_tokens : Addr
  t_split_tokens : FuncData
  d_split_tokens : Dfn K mg "split_tokens" s_split_tokens ["tokens", "mark"] a_split_tokens t_split_tokens
  a_read_condition : Addr
  t_read_condition : FuncData
  d_read_condition : Dfn K mg "read_condition" s_read_condition ["tokens", "whole"] a_read_condition t_read_condition
  a_read_conditions : Addr
  t_read_conditions : FuncData
  d_read_conditions : Dfn K mg "read_conditions" s_read_conditions ["tokens", "mark", "least", "most"] a_read_conditions t_read_conditions
  a_read_need : Addr
  t_read_need : FuncData
  d_read_need : Dfn K mg "read_need" s_read_need ["tokens"] a_read_need t_read_need
  a_read_counted : Addr
  t_read_counted : FuncData
  d_read_counted : Dfn K mg "read_counted" s_read_counted ["tokens"] a_read_counted t_read_counted
  a_read_form : Addr
  t_read_form : FuncData
  d_read_form : Dfn K mg "read_form" s_read_form ["tokens"] a_read_form t_read_form
  a_bound_check : Addr
  t_bound_check : FuncData
  d_bound_check : Dfn K mg "bound_check" s_bound_check ["what", "number"] a_bound_check t_bound_check
  a_text_rows : Addr
  t_text_rows : FuncData
  d_text_rows : Dfn K mg "text_rows" s_text_rows ["text"] a_text_rows t_text_rows
  a_checked_rows : Addr
  t_checked_rows : FuncData
  d_checked_rows : Dfn K mg "checked_rows" s_checked_rows ["text"] a_checked_rows t_checked_rows
  a_read_release : Addr
  t_read_release : FuncData
  d_read_release : Dfn K mg "read_release" s_read_release ["tokens"] a_read_release t_read_release
  a_read_feature : Addr
  t_read_feature : FuncData
  d_read_feature : Dfn K mg "read_feature" s_read_feature ["tokens"] a_read_feature t_read_feature
  a_read_signer : Addr
  t_read_signer : FuncData
  d_read_signer : Dfn K mg "read_signer" s_read_signer ["tokens"] a_read_signer t_read_signer
  a_read_line : Addr
  t_read_line : FuncData
  d_read_line : Dfn K mg "read_line" s_read_line ["tokens"] a_read_line t_read_line
  a_read_lines : Addr
  t_read_lines : FuncData
  d_read_lines : Dfn K mg "read_lines" s_read_lines ["text"] a_read_lines t_read_lines
  a_law_cell : Addr
  t_law_cell : FuncData
  d_law_cell : Dfn K mg "_law_cell" s_law_cell ["script", "at"] a_law_cell t_law_cell
  a_law_source : Addr
  t_law_source : FuncData
  d_law_source : Dfn K mg "_law_source" s_law_source ["script", "at"] a_law_source t_law_source
  a_law_pick : Addr
  t_law_pick : FuncData
  d_law_pick : Dfn K mg "_law_pick" s_law_pick ["s", "many"] a_law_pick t_law_pick
  a_law_number : Addr
  t_law_number : FuncData
  d_law_number : Dfn K mg "_law_number" s_law_number ["s", "limit"] a_law_number t_law_number
  a_law_kept : Addr
  t_law_kept : FuncData
  d_law_kept : Dfn K mg "_law_kept" s_law_kept [] a_law_kept t_law_kept
  a_law_words : Addr
  t_law_words : FuncData
  d_law_words : Dfn K mg "_law_words" s_law_words ["s", "many"] a_law_words t_law_words
  a_law_same : Addr
  t_law_same : FuncData
  d_law_same : Dfn K mg "_law_same" s_law_same ["answer", "due"] a_law_same t_law_same
  a_law_condition_words : Addr
  t_law_condition_words : FuncData
  d_law_condition_words : Dfn K mg "_law_condition_words" s_law_condition_words ["c"] a_law_condition_words t_law_condition_words
  a_law_parts : Addr
  t_law_parts : FuncData
  d_law_parts : Dfn K mg "_law_parts" s_law_parts ["form"] a_law_parts t_law_parts
  a_law_form_words : Addr
  t_law_form_words : FuncData
  d_law_form_words : Dfn K mg "_law_form_words" s_law_form_words ["form"] a_law_form_words t_law_form_words
  a_law_price_word : Addr
  t_law_price_word : FuncData
  d_law_price_word : Dfn K mg "_law_price_word" s_law_price_word ["price"] a_law_price_word t_law_price_word
  a_law_line_words : Addr
  t_law_line_words : FuncData
  d_law_line_words : Dfn K mg "_law_line_words" s_law_line_words ["line"] a_law_line_words t_law_line_words
  a_law_a_version : Addr
  t_law_a_version : FuncData
  d_law_a_version : Dfn K mg "_law_a_version" s_law_a_version ["s"] a_law_a_version t_law_a_version
  a_law_a_release : Addr
  t_law_a_release : FuncData
  d_law_a_release : Dfn K mg "_law_a_release" s_law_a_release ["s"] a_law_a_release t_law_a_release
  a_law_a_name : Addr
  t_law_a_name : FuncData
  d_law_a_name : Dfn K mg "_law_a_name" s_law_a_name ["s", "words"] a_law_a_name t_law_a_name
  a_law_a_price : Addr
  t_law_a_price : FuncData
  d_law_a_price : Dfn K mg "_law_a_price" s_law_a_price ["s"] a_law_a_price t_law_a_price
  a_law_a_condition : Addr
  t_law_a_condition : FuncData
  d_law_a_condition : Dfn K mg "_law_a_condition" s_law_a_condition ["s", "words"] a_law_a_condition t_law_a_condition
  a_law_a_conditions : Addr
  t_law_a_conditions : FuncData
  d_law_a_conditions : Dfn K mg "_law_a_conditions" s_law_a_conditions ["s", "words", "least", "most"] a_law_a_conditions t_law_a_conditions
  a_law_a_form : Addr
  t_law_a_form : FuncData
  d_law_a_form : Dfn K mg "_law_a_form" s_law_a_form ["s", "words"] a_law_a_form t_law_a_form
  a_law_a_line : Addr
  t_law_a_line : FuncData
  d_law_a_line : Dfn K mg "_law_a_line" s_law_a_line ["s", "words"] a_law_a_line t_law_a_line
  a_law_a_lines : Addr
  t_law_a_lines : FuncData
  d_law_a_lines : Dfn K mg "_law_a_lines" s_law_a_lines ["s", "many"] a_law_a_lines t_law_a_lines
  a_law_a_sign : Addr
  t_law_a_sign : FuncData
  d_law_a_sign : Dfn K mg "_law_a_sign" s_law_a_sign ["s", "right"] a_law_a_sign t_law_a_sign
  a_law_a_wrong : Addr
  t_law_a_wrong : FuncData
  d_law_a_wrong : Dfn K mg "_law_a_wrong" s_law_a_wrong ["a", "b"] a_law_a_wrong t_law_a_wrong
  a_law_a_near : Addr
  t_law_a_near : FuncData
  d_law_a_near : Dfn K mg "_law_a_near" s_law_a_near ["a", "b"] a_law_a_near t_law_a_near
  a_law_a_fault : Addr
  t_law_a_fault : FuncData
  d_law_a_fault : Dfn K mg "_law_a_fault" s_law_a_fault ["s", "a", "b", "right"] a_law_a_fault t_law_a_fault
  a_law_a_refusal : Addr
  t_law_a_refusal : FuncData
  d_law_a_refusal : Dfn K mg "_law_a_refusal" s_law_a_refusal ["text"] a_law_a_refusal t_law_a_refusal
  a_law : Addr
  t_law : FuncData
  d_law : Dfn K mg "law" s_law ["script"] a_law t_law
  k_LETTERS : GlobK K mg "LETTERS" k_LETTERS
  k_FIGURES : GlobK K mg "FIGURES" k_FIGURES
  k_SIGNS : GlobK K mg "SIGNS" k_SIGNS
  k_KEPT : GlobK K mg "KEPT" k_KEPT
  k_GREATEST_PRICE : GlobK K mg "GREATEST_PRICE" k_GREATEST_PRICE
  k_FIRST_WORDS : GlobK K mg "FIRST_WORDS" k_FIRST_WORDS
  k_LIMITS : TabK w K mg "LIMITS" k_LIMITS
  z_ValueError : mg "ValueError" = none
  z_abs : mg "abs" = none
  z_all : mg "all" = none
  z_bool : mg "bool" = none
  z_dict : mg "dict" = none
  z_enumerate : mg "enumerate" = none
  z_int : mg "int" = none
  z_isinstance : mg "isinstance" = none
  z_len : mg "len" = none
  z_list : mg "list" = none
  z_min : mg "min" = none
  z_range : mg "range" = none
  z_str : mg "str" = none
  z_tuple : mg "tuple" = none
  C_BadText : Addr
  e_BadText : ErrC K mg "BadText" ["line", "what"] C_BadText
  ai_BadText : Addr
  ti_BadText : FuncData
  i_BadText : IniC K C_BadText "BadText.__init__" s_BadText_init ["self", "line", "what"] ai_BadText ti_BadText
  C_AskError : Addr
  m_AskError : mg "AskError" = some (.ref C_AskError)
  is_BadText_AskError : PySem.W.kitOne K (.ref C_BadText) (.ref C_AskError) = some true
  is_BadText_ValueError : PySem.W.kitOne K (.ref C_BadText) (.type "ValueError") = some true
end DL

set_option Elab.async false
set_option linter.all false
set_option maxRecDepth 100000
set_option maxHeartbeats 4000000
namespace DL
open PySem PySem.Spec L2
section
variable {P : Program} {w : World} {K : PySem.W.Frag} {mg : Str → Option Value} {base : Heap}
/-- the parts stand at p, each at its own place; what stood stands -/
structure PartsAt (H0 H : Hp) (p : Addr) (as : List Addr) (ps : List (List Str)) : Prop where
  same : Same H0 H
  p0 : H0 p = none
  a0 : ∀ a ∈ as, H0 a = none
  nd : (p :: as).Nodup
  hp : H p = some (.lst (as.map V.ref))
  len : as.length = ps.length
  each : ∀ (k : Nat) a, as[k]? = some a → ∃ q, ps[k]? = some q ∧ H a = some (.lst (q.map V.str))
theorem PartsAt.more {H0 H : Hp} {p : Addr} {as : List Addr} {ps : List (List Str)} (h : PartsAt H0 H p as ps) {l : Addr} (hl : H l = none) : PartsAt H0 (upd (upd H l (.lst [])) p (.lst (as.map V.ref ++ [.ref l]))) p (as ++ [l]) (ps ++ [[]]) := by
  have hlp : l ≠ p := fun z => by rw [z, h.hp] at hl; cases hl
  have hla : ∀ a ∈ as, l ≠ a := fun a ha z => by
    subst z
    obtain ⟨k, hk⟩ := List.getElem?_of_mem ha
    obtain ⟨q, _, e⟩ := h.each k _ hk
    rw [hl] at e; cases e
  obtain ⟨np, na⟩ := List.nodup_cons.mp h.nd
  refine ⟨fun b o e => ?_, h.p0, fun a ha => ?_, ?_, ?_, ?_, fun k a hk => ?_⟩
  · rw [upd_ne (ne_of_none e h.p0), upd_ne (ne_of_none (h.same b o e) hl)]
    exact h.same b o e
  · rcases List.mem_append.mp ha with ha | ha
    · exact h.a0 a ha
    · rw [List.mem_singleton.mp ha]; exact h.same.free hl
  · refine List.nodup_cons.mpr ⟨fun z => ?_, List.nodup_append.mpr ⟨na, by simp, fun a ha b hb => ?_⟩⟩
    · rcases List.mem_append.mp z with z | z
      · exact np z
      · exact hlp (List.mem_singleton.mp z).symm
    · rw [List.mem_singleton.mp hb]; exact (hla a ha).symm
  · rw [upd_same, List.map_append]; rfl
  · rw [List.length_append, List.length_append, h.len]; rfl
  · by_cases hk' : k < as.length
    · rw [List.getElem?_append_left hk'] at hk
      obtain ⟨q, e1, e2⟩ := h.each k a hk
      refine ⟨q, by rw [List.getElem?_append_left (by rw [← h.len]; exact hk')]; exact e1, ?_⟩
      rw [upd_ne (fun (z : a = p) => np (by rw [← z]; exact List.mem_of_getElem? hk)), upd_ne (hla a (List.mem_of_getElem? hk)).symm]
      exact e2
    · rw [List.getElem?_append_right (by omega)] at hk
      have hk0 : k - as.length = 0 := by
        cases q : k - as.length with
        | zero => rfl
        | succ j => rw [q] at hk; simp at hk
      rw [hk0] at hk
      have : l = a := by simpa using hk
      subst this
      refine ⟨[], ?_, by rw [upd_ne hlp, upd_same]; rfl⟩
      rw [List.getElem?_append_right (by rw [← h.len]; omega), ← h.len, hk0]
      rfl
theorem PartsAt.last {H0 H : Hp} {p : Addr} {as : List Addr} {l : Addr} {ps : List (List Str)} {q : List Str} {t : Str} (h : PartsAt H0 H p (as ++ [l]) (ps ++ [q])) : PartsAt H0 (upd H l (.lst ((q ++ [t]).map V.str))) p (as ++ [l]) (ps ++ [q ++ [t]]) := by
  have hlen : as.length = ps.length := by have := h.len; rw [List.length_append, List.length_append] at this; simpa using this
  obtain ⟨np, na⟩ := List.nodup_cons.mp h.nd
  have hlp : p ≠ l := fun z => np (by rw [z]; simp)
  have h0l : H0 l = none := h.a0 l (by simp)
  refine ⟨fun b o e => ?_, h.p0, h.a0, h.nd, ?_, by rw [List.length_append, List.length_append, hlen]; rfl, fun k a hk => ?_⟩
  · rw [upd_ne (ne_of_none e h0l)]; exact h.same b o e
  · rw [upd_ne hlp]; exact h.hp
  · by_cases hk' : k < as.length
    · have hk2 := hk
      rw [List.getElem?_append_left hk'] at hk2
      obtain ⟨q', e1, e2⟩ := h.each k a hk
      have hal : a ≠ l := fun z => by
        subst z
        exact (List.nodup_append.mp na).2.2 a (List.mem_of_getElem? hk2) a (by simp) rfl
      refine ⟨q', ?_, by rw [upd_ne hal]; exact e2⟩
      rw [List.getElem?_append_left (by omega)] at e1 ⊢
      exact e1
    · rw [List.getElem?_append_right (by omega)] at hk
      have hk0 : k - as.length = 0 := by
        cases q : k - as.length with
        | zero => rfl
        | succ j => rw [q] at hk; simp at hk
      rw [hk0] at hk
      have : l = a := by simpa using hk
      subst this
      refine ⟨q ++ [t], ?_, upd_same⟩
      rw [List.getElem?_append_right (by omega), ← hlen, hk0]
      rfl
theorem dpa_strs' {F : Hp} : ∀ ys : List Str, DpAll K F (ys.map V.str) (ys.map PyData.str)
  | [] => .nil
  | y :: r => .cons (.str y) (dpa_strs' r)
theorem parts_dp {F : Hp} : ∀ {as : List Addr} {ps : List (List Str)}, as.length = ps.length → (∀ (k : Nat) a, as[k]? = some a → ∃ q, ps[k]? = some q ∧ F a = some (.lst (q.map V.str))) → DpAll K F (as.map V.ref) (ps.map fun p => .list (p.map PyData.str))
  | [], [], _, _ => .nil
  | [], _ :: _, h, _ => by cases h
  | _ :: _, [], h, _ => by cases h
  | a :: as, p :: ps, h, e => by
    obtain ⟨q, e1, e2⟩ := e 0 a rfl
    have : p = q := by simpa using e1
    subst this
    exact .cons (.lst (SqL.of e2) (dpa_strs' p)) (parts_dp (by simpa using h) fun k b hk => e (k + 1) b (by simpa using hk))
/-- what stands still, with all that was made -/
def over (F H : Hp) (as : List Addr) : Hp := fun b => if b ∈ as then H b else F b
theorem sc_split_tokens : FnScope ["tokens", "mark", "parts", "token"] ["tokens", "mark"] (defScope s_split_tokens) := ⟨rfl, rfl, rfl, by decide +kernel, rfl, by decide +kernel, by decide +kernel⟩
theorem ok_split_tokens (T : Txt w K mg) : FnOk P w K mg base CX0 1 T.a_split_tokens T.t_split_tokens ["tokens", "mark"] (spP K 2 f_split_tokens) := by
  have sc := sc_split_tokens
  refine T.d_split_tokens.F.ok sc (fun vs H Q E h => h.1) (fun cdv A outer s H vs Q E hr h => ?_)
  obtain ⟨hl, F, ds, r, sm, dp, e, k⟩ := h
  unfold f_split_tokens at e
  split at e
  · rename_i ts m
    obtain ⟨ys, e1, e2⟩ := Option.bind_eq_some_iff.mp e
    split at e2
    · rename_i hlen
      cases e2
      obtain ⟨v1, v2, rfl, d1, d2⟩ := dpa2 dp
      rw [dp_str d2]
      obtain ⟨a, xs, rfl, hs, dx⟩ := dp_list d1
      rw [strsOf_dp dx e1] at hs
      refine ⟨_, pss_cons (ps_set (i := 2) sc.nd rfl (Or.inl rfl) (pe_lst (pa_cons (pe_lst pa_nil) pa_nil)))
        (pss_cons (ps_for PassesOwn.never rfl (pi_list (pv 0)) (pg_name (i := 3) sc.nd rfl (Or.inl rfl))
          (pss_one (ps_if (pt_cmpR op_eq (pv 3) (pv 1) (nomark _))
            (pss_one (ps_expr (pe_bm PySem.F.plainAttrs_list PySem.F.slot_list_append PySem.F.type_list_append mt_append (pv 2) (pa_cons (pe_lst pa_nil) pa_nil))))
            (pss_one (ps_expr (pe_bm PySem.F.plainAttrs_list PySem.F.slot_list_append PySem.F.type_list_append mt_append (pe_ix ix_list (pv 2) (pe_un un_neg pe_int) (fun _ _ => rfl)) (pa_cons (pv 3) pa_nil)))))))
        (pss_one (ps_ret (pv 2)))), ?_⟩
      refine ⟨Nat.zero_le _, fun l hl0 => ⟨by show 1 ≤ sizeLine; decide, fun p hp => ?_⟩⟩
      have hlp : l ≠ p := fun z => by rw [z, upd_same] at hp; cases hp
      have hp0 : H p = none := by rw [upd_ne hlp.symm] at hp; exact hp
      have start0 : PartsAt H (upd (upd H l (.lst [])) p (.lst [.ref l])) p [l] [[]] := by
        refine ⟨fun b o e => ?_, hp0, fun b hb => by rw [List.mem_singleton.mp hb]; exact hl0, List.nodup_cons.mpr ⟨fun z => hlp (List.mem_singleton.mp z).symm, by simp⟩, upd_same, rfl, fun j b hj => ?_⟩
        · rw [upd_ne (ne_of_none e hp0), upd_ne (ne_of_none e hl0)]; exact e
        · cases j with
          | zero =>
            have : l = b := by simpa using hj
            subst this
            exact ⟨[], rfl, by rw [upd_ne hlp, upd_same]; rfl⟩
          | succ j => simp at hj
      refine ⟨_, rfl, a, rfl, ⟨_, start0.same.seq (sm.seq hs)⟩, for_list (K := K) (a := a) (xs := ys.map V.str) (fun i σ H' => ∃ (as : List Addr) (la : Addr) (acc : List (List Str)) (cur : List Str) (v : Option V), σ = [some (.ref a), some (.str m), some (.ref p), v] ∧
          PartsAt H H' p (as ++ [la]) (acc ++ [cur]) ∧ splitL m (ys.drop i) acc cur = splitL m ys [] [] ∧ (as ++ [la]).length ≤ i + 1 ∧ cur.length ≤ i)
        ⟨[], l, [], [], none, rfl, start0, rfl, Nat.le_refl _, Nat.le_refl _⟩ (fun i σ H' _ ⟨_, _, _, _, _, _, R, _⟩ => R.same.seq (sm.seq hs)) ?_ ?_⟩
      · rintro i y σ H' hi ⟨as, la, acc, cur, v, rfl, R, eq, hn, hc⟩
        have hi2 : i < ys.length := by
          have q := (List.getElem?_eq_some_iff.mp hi).1
          rw [List.length_map] at q
          exact q
        rw [List.getElem?_map, List.getElem?_eq_getElem hi2] at hi
        cases hi
        rw [List.drop_eq_getElem_cons hi2] at eq
        refine ⟨_, rfl, _, rfl, rfl, _, rfl, ?_⟩
        refine ite2 (fun ht => ?_) (fun ht => ?_)
        · have ht' : ys[i] = m := V.str.inj (of_decide_eq_true ht)
          refine ⟨_, rfl, .inl ⟨rfl, _, SqL.of R.hp⟩, Nat.zero_le _, fun l2 hl2 => ?_⟩
          have hne : p ≠ l2 := fun z => by rw [← z, R.hp] at hl2; cases hl2
          refine ⟨p, _, _, rfl, rfl, (by rw [upd_ne hne]; exact R.hp), ?_, ?_⟩
          · rw [List.length_map]
            have : sizeLine = 16777216 := sizeLine_eq
            omega
          refine ⟨as ++ [la], l2, acc ++ [cur], [], some (.str ys[i]), rfl, R.more hl2, ?_, by rw [List.length_append, List.length_singleton]; omega, Nat.zero_le _⟩
          rw [← eq]
          unfold splitL
          rw [if_pos ht']
          cases ys.drop (i + 1) <;> rfl
        · have ht' : ¬ ys[i] = m := fun z => ht (decide_eq_true (by rw [z]))
          have hlast : H' la = some (.lst (cur.map V.str)) := by
            have hl' : as.length = acc.length := by have := R.len; rw [List.length_append, List.length_append] at this; simpa using this
            obtain ⟨q, e3, e4⟩ := R.each as.length la (by simp)
            rw [hl'] at e3
            have : cur = q := by simpa using e3
            rw [this]; exact e4
          refine ⟨_, rfl, _, rfl, p, _, (-1 : Int), .ref la, rfl, rfl, SqL.of R.hp, ?_, .inl ⟨rfl, _, SqL.of hlast⟩, _, rfl, la, _, _, rfl, rfl, hlast, ?_, ?_⟩
          · rw [List.map_append]
            exact atI_last _ _
          · rw [List.length_map]
            have : sizeLine = 16777216 := sizeLine_eq
            omega
          · refine ⟨as, la, acc, cur ++ [ys[i]], some (.str ys[i]), rfl, ?_, ?_, by omega, by rw [List.length_append, List.length_singleton]; omega⟩
            · have := R.last (t := ys[i])
              rw [List.map_append] at this
              exact this
            · rw [← eq]
              conv => rhs; unfold splitL
              rw [if_neg ht']
      · rintro σ H' ⟨as, la, acc, cur, v, rfl, R, eq, hn, hc⟩
        rw [List.length_map, List.drop_length] at eq
        have eq' : acc ++ [cur] = splitL m ys [] [] := eq
        refine ⟨_, rfl, ?_⟩
        rw [eq'] at R
        have inb : ∀ b ∈ p :: (as ++ [la]), H b = none := fun b hb => by
          rcases List.mem_cons.mp hb with z | z
          · rw [z]; exact R.p0
          · exact R.a0 b z
        have notF : ∀ b o, F b = some o → b ∉ p :: (as ++ [la]) := fun b o e z => by
          have := inb b z
          rw [sm b o e] at this; cases this
        refine k (.ref p) (over F H' (p :: (as ++ [la]))) H' (fun b o e => ?_) (fun b o e => ?_) (fun b o e => ?_) R.same ?_
        · unfold over; rw [if_neg (notF b o e)]; exact e
        · unfold over at e
          split at e
          · exact e
          · exact R.same _ _ (sm b o e)
        · unfold over at e
          split at e
          · rename_i hb; exact .inr (inb b hb)
          · exact .inl e
        · refine .lst (SqL.of (?_ : over F H' (p :: (as ++ [la])) p = _)) (parts_dp R.len fun j b hj => ?_)
          · unfold over; rw [if_pos List.mem_cons_self]; exact R.hp
          · obtain ⟨q, g1, g2⟩ := R.each j b hj
            refine ⟨q, g1, ?_⟩
            unfold over; rw [if_pos (List.mem_cons_of_mem _ (List.mem_of_getElem? hj))]; exact g2
    · cases e2
  · cases e
end
end DL

set_option Elab.async false
set_option linter.all false
set_option maxRecDepth 100000
set_option maxHeartbeats 4000000
namespace DL
open PySem PySem.Spec L2
section
variable {P : Program} {w : World} {K : PySem.W.Frag} {mg : Str → Option Value} {base : Heap}
theorem xc_BadText (T : Txt w K mg) : XcOk P w K mg base "BadText" ["line", "what"] T.C_BadText 1 := by
  have sc : FnScope ["self", "line", "what"] ["self", "line", "what"] (defScope s_BadText_init) := ⟨rfl, rfl, rfl, by decide +kernel, rfl, by decide +kernel, by decide +kernel⟩
  exact xc_of T.e_BadText T.i_BadText (ok_init2 (k := 0) T.i_BadText.F sc rfl T.e_BadText.cls (T.e_BadText.no _ (by simp)) (T.e_BadText.no _ (by simp)) (fun cdv A outer s H E => pss_cons (ps_ost (pv 0) (pv 1)) (pss_one (ps_ost (pv 0) (pv 2)))))
theorem sc_sign_fault : FnScope ["line", "sign"] ["line"] (defScope s_sign_fault) := ⟨rfl, rfl, rfl, by decide +kernel, rfl, by decide +kernel, by decide +kernel⟩
theorem ok_sign_fault (T : Txt w K mg) : FnOk P w K mg base CX0 1 T.a_sign_fault T.t_sign_fault ["line"] (spP K 1 f_sign_fault) := by
  have sc := sc_sign_fault
  exact okP T.d_sign_fault.F sc (fun cdv A outer s H E W hr hP =>
    (dss_cons (ds_if (dt_cmp (op_eqq hr.units) sEq (de_nm 0) de_cs)
    (dss_one (ds_ret de_cs))
    dss_nil)
    (dss_cons (ds_for PassesOwn.never rfl (di_any (de_nm 0)) (dg_nm 1 (hP 1) sc.nd)
    (dss_one (ds_if (dt_cmp op_notInn sNotIn (de_nm 1) (de_g T.k_SIGNS))
    (dss_one (ds_ret de_cs))
    dss_nil)))
    (dss_cons (ds_if (PW.pt (dw_or (dt_cmp (op_eqq hr.units) sEq (de_ix ix_seq sIx (de_nm 0) de_int) de_cs) (dw_or (dt_cmp (op_eqq hr.units) sEq (de_ix ix_seq sIx (de_nm 0) (de_neg de_int)) de_cs) (dw_or1 (dt_cmp op_inn sIn de_cs (de_nm 0))))))
    (dss_one (ds_ret de_cs))
    dss_nil)
    (dss_one (ds_ret de_cs))))))
theorem sc_is_figures : FnScope ["token", "sign"] ["token"] (defScope s_is_figures) := ⟨rfl, rfl, rfl, by decide +kernel, rfl, by decide +kernel, by decide +kernel⟩
theorem ok_is_figures (T : Txt w K mg) : FnOk P w K mg base CX0 1 T.a_is_figures T.t_is_figures ["token"] (spP K 1 f_is_figures) := by
  have sc := sc_is_figures
  exact okP T.d_is_figures.F sc (fun cdv A outer s H E W hr hP =>
    (dss_cons (ds_if (PW.pt (dw_or (dt_cmp (op_eqq hr.units) sEq (de_nm 0) de_cs) (dw_or1 (PW.pt (dw_and (dt_cmp (op_eqq hr.units) sEq (de_ix ix_seq sIx (de_nm 0) de_int) de_cs) (dw_and1 (dt_cmp (op_nee hr.units) sNe (de_nm 0) de_cs)))))))
    (dss_one (ds_ret de_bl))
    dss_nil)
    (dss_cons (ds_for PassesOwn.never rfl (di_any (de_nm 0)) (dg_nm 1 (hP 1) sc.nd)
    (dss_one (ds_if (dt_cmp op_notInn sNotIn (de_nm 1) (de_g T.k_FIGURES))
    (dss_one (ds_ret de_bl))
    dss_nil)))
    (dss_one (ds_ret de_bl)))))
theorem sc_is_number : FnScope ["token", "least", "most"] ["token", "least", "most"] (defScope s_is_number) := ⟨rfl, rfl, rfl, by decide +kernel, rfl, by decide +kernel, by decide +kernel⟩
theorem ok_is_number (T : Txt w K mg) : FnOk P w K mg base CX0 2 T.a_is_number T.t_is_number ["token", "least", "most"] (spP K 3 f_is_number) := by
  have sc := sc_is_number
  exact okP T.d_is_number.F sc (fun cdv A outer s H E W hr hP =>
    (dss_cons (ds_if (PW.pt (dw_or (dt_not (dt_tru (de_call (ok_is_figures T) (hr.mono (by decide)) T.d_is_figures.m T.d_is_figures.F.kp T.d_is_figures.b ar_run (da_cons (de_nm 0) da_nil)))) (dw_or1 (dt_cmp op_gt sCmp (de_callB c_len s_len (by rfl) T.z_len bb_len (da_cons (de_nm 0) da_nil)) de_int))))
    (dss_one (ds_ret de_bl))
    dss_nil)
    (dss_one (ds_ret (de_chain op_le op_le sCmp sCmp (de_nm 1) (de_callTy c_int s_int (by rfl) T.z_int bb_int (da_cons (de_nm 0) da_nil)) (de_nm 2))))))
theorem sc_is_word : FnScope ["token", "sign"] ["token"] (defScope s_is_word) := ⟨rfl, rfl, rfl, by decide +kernel, rfl, by decide +kernel, by decide +kernel⟩
theorem ok_is_word (T : Txt w K mg) : FnOk P w K mg base CX0 1 T.a_is_word T.t_is_word ["token"] (spP K 1 f_is_word) := by
  have sc := sc_is_word
  exact okP T.d_is_word.F sc (fun cdv A outer s H E W hr hP =>
    (dss_cons (ds_if (PW.pt (dw_or (dt_cmp (op_eqq hr.units) sEq (de_nm 0) de_cs) (dw_or (dt_cmp op_gt sCmp (de_callB c_len s_len (by rfl) T.z_len bb_len (da_cons (de_nm 0) da_nil)) de_int) (dw_or1 (dt_cmp op_notInn sNotIn (de_ix ix_seq sIx (de_nm 0) de_int) (de_g T.k_LETTERS))))))
    (dss_one (ds_ret de_bl))
    dss_nil)
    (dss_cons (ds_for PassesOwn.never rfl (di_any (de_nm 0)) (dg_nm 1 (hP 1) sc.nd)
    (dss_one (ds_if (PW.pt (dw_and (dt_cmp op_notInn sNotIn (de_nm 1) (de_g T.k_LETTERS)) (dw_and1 (dt_cmp op_notInn sNotIn (de_nm 1) (de_g T.k_FIGURES)))))
    (dss_one (ds_ret de_bl))
    dss_nil)))
    (dss_one (ds_ret (de_cmp op_notInn sNotIn (de_nm 0) (de_g T.k_KEPT)))))))
theorem sc_is_version : FnScope ["token", "parts", "part"] ["token"] (defScope s_is_version) := ⟨rfl, rfl, rfl, by decide +kernel, rfl, by decide +kernel, by decide +kernel⟩
theorem ok_is_version (T : Txt w K mg) : FnOk P w K mg base CX0 3 T.a_is_version T.t_is_version ["token"] (spP K 1 f_is_version) := by
  have sc := sc_is_version
  exact okP T.d_is_version.F sc (fun cdv A outer s H E W hr hP =>
    (dss_cons (ds_set 1 (hP 1) sc.nd (de_fz (do_split (de_nm 0) de_cs)))
    (dss_cons (ds_if (dt_cmp op_gt sCmp (de_callB c_len s_len (by rfl) T.z_len bb_len (da_cons (de_nm 1) da_nil)) de_int)
    (dss_one (ds_ret de_bl))
    dss_nil)
    (dss_cons (ds_for PassesOwn.never rfl (di_any (de_nm 1)) (dg_nm 2 (hP 2) sc.nd)
    (dss_one (ds_if (dt_not (dt_tru (de_call (ok_is_number T) (hr.mono (by decide)) T.d_is_number.m T.d_is_number.F.kp T.d_is_number.b ar_run (da_cons (de_nm 2) (da_cons de_int (da_cons de_int da_nil))))))
    (dss_one (ds_ret de_bl))
    dss_nil)))
    (dss_one (ds_ret de_bl))))))
theorem sc_is_release : FnScope ["token"] ["token"] (defScope s_is_release) := ⟨rfl, rfl, rfl, by decide +kernel, rfl, by decide +kernel, by decide +kernel⟩
theorem ok_is_release (T : Txt w K mg) : FnOk P w K mg base CX0 4 T.a_is_release T.t_is_release ["token"] (spP K 1 f_is_release) := by
  have sc := sc_is_release
  exact okP T.d_is_release.F sc (fun cdv A outer s H E W hr hP =>
    (dss_one (ds_ret (de_or (de_cmp (op_eqq hr.units) sEq (de_nm 0) de_cs) (de_one (de_call (ok_is_version T) (hr.mono (by decide)) T.d_is_version.m T.d_is_version.F.kp T.d_is_version.b ar_run (da_cons (de_nm 0) da_nil)))))))
theorem sc_is_price : FnScope ["token"] ["token"] (defScope s_is_price) := ⟨rfl, rfl, rfl, by decide +kernel, rfl, by decide +kernel, by decide +kernel⟩
theorem ok_is_price (T : Txt w K mg) : FnOk P w K mg base CX0 3 T.a_is_price T.t_is_price ["token"] (spP K 1 f_is_price) := by
  have sc := sc_is_price
  exact okP T.d_is_price.F sc (fun cdv A outer s H E W hr hP =>
    (dss_one (ds_ret (de_or (de_cmp (op_eqq hr.units) sEq (de_nm 0) de_cs) (de_one (de_call (ok_is_number T) (hr.mono (by decide)) T.d_is_number.m T.d_is_number.F.kp T.d_is_number.b ar_run (da_cons (de_nm 0) (da_cons de_int (da_cons (de_g T.k_GREATEST_PRICE) da_nil)))))))))
theorem sc_price_of : FnScope ["token"] ["token"] (defScope s_price_of) := ⟨rfl, rfl, rfl, by decide +kernel, rfl, by decide +kernel, by decide +kernel⟩
theorem ok_price_of (T : Txt w K mg) : FnOk P w K mg base CX0 1 T.a_price_of T.t_price_of ["token"] (spP K 1 f_price_of) := by
  have sc := sc_price_of
  exact okP T.d_price_of.F sc (fun cdv A outer s H E W hr hP =>
    (dss_cons (ds_if (dt_cmp (op_eqq hr.units) sEq (de_nm 0) de_cs)
    (dss_one (ds_ret de_non))
    dss_nil)
    (dss_one (ds_ret (de_callTy c_int s_int (by rfl) T.z_int bb_int (da_cons (de_nm 0) da_nil))))))
theorem sc_is_short_name : FnScope ["token", "parts", "part"] ["token"] (defScope s_is_short_name) := ⟨rfl, rfl, rfl, by decide +kernel, rfl, by decide +kernel, by decide +kernel⟩
theorem ok_is_short_name (T : Txt w K mg) : FnOk P w K mg base CX0 2 T.a_is_short_name T.t_is_short_name ["token"] (spP K 1 f_is_short_name) := by
  have sc := sc_is_short_name
  exact okP T.d_is_short_name.F sc (fun cdv A outer s H E W hr hP =>
    (dss_cons (ds_set 1 (hP 1) sc.nd (de_fz (do_split (de_nm 0) de_cs)))
    (dss_cons (ds_if (dt_cmp op_gt sCmp (de_callB c_len s_len (by rfl) T.z_len bb_len (da_cons (de_nm 1) da_nil)) de_int)
    (dss_one (ds_ret de_bl))
    dss_nil)
    (dss_cons (ds_for PassesOwn.never rfl (di_any (de_nm 1)) (dg_nm 2 (hP 2) sc.nd)
    (dss_one (ds_if (dt_not (dt_tru (de_call (ok_is_word T) (hr.mono (by decide)) T.d_is_word.m T.d_is_word.F.kp T.d_is_word.b ar_run (da_cons (de_nm 2) da_nil))))
    (dss_one (ds_ret de_bl))
    dss_nil)))
    (dss_one (ds_ret de_bl))))))
theorem sc_is_whole_name : FnScope ["token", "parts"] ["token"] (defScope s_is_whole_name) := ⟨rfl, rfl, rfl, by decide +kernel, rfl, by decide +kernel, by decide +kernel⟩
theorem ok_is_whole_name (T : Txt w K mg) : FnOk P w K mg base CX0 3 T.a_is_whole_name T.t_is_whole_name ["token"] (spP K 1 f_is_whole_name) := by
  have sc := sc_is_whole_name
  exact okP T.d_is_whole_name.F sc (fun cdv A outer s H E W hr hP =>
    (dss_cons (ds_set 1 (hP 1) sc.nd (de_fz (do_split (de_nm 0) de_cs)))
    (dss_cons (ds_if (dt_cmp (op_eqq hr.units) sEq (de_callB c_len s_len (by rfl) T.z_len bb_len (da_cons (de_nm 1) da_nil)) de_int)
    (dss_one (ds_ret (de_call (ok_is_short_name T) (hr.mono (by decide)) T.d_is_short_name.m T.d_is_short_name.F.kp T.d_is_short_name.b ar_run (da_cons (de_nm 0) da_nil))))
    dss_nil)
    (dss_one (ds_ret (de_and (de_cmp (op_eqq hr.units) sEq (de_callB c_len s_len (by rfl) T.z_len bb_len (da_cons (de_nm 1) da_nil)) de_int) (de_and (de_call (ok_is_word T) (hr.mono (by decide)) T.d_is_word.m T.d_is_word.F.kp T.d_is_word.b ar_run (da_cons (de_ix ix_seq sIx (de_nm 1) de_int) da_nil)) (de_one (de_call (ok_is_short_name T) (hr.mono (by decide)) T.d_is_short_name.m T.d_is_short_name.F.kp T.d_is_short_name.b ar_run (da_cons (de_ix ix_seq sIx (de_nm 1) de_int) da_nil))))))))))
theorem sc_read_condition : FnScope ["tokens", "whole", "name"] ["tokens", "whole"] (defScope s_read_condition) := ⟨rfl, rfl, rfl, by decide +kernel, rfl, by decide +kernel, by decide +kernel⟩
theorem ok_read_condition (T : Txt w K mg) : FnOk P w K mg base CX0 5 T.a_read_condition T.t_read_condition ["tokens", "whole"] (spP K 2 f_read_condition) := by
  have sc := sc_read_condition
  exact okP T.d_read_condition.F sc (fun cdv A outer s H E W hr hP =>
    (dss_cons (ds_if (PW.pt (dw_or (dt_cmp op_lt sCmp (de_callB c_len s_len (by rfl) T.z_len bb_len (da_cons (de_nm 0) da_nil)) de_int) (dw_or1 (dt_cmp op_gt sCmp (de_callB c_len s_len (by rfl) T.z_len bb_len (da_cons (de_nm 0) da_nil)) de_int))))
    (dss_one (ds_ret de_non))
    dss_nil)
    (dss_cons (ds_set 2 (hP 2) sc.nd (de_ix ix_seq sIx (de_nm 0) de_int))
    (dss_cons (ds_if (dt_tru (de_nm 1))
    (dss_one (ds_if (dt_not (dt_tru (de_call (ok_is_whole_name T) (hr.mono (by decide)) T.d_is_whole_name.m T.d_is_whole_name.F.kp T.d_is_whole_name.b ar_run (da_cons (de_nm 2) da_nil))))
    (dss_one (ds_ret de_non))
    dss_nil))
    (dss_one (ds_if (dt_not (dt_tru (de_call (ok_is_short_name T) (hr.mono (by decide)) T.d_is_short_name.m T.d_is_short_name.F.kp T.d_is_short_name.b ar_run (da_cons (de_nm 2) da_nil))))
    (dss_one (ds_ret de_non))
    dss_nil)))
    (dss_cons (ds_if (dt_cmp (op_eqq hr.units) sEq (de_callB c_len s_len (by rfl) T.z_len bb_len (da_cons (de_nm 0) da_nil)) de_int)
    (dss_cons (ds_if (dt_cmp (op_eqq hr.units) sEq (de_ix ix_seq sIx (de_nm 0) de_int) de_cs)
    (dss_one (ds_ret (de_tup (da_cons (de_nm 2) (da_cons de_cs da_nil)))))
    dss_nil)
    (dss_one (ds_ret de_non)))
    dss_nil)
    (dss_cons (ds_if (dt_not (dt_tru (de_call (ok_is_release T) (hr.mono (by decide)) T.d_is_release.m T.d_is_release.F.kp T.d_is_release.b ar_run (da_cons (de_ix ix_seq sIx (de_nm 0) (de_neg de_int)) da_nil))))
    (dss_one (ds_ret de_non))
    dss_nil)
    (dss_cons (ds_if (dt_cmp (op_eqq hr.units) sEq (de_callB c_len s_len (by rfl) T.z_len bb_len (da_cons (de_nm 0) da_nil)) de_int)
    (dss_cons (ds_if (PW.pt (dw_and (dt_cmp (op_eqq hr.units) sEq (de_ix ix_seq sIx (de_nm 0) de_int) de_cs) (dw_and1 (dt_cmp (op_eqq hr.units) sEq (de_ix ix_seq sIx (de_nm 0) de_int) de_cs))))
    (dss_one (ds_ret (de_tup (da_cons (de_nm 2) (da_cons de_cs (da_cons (de_ix ix_seq sIx (de_nm 0) de_int) da_nil))))))
    dss_nil)
    (dss_one (ds_ret de_non)))
    dss_nil)
    (dss_cons (ds_if (PW.pt (dw_or (dt_cmp (op_eqq hr.units) sEq (de_ix ix_seq sIx (de_nm 0) de_int) de_cs) (dw_or1 (dt_cmp (op_eqq hr.units) sEq (de_ix ix_seq sIx (de_nm 0) de_int) de_cs))))
    (dss_one (ds_ret (de_tup (da_cons (de_nm 2) (da_cons (de_ix ix_seq sIx (de_nm 0) de_int) (da_cons (de_ix ix_seq sIx (de_nm 0) de_int) da_nil))))))
    dss_nil)
    (dss_one (ds_ret de_non))))))))))
theorem sc_read_conditions : FnScope ["tokens", "mark", "least", "most", "parts", "found", "part", "condition"] ["tokens", "mark", "least", "most"] (defScope s_read_conditions) := ⟨rfl, rfl, rfl, by decide +kernel, rfl, by decide +kernel, by decide +kernel⟩
theorem ok_read_conditions (T : Txt w K mg) : FnOk P w K mg base CX0 6 T.a_read_conditions T.t_read_conditions ["tokens", "mark", "least", "most"] (spP K 4 f_read_conditions) := by
  have sc := sc_read_conditions
  exact okP T.d_read_conditions.F sc (fun cdv A outer s H E W hr hP =>
    (dss_cons (ds_set 4 (hP 4) sc.nd (de_call (ok_split_tokens T) (hr.mono (by decide)) T.d_split_tokens.m T.d_split_tokens.F.kp T.d_split_tokens.b ar_split_tokens (da_cons (de_nm 0) (da_cons (de_nm 1) da_nil))))
    (dss_cons (ds_if (dt_not (dt_chain op_le op_le sCmp sCmp (de_nm 2) (de_callB c_len s_len (by rfl) T.z_len bb_len (da_cons (de_nm 4) da_nil)) (de_nm 3)))
    (dss_one (ds_ret de_non))
    dss_nil)
    (dss_cons (ds_setO 5 (hP 5) sc.nd (do_lst da_nil))
    (dss_cons (ds_for PassesOwn.never rfl (di_any (de_nm 4)) (dg_nm 6 (hP 6) sc.nd)
    (dss_cons (ds_set 7 (hP 7) sc.nd (de_call (ok_read_condition T) (hr.mono (by decide)) T.d_read_condition.m T.d_read_condition.F.kp T.d_read_condition.b ar_run (da_cons (de_nm 6) (da_cons de_bl da_nil))))
    (dss_cons (ds_if (dt_isN (de_nm 7))
    (dss_one (ds_ret de_non))
    dss_nil)
    (dss_one (ds_app 5 (de_nm 7))))))
    (dss_one (ds_ret (de_tupleV (by rfl) T.z_tuple bb_tuple (dv_nm 5)))))))))
theorem sc_read_need : FnScope ["tokens", "halves", "left", "right"] ["tokens"] (defScope s_read_need) := ⟨rfl, rfl, rfl, by decide +kernel, rfl, by decide +kernel, by decide +kernel⟩
theorem ok_read_need (T : Txt w K mg) : FnOk P w K mg base CX0 7 T.a_read_need T.t_read_need ["tokens"] (spP K 1 f_read_need) := by
  have sc := sc_read_need
  exact okP T.d_read_need.F sc (fun cdv A outer s H E W hr hP =>
    (dss_cons (ds_set 1 (hP 1) sc.nd (de_call (ok_split_tokens T) (hr.mono (by decide)) T.d_split_tokens.m T.d_split_tokens.F.kp T.d_split_tokens.b ar_split_tokens (da_cons (de_nm 0) (da_cons de_cs da_nil))))
    (dss_cons (ds_if (dt_cmp (op_nee hr.units) sNe (de_callB c_len s_len (by rfl) T.z_len bb_len (da_cons (de_nm 1) da_nil)) de_int)
    (dss_one (ds_ret de_non))
    dss_nil)
    (dss_cons (ds_set 2 (hP 2) sc.nd (de_call (ok_read_conditions T) (hr.mono (by decide)) T.d_read_conditions.m T.d_read_conditions.F.kp T.d_read_conditions.b ar_run (da_cons (de_ix ix_seq sIx (de_nm 1) de_int) (da_cons de_cs (da_cons de_int (da_cons de_int da_nil))))))
    (dss_cons (ds_set 3 (hP 3) sc.nd (de_call (ok_read_conditions T) (hr.mono (by decide)) T.d_read_conditions.m T.d_read_conditions.F.kp T.d_read_conditions.b ar_run (da_cons (de_ix ix_seq sIx (de_nm 1) de_int) (da_cons de_cs (da_cons de_int (da_cons de_int da_nil))))))
    (dss_cons (ds_if (PW.pt (dw_or (dt_isN (de_nm 2)) (dw_or1 (dt_isN (de_nm 3)))))
    (dss_one (ds_ret de_non))
    dss_nil)
    (dss_one (ds_ret (de_tup (da_cons de_cs (da_cons (de_nm 2) (da_cons (de_nm 3) da_nil))))))))))))
theorem sc_read_counted : FnScope ["tokens", "told"] ["tokens"] (defScope s_read_counted) := ⟨rfl, rfl, rfl, by decide +kernel, rfl, by decide +kernel, by decide +kernel⟩
theorem ok_read_counted (T : Txt w K mg) : FnOk P w K mg base CX0 7 T.a_read_counted T.t_read_counted ["tokens"] (spP K 1 f_read_counted) := by
  have sc := sc_read_counted
  exact okP T.d_read_counted.F sc (fun cdv A outer s H E W hr hP =>
    (dss_cons (ds_if (PW.pt (dw_or (dt_cmp op_lt sCmp (de_callB c_len s_len (by rfl) T.z_len bb_len (da_cons (de_nm 0) da_nil)) de_int) (dw_or (dt_not (dt_tru (de_call (ok_is_number T) (hr.mono (by decide)) T.d_is_number.m T.d_is_number.F.kp T.d_is_number.b ar_run (da_cons (de_ix ix_seq sIx (de_nm 0) de_int) (da_cons de_int (da_cons de_int da_nil)))))) (dw_or1 (dt_cmp (op_nee hr.units) sNe (de_ix ix_seq sIx (de_nm 0) de_int) de_cs)))))
    (dss_one (ds_ret de_non))
    dss_nil)
    (dss_cons (ds_set 1 (hP 1) sc.nd (de_call (ok_read_conditions T) (hr.mono (by decide)) T.d_read_conditions.m T.d_read_conditions.F.kp T.d_read_conditions.b ar_run (da_cons (de_sl (de_nm 0) (dp_yes de_int) dp_no) (da_cons de_cs (da_cons de_int (da_cons de_int da_nil))))))
    (dss_cons (ds_if (dt_isN (de_nm 1))
    (dss_one (ds_ret de_non))
    dss_nil)
    (dss_one (ds_ret (de_tup (da_cons (de_ix ix_seq sIx (de_nm 0) de_int) (da_cons (de_callTy c_int s_int (by rfl) T.z_int bb_int (da_cons (de_ix ix_seq sIx (de_nm 0) de_int) da_nil)) (da_cons (de_nm 1) da_nil))))))))))
theorem sc_read_form : FnScope ["tokens", "told"] ["tokens"] (defScope s_read_form) := ⟨rfl, rfl, rfl, by decide +kernel, rfl, by decide +kernel, by decide +kernel⟩
theorem ok_read_form (T : Txt w K mg) : FnOk P w K mg base CX0 8 T.a_read_form T.t_read_form ["tokens"] (spP K 1 f_read_form) := by
  have sc := sc_read_form
  exact okP T.d_read_form.F sc (fun cdv A outer s H E W hr hP =>
    (dss_cons (ds_if (dt_cmp (op_eqq hr.units) sEq (de_nm 0) (de_fz (do_lst da_nil)))
    (dss_one (ds_ret de_non))
    dss_nil)
    (dss_cons (ds_if (dt_cmp (op_eqq hr.units) sEq (de_ix ix_seq sIx (de_nm 0) de_int) de_cs)
    (dss_one (ds_ret (de_call (ok_read_need T) (hr.mono (by decide)) T.d_read_need.m T.d_read_need.F.kp T.d_read_need.b ar_run (da_cons (de_sl (de_nm 0) (dp_yes de_int) dp_no) da_nil))))
    dss_nil)
    (dss_cons (ds_if (PW.pt (dw_or (dt_cmp (op_eqq hr.units) sEq (de_ix ix_seq sIx (de_nm 0) de_int) de_cs) (dw_or1 (dt_cmp (op_eqq hr.units) sEq (de_ix ix_seq sIx (de_nm 0) de_int) de_cs))))
    (dss_one (ds_ret (de_call (ok_read_counted T) (hr.mono (by decide)) T.d_read_counted.m T.d_read_counted.F.kp T.d_read_counted.b ar_run (da_cons (de_nm 0) da_nil))))
    dss_nil)
    (dss_cons (ds_if (PW.pt (dw_or (dt_cmp (op_eqq hr.units) sEq (de_ix ix_seq sIx (de_nm 0) de_int) de_cs) (dw_or1 (dt_cmp (op_eqq hr.units) sEq (de_ix ix_seq sIx (de_nm 0) de_int) de_cs))))
    (dss_cons (ds_set 1 (hP 1) sc.nd (de_call (ok_read_conditions T) (hr.mono (by decide)) T.d_read_conditions.m T.d_read_conditions.F.kp T.d_read_conditions.b ar_run (da_cons (de_sl (de_nm 0) (dp_yes de_int) dp_no) (da_cons de_cs (da_cons (de_if (dt_cmp (op_eqq hr.units) sEq (de_ix ix_seq sIx (de_nm 0) de_int) de_cs) de_int de_int) (da_cons de_int da_nil))))))
    (dss_cons (ds_if (dt_isN (de_nm 1))
    (dss_one (ds_ret de_non))
    dss_nil)
    (dss_one (ds_ret (de_tup (da_cons (de_ix ix_seq sIx (de_nm 0) de_int) (da_cons (de_nm 1) da_nil)))))))
    dss_nil)
    (dss_cons (ds_if (dt_cmp (op_eqq hr.units) sEq (de_ix ix_seq sIx (de_nm 0) de_int) de_cs)
    (dss_cons (ds_set 1 (hP 1) sc.nd (de_call (ok_read_conditions T) (hr.mono (by decide)) T.d_read_conditions.m T.d_read_conditions.F.kp T.d_read_conditions.b ar_run (da_cons (de_sl (de_nm 0) (dp_yes de_int) dp_no) (da_cons de_cs (da_cons de_int (da_cons de_int da_nil))))))
    (dss_cons (ds_if (dt_isN (de_nm 1))
    (dss_one (ds_ret de_non))
    dss_nil)
    (dss_one (ds_ret (de_tup (da_cons de_cs (da_cons (de_ix ix_seq sIx (de_nm 1) de_int) (da_cons (de_ix ix_seq sIx (de_nm 1) de_int) da_nil))))))))
    dss_nil)
    (dss_one (ds_ret de_non))))))))
theorem sc_bound_check : FnScope ["what", "number"] ["what", "number"] (defScope s_bound_check) := ⟨rfl, rfl, rfl, by decide +kernel, rfl, by decide +kernel, by decide +kernel⟩
theorem ok_bound_check (T : Txt w K mg) : FnOk P w K mg base CX0 1 T.a_bound_check T.t_bound_check ["what", "number"] (spP K 2 f_bound_check) := by
  have sc := sc_bound_check
  exact okP T.d_bound_check.F sc (fun cdv A outer s H E W hr hP =>
    (dss_one (ds_if (dt_cmp op_gt sCmp (de_nm 1) (de_tab T.k_LIMITS (de_nm 0)))
    (dss_one ds_never)
    dss_nil)))
theorem sc_text_rows : FnScope ["text", "rows"] ["text"] (defScope s_text_rows) := ⟨rfl, rfl, rfl, by decide +kernel, rfl, by decide +kernel, by decide +kernel⟩
theorem ok_text_rows (T : Txt w K mg) : FnOk P w K mg base CX0 1 T.a_text_rows T.t_text_rows ["text"] (spP K 1 f_text_rows) := by
  have sc := sc_text_rows
  exact okP T.d_text_rows.F sc (fun cdv A outer s H E W hr hP =>
    (dss_cons (ds_set 1 (hP 1) sc.nd (de_fz (do_split (de_nm 0) de_cs)))
    (dss_cons (ds_if (dt_cmp (op_eqq hr.units) sEq (de_ix ix_seq sIx (de_nm 1) (de_neg de_int)) de_cs)
    (dss_one (ds_ret (de_sl (de_nm 1) dp_no (dp_yes (de_neg de_int)))))
    dss_nil)
    (dss_one (ds_ret (de_nm 1))))))
theorem sc_checked_rows : FnScope ["text", "rows", "row"] ["text"] (defScope s_checked_rows) := ⟨rfl, rfl, rfl, by decide +kernel, rfl, by decide +kernel, by decide +kernel⟩
theorem ok_checked_rows (T : Txt w K mg) : FnOk P w K mg base CX0 2 T.a_checked_rows T.t_checked_rows ["text"] (spP K 1 f_checked_rows) := by
  have sc := sc_checked_rows
  exact okP T.d_checked_rows.F sc (fun cdv A outer s H E W hr hP =>
    (dss_cons (ds_set 1 (hP 1) sc.nd (de_call (ok_text_rows T) (hr.mono (by decide)) T.d_text_rows.m T.d_text_rows.F.kp T.d_text_rows.b ar_run (da_cons (de_nm 0) da_nil)))
    (dss_cons (ds_drop (de_call (ok_bound_check T) (hr.mono (by decide)) T.d_bound_check.m T.d_bound_check.F.kp T.d_bound_check.b ar_run (da_cons de_cs (da_cons (de_callB c_len s_len (by rfl) T.z_len bb_len (da_cons (de_nm 1) da_nil)) da_nil))))
    (dss_cons (ds_for PassesOwn.never rfl (di_any (de_nm 1)) (dg_nm 2 (hP 2) sc.nd)
    (dss_one (ds_drop (de_call (ok_bound_check T) (hr.mono (by decide)) T.d_bound_check.m T.d_bound_check.F.kp T.d_bound_check.b ar_run (da_cons de_cs (da_cons (de_callB c_len s_len (by rfl) T.z_len bb_len (da_cons (de_nm 2) da_nil)) da_nil))))))
    (dss_one (ds_ret (de_nm 1)))))))
theorem sc_read_release : FnScope ["tokens"] ["tokens"] (defScope s_read_release) := ⟨rfl, rfl, rfl, by decide +kernel, rfl, by decide +kernel, by decide +kernel⟩
theorem ok_read_release (T : Txt w K mg) : FnOk P w K mg base CX0 4 T.a_read_release T.t_read_release ["tokens"] (spP K 1 f_read_release) := by
  have sc := sc_read_release
  exact okP T.d_read_release.F sc (fun cdv A outer s H E W hr hP =>
    (dss_cons (ds_if (PW.pt (dw_or (dt_cmp (op_nee hr.units) sNe (de_callB c_len s_len (by rfl) T.z_len bb_len (da_cons (de_nm 0) da_nil)) de_int) (dw_or (dt_not (dt_tru (de_call (ok_is_word T) (hr.mono (by decide)) T.d_is_word.m T.d_is_word.F.kp T.d_is_word.b ar_run (da_cons (de_ix ix_seq sIx (de_nm 0) de_int) da_nil)))) (dw_or1 (dt_not (dt_tru (de_call (ok_is_version T) (hr.mono (by decide)) T.d_is_version.m T.d_is_version.F.kp T.d_is_version.b ar_run (da_cons (de_ix ix_seq sIx (de_nm 0) de_int) da_nil))))))))
    (dss_one (ds_ret de_non))
    dss_nil)
    (dss_cons (ds_if (PW.pt (dw_or (dt_cmp (op_nee hr.units) sNe (de_ix ix_seq sIx (de_nm 0) de_int) de_cs) (dw_or (dt_cmp (op_nee hr.units) sNe (de_ix ix_seq sIx (de_nm 0) de_int) de_cs) (dw_or1 (dt_cmp (op_nee hr.units) sNe (de_ix ix_seq sIx (de_nm 0) de_int) de_cs)))))
    (dss_one (ds_ret de_non))
    dss_nil)
    (dss_cons (ds_if (PW.pt (dw_and (dt_cmp (op_nee hr.units) sNe (de_ix ix_seq sIx (de_nm 0) de_int) de_cs) (dw_and1 (dt_not (dt_tru (de_call (ok_is_version T) (hr.mono (by decide)) T.d_is_version.m T.d_is_version.F.kp T.d_is_version.b ar_run (da_cons (de_ix ix_seq sIx (de_nm 0) de_int) da_nil)))))))
    (dss_one (ds_ret de_non))
    dss_nil)
    (dss_cons (ds_if (PW.pt (dw_or (dt_not (dt_tru (de_call (ok_is_price T) (hr.mono (by decide)) T.d_is_price.m T.d_is_price.F.kp T.d_is_price.b ar_run (da_cons (de_ix ix_seq sIx (de_nm 0) de_int) da_nil)))) (dw_or1 (dt_not (dt_tru (de_call (ok_is_price T) (hr.mono (by decide)) T.d_is_price.m T.d_is_price.F.kp T.d_is_price.b ar_run (da_cons (de_ix ix_seq sIx (de_nm 0) de_int) da_nil)))))))
    (dss_one (ds_ret de_non))
    dss_nil)
    (dss_one (ds_ret (de_tup (da_cons de_cs (da_cons (de_ix ix_seq sIx (de_nm 0) de_int) (da_cons (de_ix ix_seq sIx (de_nm 0) de_int) (da_cons (de_ix ix_seq sIx (de_nm 0) de_int) (da_cons (de_call (ok_price_of T) (hr.mono (by decide)) T.d_price_of.m T.d_price_of.F.kp T.d_price_of.b ar_run (da_cons (de_ix ix_seq sIx (de_nm 0) de_int) da_nil)) (da_cons (de_call (ok_price_of T) (hr.mono (by decide)) T.d_price_of.m T.d_price_of.F.kp T.d_price_of.b ar_run (da_cons (de_ix ix_seq sIx (de_nm 0) de_int) da_nil)) da_nil))))))))))))))
theorem sc_read_feature : FnScope ["tokens"] ["tokens"] (defScope s_read_feature) := ⟨rfl, rfl, rfl, by decide +kernel, rfl, by decide +kernel, by decide +kernel⟩
theorem ok_read_feature (T : Txt w K mg) : FnOk P w K mg base CX0 4 T.a_read_feature T.t_read_feature ["tokens"] (spP K 1 f_read_feature) := by
  have sc := sc_read_feature
  exact okP T.d_read_feature.F sc (fun cdv A outer s H E W hr hP =>
    (dss_cons (ds_if (PW.pt (dw_or (dt_cmp (op_nee hr.units) sNe (de_callB c_len s_len (by rfl) T.z_len bb_len (da_cons (de_nm 0) da_nil)) de_int) (dw_or (dt_not (dt_tru (de_call (ok_is_word T) (hr.mono (by decide)) T.d_is_word.m T.d_is_word.F.kp T.d_is_word.b ar_run (da_cons (de_ix ix_seq sIx (de_nm 0) de_int) da_nil)))) (dw_or (dt_not (dt_tru (de_call (ok_is_word T) (hr.mono (by decide)) T.d_is_word.m T.d_is_word.F.kp T.d_is_word.b ar_run (da_cons (de_ix ix_seq sIx (de_nm 0) de_int) da_nil)))) (dw_or1 (dt_not (dt_tru (de_call (ok_is_version T) (hr.mono (by decide)) T.d_is_version.m T.d_is_version.F.kp T.d_is_version.b ar_run (da_cons (de_ix ix_seq sIx (de_nm 0) de_int) da_nil)))))))))
    (dss_one (ds_ret de_non))
    dss_nil)
    (dss_cons (ds_if (PW.pt (dw_or (dt_cmp (op_nee hr.units) sNe (de_ix ix_seq sIx (de_nm 0) de_int) de_cs) (dw_or (dt_cmp (op_nee hr.units) sNe (de_ix ix_seq sIx (de_nm 0) de_int) de_cs) (dw_or1 (dt_cmp (op_nee hr.units) sNe (de_ix ix_seq sIx (de_nm 0) de_int) de_cs)))))
    (dss_one (ds_ret de_non))
    dss_nil)
    (dss_cons (ds_if (PW.pt (dw_or (dt_not (dt_tru (de_call (ok_is_price T) (hr.mono (by decide)) T.d_is_price.m T.d_is_price.F.kp T.d_is_price.b ar_run (da_cons (de_ix ix_seq sIx (de_nm 0) de_int) da_nil)))) (dw_or1 (dt_not (dt_tru (de_call (ok_is_price T) (hr.mono (by decide)) T.d_is_price.m T.d_is_price.F.kp T.d_is_price.b ar_run (da_cons (de_ix ix_seq sIx (de_nm 0) de_int) da_nil)))))))
    (dss_one (ds_ret de_non))
    dss_nil)
    (dss_one (ds_ret (de_tup (da_cons de_cs (da_cons (de_ix ix_seq sIx (de_nm 0) de_int) (da_cons (de_ix ix_seq sIx (de_nm 0) de_int) (da_cons (de_ix ix_seq sIx (de_nm 0) de_int) (da_cons (de_call (ok_price_of T) (hr.mono (by decide)) T.d_price_of.m T.d_price_of.F.kp T.d_price_of.b ar_run (da_cons (de_ix ix_seq sIx (de_nm 0) de_int) da_nil)) (da_cons (de_call (ok_price_of T) (hr.mono (by decide)) T.d_price_of.m T.d_price_of.F.kp T.d_price_of.b ar_run (da_cons (de_ix ix_seq sIx (de_nm 0) de_int) da_nil)) da_nil)))))))))))))
theorem sc_read_signer : FnScope ["tokens", "token"] ["tokens"] (defScope s_read_signer) := ⟨rfl, rfl, rfl, by decide +kernel, rfl, by decide +kernel, by decide +kernel⟩
theorem ok_read_signer (T : Txt w K mg) : FnOk P w K mg base CX0 3 T.a_read_signer T.t_read_signer ["tokens"] (spP K 1 f_read_signer) := by
  have sc := sc_read_signer
  exact okP T.d_read_signer.F sc (fun cdv A outer s H E W hr hP =>
    (dss_cons (ds_if (PW.pt (dw_or (dt_cmp op_lt sCmp (de_callB c_len s_len (by rfl) T.z_len bb_len (da_cons (de_nm 0) da_nil)) de_int) (dw_or (dt_not (dt_tru (de_call (ok_is_word T) (hr.mono (by decide)) T.d_is_word.m T.d_is_word.F.kp T.d_is_word.b ar_run (da_cons (de_ix ix_seq sIx (de_nm 0) de_int) da_nil)))) (dw_or (dt_not (dt_tru (de_call (ok_is_number T) (hr.mono (by decide)) T.d_is_number.m T.d_is_number.F.kp T.d_is_number.b ar_run (da_cons (de_ix ix_seq sIx (de_nm 0) de_int) (da_cons de_int (da_cons de_int da_nil)))))) (dw_or1 (dt_cmp (op_nee hr.units) sNe (de_ix ix_seq sIx (de_nm 0) de_int) de_cs))))))
    (dss_one (ds_ret de_non))
    dss_nil)
    (dss_cons (ds_for PassesOwn.never rfl (di_any (de_sl (de_nm 0) (dp_yes de_int) dp_no)) (dg_nm 1 (hP 1) sc.nd)
    (dss_one (ds_if (dt_not (dt_tru (de_call (ok_is_short_name T) (hr.mono (by decide)) T.d_is_short_name.m T.d_is_short_name.F.kp T.d_is_short_name.b ar_run (da_cons (de_nm 1) da_nil))))
    (dss_one (ds_ret de_non))
    dss_nil)))
    (dss_one (ds_ret (de_tup (da_cons de_cs (da_cons (de_ix ix_seq sIx (de_nm 0) de_int) (da_cons (de_callTy c_int s_int (by rfl) T.z_int bb_int (da_cons (de_ix ix_seq sIx (de_nm 0) de_int) da_nil)) (da_cons (de_callTy call_tuple_of s_tuple (by rfl) T.z_tuple bb_tuple (da_cons (de_sl (de_nm 0) (dp_yes de_int) dp_no) da_nil)) da_nil))))))))))
theorem sc_read_line : FnScope ["tokens", "first", "form"] ["tokens"] (defScope s_read_line) := ⟨rfl, rfl, rfl, by decide +kernel, rfl, by decide +kernel, by decide +kernel⟩
theorem ok_read_line (T : Txt w K mg) : FnOk P w K mg base CX0 9 T.a_read_line T.t_read_line ["tokens"] (spP K 1 f_read_line) := by
  have sc := sc_read_line
  exact okP T.d_read_line.F sc (fun cdv A outer s H E W hr hP =>
    (dss_cons (ds_set 1 (hP 1) sc.nd (de_ix ix_seq sIx (de_nm 0) de_int))
    (dss_cons (ds_if (dt_cmp (op_eqq hr.units) sEq (de_nm 1) de_cs)
    (dss_one (ds_ret (de_call (ok_read_release T) (hr.mono (by decide)) T.d_read_release.m T.d_read_release.F.kp T.d_read_release.b ar_run (da_cons (de_nm 0) da_nil))))
    dss_nil)
    (dss_cons (ds_if (dt_cmp (op_eqq hr.units) sEq (de_nm 1) de_cs)
    (dss_one (ds_ret (de_call (ok_read_feature T) (hr.mono (by decide)) T.d_read_feature.m T.d_read_feature.F.kp T.d_read_feature.b ar_run (da_cons (de_nm 0) da_nil))))
    dss_nil)
    (dss_cons (ds_if (dt_cmp (op_eqq hr.units) sEq (de_nm 1) de_cs)
    (dss_one (ds_ret (de_call (ok_read_signer T) (hr.mono (by decide)) T.d_read_signer.m T.d_read_signer.F.kp T.d_read_signer.b ar_run (da_cons (de_nm 0) da_nil))))
    dss_nil)
    (dss_cons (ds_if (dt_cmp (op_eqq hr.units) sEq (de_nm 1) de_cs)
    (dss_cons (ds_set 2 (hP 2) sc.nd (de_call (ok_read_form T) (hr.mono (by decide)) T.d_read_form.m T.d_read_form.F.kp T.d_read_form.b ar_run (da_cons (de_sl (de_nm 0) (dp_yes de_int) dp_no) da_nil)))
    (dss_cons (ds_if (dt_isN (de_nm 2))
    (dss_one (ds_ret de_non))
    dss_nil)
    (dss_one (ds_ret (de_tup (da_cons de_cs (da_cons (de_nm 2) da_nil)))))))
    dss_nil)
    (dss_cons (ds_if (dt_cmp (op_eqq hr.units) sEq (de_nm 1) de_cs)
    (dss_one (ds_ret (de_if (dt_cmp (op_eqq hr.units) sEq (de_callB c_len s_len (by rfl) T.z_len bb_len (da_cons (de_nm 0) da_nil)) de_int) (de_tup (da_cons de_cs da_nil)) de_non)))
    dss_nil)
    (dss_cons (ds_if (PW.pt (dw_or (dt_cmp (op_eqq hr.units) sEq (de_nm 1) de_cs) (dw_or1 (dt_cmp (op_eqq hr.units) sEq (de_nm 1) de_cs))))
    (dss_cons (ds_if (PW.pt (dw_and (dt_cmp (op_eqq hr.units) sEq (de_callB c_len s_len (by rfl) T.z_len bb_len (da_cons (de_nm 0) da_nil)) de_int) (dw_and (dt_tru (de_call (ok_is_short_name T) (hr.mono (by decide)) T.d_is_short_name.m T.d_is_short_name.F.kp T.d_is_short_name.b ar_run (da_cons (de_ix ix_seq sIx (de_nm 0) de_int) da_nil))) (dw_and1 (dt_tru (de_call (ok_is_release T) (hr.mono (by decide)) T.d_is_release.m T.d_is_release.F.kp T.d_is_release.b ar_run (da_cons (de_ix ix_seq sIx (de_nm 0) de_int) da_nil)))))))
    (dss_one (ds_ret (de_callTy call_tuple_of s_tuple (by rfl) T.z_tuple bb_tuple (da_cons (de_nm 0) da_nil))))
    dss_nil)
    (dss_one (ds_ret de_non)))
    dss_nil)
    (dss_cons (ds_if (PW.pt (dw_and (dt_cmp (op_eqq hr.units) sEq (de_callB c_len s_len (by rfl) T.z_len bb_len (da_cons (de_nm 0) da_nil)) de_int) (dw_and1 (dt_tru (de_call (ok_is_word T) (hr.mono (by decide)) T.d_is_word.m T.d_is_word.F.kp T.d_is_word.b ar_run (da_cons (de_ix ix_seq sIx (de_nm 0) de_int) da_nil))))))
    (dss_one (ds_ret (de_callTy call_tuple_of s_tuple (by rfl) T.z_tuple bb_tuple (da_cons (de_nm 0) da_nil))))
    dss_nil)
    (dss_one (ds_ret de_non)))))))))))
theorem sc_read_lines : FnScope ["text", "rows", "found", "at", "row", "fault", "tokens", "line"] ["text"] (defScope s_read_lines) := ⟨rfl, rfl, rfl, by decide +kernel, rfl, by decide +kernel, by decide +kernel⟩
theorem ok_read_lines (T : Txt w K mg) : FnOk P w K mg base CX0 10 T.a_read_lines T.t_read_lines ["text"] (spP K 1 f_read_lines) := by
  have sc := sc_read_lines
  exact okP T.d_read_lines.F sc (fun cdv A outer s H E W hr hP =>
    (dss_cons (ds_set 1 (hP 1) sc.nd (de_call (ok_checked_rows T) (hr.mono (by decide)) T.d_checked_rows.m T.d_checked_rows.F.kp T.d_checked_rows.b ar_run (da_cons (de_nm 0) da_nil)))
    (dss_cons (ds_setO 2 (hP 2) sc.nd (do_lst da_nil))
    (dss_cons (ds_for PassesOwn.never rfl (di_enum (by rfl) T.z_enumerate (da_cons (de_nm 1) da_nil)) (dg_tup rfl (dgs_cons (dg_nm 3 (hP 3) sc.nd) (dgs_cons (dg_nm 4 (hP 4) sc.nd) dgs_nil)) gs2_len)
    (dss_cons (ds_set 5 (hP 5) sc.nd (de_call (ok_sign_fault T) (hr.mono (by decide)) T.d_sign_fault.m T.d_sign_fault.F.kp T.d_sign_fault.b ar_run (da_cons (de_nm 4) da_nil)))
    (dss_cons (ds_if (dt_cmp (op_nee hr.units) sNe (de_nm 5) de_cs)
    (dss_one ds_never)
    dss_nil)
    (dss_cons (ds_set 6 (hP 6) sc.nd (de_fz (do_split (de_nm 4) de_cs)))
    (dss_cons (ds_if (dt_cmp op_notInn sNotIn (de_ix ix_seq sIx (de_nm 6) de_int) (de_g T.k_FIRST_WORDS))
    (dss_one ds_never)
    dss_nil)
    (dss_cons (ds_set 7 (hP 7) sc.nd (de_call (ok_read_line T) (hr.mono (by decide)) T.d_read_line.m T.d_read_line.F.kp T.d_read_line.b ar_run (da_cons (de_nm 6) da_nil)))
    (dss_cons (ds_if (dt_isN (de_nm 7))
    (dss_one ds_never)
    dss_nil)
    (dss_one (ds_app 2 (de_nm 7))))))))))
    (dss_one (ds_retNm 2 (hP 2)))))))
theorem okx_read_lines (T : Txt w K mg) : FnOk P w K mg base (L2.CX P w) 10 T.a_read_lines T.t_read_lines ["text"] (spPX K mg 1 fx_read_lines) := by
  have sc := sc_read_lines
  exact okX (k := 9) T.d_read_lines.F sc (fun cdv A outer s H E W hr hP =>
    (dxs_cons (dx_of (ds_set 1 (hP 1) sc.nd (de_call (ok_checked_rows T) (hr.mono (by decide)) T.d_checked_rows.m T.d_checked_rows.F.kp T.d_checked_rows.b ar_run (da_cons (de_nm 0) da_nil))))
    (dxs_cons (dx_of (ds_setO 2 (hP 2) sc.nd (do_lst da_nil)))
    (dxs_cons (dx_for (passes_of rfl) rfl (di_enum (by rfl) T.z_enumerate (da_cons (de_nm 1) da_nil)) (dg_tup rfl (dgs_cons (dg_nm 3 (hP 3) sc.nd) (dgs_cons (dg_nm 4 (hP 4) sc.nd) dgs_nil)) gs2_len)
    (dxs_cons (dx_of (ds_set 5 (hP 5) sc.nd (de_call (ok_sign_fault T) (hr.mono (by decide)) T.d_sign_fault.m T.d_sign_fault.F.kp T.d_sign_fault.b ar_run (da_cons (de_nm 4) da_nil))))
    (dxs_cons (dx_if (dt_cmp (op_nee hr.units) sNe (de_nm 5) de_cs)
    (dxs_one (dx_raise (xc_BadText T) (hr.mono (by decide)) rfl (takes_of rfl rfl rfl rfl) (da_cons (de_bin op_addD sAdd (de_nm 3) de_int) (da_cons (de_nm 5) da_nil))))
    dxs_nil)
    (dxs_cons (dx_of (ds_set 6 (hP 6) sc.nd (de_fz (do_split (de_nm 4) de_cs))))
    (dxs_cons (dx_if (dt_cmp op_notInn sNotIn (de_ix ix_seq sIx (de_nm 6) de_int) (de_g T.k_FIRST_WORDS))
    (dxs_one (dx_raise (xc_BadText T) (hr.mono (by decide)) rfl (takes_of rfl rfl rfl rfl) (da_cons (de_bin op_addD sAdd (de_nm 3) de_int) (da_cons de_cs da_nil))))
    dxs_nil)
    (dxs_cons (dx_of (ds_set 7 (hP 7) sc.nd (de_call (ok_read_line T) (hr.mono (by decide)) T.d_read_line.m T.d_read_line.F.kp T.d_read_line.b ar_run (da_cons (de_nm 6) da_nil))))
    (dxs_cons (dx_if (dt_isN (de_nm 7))
    (dxs_one (dx_raise (xc_BadText T) (hr.mono (by decide)) rfl (takes_of rfl rfl rfl rfl) (da_cons (de_bin op_addD sAdd (de_nm 3) de_int) (da_cons de_cs da_nil))))
    dxs_nil)
    (dxs_one (dx_of (ds_app 2 (de_nm 7)))))))))))
    (dxs_one (dx_of (ds_retNm 2 (hP 2))))))))
theorem sc_law_cell : FnScope ["script", "at"] ["script", "at"] (defScope s_law_cell) := ⟨rfl, rfl, rfl, by decide +kernel, rfl, by decide +kernel, by decide +kernel⟩
theorem ok_law_cell (T : Txt w K mg) : FnOk P w K mg base CX0 1 T.a_law_cell T.t_law_cell ["script", "at"] (spP K 2 f_law_cell) := by
  have sc := sc_law_cell
  exact okP T.d_law_cell.F sc (fun cdv A outer s H E W hr hP =>
    (dss_one (ds_ret (de_if (dt_cmp op_lt sCmp (de_nm 1) (de_callB c_len s_len (by rfl) T.z_len bb_len (da_cons (de_nm 0) da_nil))) (de_callTy c_int s_int (by rfl) T.z_int bb_int (da_cons (de_ix ix_seq sIx (de_nm 0) (de_nm 1)) da_nil)) de_int))))
theorem sc_law_source : FnScope ["script", "at", "seed", "cell", "great"] ["script", "at"] (defScope s_law_source) := ⟨rfl, rfl, rfl, by decide +kernel, rfl, by decide +kernel, by decide +kernel⟩
theorem ok_law_source (T : Txt w K mg) : FnOk P w K mg base CX0 2 T.a_law_source T.t_law_source ["script", "at"] (spP K 2 f_law_source) := by
  have sc := sc_law_source
  exact okP T.d_law_source.F sc (fun cdv A outer s H E W hr hP =>
    (dss_cons (ds_set 2 (hP 2) sc.nd (de_bin op_addD sAdd de_int (de_bin op_mul sMul (de_nm 1) de_int)))
    (dss_cons (ds_for PassesOwn.never rfl (di_any (de_sl (de_nm 0) dp_no (dp_yes de_int))) (dg_nm 3 (hP 3) sc.nd)
    (dss_one (ds_set 2 (hP 2) sc.nd (de_bin op_mod sMod (de_bin op_addD sAdd (de_bin op_addD sAdd (de_bin op_addD sAdd (de_bin op_mul sMul (de_nm 2) de_int) (de_bin op_mul sMul (de_bin op_mod sMod (de_callB call_abs s_abs (by rfl) T.z_abs bb_abs (da_cons (de_callTy c_int s_int (by rfl) T.z_int bb_int (da_cons (de_nm 3) da_nil)) da_nil)) de_int) de_int)) (de_callTy c_int s_int (by rfl) T.z_int bb_int (da_cons (de_cmp op_lt sCmp (de_nm 3) de_int) da_nil))) de_int) de_int))))
    (dss_cons (ds_set 3 (hP 3) sc.nd (de_callB call_abs s_abs (by rfl) T.z_abs bb_abs (da_cons (de_call (ok_law_cell T) (hr.mono (by decide)) T.d_law_cell.m T.d_law_cell.F.kp T.d_law_cell.b ar_run (da_cons (de_nm 0) (da_cons (de_nm 1) da_nil))) da_nil)))
    (dss_cons (ds_set 4 (hP 4) sc.nd (de_if (dt_cmp op_ge sCmp (de_nm 3) (de_bin op_pow sPow de_int de_int)) (de_nm 3) de_int))
    (dss_one (ds_retO (do_lst (da_cons (de_nm 4) (da_cons (de_nm 2) (da_cons (de_bin op_mod sMod (de_bin op_addD sAdd (de_bin op_addD sAdd (de_bin op_mul sMul (de_nm 2) de_int) (de_bin op_mod sMod (de_nm 3) de_int)) de_int) de_int) (da_cons de_int da_nil))))))))))))
theorem sc_law_pick : FnScope ["s", "many", "digit"] ["s", "many"] (defScope s_law_pick) := ⟨rfl, rfl, rfl, by decide +kernel, rfl, by decide +kernel, by decide +kernel⟩
theorem ok_law_pick (T : Txt w K mg) : FnOk P w K mg base CX0 1 T.a_law_pick T.t_law_pick ["s", "many"] (spS K 2 f_law_pick) := by
  have sc := sc_law_pick
  exact okS T.d_law_pick.F sc (by decide) (fun cdv A outer s H E W hr hP =>
    (dss_cons (ds_if (dt_cmp op_le sCmp (de_nm 1) de_int)
    (dss_one (ds_ret de_int))
    dss_nil)
    (dss_cons (ds_if (dt_cmp op_gt sCmp (de_ixO 0 de_int) de_int)
    (dss_cons (ds_set 2 (hP 2 (by decide)) sc.nd (de_bin op_mod sMod (de_callTy c_int s_int (by rfl) T.z_int bb_int (da_cons (de_ixO 0 de_int) da_nil)) (de_nm 1)))
    (dss_cons (ds_setI 0 (de_bin op_fdiv sDiv (de_callTy c_int s_int (by rfl) T.z_int bb_int (da_cons (de_ixO 0 de_int) da_nil)) (de_nm 1)) de_int)
    (dss_one (ds_ret (de_nm 2)))))
    dss_nil)
    (dss_cons (ds_setI 0 (de_bin op_addD sAdd (de_ixO 0 de_int) de_int) de_int)
    (dss_cons (ds_setI 0 (de_bin op_mod sMod (de_bin op_addD sAdd (de_bin op_addD sAdd (de_bin op_mul sMul (de_ixO 0 de_int) de_int) (de_bin op_mul sMul (de_ixO 0 de_int) de_int)) de_int) de_int) de_int)
    (dss_cons (ds_setI 0 (de_bin op_mod sMod (de_bin op_addD sAdd (de_bin op_addD sAdd (de_bin op_mul sMul (de_ixO 0 de_int) de_int) (de_bin op_mod sMod (de_ixO 0 de_int) de_int)) (de_ixO 0 de_int)) de_int) de_int)
    (dss_one (ds_ret (de_bin op_mod sMod (de_bin op_addD sAdd (de_bin op_fdiv sDiv (de_ixO 0 de_int) de_int) (de_bin op_fdiv sDiv (de_ixO 0 de_int) de_int)) (de_nm 1))))))))))
theorem sc_law_number : FnScope ["s", "limit", "kind", "told", "k"] ["s", "limit"] (defScope s_law_number) := ⟨rfl, rfl, rfl, by decide +kernel, rfl, by decide +kernel, by decide +kernel⟩
theorem ok_law_number (T : Txt w K mg) : FnOk P w K mg base CX0 2 T.a_law_number T.t_law_number ["s", "limit"] (spS K 2 f_law_number) := by
  have sc := sc_law_number
  exact okS T.d_law_number.F sc (by decide) (fun cdv A outer s H E W hr hP =>
    (dss_cons (ds_set 2 (hP 2 (by decide)) sc.nd (de_callS 0 (ok_law_pick T) (hr.mono (by decide)) T.d_law_pick.m T.d_law_pick.F.kp T.d_law_pick.b ars_run (da_cons de_int da_nil)))
    (dss_cons (ds_if (dt_cmp (op_eqq hr.units) sEq (de_nm 2) de_int)
    (dss_one (ds_ret (de_callS 0 (ok_law_pick T) (hr.mono (by decide)) T.d_law_pick.m T.d_law_pick.F.kp T.d_law_pick.b ars_run (da_cons (de_callB (call_min2 rfl) s_min (by rfl) T.z_min bb_min (da_cons (de_nm 1) (da_cons de_int da_nil))) da_nil))))
    dss_nil)
    (dss_cons (ds_if (dt_cmp (op_eqq hr.units) sEq (de_nm 2) de_int)
    (dss_one (ds_ret (de_bin op_sub sSub (de_bin op_sub sSub (de_nm 1) de_int) (de_callS 0 (ok_law_pick T) (hr.mono (by decide)) T.d_law_pick.m T.d_law_pick.F.kp T.d_law_pick.b ars_run (da_cons (de_callB (call_min2 rfl) s_min (by rfl) T.z_min bb_min (da_cons (de_nm 1) (da_cons de_int da_nil))) da_nil)))))
    dss_nil)
    (dss_cons (ds_set 3 (hP 3 (by decide)) sc.nd de_int)
    (dss_cons (ds_for PassesOwn.never rfl (di_rng (by rfl) T.z_range (da_cons de_int da_nil)) (dg_nm 4 (hP 4 (by decide)) sc.nd)
    (dss_one (ds_set 3 (hP 3 (by decide)) sc.nd (de_bin op_addD sAdd (de_bin op_mul sMul (de_nm 3) de_int) (de_callS 0 (ok_law_pick T) (hr.mono (by decide)) T.d_law_pick.m T.d_law_pick.F.kp T.d_law_pick.b ars_run (da_cons de_int da_nil))))))
    (dss_one (ds_ret (de_bin op_mod sMod (de_nm 3) (de_nm 1))))))))))
theorem sc_law_kept : FnScope ["kept"] [] (defScope s_law_kept) := ⟨rfl, rfl, rfl, by decide +kernel, rfl, by decide +kernel, by decide +kernel⟩
theorem ok_law_kept (T : Txt w K mg) : FnOk P w K mg base CX0 1 T.a_law_kept T.t_law_kept [] (spP K 0 f_law_kept) := by
  have sc := sc_law_kept
  exact okP T.d_law_kept.F sc (fun cdv A outer s H E W hr hP =>
    (dss_cons (ds_set 0 (hP 0) sc.nd de_cs)
    (dss_cons (ds_set 0 (hP 0) sc.nd (de_bin op_addD sAdd (de_nm 0) de_cs))
    (dss_one (ds_ret (de_fz (do_split (de_nm 0) de_cs)))))))
theorem sc_law_words : FnScope ["s", "many", "letters", "signs", "told", "kept", "alike", "stem", "k", "word", "j"] ["s", "many"] (defScope s_law_words) := ⟨rfl, rfl, rfl, by decide +kernel, rfl, by decide +kernel, by decide +kernel⟩
theorem ok_law_words (T : Txt w K mg) : FnOk P w K mg base CX0 2 T.a_law_words T.t_law_words ["s", "many"] (spS K 2 f_law_words) := by
  have sc := sc_law_words
  exact okS T.d_law_words.F sc (by decide) (fun cdv A outer s H E W hr hP =>
    (dss_cons (ds_set 2 (hP 2 (by decide)) sc.nd de_cs)
    (dss_cons (ds_set 3 (hP 3 (by decide)) sc.nd (de_bin op_addD sAdd (de_nm 2) de_cs))
    (dss_cons (ds_setO 4 (hP 4 (by decide)) sc.nd (do_lst da_nil))
    (dss_cons (ds_set 5 (hP 5 (by decide)) sc.nd (de_call0 (ok_law_kept T) (hr.mono (by decide)) T.d_law_kept.m T.d_law_kept.F.kp T.d_law_kept.b ar_run))
    (dss_cons (ds_set 6 (hP 6 (by decide)) sc.nd (de_cmp (op_eqq hr.units) sEq (de_callS 0 (ok_law_pick T) (hr.mono (by decide)) T.d_law_pick.m T.d_law_pick.F.kp T.d_law_pick.b ars_run (da_cons de_int da_nil)) de_int))
    (dss_cons (ds_set 7 (hP 7 (by decide)) sc.nd (de_bin op_addD sAdd (de_bin op_addD sAdd (de_ix ix_seq sIx (de_nm 2) (de_callS 0 (ok_law_pick T) (hr.mono (by decide)) T.d_law_pick.m T.d_law_pick.F.kp T.d_law_pick.b ars_run (da_cons de_int da_nil))) (de_ix ix_seq sIx (de_nm 3) (de_callS 0 (ok_law_pick T) (hr.mono (by decide)) T.d_law_pick.m T.d_law_pick.F.kp T.d_law_pick.b ars_run (da_cons de_int da_nil)))) (de_ix ix_seq sIx (de_nm 3) (de_callS 0 (ok_law_pick T) (hr.mono (by decide)) T.d_law_pick.m T.d_law_pick.F.kp T.d_law_pick.b ars_run (da_cons de_int da_nil)))))
    (dss_cons (ds_for PassesOwn.never rfl (di_rng (by rfl) T.z_range (da_cons (de_nm 1) da_nil)) (dg_nm 8 (hP 8 (by decide)) sc.nd)
    (dss_cons (ds_set 9 (hP 9 (by decide)) sc.nd (de_if (dt_tru (de_nm 6)) (de_nm 7) (de_ix ix_seq sIx (de_nm 2) (de_callS 0 (ok_law_pick T) (hr.mono (by decide)) T.d_law_pick.m T.d_law_pick.F.kp T.d_law_pick.b ars_run (da_cons de_int da_nil)))))
    (dss_cons (ds_for PassesOwn.never rfl (di_rng (by rfl) T.z_range (da_cons (de_if (dt_tru (de_nm 6)) de_int (de_if (dt_cmp (op_eqq hr.units) sEq (de_callS 0 (ok_law_pick T) (hr.mono (by decide)) T.d_law_pick.m T.d_law_pick.F.kp T.d_law_pick.b ars_run (da_cons de_int da_nil)) de_int) (de_callS 0 (ok_law_pick T) (hr.mono (by decide)) T.d_law_pick.m T.d_law_pick.F.kp T.d_law_pick.b ars_run (da_cons de_int da_nil)) (de_callS 0 (ok_law_pick T) (hr.mono (by decide)) T.d_law_pick.m T.d_law_pick.F.kp T.d_law_pick.b ars_run (da_cons de_int da_nil)))) da_nil)) (dg_nm 10 (hP 10 (by decide)) sc.nd)
    (dss_one (ds_set 9 (hP 9 (by decide)) sc.nd (de_bin op_addD sAdd (de_nm 9) (de_ix ix_seq sIx (de_nm 3) (de_callS 0 (ok_law_pick T) (hr.mono (by decide)) T.d_law_pick.m T.d_law_pick.F.kp T.d_law_pick.b ars_run (da_cons de_int da_nil)))))))
    (dss_cons (ds_for PassesOwn.never rfl (di_rng (by rfl) T.z_range (da_cons (de_bin op_addD sAdd (de_nm 1) de_int) da_nil)) (dg_nm 10 (hP 10 (by decide)) sc.nd)
    (dss_cons (ds_if (PW.pt (dw_and (dt_cmp op_notInn sNotIn (de_nm 9) (de_nm 5)) (dw_and1 (dt_cmpV op_notInn sNotIn (de_nm 9) (dv_nm 4)))))
    (dss_one ds_break)
    dss_nil)
    (dss_one (ds_set 9 (hP 9 (by decide)) sc.nd (de_bin op_addD sAdd (de_bin op_addD sAdd (de_bin op_addD sAdd de_cs (de_callTy call_str_int s_str (by rfl) T.z_str bb_str (da_cons (de_nm 10) da_nil))) de_cs) (de_callTy call_str_int s_str (by rfl) T.z_str bb_str (da_cons (de_nm 8) da_nil)))))))
    (dss_one (ds_app 4 (de_nm 9)))))))
    (dss_one (ds_retNm 4 (hP 4 (by decide))))))))))))
theorem sc_law_same : FnScope ["answer", "due", "k", "key", "kinds"] ["answer", "due"] (defScope s_law_same) := ⟨rfl, rfl, rfl, by decide +kernel, rfl, by decide +kernel, by decide +kernel⟩
theorem ok_law_same (T : Txt w K mg) : ∀ n : Nat, FnOk P w K mg base CX0 n T.a_law_same T.t_law_same ["answer", "due"] (spP K 2 (f_law_same n))
  | 0 => FnOk.nothing
  | n + 1 => by
    have sc := sc_law_same
    have ih := ok_law_same T n
    have ar_self := ar_law_same n
    exact okP T.d_law_same.F sc (fun cdv A outer s H E W hr hP =>
    (dss_cons (ds_if (dt_tru (de_isi2 (by rfl) T.z_isinstance bb_isinstance (de_nm 1) (by rfl) T.z_tuple bb_tuple (by rfl) T.z_list bb_list))
    (dss_cons (ds_if (PW.pt (dw_or (dt_not (dt_tru (de_isi2 (by rfl) T.z_isinstance bb_isinstance (de_nm 0) (by rfl) T.z_tuple bb_tuple (by rfl) T.z_list bb_list))) (dw_or (dt_cmp (op_nee hr.units) sNe (de_isi (by rfl) T.z_isinstance bb_isinstance (de_nm 0) (by rfl) T.z_list bb_list) (de_isi (by rfl) T.z_isinstance bb_isinstance (de_nm 1) (by rfl) T.z_list bb_list)) (dw_or1 (dt_cmp (op_nee hr.units) sNe (de_callB c_len s_len (by rfl) T.z_len bb_len (da_cons (de_nm 0) da_nil)) (de_callB c_len s_len (by rfl) T.z_len bb_len (da_cons (de_nm 1) da_nil)))))))
    (dss_one (ds_ret de_bl))
    dss_nil)
    (dss_one (ds_ret (de_callB (cr_all rfl) s_all (by rfl) T.z_all bb_all (da_cons (de_fz (do_lc 2 rfl sc.nd (di_rng (by rfl) T.z_range (da_cons (de_callB c_len s_len (by rfl) T.z_len bb_len (da_cons (de_nm 1) da_nil)) da_nil)) (blkOk_by (own := [("k", 2)]) (N := ["answer", "due", "k", "key", "kinds"]) (sc := defScope s_law_same) (by decide +kernel)) (fun _ _ _ _ _ => pg_name (i := 2) sc.nd rfl (Or.inl rfl)) (fun _ _ _ _ _ _ => dts_nil) (fun _ _ _ _ _ _ => (de_call ih (hr.mono (Nat.le_refl _)) T.d_law_same.m T.d_law_same.F.kp T.d_law_same.b ar_self (da_cons (de_ix ix_seq sIx (de_nm 0) (de_nm 2)) (da_cons (de_ix ix_seq sIx (de_nm 1) (de_nm 2)) da_nil)))))) da_nil)))))
    dss_nil)
    (dss_cons (ds_if (dt_tru (de_isi (by rfl) T.z_isinstance bb_isinstance (de_nm 1) (by rfl) T.z_dict bb_dict))
    (dss_one (ds_ret (de_and (de_isi (by rfl) T.z_isinstance bb_isinstance (de_nm 0) (by rfl) T.z_dict bb_dict) (de_and (de_cmp (op_eqq hr.units) sEq (de_callB c_len s_len (by rfl) T.z_len bb_len (da_cons (de_nm 0) da_nil)) (de_callB c_len s_len (by rfl) T.z_len bb_len (da_cons (de_nm 1) da_nil))) (de_one (de_callB (cr_all rfl) s_all (by rfl) T.z_all bb_all (da_cons (de_fz (do_lc 3 rfl sc.nd (di_any (de_nm 1)) (blkOk_by (own := [("key", 3)]) (N := ["answer", "due", "k", "key", "kinds"]) (sc := defScope s_law_same) (by decide +kernel)) (fun _ _ _ _ _ => pg_name (i := 3) sc.nd rfl (Or.inl rfl)) (fun _ _ _ _ _ _ => dts_nil) (fun _ _ _ _ _ _ => (de_and (de_cmp op_inn sIn (de_nm 3) (de_nm 0)) (de_one (de_call ih (hr.mono (Nat.le_refl _)) T.d_law_same.m T.d_law_same.F.kp T.d_law_same.b ar_self (da_cons (de_ix ix_seq sIx (de_nm 0) (de_nm 3)) (da_cons (de_ix ix_seq sIx (de_nm 1) (de_nm 3)) da_nil)))))))) da_nil)))))))
    dss_nil)
    (dss_cons (ds_set 4 (hP 4) sc.nd (de_and (de_cmp (op_eqq hr.units) sEq (de_isi (by rfl) T.z_isinstance bb_isinstance (de_nm 0) (by rfl) T.z_bool bb_bool) (de_isi (by rfl) T.z_isinstance bb_isinstance (de_nm 1) (by rfl) T.z_bool bb_bool)) (de_one (de_cmp (op_eqq hr.units) sEq (de_isi (by rfl) T.z_isinstance bb_isinstance (de_nm 0) (by rfl) T.z_int bb_int) (de_isi (by rfl) T.z_isinstance bb_isinstance (de_nm 1) (by rfl) T.z_int bb_int)))))
    (dss_one (ds_ret (de_and (de_nm 4) (de_and (de_cmp (op_eqq hr.units) sEq (de_isi (by rfl) T.z_isinstance bb_isinstance (de_nm 0) (by rfl) T.z_str bb_str) (de_isi (by rfl) T.z_isinstance bb_isinstance (de_nm 1) (by rfl) T.z_str bb_str)) (de_one (de_cmp (op_eqq hr.units) sEq (de_nm 0) (de_nm 1)))))))))))
theorem sc_law_condition_words : FnScope ["c"] ["c"] (defScope s_law_condition_words) := ⟨rfl, rfl, rfl, by decide +kernel, rfl, by decide +kernel, by decide +kernel⟩
theorem ok_law_condition_words (T : Txt w K mg) : FnOk P w K mg base CX0 1 T.a_law_condition_words T.t_law_condition_words ["c"] (spP K 1 f_law_condition_words) := by
  have sc := sc_law_condition_words
  exact okP T.d_law_condition_words.F sc (fun cdv A outer s H E W hr hP =>
    (dss_cons (ds_if (dt_cmp (op_eqq hr.units) sEq (de_ix ix_seq sIx (de_nm 0) de_int) de_cs)
    (dss_one (ds_ret (de_bin op_addD sAdd (de_ix ix_seq sIx (de_nm 0) de_int) de_cs)))
    dss_nil)
    (dss_cons (ds_if (dt_cmp (op_eqq hr.units) sEq (de_ix ix_seq sIx (de_nm 0) de_int) de_cs)
    (dss_one (ds_ret (de_bin op_addD sAdd (de_bin op_addD sAdd (de_ix ix_seq sIx (de_nm 0) de_int) de_cs) (de_ix ix_seq sIx (de_nm 0) de_int))))
    dss_nil)
    (dss_one (ds_ret (de_bin op_addD sAdd (de_bin op_addD sAdd (de_bin op_addD sAdd (de_bin op_addD sAdd (de_ix ix_seq sIx (de_nm 0) de_int) de_cs) (de_ix ix_seq sIx (de_nm 0) de_int)) de_cs) (de_ix ix_seq sIx (de_nm 0) de_int)))))))
theorem sc_law_parts : FnScope ["form"] ["form"] (defScope s_law_parts) := ⟨rfl, rfl, rfl, by decide +kernel, rfl, by decide +kernel, by decide +kernel⟩
theorem ok_law_parts (T : Txt w K mg) : FnOk P w K mg base CX0 1 T.a_law_parts T.t_law_parts ["form"] (spP K 1 f_law_parts) := by
  have sc := sc_law_parts
  exact okP T.d_law_parts.F sc (fun cdv A outer s H E W hr hP =>
    (dss_cons (ds_if (dt_cmp (op_eqq hr.units) sEq (de_ix ix_seq sIx (de_nm 0) de_int) de_cs)
    (dss_one (ds_ret (de_fz (do_cat (do_list (by rfl) T.z_list bb_list (da_cons (de_ix ix_seq sIx (de_nm 0) de_int) da_nil)) (dv_o (do_list (by rfl) T.z_list bb_list (da_cons (de_ix ix_seq sIx (de_nm 0) de_int) da_nil)))))))
    dss_nil)
    (dss_one (ds_ret (de_fz (do_if (dt_cmp (op_eqq hr.units) sEq (de_ix ix_seq sIx (de_nm 0) de_int) de_cs) (do_lst (da_cons (de_ix ix_seq sIx (de_nm 0) de_int) (da_cons (de_ix ix_seq sIx (de_nm 0) de_int) da_nil))) (do_list (by rfl) T.z_list bb_list (da_cons (de_ix ix_seq sIx (de_nm 0) (de_neg de_int)) da_nil))))))))
theorem sc_law_form_words : FnScope ["form", "words", "c"] ["form"] (defScope s_law_form_words) := ⟨rfl, rfl, rfl, by decide +kernel, rfl, by decide +kernel, by decide +kernel⟩
theorem ok_law_form_words (T : Txt w K mg) : FnOk P w K mg base CX0 2 T.a_law_form_words T.t_law_form_words ["form"] (spP K 1 f_law_form_words) := by
  have sc := sc_law_form_words
  exact okP T.d_law_form_words.F sc (fun cdv A outer s H E W hr hP =>
    (dss_cons (ds_setLc 1 2 (hP 1) rfl sc.nd (di_any (de_call (ok_law_parts T) (hr.mono (by decide)) T.d_law_parts.m T.d_law_parts.F.kp T.d_law_parts.b ar_run (da_cons (de_nm 0) da_nil))) (blkOk_by (own := [("c", 2)]) (N := ["form", "words", "c"]) (sc := defScope s_law_form_words) (by decide +kernel)) (fun _ _ _ _ _ => pg_name (i := 2) sc.nd rfl (Or.inl rfl)) (fun _ _ _ _ _ _ => dts_nil) (fun _ _ _ _ _ _ => (de_call (ok_law_condition_words T) (hr.mono (by decide)) T.d_law_condition_words.m T.d_law_condition_words.F.kp T.d_law_condition_words.b ar_run (da_cons (de_nm 2) da_nil))) (sw_true rfl rfl rfl (by decide +kernel)))
    (dss_cons (ds_if (dt_cmp (op_eqq hr.units) sEq (de_ix ix_seq sIx (de_nm 0) de_int) de_cs)
    (dss_one (ds_ret (de_bin op_addD sAdd (de_bin op_addD sAdd (de_bin op_addD sAdd de_cs (de_join de_cs (de_sl (de_nm 1) dp_no (dp_yes (de_callB c_len s_len (by rfl) T.z_len bb_len (da_cons (de_ix ix_seq sIx (de_nm 0) de_int) da_nil)))))) de_cs) (de_join de_cs (de_sl (de_nm 1) (dp_yes (de_callB c_len s_len (by rfl) T.z_len bb_len (da_cons (de_ix ix_seq sIx (de_nm 0) de_int) da_nil))) dp_no)))))
    dss_nil)
    (dss_one (ds_ret (de_bin op_addD sAdd (de_bin op_addD sAdd (de_ix ix_seq sIx (de_nm 0) de_int) (de_if (PW.pt (dw_or (dt_cmp (op_eqq hr.units) sEq (de_ix ix_seq sIx (de_nm 0) de_int) de_cs) (dw_or1 (dt_cmp (op_eqq hr.units) sEq (de_ix ix_seq sIx (de_nm 0) de_int) de_cs)))) (de_bin op_addD sAdd (de_bin op_addD sAdd de_cs (de_callTy call_str_int s_str (by rfl) T.z_str bb_str (da_cons (de_ix ix_seq sIx (de_nm 0) de_int) da_nil))) de_cs) de_cs)) (de_join de_cs (de_nm 1))))))))
theorem sc_law_price_word : FnScope ["price"] ["price"] (defScope s_law_price_word) := ⟨rfl, rfl, rfl, by decide +kernel, rfl, by decide +kernel, by decide +kernel⟩
theorem ok_law_price_word (T : Txt w K mg) : FnOk P w K mg base CX0 1 T.a_law_price_word T.t_law_price_word ["price"] (spP K 1 f_law_price_word) := by
  have sc := sc_law_price_word
  exact okP T.d_law_price_word.F sc (fun cdv A outer s H E W hr hP =>
    (dss_one (ds_ret (de_if (dt_isN (de_nm 0)) de_cs (de_callTy call_str_int s_str (by rfl) T.z_str bb_str (da_cons (de_nm 0) da_nil))))))
theorem sc_law_line_words : FnScope ["line", "told"] ["line"] (defScope s_law_line_words) := ⟨rfl, rfl, rfl, by decide +kernel, rfl, by decide +kernel, by decide +kernel⟩
theorem ok_law_line_words (T : Txt w K mg) : FnOk P w K mg base CX0 3 T.a_law_line_words T.t_law_line_words ["line"] (spP K 1 f_law_line_words) := by
  have sc := sc_law_line_words
  exact okP T.d_law_line_words.F sc (fun cdv A outer s H E W hr hP =>
    (dss_cons (ds_if (PW.pt (dw_or (dt_cmp (op_eqq hr.units) sEq (de_ix ix_seq sIx (de_nm 0) de_int) de_cs) (dw_or1 (dt_cmp (op_eqq hr.units) sEq (de_ix ix_seq sIx (de_nm 0) de_int) de_cs))))
    (dss_cons (ds_set 1 (hP 1) sc.nd (de_bin op_addD sAdd (de_bin op_addD sAdd (de_join de_cs (de_sl (de_nm 0) dp_no (dp_yes de_int))) (de_if (dt_cmp (op_eqq hr.units) sEq (de_ix ix_seq sIx (de_nm 0) de_int) de_cs) de_cs de_cs)) (de_ix ix_seq sIx (de_nm 0) de_int)))
    (dss_one (ds_ret (de_bin op_addD sAdd (de_bin op_addD sAdd (de_bin op_addD sAdd (de_bin op_addD sAdd (de_nm 1) de_cs) (de_call (ok_law_price_word T) (hr.mono (by decide)) T.d_law_price_word.m T.d_law_price_word.F.kp T.d_law_price_word.b ar_run (da_cons (de_ix ix_seq sIx (de_nm 0) de_int) da_nil))) de_cs) (de_call (ok_law_price_word T) (hr.mono (by decide)) T.d_law_price_word.m T.d_law_price_word.F.kp T.d_law_price_word.b ar_run (da_cons (de_ix ix_seq sIx (de_nm 0) de_int) da_nil))))))
    dss_nil)
    (dss_cons (ds_if (dt_cmp (op_eqq hr.units) sEq (de_ix ix_seq sIx (de_nm 0) de_int) de_cs)
    (dss_one (ds_ret (de_bin op_addD sAdd (de_bin op_addD sAdd (de_bin op_addD sAdd (de_bin op_addD sAdd (de_bin op_addD sAdd de_cs (de_ix ix_seq sIx (de_nm 0) de_int)) de_cs) (de_callTy call_str_int s_str (by rfl) T.z_str bb_str (da_cons (de_ix ix_seq sIx (de_nm 0) de_int) da_nil))) de_cs) (de_join de_cs (de_ix ix_seq sIx (de_nm 0) de_int)))))
    dss_nil)
    (dss_one (ds_ret (de_if (dt_cmp (op_eqq hr.units) sEq (de_ix ix_seq sIx (de_nm 0) de_int) de_cs) (de_bin op_addD sAdd de_cs (de_call (ok_law_form_words T) (hr.mono (by decide)) T.d_law_form_words.m T.d_law_form_words.F.kp T.d_law_form_words.b ar_run (da_cons (de_ix ix_seq sIx (de_nm 0) de_int) da_nil))) (de_join de_cs (de_nm 0))))))))
theorem sc_law_a_version : FnScope ["s", "told", "k"] ["s"] (defScope s_law_a_version) := ⟨rfl, rfl, rfl, by decide +kernel, rfl, by decide +kernel, by decide +kernel⟩
theorem ok_law_a_version (T : Txt w K mg) : FnOk P w K mg base CX0 2 T.a_law_a_version T.t_law_a_version ["s"] (spS K 1 f_law_a_version) := by
  have sc := sc_law_a_version
  exact okS T.d_law_a_version.F sc (by decide) (fun cdv A outer s H E W hr hP =>
    (dss_cons (ds_set 1 (hP 1 (by decide)) sc.nd (de_callTy call_str_int s_str (by rfl) T.z_str bb_str (da_cons (de_callS 0 (ok_law_pick T) (hr.mono (by decide)) T.d_law_pick.m T.d_law_pick.F.kp T.d_law_pick.b ars_run (da_cons de_int da_nil)) da_nil)))
    (dss_cons (ds_for PassesOwn.never rfl (di_rng (by rfl) T.z_range (da_cons (de_callS 0 (ok_law_pick T) (hr.mono (by decide)) T.d_law_pick.m T.d_law_pick.F.kp T.d_law_pick.b ars_run (da_cons de_int da_nil)) da_nil)) (dg_nm 2 (hP 2 (by decide)) sc.nd)
    (dss_one (ds_set 1 (hP 1 (by decide)) sc.nd (de_bin op_addD sAdd (de_bin op_addD sAdd (de_nm 1) de_cs) (de_callTy call_str_int s_str (by rfl) T.z_str bb_str (da_cons (de_if (dt_cmp (op_eqq hr.units) sEq (de_callS 0 (ok_law_pick T) (hr.mono (by decide)) T.d_law_pick.m T.d_law_pick.F.kp T.d_law_pick.b ars_run (da_cons de_int da_nil)) de_int) (de_callS 0 (ok_law_pick T) (hr.mono (by decide)) T.d_law_pick.m T.d_law_pick.F.kp T.d_law_pick.b ars_run (da_cons de_int da_nil)) (de_callS 0 (ok_law_pick T) (hr.mono (by decide)) T.d_law_pick.m T.d_law_pick.F.kp T.d_law_pick.b ars_run (da_cons de_int da_nil))) da_nil))))))
    (dss_one (ds_ret (de_nm 1))))))
theorem sc_law_a_release : FnScope ["s"] ["s"] (defScope s_law_a_release) := ⟨rfl, rfl, rfl, by decide +kernel, rfl, by decide +kernel, by decide +kernel⟩
theorem ok_law_a_release (T : Txt w K mg) : FnOk P w K mg base CX0 3 T.a_law_a_release T.t_law_a_release ["s"] (spS K 1 f_law_a_release) := by
  have sc := sc_law_a_release
  exact okS T.d_law_a_release.F sc (by decide) (fun cdv A outer s H E W hr hP =>
    (dss_one (ds_ret (de_if (dt_cmp (op_eqq hr.units) sEq (de_callS 0 (ok_law_pick T) (hr.mono (by decide)) T.d_law_pick.m T.d_law_pick.F.kp T.d_law_pick.b ars_run (da_cons de_int da_nil)) de_int) de_cs (de_callS 0 (ok_law_a_version T) (hr.mono (by decide)) T.d_law_a_version.m T.d_law_a_version.F.kp T.d_law_a_version.b ars_run da_nil)))))
theorem sc_law_a_name : FnScope ["s", "words", "word"] ["s", "words"] (defScope s_law_a_name) := ⟨rfl, rfl, rfl, by decide +kernel, rfl, by decide +kernel, by decide +kernel⟩
theorem ok_law_a_name (T : Txt w K mg) : FnOk P w K mg base CX0 2 T.a_law_a_name T.t_law_a_name ["s", "words"] (spS K 2 f_law_a_name) := by
  have sc := sc_law_a_name
  exact okS T.d_law_a_name.F sc (by decide) (fun cdv A outer s H E W hr hP =>
    (dss_cons (ds_set 2 (hP 2 (by decide)) sc.nd (de_ix ix_seq sIx (de_nm 1) (de_callS 0 (ok_law_pick T) (hr.mono (by decide)) T.d_law_pick.m T.d_law_pick.F.kp T.d_law_pick.b ars_run (da_cons (de_callB c_len s_len (by rfl) T.z_len bb_len (da_cons (de_nm 1) da_nil)) da_nil))))
    (dss_one (ds_ret (de_if (dt_cmp (op_eqq hr.units) sEq (de_callS 0 (ok_law_pick T) (hr.mono (by decide)) T.d_law_pick.m T.d_law_pick.F.kp T.d_law_pick.b ars_run (da_cons de_int da_nil)) de_int) (de_bin op_addD sAdd (de_bin op_addD sAdd (de_nm 2) de_cs) (de_ix ix_seq sIx (de_nm 1) (de_callS 0 (ok_law_pick T) (hr.mono (by decide)) T.d_law_pick.m T.d_law_pick.F.kp T.d_law_pick.b ars_run (da_cons (de_callB c_len s_len (by rfl) T.z_len bb_len (da_cons (de_nm 1) da_nil)) da_nil)))) (de_nm 2))))))
theorem sc_law_a_price : FnScope ["s"] ["s"] (defScope s_law_a_price) := ⟨rfl, rfl, rfl, by decide +kernel, rfl, by decide +kernel, by decide +kernel⟩
theorem ok_law_a_price (T : Txt w K mg) : FnOk P w K mg base CX0 3 T.a_law_a_price T.t_law_a_price ["s"] (spS K 1 f_law_a_price) := by
  have sc := sc_law_a_price
  exact okS T.d_law_a_price.F sc (by decide) (fun cdv A outer s H E W hr hP =>
    (dss_one (ds_ret (de_if (dt_cmp (op_eqq hr.units) sEq (de_callS 0 (ok_law_pick T) (hr.mono (by decide)) T.d_law_pick.m T.d_law_pick.F.kp T.d_law_pick.b ars_run (da_cons de_int da_nil)) de_int) de_non (de_bin op_addD sAdd de_int (de_callS 0 (ok_law_number T) (hr.mono (by decide)) T.d_law_number.m T.d_law_number.F.kp T.d_law_number.b ars_run (da_cons (de_bin op_pow sPow de_int de_int) da_nil)))))))
theorem sc_law_a_condition : FnScope ["s", "words", "kind", "name"] ["s", "words"] (defScope s_law_a_condition) := ⟨rfl, rfl, rfl, by decide +kernel, rfl, by decide +kernel, by decide +kernel⟩
theorem ok_law_a_condition (T : Txt w K mg) : FnOk P w K mg base CX0 4 T.a_law_a_condition T.t_law_a_condition ["s", "words"] (spS K 2 f_law_a_condition) := by
  have sc := sc_law_a_condition
  exact okS T.d_law_a_condition.F sc (by decide) (fun cdv A outer s H E W hr hP =>
    (dss_cons (ds_set 2 (hP 2 (by decide)) sc.nd (de_callS 0 (ok_law_pick T) (hr.mono (by decide)) T.d_law_pick.m T.d_law_pick.F.kp T.d_law_pick.b ars_run (da_cons de_int da_nil)))
    (dss_cons (ds_set 3 (hP 3 (by decide)) sc.nd (de_callS 0 (ok_law_a_name T) (hr.mono (by decide)) T.d_law_a_name.m T.d_law_a_name.F.kp T.d_law_a_name.b ars_run (da_cons (de_nm 1) da_nil)))
    (dss_cons (ds_if (dt_cmp (op_eqq hr.units) sEq (de_nm 2) de_int)
    (dss_one (ds_ret (de_tup (da_cons (de_nm 3) (da_cons de_cs da_nil)))))
    dss_nil)
    (dss_one (ds_ret (de_tup (da_cons (de_nm 3) (da_cons (de_ix ix_seq sIx (de_fz (do_lst (da_cons de_cs (da_cons de_cs (da_cons de_cs da_nil))))) (de_nm 2)) (da_cons (de_callS 0 (ok_law_a_release T) (hr.mono (by decide)) T.d_law_a_release.m T.d_law_a_release.F.kp T.d_law_a_release.b ars_run da_nil) da_nil))))))))))
theorem sc_law_a_conditions : FnScope ["s", "words", "least", "most", "k"] ["s", "words", "least", "most"] (defScope s_law_a_conditions) := ⟨rfl, rfl, rfl, by decide +kernel, rfl, by decide +kernel, by decide +kernel⟩
theorem ok_law_a_conditions (T : Txt w K mg) : FnOk P w K mg base CX0 5 T.a_law_a_conditions T.t_law_a_conditions ["s", "words", "least", "most"] (spS K 4 f_law_a_conditions) := by
  have sc := sc_law_a_conditions
  exact okS T.d_law_a_conditions.F sc (by decide) (fun cdv A outer s H E W hr hP =>
    (dss_one (ds_ret (de_callTy call_tuple_of s_tuple (by rfl) T.z_tuple bb_tuple (da_cons (de_fz (do_lc 4 rfl sc.nd (di_rng (by rfl) T.z_range (da_cons (de_bin op_addD sAdd (de_nm 2) (de_callS 0 (ok_law_pick T) (hr.mono (by decide)) T.d_law_pick.m T.d_law_pick.F.kp T.d_law_pick.b ars_run (da_cons (de_bin op_addD sAdd (de_bin op_sub sSub (de_nm 3) (de_nm 2)) de_int) da_nil))) da_nil)) (blkOk_by (own := [("k", 4)]) (N := ["s", "words", "least", "most", "k"]) (sc := defScope s_law_a_conditions) (by decide +kernel)) (fun _ _ _ _ _ => pg_name (i := 4) sc.nd rfl (Or.inl rfl)) (fun _ _ _ _ _ _ => dts_nil) (fun _ _ _ _ _ _ => (de_callS 0 (ok_law_a_condition T) (hr.mono (by decide)) T.d_law_a_condition.m T.d_law_a_condition.F.kp T.d_law_a_condition.b ars_run (da_cons (de_nm 1) da_nil))))) da_nil)))))
theorem sc_law_a_form : FnScope ["s", "words", "kind"] ["s", "words"] (defScope s_law_a_form) := ⟨rfl, rfl, rfl, by decide +kernel, rfl, by decide +kernel, by decide +kernel⟩
theorem ok_law_a_form (T : Txt w K mg) : FnOk P w K mg base CX0 6 T.a_law_a_form T.t_law_a_form ["s", "words"] (spS K 2 f_law_a_form) := by
  have sc := sc_law_a_form
  exact okS T.d_law_a_form.F sc (by decide) (fun cdv A outer s H E W hr hP =>
    (dss_cons (ds_set 2 (hP 2 (by decide)) sc.nd (de_callS 0 (ok_law_pick T) (hr.mono (by decide)) T.d_law_pick.m T.d_law_pick.F.kp T.d_law_pick.b ars_run (da_cons de_int da_nil)))
    (dss_cons (ds_if (dt_cmp (op_eqq hr.units) sEq (de_nm 2) de_int)
    (dss_one (ds_ret (de_tup (da_cons de_cs (da_cons (de_callS 0 (ok_law_a_conditions T) (hr.mono (by decide)) T.d_law_a_conditions.m T.d_law_a_conditions.F.kp T.d_law_a_conditions.b ars_run (da_cons (de_nm 1) (da_cons de_int (da_cons de_int da_nil)))) (da_cons (de_callS 0 (ok_law_a_conditions T) (hr.mono (by decide)) T.d_law_a_conditions.m T.d_law_a_conditions.F.kp T.d_law_a_conditions.b ars_run (da_cons (de_nm 1) (da_cons de_int (da_cons de_int da_nil)))) da_nil))))))
    dss_nil)
    (dss_cons (ds_if (dt_cmp (op_eqq hr.units) sEq (de_nm 2) de_int)
    (dss_one (ds_ret (de_tup (da_cons de_cs (da_cons (de_callS 0 (ok_law_a_conditions T) (hr.mono (by decide)) T.d_law_a_conditions.m T.d_law_a_conditions.F.kp T.d_law_a_conditions.b ars_run (da_cons (de_nm 1) (da_cons de_int (da_cons de_int da_nil)))) da_nil)))))
    dss_nil)
    (dss_cons (ds_if (dt_cmp (op_eqq hr.units) sEq (de_nm 2) de_int)
    (dss_one (ds_ret (de_tup (da_cons de_cs (da_cons (de_callS 0 (ok_law_a_conditions T) (hr.mono (by decide)) T.d_law_a_conditions.m T.d_law_a_conditions.F.kp T.d_law_a_conditions.b ars_run (da_cons (de_nm 1) (da_cons de_int (da_cons de_int da_nil)))) da_nil)))))
    dss_nil)
    (dss_cons (ds_if (dt_cmp (op_eqq hr.units) sEq (de_nm 2) de_int)
    (dss_one (ds_ret (de_tup (da_cons de_cs (da_cons (de_callS 0 (ok_law_a_condition T) (hr.mono (by decide)) T.d_law_a_condition.m T.d_law_a_condition.F.kp T.d_law_a_condition.b ars_run (da_cons (de_nm 1) da_nil)) (da_cons (de_callS 0 (ok_law_a_condition T) (hr.mono (by decide)) T.d_law_a_condition.m T.d_law_a_condition.F.kp T.d_law_a_condition.b ars_run (da_cons (de_nm 1) da_nil)) da_nil))))))
    dss_nil)
    (dss_one (ds_ret (de_tup (da_cons (de_ix ix_seq sIx (de_fz (do_lst (da_cons de_cs (da_cons de_cs da_nil)))) (de_bin op_sub sSub (de_nm 2) de_int)) (da_cons (de_callS 0 (ok_law_pick T) (hr.mono (by decide)) T.d_law_pick.m T.d_law_pick.F.kp T.d_law_pick.b ars_run (da_cons de_int da_nil)) (da_cons (de_callS 0 (ok_law_a_conditions T) (hr.mono (by decide)) T.d_law_a_conditions.m T.d_law_a_conditions.F.kp T.d_law_a_conditions.b ars_run (da_cons (de_nm 1) (da_cons de_int (da_cons de_int da_nil)))) da_nil))))))))))))
theorem sc_law_a_line : FnScope ["s", "words", "kind", "word", "elder", "other", "names", "k"] ["s", "words"] (defScope s_law_a_line) := ⟨rfl, rfl, rfl, by decide +kernel, rfl, by decide +kernel, by decide +kernel⟩
theorem ok_law_a_line (T : Txt w K mg) : FnOk P w K mg base CX0 7 T.a_law_a_line T.t_law_a_line ["s", "words"] (spS K 2 f_law_a_line) := by
  have sc := sc_law_a_line
  exact okS T.d_law_a_line.F sc (by decide) (fun cdv A outer s H E W hr hP =>
    (dss_cons (ds_set 2 (hP 2 (by decide)) sc.nd (de_callS 0 (ok_law_pick T) (hr.mono (by decide)) T.d_law_pick.m T.d_law_pick.F.kp T.d_law_pick.b ars_run (da_cons de_int da_nil)))
    (dss_cons (ds_set 3 (hP 3 (by decide)) sc.nd (de_ix ix_seq sIx (de_nm 1) (de_callS 0 (ok_law_pick T) (hr.mono (by decide)) T.d_law_pick.m T.d_law_pick.F.kp T.d_law_pick.b ars_run (da_cons (de_callB c_len s_len (by rfl) T.z_len bb_len (da_cons (de_nm 1) da_nil)) da_nil))))
    (dss_cons (ds_if (dt_cmp op_lt sCmp (de_nm 2) de_int)
    (dss_one (ds_ret (de_tup (da_cons de_cs (da_cons (de_callS 0 (ok_law_a_form T) (hr.mono (by decide)) T.d_law_a_form.m T.d_law_a_form.F.kp T.d_law_a_form.b ars_run (da_cons (de_nm 1) da_nil)) da_nil)))))
    dss_nil)
    (dss_cons (ds_if (dt_cmp (op_eqq hr.units) sEq (de_nm 2) de_int)
    (dss_cons (ds_set 4 (hP 4 (by decide)) sc.nd (de_if (dt_cmp (op_eqq hr.units) sEq (de_callS 0 (ok_law_pick T) (hr.mono (by decide)) T.d_law_pick.m T.d_law_pick.F.kp T.d_law_pick.b ars_run (da_cons de_int da_nil)) de_int) de_cs (de_callS 0 (ok_law_a_version T) (hr.mono (by decide)) T.d_law_a_version.m T.d_law_a_version.F.kp T.d_law_a_version.b ars_run da_nil)))
    (dss_one (ds_ret (de_tup (da_cons de_cs (da_cons (de_nm 3) (da_cons (de_callS 0 (ok_law_a_version T) (hr.mono (by decide)) T.d_law_a_version.m T.d_law_a_version.F.kp T.d_law_a_version.b ars_run da_nil) (da_cons (de_nm 4) (da_cons (de_callS 0 (ok_law_a_price T) (hr.mono (by decide)) T.d_law_a_price.m T.d_law_a_price.F.kp T.d_law_a_price.b ars_run da_nil) (da_cons (de_callS 0 (ok_law_a_price T) (hr.mono (by decide)) T.d_law_a_price.m T.d_law_a_price.F.kp T.d_law_a_price.b ars_run da_nil) da_nil))))))))))
    dss_nil)
    (dss_cons (ds_if (dt_cmp (op_eqq hr.units) sEq (de_nm 2) de_int)
    (dss_cons (ds_set 5 (hP 5 (by decide)) sc.nd (de_ix ix_seq sIx (de_nm 1) (de_callS 0 (ok_law_pick T) (hr.mono (by decide)) T.d_law_pick.m T.d_law_pick.F.kp T.d_law_pick.b ars_run (da_cons (de_callB c_len s_len (by rfl) T.z_len bb_len (da_cons (de_nm 1) da_nil)) da_nil))))
    (dss_one (ds_ret (de_tup (da_cons de_cs (da_cons (de_nm 3) (da_cons (de_nm 5) (da_cons (de_callS 0 (ok_law_a_version T) (hr.mono (by decide)) T.d_law_a_version.m T.d_law_a_version.F.kp T.d_law_a_version.b ars_run da_nil) (da_cons (de_callS 0 (ok_law_a_price T) (hr.mono (by decide)) T.d_law_a_price.m T.d_law_a_price.F.kp T.d_law_a_price.b ars_run da_nil) (da_cons (de_callS 0 (ok_law_a_price T) (hr.mono (by decide)) T.d_law_a_price.m T.d_law_a_price.F.kp T.d_law_a_price.b ars_run da_nil) da_nil))))))))))
    dss_nil)
    (dss_cons (ds_if (dt_cmp op_lt sCmp (de_nm 2) de_int)
    (dss_one (ds_ret (de_tup (da_cons (de_ix ix_seq sIx (de_fz (do_lst (da_cons de_cs (da_cons de_cs da_nil)))) (de_bin op_sub sSub (de_nm 2) de_int)) (da_cons (de_callS 0 (ok_law_a_name T) (hr.mono (by decide)) T.d_law_a_name.m T.d_law_a_name.F.kp T.d_law_a_name.b ars_run (da_cons (de_nm 1) da_nil)) (da_cons (de_callS 0 (ok_law_a_release T) (hr.mono (by decide)) T.d_law_a_release.m T.d_law_a_release.F.kp T.d_law_a_release.b ars_run da_nil) da_nil))))))
    dss_nil)
    (dss_cons (ds_if (dt_cmp (op_eqq hr.units) sEq (de_nm 2) de_int)
    (dss_cons (ds_setLc 6 7 (hP 6 (by decide)) rfl sc.nd (di_rng (by rfl) T.z_range (da_cons (de_bin op_addD sAdd de_int (de_callS 0 (ok_law_pick T) (hr.mono (by decide)) T.d_law_pick.m T.d_law_pick.F.kp T.d_law_pick.b ars_run (da_cons de_int da_nil))) da_nil)) (blkOk_by (own := [("k", 7)]) (N := ["s", "words", "kind", "word", "elder", "other", "names", "k"]) (sc := defScope s_law_a_line) (by decide +kernel)) (fun _ _ _ _ _ => pg_name (i := 7) sc.nd rfl (Or.inl rfl)) (fun _ _ _ _ _ _ => dts_nil) (fun _ _ _ _ _ _ => (de_callS 0 (ok_law_a_name T) (hr.mono (by decide)) T.d_law_a_name.m T.d_law_a_name.F.kp T.d_law_a_name.b ars_run (da_cons (de_nm 1) da_nil))) (sw_true rfl rfl rfl (by decide +kernel)))
    (dss_one (ds_ret (de_tup (da_cons de_cs (da_cons (de_nm 3) (da_cons (de_bin op_addD sAdd de_int (de_callS 0 (ok_law_pick T) (hr.mono (by decide)) T.d_law_pick.m T.d_law_pick.F.kp T.d_law_pick.b ars_run (da_cons de_int da_nil))) (da_cons (de_callTy call_tuple_of s_tuple (by rfl) T.z_tuple bb_tuple (da_cons (de_nm 6) da_nil)) da_nil))))))))
    dss_nil)
    (dss_cons (ds_if (dt_cmp (op_eqq hr.units) sEq (de_nm 2) de_int)
    (dss_one (ds_ret (de_tup (da_cons de_cs da_nil))))
    dss_nil)
    (dss_one (ds_ret (de_tup (da_cons (de_ix ix_seq sIx (de_fz (do_lst (da_cons de_cs (da_cons de_cs (da_cons de_cs da_nil))))) (de_bin op_sub sSub (de_nm 2) de_int)) (da_cons (de_nm 3) da_nil))))))))))))))
theorem sc_law_a_lines : FnScope ["s", "many", "words", "told", "k", "line"] ["s", "many"] (defScope s_law_a_lines) := ⟨rfl, rfl, rfl, by decide +kernel, rfl, by decide +kernel, by decide +kernel⟩
theorem ok_law_a_lines (T : Txt w K mg) : FnOk P w K mg base CX0 8 T.a_law_a_lines T.t_law_a_lines ["s", "many"] (spS K 2 f_law_a_lines) := by
  have sc := sc_law_a_lines
  exact okS T.d_law_a_lines.F sc (by decide) (fun cdv A outer s H E W hr hP =>
    (dss_cons (ds_set 2 (hP 2 (by decide)) sc.nd (de_fz (do_callS 0 (ok_law_words T) (hr.mono (by decide)) T.d_law_words.m T.d_law_words.F.kp T.d_law_words.b ars_run (da_cons de_int da_nil))))
    (dss_cons (ds_setO 3 (hP 3 (by decide)) sc.nd (do_lst da_nil))
    (dss_cons (ds_for PassesOwn.never rfl (di_rng (by rfl) T.z_range (da_cons (de_nm 1) da_nil)) (dg_nm 4 (hP 4 (by decide)) sc.nd)
    (dss_cons (ds_set 5 (hP 5 (by decide)) sc.nd (de_callS 0 (ok_law_a_line T) (hr.mono (by decide)) T.d_law_a_line.m T.d_law_a_line.F.kp T.d_law_a_line.b ars_run (da_cons (de_nm 2) da_nil)))
    (dss_one (ds_app 3 (de_if (dt_cmp op_le sCmp (de_callB c_len s_len (by rfl) T.z_len bb_len (da_cons (de_call (ok_law_line_words T) (hr.mono (by decide)) T.d_law_line_words.m T.d_law_line_words.F.kp T.d_law_line_words.b ar_run (da_cons (de_nm 5) da_nil)) da_nil)) de_int) (de_nm 5) (de_tup (da_cons de_cs da_nil)))))))
    (dss_one (ds_retNm 3 (hP 3 (by decide))))))))
theorem sc_law_a_sign : FnScope ["s", "right", "kind", "at", "marks", "mark"] ["s", "right"] (defScope s_law_a_sign) := ⟨rfl, rfl, rfl, by decide +kernel, rfl, by decide +kernel, by decide +kernel⟩
theorem ok_law_a_sign (T : Txt w K mg) : FnOk P w K mg base CX0 2 T.a_law_a_sign T.t_law_a_sign ["s", "right"] (spS K 2 f_law_a_sign) := by
  have sc := sc_law_a_sign
  exact okS T.d_law_a_sign.F sc (by decide) (fun cdv A outer s H E W hr hP =>
    (dss_cons (ds_set 2 (hP 2 (by decide)) sc.nd (de_callS 0 (ok_law_pick T) (hr.mono (by decide)) T.d_law_pick.m T.d_law_pick.F.kp T.d_law_pick.b ars_run (da_cons de_int da_nil)))
    (dss_cons (ds_set 3 (hP 3 (by decide)) sc.nd (de_callS 0 (ok_law_pick T) (hr.mono (by decide)) T.d_law_pick.m T.d_law_pick.F.kp T.d_law_pick.b ars_run (da_cons (de_bin op_addD sAdd (de_callB c_len s_len (by rfl) T.z_len bb_len (da_cons (de_nm 1) da_nil)) de_int) da_nil)))
    (dss_cons (ds_if (dt_cmp (op_eqq hr.units) sEq (de_nm 2) de_int)
    (dss_one (ds_ret (de_mulS de_cs (de_bin op_addD sAdd de_int (de_callS 0 (ok_law_pick T) (hr.mono (by decide)) T.d_law_pick.m T.d_law_pick.F.kp T.d_law_pick.b ars_run (da_cons de_int da_nil))))))
    dss_nil)
    (dss_cons (ds_if (dt_cmp (op_eqq hr.units) sEq (de_nm 2) de_int)
    (dss_one (ds_ret (de_bin op_addD sAdd de_cs (de_nm 1))))
    dss_nil)
    (dss_cons (ds_if (dt_cmp (op_eqq hr.units) sEq (de_nm 2) de_int)
    (dss_one (ds_ret (de_bin op_addD sAdd (de_nm 1) de_cs)))
    dss_nil)
    (dss_cons (ds_if (dt_cmp (op_eqq hr.units) sEq (de_nm 2) de_int)
    (dss_one (ds_ret (de_ifRepl (y := " ") (y' := " ") (z := "  ") (de_nm 1) (de_nm 1) (de_bin op_addD sAdd (de_nm 1) de_cs))))
    dss_nil)
    (dss_cons (ds_if (dt_cmp (op_eqq hr.units) sEq (de_nm 2) de_int)
    (dss_one (ds_ret (de_bin op_addD sAdd (de_bin op_addD sAdd (de_sl (de_nm 1) dp_no (dp_yes (de_nm 3))) de_cs) (de_sl (de_nm 1) (dp_yes (de_nm 3)) dp_no))))
    dss_nil)
    (dss_cons (ds_set 4 (hP 4 (by decide)) sc.nd de_cs)
    (dss_cons (ds_set 5 (hP 5 (by decide)) sc.nd (de_ix ix_seq sIx (de_nm 4) (de_callS 0 (ok_law_pick T) (hr.mono (by decide)) T.d_law_pick.m T.d_law_pick.F.kp T.d_law_pick.b ars_run (da_cons (de_callB c_len s_len (by rfl) T.z_len bb_len (da_cons (de_nm 4) da_nil)) da_nil))))
    (dss_one (ds_ret (de_bin op_addD sAdd (de_bin op_addD sAdd (de_sl (de_nm 1) dp_no (dp_yes (de_nm 3))) (de_nm 5)) (de_sl (de_nm 1) (dp_yes (de_nm 3)) dp_no))))))))))))))
theorem sc_law_a_wrong : FnScope ["a", "b", "long", "told"] ["a", "b"] (defScope s_law_a_wrong) := ⟨rfl, rfl, rfl, by decide +kernel, rfl, by decide +kernel, by decide +kernel⟩
theorem ok_law_a_wrong (T : Txt w K mg) : FnOk P w K mg base CX0 1 T.a_law_a_wrong T.t_law_a_wrong ["a", "b"] (spP K 2 f_law_a_wrong) := by
  have sc := sc_law_a_wrong
  exact okP T.d_law_a_wrong.F sc (fun cdv A outer s H E W hr hP =>
    (dss_cons (ds_set 2 (hP 2) sc.nd de_cs)
    (dss_cons (ds_setO 3 (hP 3) sc.nd (do_lst (da_cons de_cs (da_cons (de_bin op_addD sAdd (de_bin op_addD sAdd (de_bin op_addD sAdd de_cs (de_nm 0)) de_cs) (de_nm 1)) (da_cons de_cs (da_cons (de_bin op_addD sAdd de_cs (de_sl (de_nm 0) dp_no (dp_yes de_int))) (da_cons (de_bin op_addD sAdd (de_bin op_addD sAdd (de_bin op_addD sAdd de_cs (de_nm 0)) de_cs) (de_nm 1)) (da_cons (de_bin op_addD sAdd de_cs (de_nm 2)) (da_cons (de_bin op_addD sAdd (de_bin op_addD sAdd (de_bin op_addD sAdd de_cs (de_nm 0)) de_cs) (de_nm 1)) da_nil)))))))))
    (dss_cons (ds_setO 3 (hP 3) sc.nd (do_catN 3 (do_lst (da_cons (de_bin op_addD sAdd (de_bin op_addD sAdd de_cs (de_nm 0)) de_cs) (da_cons (de_bin op_addD sAdd (de_bin op_addD sAdd de_cs (de_nm 0)) de_cs) da_nil)))))
    (dss_cons (ds_setO 3 (hP 3) sc.nd (do_catN 3 (do_lst (da_cons (de_bin op_addD sAdd (de_bin op_addD sAdd de_cs (de_nm 0)) de_cs) (da_cons (de_bin op_addD sAdd (de_bin op_addD sAdd de_cs (de_nm 0)) de_cs) da_nil)))))
    (dss_cons (ds_setO 3 (hP 3) sc.nd (do_catN 3 (do_lst (da_cons (de_bin op_addD sAdd (de_bin op_addD sAdd de_cs (de_nm 0)) de_cs) (da_cons (de_bin op_addD sAdd (de_bin op_addD sAdd de_cs (de_nm 0)) de_cs) da_nil)))))
    (dss_cons (ds_setO 3 (hP 3) sc.nd (do_catN 3 (do_lst (da_cons (de_bin op_addD sAdd (de_bin op_addD sAdd de_cs (de_nm 0)) de_cs) (da_cons (de_bin op_addD sAdd (de_bin op_addD sAdd de_cs (de_nm 0)) de_cs) da_nil)))))
    (dss_cons (ds_setO 3 (hP 3) sc.nd (do_catN 3 (do_lst (da_cons (de_bin op_addD sAdd (de_bin op_addD sAdd de_cs (de_nm 0)) de_cs) (da_cons (de_bin op_addD sAdd (de_bin op_addD sAdd (de_bin op_addD sAdd (de_bin op_addD sAdd de_cs (de_nm 0)) de_cs) (de_nm 1)) de_cs) da_nil)))))
    (dss_cons (ds_setO 3 (hP 3) sc.nd (do_catN 3 (do_lst (da_cons (de_bin op_addD sAdd (de_bin op_addD sAdd de_cs (de_nm 0)) de_cs) (da_cons (de_bin op_addD sAdd (de_bin op_addD sAdd (de_bin op_addD sAdd (de_bin op_addD sAdd de_cs (de_nm 0)) de_cs) (de_nm 1)) de_cs) (da_cons de_cs da_nil))))))
    (dss_cons (ds_setO 3 (hP 3) sc.nd (do_catN 3 (do_lst (da_cons (de_bin op_addD sAdd (de_bin op_addD sAdd de_cs (de_nm 0)) de_cs) (da_cons (de_bin op_addD sAdd (de_bin op_addD sAdd de_cs (de_nm 0)) de_cs) (da_cons (de_bin op_addD sAdd (de_bin op_addD sAdd de_cs (de_nm 0)) de_cs) (da_cons (de_bin op_addD sAdd (de_bin op_addD sAdd de_cs (de_nm 0)) de_cs) da_nil)))))))
    (dss_cons (ds_setO 3 (hP 3) sc.nd (do_catN 3 (do_lst (da_cons (de_bin op_addD sAdd (de_bin op_addD sAdd (de_bin op_addD sAdd (de_bin op_addD sAdd de_cs (de_join de_cs (de_fz (do_rep (do_lst (da_cons (de_bin op_addD sAdd (de_nm 0) de_cs) da_nil)) de_int)))) de_cs) (de_nm 1)) de_cs) da_nil))))
    (dss_cons (ds_setO 3 (hP 3) sc.nd (do_catN 3 (do_lst (da_cons (de_bin op_addD sAdd (de_bin op_addD sAdd (de_bin op_addD sAdd de_cs (de_nm 0)) de_cs) (de_join de_cs (de_fz (do_rep (do_lst (da_cons (de_bin op_addD sAdd (de_nm 1) de_cs) da_nil)) de_int)))) (da_cons (de_bin op_addD sAdd (de_bin op_addD sAdd de_cs (de_nm 0)) de_cs) da_nil)))))
    (dss_cons (ds_setO 3 (hP 3) sc.nd (do_catN 3 (do_lst (da_cons (de_bin op_addD sAdd de_cs (de_join de_cs (de_fz (do_rep (do_lst (da_cons (de_bin op_addD sAdd (de_nm 0) de_cs) da_nil)) de_int)))) (da_cons de_cs (da_cons (de_bin op_addD sAdd (de_bin op_addD sAdd de_cs (de_nm 0)) de_cs) da_nil))))))
    (dss_cons (ds_setO 3 (hP 3) sc.nd (do_catN 3 (do_lst (da_cons (de_bin op_addD sAdd (de_bin op_addD sAdd de_cs (de_nm 0)) de_cs) (da_cons (de_bin op_addD sAdd (de_bin op_addD sAdd de_cs (de_nm 0)) de_cs) (da_cons (de_bin op_addD sAdd (de_bin op_addD sAdd de_cs (de_nm 0)) de_cs) (da_cons (de_bin op_addD sAdd de_cs (de_nm 0)) da_nil)))))))
    (dss_cons (ds_setO 3 (hP 3) sc.nd (do_catN 3 (do_lst (da_cons (de_bin op_addD sAdd de_cs (de_join de_cs (de_fz (do_rep (do_lst (da_cons (de_bin op_addD sAdd (de_nm 0) de_cs) da_nil)) de_int)))) (da_cons (de_bin op_addD sAdd (de_bin op_addD sAdd de_cs (de_nm 0)) de_cs) (da_cons (de_bin op_addD sAdd (de_bin op_addD sAdd de_cs (de_nm 0)) de_cs) da_nil))))))
    (dss_cons (ds_setO 3 (hP 3) sc.nd (do_catN 3 (do_lst (da_cons (de_bin op_addD sAdd (de_bin op_addD sAdd de_cs (de_nm 0)) de_cs) (da_cons (de_bin op_addD sAdd (de_bin op_addD sAdd de_cs (de_nm 0)) de_cs) (da_cons (de_bin op_addD sAdd de_cs (de_nm 0)) (da_cons (de_bin op_addD sAdd (de_bin op_addD sAdd de_cs (de_nm 0)) de_cs) (da_cons (de_bin op_addD sAdd (de_bin op_addD sAdd (de_bin op_addD sAdd de_cs (de_nm 0)) de_cs) (de_nm 1)) da_nil))))))))
    (dss_cons (ds_setO 3 (hP 3) sc.nd (do_catN 3 (do_lst (da_cons (de_bin op_addD sAdd (de_bin op_addD sAdd (de_bin op_addD sAdd de_cs (de_nm 0)) de_cs) (de_nm 1)) (da_cons (de_bin op_addD sAdd (de_bin op_addD sAdd de_cs (de_nm 0)) de_cs) (da_cons (de_bin op_addD sAdd (de_bin op_addD sAdd (de_bin op_addD sAdd de_cs (de_nm 0)) de_cs) (de_nm 1)) (da_cons de_cs da_nil)))))))
    (dss_one (ds_retNm 3 (hP 3))))))))))))))))))))
theorem sc_law_a_near : FnScope ["a", "b", "told"] ["a", "b"] (defScope s_law_a_near) := ⟨rfl, rfl, rfl, by decide +kernel, rfl, by decide +kernel, by decide +kernel⟩
theorem ok_law_a_near (T : Txt w K mg) : FnOk P w K mg base CX0 1 T.a_law_a_near T.t_law_a_near ["a", "b"] (spP K 2 f_law_a_near) := by
  have sc := sc_law_a_near
  exact okP T.d_law_a_near.F sc (fun cdv A outer s H E W hr hP =>
    (dss_cons (ds_setO 2 (hP 2) sc.nd (do_lst (da_cons de_cs (da_cons (de_bin op_addD sAdd (de_bin op_addD sAdd de_cs (de_nm 0)) de_cs) (da_cons (de_bin op_addD sAdd (de_bin op_addD sAdd de_cs (de_nm 0)) de_cs) da_nil)))))
    (dss_cons (ds_setO 2 (hP 2) sc.nd (do_catN 2 (do_lst (da_cons (de_bin op_addD sAdd (de_bin op_addD sAdd (de_bin op_addD sAdd (de_bin op_addD sAdd de_cs (de_nm 0)) de_cs) (de_nm 1)) de_cs) (da_cons (de_bin op_addD sAdd (de_bin op_addD sAdd (de_bin op_addD sAdd (de_bin op_addD sAdd de_cs (de_join de_cs (de_fz (do_rep (do_lst (da_cons (de_bin op_addD sAdd (de_nm 0) de_cs) da_nil)) de_int)))) de_cs) (de_nm 1)) de_cs) da_nil)))))
    (dss_cons (ds_setO 2 (hP 2) sc.nd (do_catN 2 (do_lst (da_cons (de_bin op_addD sAdd (de_bin op_addD sAdd (de_bin op_addD sAdd de_cs (de_nm 0)) de_cs) (de_join de_cs (de_fz (do_rep (do_lst (da_cons (de_bin op_addD sAdd (de_nm 1) de_cs) da_nil)) de_int)))) (da_cons (de_bin op_addD sAdd de_cs (de_join de_cs (de_fz (do_rep (do_lst (da_cons (de_bin op_addD sAdd (de_nm 0) de_cs) da_nil)) de_int)))) da_nil)))))
    (dss_cons (ds_setO 2 (hP 2) sc.nd (do_catN 2 (do_lst (da_cons (de_bin op_addD sAdd (de_bin op_addD sAdd de_cs (de_nm 0)) de_cs) (da_cons (de_bin op_addD sAdd (de_bin op_addD sAdd de_cs (de_nm 0)) de_cs) (da_cons (de_bin op_addD sAdd (de_bin op_addD sAdd (de_bin op_addD sAdd (de_bin op_addD sAdd de_cs (de_nm 0)) de_cs) (de_nm 1)) de_cs) da_nil))))))
    (dss_one (ds_retO (do_catN 2 (do_lst (da_cons (de_bin op_addD sAdd (de_bin op_addD sAdd de_cs (de_nm 0)) de_cs) (da_cons (de_bin op_addD sAdd (de_bin op_addD sAdd (de_bin op_addD sAdd (de_bin op_addD sAdd de_cs (de_nm 0)) de_cs) (de_nm 1)) de_cs) (da_cons (de_bin op_addD sAdd (de_bin op_addD sAdd (de_bin op_addD sAdd de_cs (de_nm 0)) de_cs) (de_nm 1)) (da_cons (de_bin op_addD sAdd (de_bin op_addD sAdd (de_bin op_addD sAdd (de_bin op_addD sAdd (de_bin op_addD sAdd de_cs (de_nm 0)) de_cs) (de_nm 1)) de_cs) (de_nm 0)) (da_cons de_cs da_nil))))))))))))))
theorem sc_law_a_fault : FnScope ["s", "a", "b", "right", "wrong", "kind", "firsts", "word", "line"] ["s", "a", "b", "right"] (defScope s_law_a_fault) := ⟨rfl, rfl, rfl, by decide +kernel, rfl, by decide +kernel, by decide +kernel⟩
theorem ok_law_a_fault (T : Txt w K mg) : FnOk P w K mg base CX0 3 T.a_law_a_fault T.t_law_a_fault ["s", "a", "b", "right"] (spS K 4 f_law_a_fault) := by
  have sc := sc_law_a_fault
  exact okS T.d_law_a_fault.F sc (by decide) (fun cdv A outer s H E W hr hP =>
    (dss_cons (ds_set 4 (hP 4 (by decide)) sc.nd (de_fz (do_call (ok_law_a_wrong T) (hr.mono (by decide)) T.d_law_a_wrong.m T.d_law_a_wrong.F.kp T.d_law_a_wrong.b ar_run (da_cons (de_nm 1) (da_cons (de_nm 2) da_nil)))))
    (dss_cons (ds_set 5 (hP 5 (by decide)) sc.nd (de_callS 0 (ok_law_pick T) (hr.mono (by decide)) T.d_law_pick.m T.d_law_pick.F.kp T.d_law_pick.b ars_run (da_cons de_int da_nil)))
    (dss_cons (ds_if (dt_cmp (op_eqq hr.units) sEq (de_nm 5) de_int)
    (dss_one (ds_ret (de_tup (da_cons de_cs (da_cons de_cs da_nil)))))
    dss_nil)
    (dss_cons (ds_if (dt_cmp (op_eqq hr.units) sEq (de_nm 5) de_int)
    (dss_one (ds_ret (de_tup (da_cons (de_callS 0 (ok_law_a_sign T) (hr.mono (by decide)) T.d_law_a_sign.m T.d_law_a_sign.F.kp T.d_law_a_sign.b ars_run (da_cons (de_nm 3) da_nil)) (da_cons de_cs da_nil)))))
    dss_nil)
    (dss_cons (ds_set 6 (hP 6 (by decide)) sc.nd (de_tup (da_cons de_cs (da_cons de_cs (da_cons de_cs (da_cons de_cs (da_cons de_cs (da_cons de_cs (da_cons de_cs (da_cons de_cs (da_cons de_cs (da_cons de_cs da_nil))))))))))))
    (dss_cons (ds_if (dt_cmp (op_eqq hr.units) sEq (de_nm 5) de_int)
    (dss_cons (ds_set 7 (hP 7 (by decide)) sc.nd (de_ix ix_seq sIx (de_fz (do_lst (da_cons (de_nm 1) (da_cons de_cs (da_cons de_cs (da_cons de_cs (da_cons de_cs (da_cons de_cs (da_cons de_cs (da_cons de_cs da_nil)))))))))) (de_callS 0 (ok_law_pick T) (hr.mono (by decide)) T.d_law_pick.m T.d_law_pick.F.kp T.d_law_pick.b ars_run (da_cons de_int da_nil))))
    (dss_one (ds_ret (de_tup (da_cons (de_if (PW.pt (dw_and (dt_cmp op_inn sIn de_cs (de_nm 3)) (dw_and1 (dt_cmp op_notInn sNotIn (de_nm 7) (de_nm 6))))) (de_bin op_addD sAdd (de_nm 7) (de_sl (de_nm 3) (dp_yes (de_find (de_nm 3) de_cs)) dp_no)) (de_bin op_addD sAdd de_cs (de_nm 1))) (da_cons de_cs da_nil))))))
    dss_nil)
    (dss_cons (ds_set 8 (hP 8 (by decide)) sc.nd (de_ix ix_seq sIx (de_nm 4) (de_callS 0 (ok_law_pick T) (hr.mono (by decide)) T.d_law_pick.m T.d_law_pick.F.kp T.d_law_pick.b ars_run (da_cons (de_callB c_len s_len (by rfl) T.z_len bb_len (da_cons (de_nm 4) da_nil)) da_nil))))
    (dss_cons (ds_if (dt_cmp (op_eqq hr.units) sEq (de_nm 5) de_int)
    (dss_one (ds_ret (de_tup (da_cons (de_bin op_addD sAdd (de_bin op_addD sAdd (de_nm 8) de_cs) (de_ix ix_seq sIx (de_fz (do_lst (da_cons de_cs (da_cons de_cs (da_cons de_cs da_nil))))) (de_callS 0 (ok_law_pick T) (hr.mono (by decide)) T.d_law_pick.m T.d_law_pick.F.kp T.d_law_pick.b ars_run (da_cons de_int da_nil)))) (da_cons de_cs da_nil)))))
    dss_nil)
    (dss_one (ds_ret (de_tup (da_cons (de_nm 8) (da_cons de_cs da_nil))))))))))))))
theorem sc_law_a_refusal : FnScope ["text", "e"] ["text"] (defScope s_law_a_refusal) := ⟨rfl, rfl, rfl, by decide +kernel, rfl, by decide +kernel, by decide +kernel⟩
theorem ok_law_a_refusal (T : Txt w K mg) : FnOk P w K mg base CX0 11 T.a_law_a_refusal T.t_law_a_refusal ["text"] (spP K 1 f_law_a_refusal) := by
  have sc := sc_law_a_refusal
  exact okP T.d_law_a_refusal.F sc (fun cdv A outer s H E W hr hP =>
    (dss_cons (ds_tryRet (i := 1) (hP 1) (okx_read_lines T) (hr.mono (by decide)) T.d_read_lines.m T.d_read_lines.F.kp T.d_read_lines.b arx_run (fun _ _ => (da_cons (de_nm 0) da_nil)) sc.nd T.e_BadText.m T.e_BadText.te (fun a oe dd pn vfs fs hz hf => (ca_cons (ce_of de_cs) (ca_cons (ce_fld T.e_BadText.xf (T.e_BadText.no "line" (by simp)) hz hf) (ca_cons (ce_fld T.e_BadText.xf (T.e_BadText.no "what" (by simp)) hz hf) (ca_cons (ce_and (ce_is T.e_BadText.ex hz hf (pe_glob (v := .ref T.C_AskError) (by rfl) T.m_AskError rfl) (fun _ z => z) T.is_BadText_AskError T.z_isinstance) (ce_is T.e_BadText.ex hz hf (pe_bltn (v := .ty "ValueError") (by rfl) T.z_ValueError (by decide +kernel) rfl) (fun _ z => z) T.is_BadText_ValueError T.z_isinstance)) ca_nil))))))
    (dss_one (ds_ret (de_tup (da_cons de_cs (da_cons de_int (da_cons de_cs (da_cons de_bl da_nil)))))))))
theorem sc_law : FnScope ["script", "s", "a", "b", "lines", "rows", "line", "near", "faults", "spoilt", "good", "k", "right", "row", "what", "at", "place", "word", "text", "told"] ["script"] (defScope s_law) := ⟨rfl, rfl, rfl, by decide +kernel, rfl, by decide +kernel, by decide +kernel⟩
theorem ok_law (T : Txt w K mg) : FnOk P w K mg base CX0 12 T.a_law T.t_law ["script"] (spP K 1 f_law) := by
  have sc := sc_law
  exact okP T.d_law.F sc (fun cdv A outer s H E W hr hP =>
    (dss_cons (ds_setO 1 (hP 1) sc.nd (do_call (ok_law_source T) (hr.mono (by decide)) T.d_law_source.m T.d_law_source.F.kp T.d_law_source.b ar_run (da_cons (de_nm 0) (da_cons de_int da_nil))))
    (dss_cons (ds_asg (de_fz (do_callS 1 (ok_law_words T) (hr.mono (by decide)) T.d_law_words.m T.d_law_words.F.kp T.d_law_words.b ars_run (da_cons de_int da_nil))) (dg_lst rfl (dgs_cons (dg_nm 2 (hP 2) sc.nd) (dgs_cons (dg_nm 3 (hP 3) sc.nd) dgs_nil)) gs2_len))
    (dss_cons (ds_set 4 (hP 4) sc.nd (de_fz (do_callS 1 (ok_law_a_lines T) (hr.mono (by decide)) T.d_law_a_lines.m T.d_law_a_lines.F.kp T.d_law_a_lines.b ars_run (da_cons (de_callS 1 (ok_law_pick T) (hr.mono (by decide)) T.d_law_pick.m T.d_law_pick.F.kp T.d_law_pick.b ars_run (da_cons de_int da_nil)) da_nil))))
    (dss_cons (ds_setLc 5 6 (hP 5) rfl sc.nd (di_any (de_nm 4)) (blkOk_by (own := [("line", 6)]) (N := ["script", "s", "a", "b", "lines", "rows", "line", "near", "faults", "spoilt", "good", "k", "right", "row", "what", "at", "place", "word", "text", "told"]) (sc := defScope s_law) (by decide +kernel)) (fun _ _ _ _ _ => pg_name (i := 6) sc.nd rfl (Or.inl rfl)) (fun _ _ _ _ _ _ => dts_nil) (fun _ _ _ _ _ _ => (de_call (ok_law_line_words T) (hr.mono (by decide)) T.d_law_line_words.m T.d_law_line_words.F.kp T.d_law_line_words.b ar_run (da_cons (de_nm 6) da_nil))) (sw_true rfl rfl rfl (by decide +kernel)))
    (dss_cons (ds_set 7 (hP 7) sc.nd (de_fz (do_call (ok_law_a_near T) (hr.mono (by decide)) T.d_law_a_near.m T.d_law_a_near.F.kp T.d_law_a_near.b ar_run (da_cons (de_nm 2) (da_cons (de_nm 3) da_nil)))))
    (dss_cons (ds_set 8 (hP 8) sc.nd (de_fz (do_lst da_nil)))
    (dss_cons (ds_setO 9 (hP 9) sc.nd (do_list (by rfl) T.z_list bb_list (da_cons (de_nm 5) da_nil)))
    (dss_cons (ds_setO 10 (hP 10) sc.nd (do_list (by rfl) T.z_list bb_list (da_cons (de_nm 5) da_nil)))
    (dss_cons (ds_for PassesOwn.never rfl (di_rng (by rfl) T.z_range (da_cons (de_bin op_addD sAdd de_int (de_callS 1 (ok_law_pick T) (hr.mono (by decide)) T.d_law_pick.m T.d_law_pick.F.kp T.d_law_pick.b ars_run (da_cons de_int da_nil))) da_nil)) (dg_nm 11 (hP 11) sc.nd)
    (dss_cons (ds_set 12 (hP 12) sc.nd (de_ix ix_seq sIx (de_nm 7) (de_callS 1 (ok_law_pick T) (hr.mono (by decide)) T.d_law_pick.m T.d_law_pick.F.kp T.d_law_pick.b ars_run (da_cons (de_callB c_len s_len (by rfl) T.z_len bb_len (da_cons (de_nm 7) da_nil)) da_nil))))
    (dss_cons (ds_asg (de_callS 1 (ok_law_a_fault T) (hr.mono (by decide)) T.d_law_a_fault.m T.d_law_a_fault.F.kp T.d_law_a_fault.b ars_run (da_cons (de_nm 2) (da_cons (de_nm 3) (da_cons (de_nm 12) da_nil)))) (dg_tup rfl (dgs_cons (dg_nm 13 (hP 13) sc.nd) (dgs_cons (dg_nm 14 (hP 14) sc.nd) dgs_nil)) gs2_len))
    (dss_cons (ds_set 15 (hP 15) sc.nd (de_if (dt_cmp (op_eqq hr.units) sEq (de_callS 1 (ok_law_pick T) (hr.mono (by decide)) T.d_law_pick.m T.d_law_pick.F.kp T.d_law_pick.b ars_run (da_cons de_int da_nil)) de_int) (de_lenV (by rfl) T.z_len bb_len (dv_nm 9)) (de_callS 1 (ok_law_pick T) (hr.mono (by decide)) T.d_law_pick.m T.d_law_pick.F.kp T.d_law_pick.b ars_run (da_cons (de_bin op_addD sAdd (de_lenV (by rfl) T.z_len bb_len (dv_nm 9)) de_int) da_nil))))
    (dss_cons (ds_ins 9 (de_nm 15) (de_nm 13))
    (dss_cons (ds_ins 10 (de_nm 15) (de_nm 12))
    (dss_one (ds_set 8 (hP 8) sc.nd (de_fz (do_cat (do_lc2 16 17 (by decide) rfl sc.nd (di_any (de_nm 8)) (blkOk_by (own := [("place", 16), ("word", 17)]) (N := ["script", "s", "a", "b", "lines", "rows", "line", "near", "faults", "spoilt", "good", "k", "right", "row", "what", "at", "place", "word", "text", "told"]) (sc := defScope s_law) (by decide +kernel)) (fun _ _ _ _ _ => pg_tup rfl (pgs_cons (pg_name (i := 16) sc.nd rfl (Or.inl rfl)) (pgs_cons (pg_name (i := 17) sc.nd rfl (Or.inl rfl)) pgs_nil))) (fun _ _ _ _ _ _ => dts_nil) (fun _ _ _ _ _ _ => (de_tup (da_cons (de_if (dt_cmp op_ge sCmp (de_nm 16) (de_nm 15)) (de_bin op_addD sAdd (de_nm 16) de_int) (de_nm 16)) (da_cons (de_nm 17) da_nil))))) (dv_o (do_lst (da_cons (de_tup (da_cons (de_nm 15) (da_cons (de_nm 14) da_nil))) da_nil)))))))))))))
    (dss_cons (ds_asg (de_callB (cr_minD rfl hr.units) s_minL (by rfl) T.z_min bb_min (da_cons (de_nm 8) da_nil)) (dg_tup rfl (dgs_cons (dg_nm 16 (hP 16) sc.nd) (dgs_cons (dg_nm 14 (hP 14) sc.nd) dgs_nil)) gs2_len))
    (dss_cons (ds_set 18 (hP 18) sc.nd (de_bin op_addD sAdd (de_joinV de_cs (dv_nm 9)) de_cs))
    (dss_cons (ds_if (dt_not (dt_tru (de_call (ok_law_same T 10) (hr.mono (by decide)) T.d_law_same.m T.d_law_same.F.kp T.d_law_same.b (ar_law_same _) (da_cons (de_call (ok_law_a_refusal T) (hr.mono (by decide)) T.d_law_a_refusal.m T.d_law_a_refusal.F.kp T.d_law_a_refusal.b ar_run (da_cons (de_nm 18) da_nil)) (da_cons (de_tup (da_cons de_cs (da_cons (de_bin op_addD sAdd (de_nm 16) de_int) (da_cons (de_nm 14) (da_cons de_bl da_nil))))) da_nil)))))
    (dss_one (ds_ret de_bl))
    dss_nil)
    (dss_cons (ds_set 19 (hP 19) sc.nd (de_fz (do_call (ok_read_lines T) (hr.mono (by decide)) T.d_read_lines.m T.d_read_lines.F.kp T.d_read_lines.b ar_run (da_cons (de_joinV de_cs (dv_nm 10)) da_nil))))
    (dss_one (ds_ret (de_and (de_isi (by rfl) T.z_isinstance bb_isinstance (de_nm 19) (by rfl) T.z_list bb_list) (de_and (de_cmp (op_eqq hr.units) sEq (de_callB c_len s_len (by rfl) T.z_len bb_len (da_cons (de_nm 19) da_nil)) (de_lenV (by rfl) T.z_len bb_len (dv_nm 10))) (de_one (de_cmp (op_eqq hr.units) sEq (de_ix ix_seq sIx (de_call (ok_law_a_refusal T) (hr.mono (by decide)) T.d_law_a_refusal.m T.d_law_a_refusal.F.kp T.d_law_a_refusal.b ar_run (da_cons (de_nm 18) da_nil)) de_int) de_cs))))))))))))))))))))
end
end DL

set_option Elab.async false
set_option linter.all false
set_option maxRecDepth 100000
set_option maxHeartbeats 4000000
namespace DL
open PySem PySem.Spec L2
/-! what k00's law asks besides: the printing defs' meanings, so that the same lemmas serve -/
def b_price_word : SS :=
  (sSeq (sIf (bUn dIsN (eNm 0))
  (sRet (eK (ds (cs "never"))))
  sNext)
  (sRet (eCall fStr (aCons (eNm 0) aNil))))
def f_price_word : PF := runP 1 1 b_price_word
def b_condition_words : SS :=
  (sSeq (sIf (bBin dEq (eBin dIx (eNm 0) (eK (.int 1))) (eK (ds (cs "none"))))
  (sRet (eBin dAdd (eBin dIx (eNm 0) (eK (.int 0))) (eK (ds (cs " none")))))
  sNext)
  (sSeq (sIf (bBin dEq (eBin dIx (eNm 0) (eK (.int 1))) (eK (ds (cs "not"))))
  (sRet (eBin dAdd (eBin dAdd (eBin dIx (eNm 0) (eK (.int 0))) (eK (ds (cs " not from ")))) (eBin dIx (eNm 0) (eK (.int 2)))))
  sNext)
  (sRet (eBin dAdd (eBin dAdd (eBin dAdd (eBin dAdd (eBin dIx (eNm 0) (eK (.int 0))) (eK (ds (cs " ")))) (eBin dIx (eNm 0) (eK (.int 1)))) (eK (ds (cs " ")))) (eBin dIx (eNm 0) (eK (.int 2)))))))
def f_condition_words : PF := runP 1 1 b_condition_words
def b_many_words : SS :=
  (sRet (eBin dJoin (eNm 1) (eFz (oComp 2 bYes (eCallP f_condition_words (aCons (eNm 2) aNil)) (iAny (eNm 0))))))
def f_many_words : PF := runP 3 2 b_many_words
def b_form_words : SS :=
  (sSeq (sIf (bBin dEq (eBin dIx (eNm 0) (eK (.int 0))) (eK (ds (cs "need"))))
  (sRet (eBin dAdd (eBin dAdd (eBin dAdd (eK (ds (cs "need "))) (eCallP f_many_words (aCons (eBin dIx (eNm 0) (eK (.int 1))) (aCons (eK (ds (cs " and "))) aNil)))) (eK (ds (cs " : ")))) (eCallP f_many_words (aCons (eBin dIx (eNm 0) (eK (.int 2))) (aCons (eK (ds (cs " or "))) aNil)))))
  sNext)
  (sSeq (sIf (bBin dEq (eBin dIx (eNm 0) (eK (.int 0))) (eK (ds (cs "same"))))
  (sRet (eBin dAdd (eK (ds (cs "same "))) (eCallP f_many_words (aCons (eSl (eNm 0) (pYes (eK (.int 1))) pNo) (aCons (eK (ds (cs " , "))) aNil)))))
  sNext)
  (sSeq (sIf (bOr (bBin dEq (eBin dIx (eNm 0) (eK (.int 0))) (eK (ds (cs "most")))) (bBin dEq (eBin dIx (eNm 0) (eK (.int 0))) (eK (ds (cs "least")))))
  (sRet (eBin dAdd (eBin dAdd (eBin dAdd (eBin dAdd (eBin dIx (eNm 0) (eK (.int 0))) (eK (ds (cs " ")))) (eCall fStr (aCons (eBin dIx (eNm 0) (eK (.int 1))) aNil))) (eK (ds (cs " of ")))) (eCallP f_many_words (aCons (eBin dIx (eNm 0) (eK (.int 2))) (aCons (eK (ds (cs " , "))) aNil)))))
  sNext)
  (sRet (eBin dAdd (eBin dAdd (eBin dIx (eNm 0) (eK (.int 0))) (eK (ds (cs " ")))) (eCallP f_many_words (aCons (eBin dIx (eNm 0) (eK (.int 1))) (aCons (eK (ds (cs " , "))) aNil))))))))
def f_form_words : PF := runP 1 1 b_form_words
def b_line_words : SS :=
  (sSeq (sSet 1 (eBin dIx (eNm 0) (eK (.int 0))))
  (sSeq (sIf (bBin dEq (eNm 1) (eK (ds (cs "release"))))
  (sSeq (sSet 2 (eBin dAdd (eBin dAdd (eBin dAdd (eK (ds (cs " up "))) (eCallP f_price_word (aCons (eBin dIx (eNm 0) (eK (.int 4))) aNil))) (eK (ds (cs " down ")))) (eCallP f_price_word (aCons (eBin dIx (eNm 0) (eK (.int 5))) aNil))))
  (sRet (eBin dAdd (eBin dAdd (eBin dAdd (eBin dAdd (eBin dAdd (eBin dAdd (eK (ds (cs "release "))) (eBin dIx (eNm 0) (eK (.int 1)))) (eK (ds (cs " ")))) (eBin dIx (eNm 0) (eK (.int 2)))) (eK (ds (cs " after ")))) (eBin dIx (eNm 0) (eK (.int 3)))) (eNm 2))))
  sNext)
  (sSeq (sIf (bBin dEq (eNm 1) (eK (ds (cs "feature"))))
  (sSeq (sSet 2 (eBin dAdd (eBin dAdd (eBin dAdd (eK (ds (cs " up "))) (eCallP f_price_word (aCons (eBin dIx (eNm 0) (eK (.int 4))) aNil))) (eK (ds (cs " down ")))) (eCallP f_price_word (aCons (eBin dIx (eNm 0) (eK (.int 5))) aNil))))
  (sRet (eBin dAdd (eBin dAdd (eBin dAdd (eBin dAdd (eBin dAdd (eBin dAdd (eK (ds (cs "feature "))) (eBin dIx (eNm 0) (eK (.int 1)))) (eK (ds (cs " ")))) (eBin dIx (eNm 0) (eK (.int 2)))) (eK (ds (cs " from ")))) (eBin dIx (eNm 0) (eK (.int 3)))) (eNm 2))))
  sNext)
  (sSeq (sIf (bBin dEq (eNm 1) (eK (ds (cs "signer"))))
  (sRet (eBin dAdd (eBin dAdd (eBin dAdd (eBin dAdd (eBin dAdd (eK (ds (cs "signer "))) (eBin dIx (eNm 0) (eK (.int 1)))) (eK (ds (cs " ")))) (eCall fStr (aCons (eBin dIx (eNm 0) (eK (.int 2))) aNil))) (eK (ds (cs " : ")))) (eBin dJoin (eK (ds (cs " "))) (eBin dIx (eNm 0) (eK (.int 3))))))
  sNext)
  (sSeq (sIf (bBin dEq (eNm 1) (eK (ds (cs "row"))))
  (sRet (eBin dAdd (eK (ds (cs "row "))) (eCallP f_form_words (aCons (eBin dIx (eNm 0) (eK (.int 1))) aNil))))
  sNext)
  (sRet (eBin dJoin (eK (ds (cs " "))) (eNm 0))))))))
def f_line_words : PF := runP 3 1 b_line_words
def b_print_lines : SS :=
  (sRet (eBin dJoin (eK (ds (cs ""))) (eFz (oComp 1 bYes (eBin dAdd (eCallP f_line_words (aCons (eNm 1) aNil)) (eK (ds (cs "\n")))) (iAny (eNm 0))))))
def f_print_lines : PF := runP 2 1 b_print_lines
end DL

set_option Elab.async false
set_option linter.all false
set_option maxRecDepth 100000
set_option maxHeartbeats 4000000
namespace DL
open PySem PySem.Spec L2
section
variable {st : List Sl} {i : Nat}
@[simp] theorem eNm_ap : eNm i st = match st[i]? with | some (.d x) => some (x, st) | _ => none := rfl
@[simp] theorem oNm_ap : oNm i st = match st[i]? with | some (.own xs) => some (xs, st) | _ => none := rfl
@[simp] theorem eK_ap {x : D} : eK x st = some (x, st) := rfl
@[simp] theorem eNone_ap : eNone st = none := rfl
@[simp] theorem bNone_ap : bNone st = none := rfl
@[simp] theorem eBin_ap {op : D → D → Option D} {f g : ES} : eBin op f g st = (f st).bind fun r => (g r.2).bind fun q => (op r.1 q.1).map fun z => (z, q.2) := rfl
@[simp] theorem eUn_ap {op : D → Option D} {f : ES} : eUn op f st = (f st).bind fun r => (op r.1).map fun z => (z, r.2) := rfl
@[simp] theorem eIf_ap {c : BS} {f g : ES} : eIf c f g st = (c st).bind fun r => if r.1 then f r.2 else g r.2 := rfl
@[simp] theorem oIf_ap {c : BS} {f g : OS} : oIf c f g st = (c st).bind fun r => if r.1 then f r.2 else g r.2 := rfl
@[simp] theorem bBin_ap {op : D → D → Option Bool} {f g : ES} : bBin op f g st = (f st).bind fun r => (g r.2).bind fun q => (op r.1 q.1).map fun z => (z, q.2) := rfl
@[simp] theorem bUn_ap {op : D → Option Bool} {f : ES} : bUn op f st = (f st).bind fun r => (op r.1).map fun z => (z, r.2) := rfl
@[simp] theorem bAnd_ap {f g : BS} : bAnd f g st = (f st).bind fun r => if r.1 then g r.2 else some (false, r.2) := rfl
@[simp] theorem bOr_ap {f g : BS} : bOr f g st = (f st).bind fun r => if r.1 then some (true, r.2) else g r.2 := rfl
@[simp] theorem bNot_ap {f : BS} : bNot f st = (f st).map fun r => (!r.1, r.2) := rfl
@[simp] theorem eB_ap {f : BS} : eB f st = (f st).map fun r => (.bool r.1, r.2) := rfl
@[simp] theorem bChain_ap {op op' : D → D → Option Bool} {f g h : ES} : bChain op op' f g h st = (f st).bind fun r => (g r.2).bind fun q => (op r.1 q.1).bind fun k => if k then (h q.2).bind fun z => (op' q.1 z.1).map fun y => (y, z.2) else some (false, q.2) := rfl
@[simp] theorem eFz_ap {f : OS} : eFz f st = (f st).map fun r => (.list r.1, r.2) := rfl
@[simp] theorem eAnd_ap {f g : ES} : eAnd f g st = (f st).bind fun r => (boolOf r.1).bind fun c => if c then g r.2 else some (.bool false, r.2) := rfl
@[simp] theorem eOr_ap {f g : ES} : eOr f g st = (f st).bind fun r => (boolOf r.1).bind fun c => if c then some (.bool true, r.2) else g r.2 := rfl
@[simp] theorem aNil_ap : aNil st = some ([], st) := rfl
@[simp] theorem aCons_ap {f : ES} {g : AS} : aCons f g st = (f st).bind fun r => (g r.2).map fun q => (r.1 :: q.1, q.2) := rfl
@[simp] theorem eTup_ap {u : AS} : eTup u st = (u st).bind fun r => if r.1.length ≤ 1000 then some (.tuple r.1, r.2) else none := rfl
@[simp] theorem oLst_ap {u : AS} : oLst u st = (u st).bind fun r => if r.1.length ≤ 1000 then some r else none := rfl
@[simp] theorem eCall_ap {fn : List D → Option D} {f : AS} : eCall fn f st = (f st).bind fun r => (fn r.1).map fun z => (z, r.2) := rfl
@[simp] theorem oCall_ap {fn : List D → Option (List D)} {f : AS} : oCall fn f st = (f st).bind fun r => (fn r.1).map fun z => (z, r.2) := rfl
@[simp] theorem eCallV_ap {fn : List D → Option D} {o : OS} : eCallV fn o st = (o st).bind fun r => (fn [.list r.1]).map fun z => (z, r.2) := rfl
@[simp] theorem bBinV_ap {op : D → D → Option Bool} {f : ES} {o : OS} : bBinV op f o st = (f st).bind fun r => (o r.2).bind fun q => (op r.1 (.list q.1)).map fun z => (z, q.2) := rfl
@[simp] theorem eIxO_ap {g : ES} : eIxO i g st = match st[i]? with
  | some (.own _) => (g st).bind fun q => match q.2[i]? with
    | some (.own xs) => (dIx (.list xs) q.1).map fun z => (z, q.2)
    | _ => none
  | _ => none := rfl
@[simp] theorem oCat_ap {o o' : OS} : oCat o o' st = (o st).bind fun r => (o' r.2).bind fun q => if r.1.length + q.1.length ≤ sizeLine then some (r.1 ++ q.1, q.2) else none := rfl
@[simp] theorem oSplit_ap {f g : ES} : oSplit f g st = (f st).bind fun r => (g r.2).bind fun q => match r.1, q.1 with
  | .str a, .str b => if (codes b).length ≠ 0 ∧ (codes a).length + 2 ≤ sizeLine then some ((Txt.split a b).map PyData.str, q.2) else none
  | _, _ => none := rfl
@[simp] theorem eSl_ap {f : ES} {lo hi : OPS} : eSl f lo hi st = (f st).bind fun r => (lo r.2).bind fun p => (hi p.2).bind fun q => (dSl r.1 p.1 q.1).map fun z => (z, q.2) := rfl
@[simp] theorem pNo_ap : pNo st = some (none, st) := rfl
@[simp] theorem pYes_ap {f : ES} : pYes f st = (f st).bind fun r => match r.1 with | .int i => some (some i, r.2) | _ => none := rfl
@[simp] theorem sNext_ap : sNext st = some (.nx st) := rfl
@[simp] theorem sNone_ap : sNone st = none := rfl
@[simp] theorem sBrk_ap : sBrk st = some (.bk st) := rfl
@[simp] theorem sSeq_ap {f g : SS} : sSeq f g st = (f st).bind fun o => match o with | .nx st' => g st' | o => some o := rfl
@[simp] theorem sIf_ap {c : BS} {f g : SS} : sIf c f g st = (c st).bind fun r => if r.1 then f r.2 else g r.2 := rfl
@[simp] theorem sRet_ap {f : ES} : sRet f st = (f st).map fun r => .rt r.1 r.2 := rfl
@[simp] theorem sRetO_ap {f : OS} : sRetO f st = (f st).map fun r => .ro r.1 r.2 := rfl
@[simp] theorem sRetN_ap : sRetN st = some (.rt .none st) := rfl
@[simp] theorem sDrop_ap {f : ES} : sDrop f st = (f st).map fun r => .nx r.2 := rfl
@[simp] theorem sSet_ap {f : ES} : sSet i f st = (f st).map fun r => .nx (r.2.set i (.d r.1)) := rfl
@[simp] theorem sSetO_ap {f : OS} : sSetO i f st = (f st).map fun r => .nx (r.2.set i (.own r.1)) := rfl
@[simp] theorem sApp_ap {u : ES} : sApp i u st = match st[i]? with
  | some (.own _) => (u st).bind fun r => match r.2[i]? with
    | some (.own xs) => if xs.length < 16000000 then some (.nx (r.2.set i (.own (xs ++ [r.1])))) else none
    | _ => none
  | _ => none := rfl
@[simp] theorem sRev_ap : sRev i st = match st[i]? with
  | some (.own xs) => some (.nx (st.set i (.own xs.reverse)))
  | _ => none := rfl
@[simp] theorem sSetI_ap {ix u : ES} : sSetI i ix u st = (u st).bind fun r => match r.2[i]? with
  | some (.own _) => (ix r.2).bind fun q => match q.2[i]? with
    | some (.own xs) => match q.1 with
      | .int z => (ixN xs.length z).map fun j => .nx (q.2.set i (.own (xs.set j r.1)))
      | _ => none
    | _ => none
  | _ => none := rfl
@[simp] theorem gNm_ap {x : D} : gNm i x st = some (st.set i (.d x)) := rfl
@[simp] theorem gsNil_ap : gsNil [] st = some st := rfl
@[simp] theorem gsCons_ap {t : GS} {u : List D → List Sl → Option (List Sl)} {x : D} {r : List D} : gsCons t u (x :: r) st = (t x st).bind fun st' => u r st' := rfl
@[simp] theorem gTupD_ap {u : List D → List Sl → Option (List Sl)} {xs : List D} : gTupD u (.tuple xs) st = u xs st := rfl
@[simp] theorem sAsg_ap {t : GS} {f : ES} : sAsg t f st = (f st).bind fun r => (t r.1 r.2).map Out.nx := rfl
@[simp] theorem sFor_ap {t : GS} {it : AS} {body : SS} : sFor t it body st = (it st).bind fun r => forS t body r.1 r.2 := rfl
@[simp] theorem iAny_ap {f : ES} : iAny f st = (f st).bind fun r => (itemsD r.1).map fun xs => (xs, r.2) := rfl
@[simp] theorem iRng_ap {f : AS} : iRng f st = (f st).bind fun r => match r.1 with
  | [.int j] => if -(2 ^ 62) ≤ j ∧ j < 2 ^ 62 then some (rints 0 j.toNat, r.2) else none
  | _ => none := rfl
@[simp] theorem iEnu_ap {f : AS} : iEnu f st = (f st).bind fun r => match r.1 with
  | [.list xs] => some (enums 0 xs, r.2)
  | _ => none := rfl
@[simp] theorem forS_nil {t : GS} {body : SS} : forS t body [] st = some (.nx st) := rfl
theorem forS_cons {t : GS} {body : SS} {x : D} {xs : List D} : forS t body (x :: xs) st = (t x st).bind fun st1 => (body st1).bind fun o => match o with
    | .nx st' => forS t body xs st'
    | .ct st' => forS t body xs st'
    | .bk st' => some (.nx st')
    | o => some o := rfl
@[simp] theorem eCallP_ap {g : PF} {u : AS} : eCallP g u st = (u st).bind fun r => (g r.1).bind fun q => match q with | .d x => some (x, r.2) | .o _ => none := rfl
@[simp] theorem oCallP_ap {g : PF} {u : AS} : oCallP g u st = (u st).bind fun r => (g r.1).bind fun q => match q with | .d _ => none | .o xs => some (xs, r.2) := rfl
@[simp] theorem callS_ap {gs : SF} {u : AS} : callS gs i u st = match st[i]? with
  | some (.own _) => (u st).bind fun r => match r.2[i]? with
    | some (.own s) => (gs s r.1).map fun q => (q.1, r.2.set i (.own q.2))
    | _ => none
  | _ => none := rfl
@[simp] theorem eCallS_ap {gs : SF} {u : AS} : eCallS gs i u st = (callS gs i u st).bind fun q => match q.1 with | .d x => some (x, q.2) | .o _ => none := rfl
@[simp] theorem oCallS_ap {gs : SF} {u : AS} : oCallS gs i u st = (callS gs i u st).bind fun q => match q.1 with | .d _ => none | .o xs => some (xs, q.2) := rfl
@[simp] theorem eCallB_ap {g : PF} {u : AS} : eCallB g i u st = match st[i]? with
  | some (.own _) => (u st).bind fun r => match r.2[i]? with
    | some (.own xs) => (g (.list xs :: r.1)).bind fun q => match q with
      | .d x => if (scV x).isSome then some (x, r.2) else none
      | .o _ => none
    | _ => none
  | _ => none := rfl
@[simp] theorem oComp_ap {c : BS} {f : ES} {it : AS} : oComp i c f it st = (it st).bind fun r => if notOwn r.2 i && decide (r.1.length ≤ 1000000) then compS i c f r.1 (r.2.set i .no) else none := rfl
@[simp] theorem compS_nil {c : BS} {f : ES} : compS i c f [] st = some ([], st) := rfl
theorem compS_cons {c : BS} {f : ES} {x : D} {xs : List D} : compS i c f (x :: xs) st = (c (st.set i (.d x))).bind fun p => if p.1 then (f p.2).bind fun q => (compS i c f xs (q.2.set i .no)).map fun r => (q.1 :: r.1, r.2) else compS i c f xs (p.2.set i .no) := rfl
@[simp] theorem bYes_ap : bYes st = some (true, st) := rfl
@[simp] theorem notOwn_ap : notOwn st i = match st[i]? with | some (.own _) => false | _ => true := rfl
@[simp] theorem outP_nx : outP (.nx st) = some (.d .none) := rfl
@[simp] theorem outP_rt {x : D} : outP (.rt x st) = some (.d x) := rfl
@[simp] theorem outP_ro {x : List D} : outP (.ro x st) = some (.o x) := rfl
@[simp] theorem own0_ap {xs : List D} : own0 (.own xs :: st) = some xs := rfl
@[simp] theorem outS_nx : outS (.nx st) = (own0 st).map fun s => (.d .none, s) := rfl
@[simp] theorem outS_rt {x : D} : outS (.rt x st) = (own0 st).map fun s => (.d x, s) := rfl
@[simp] theorem outS_ro {x : List D} : outS (.ro x st) = (own0 st).map fun s => (.o x, s) := rfl
@[simp] theorem runP_ap {m n : Nat} {g : SS} {ds : List D} : runP m n g ds = if ds.length = n then (g (startD m ds)).bind outP else none := rfl
@[simp] theorem runS_ap {m n : Nat} {g : SS} {s ds : List D} : runS m n g s ds = if ds.length + 1 = n then (g (.own s :: startD (m - 1) ds)).bind outS else none := rfl
@[simp] theorem startD_ap {m : Nat} {ds : List D} : startD m ds = ds.map Sl.d ++ List.replicate (m - ds.length) .no := rfl
end
@[simp] theorem dAdd_ii {i j : Int} : dAdd (.int i) (.int j) = some (.int (i + j)) := rfl
@[simp] theorem dAdd_ss {x y : Str} : dAdd (.str x) (.str y) = if (codes x).length + (codes y).length ≤ sizeLine then some (ds (codes x ++ codes y)) else none := rfl
@[simp] theorem codes_mk {l : List Nat} : codes (⟨l.toArray⟩ : Str) = l := rfl
@[simp] theorem dSub_ii {i j : Int} : dSub (.int i) (.int j) = some (.int (i - j)) := rfl
@[simp] theorem dI_ii {C : Int → Int → Bool} {g : Int → Int → Int} {i j : Int} : dI C g (.int i) (.int j) = if C i j then some (.int (g i j)) else none := rfl
@[simp] theorem dNeg_i {i : Int} : dNeg (.int i) = some (.int (-i)) := rfl
@[simp] theorem dCmp_ii {p : Int → Int → Bool} {i j : Int} : dCmp p (.int i) (.int j) = some (p i j) := rfl
@[simp] theorem dIsN_n : dIsN .none = some true := rfl
@[simp] theorem dIsN_s {x : Str} : dIsN (.str x) = some false := rfl
@[simp] theorem dIsN_i {x : Int} : dIsN (.int x) = some false := rfl
@[simp] theorem dIsN_t {x : List D} : dIsN (.tuple x) = some false := rfl
@[simp] theorem dIsN_l {x : List D} : dIsN (.list x) = some false := rfl
@[simp] theorem dNotN_n : dNotN .none = some false := rfl
@[simp] theorem boolOf_b {b : Bool} : boolOf (.bool b) = some b := rfl
@[simp] theorem truD_b {b : Bool} : truD (.bool b) = some b := rfl
@[simp] theorem truD_l {x : List D} : truD (.list x) = some (!x.isEmpty) := rfl
@[simp] theorem fLen_l {x : List D} : fLen [.list x] = some (.int x.length) := rfl
@[simp] theorem fLen_t {x : List D} : fLen [.tuple x] = some (.int x.length) := rfl
@[simp] theorem fLen_s {x : Str} : fLen [.str x] = if (codes x).length ≤ sizeLine then some (.int (codes x).length) else none := rfl
@[simp] theorem fInt_i {x : Int} : fInt [.int x] = some (.int x) := rfl
@[simp] theorem fInt_b {x : Bool} : fInt [.bool x] = some (.int (if x then 1 else 0)) := rfl
@[simp] theorem fInt_s {x : Str} : fInt [.str x] = if (codes x).length ≤ 640 then (PySem.intText? x).map PyData.int else none := rfl
@[simp] theorem fAbs_i {x : Int} : fAbs [.int x] = some (.int (if x < 0 then -x else x)) := rfl
@[simp] theorem fStr_i {i : Int} : fStr [.int i] = if i.natAbs.log2 < 1920 then some (.str (toString i)) else none := rfl
@[simp] theorem fMin_ii {i j : Int} : fMin [.int i, .int j] = some (.int (if j < i then j else i)) := rfl
@[simp] theorem fTuple_l {x : List D} : fTuple [.list x] = some (.tuple x) := rfl
@[simp] theorem fTuple_t {x : List D} : fTuple [.tuple x] = some (.tuple x) := rfl
@[simp] theorem fList_l {x : List D} : fList [.list x] = some x := rfl
@[simp] theorem fList_t {x : List D} : fList [.tuple x] = some x := rfl
@[simp] theorem fAll_l {x : List D} : fAll [.list x] = (bools x).map fun bs => .bool (bs.all id) := rfl
@[simp] theorem itemsD_l {x : List D} : itemsD (.list x) = some x := rfl
@[simp] theorem itemsD_t {x : List D} : itemsD (.tuple x) = some x := rfl
@[simp] theorem itemsD_s {x : Str} : itemsD (.str x) = some ((codes x).map fun c => ds [c]) := rfl
@[simp] theorem dIx_l {x : List D} {i : Int} : dIx (.list x) (.int i) = atI x i := rfl
@[simp] theorem dIx_t {x : List D} {i : Int} : dIx (.tuple x) (.int i) = atI x i := rfl
@[simp] theorem dIx_s {z : Str} {i : Int} : dIx (.str z) (.int i) = if (codes z).length ≤ sizeLine then (atI (codes z) i).map fun c => ds [c] else none := rfl
@[simp] theorem dEq_ss {x y : List Nat} : dEq (ds x) (ds y) = some (decide (x = y)) := by
  show (if true then some (decide (V.str ⟨x.toArray⟩ = V.str ⟨y.toArray⟩)) else none) = _
  rw [if_pos rfl]
  congr 1
  by_cases h : x = y
  · subst h; simp
  · rw [decide_eq_false h, decide_eq_false]
    intro z
    exact h (congrArg codes (V.str.inj z))
@[simp] theorem dEq_ii {x y : Int} : dEq (.int x) (.int y) = some (decide (x = y)) := by
  show (if true then some (decide (V.int x = V.int y)) else none) = _
  rw [if_pos rfl]
  congr 1
  by_cases h : x = y
  · subst h; simp
  · rw [decide_eq_false h, decide_eq_false]
    intro z
    exact h (V.int.inj z)
@[simp] theorem dNe_def {x y : D} : dNe x y = (dEq x y).map (!·) := rfl
@[simp] theorem dNotIn_def {x y : D} : dNotIn x y = (dIn x y).map (!·) := rfl
@[simp] theorem dIn_one {c : Nat} {z : Str} : dIn (ds [c]) (.str z) = some (decide (c ∈ codes z)) := rfl

def St4 (s : List D) : Prop := ∃ a b c d : Int, s = [.int a, .int b, .int c, .int d]
theorem pick_ok {s : List D} {m : Int} (h : St4 s) (hm : m < 1073741824) : ∃ r s', f_law_pick s [.int m] = some (.d (.int r), s') ∧ St4 s' ∧ 0 ≤ r ∧ (r < m ∨ r = 0) := by
  obtain ⟨a, b, c, d, rfl⟩ := h
  by_cases h1 : m ≤ 1
  · exact ⟨0, [.int a, .int b, .int c, .int d], by simp [f_law_pick, b_law_pick, h1], ⟨_, _, _, _, rfl⟩, by omega, by omega⟩
  · have h0 : ¬ (m = 0) := by omega
    have hp : 0 < m := by omega
    by_cases h2 : 0 < a
    · exact ⟨a % m, [.int (a / m), .int b, .int c, .int d], by simp [f_law_pick, b_law_pick, h1, h2, hp, hm, atI, ixN, List.replicate], ⟨_, _, _, _, rfl⟩, Int.emod_nonneg _ h0, .inl (Int.emod_lt_of_pos _ hp)⟩
    · refine ⟨_, _, by simp [f_law_pick, b_law_pick, h1, h2, hp, hm, atI, ixN, List.replicate]; exact ⟨rfl, rfl, rfl, rfl, rfl⟩, ⟨_, _, _, _, rfl⟩, Int.emod_nonneg _ h0, .inl (Int.emod_lt_of_pos _ hp)⟩
end DL

set_option Elab.async false
set_option linter.all false
set_option maxRecDepth 100000
set_option maxHeartbeats 4000000
namespace DL
open PySem PySem.Spec L2 TL

@[simp] theorem cs_dot : cs "." = [46] := by decide
@[simp] theorem cs_plus : cs "+" = [43] := by decide
@[simp] theorem cs_blank : cs " " = [32] := by decide
@[simp] theorem cs_colon : cs ":" = [58] := by decide
@[simp] theorem cs_comma : cs "," = [44] := by decide
@[simp] theorem cs_nl : cs "\n" = [10] := by decide
@[simp] theorem cs_empty : cs "" = [] := by decide
@[simp] theorem cs_zero : cs "0" = [48] := by decide
theorem szl : sizeLine = 16777216 := sizeLine_eq

/-- a loop that passes all items -/
theorem forS_pass {i : Nat} {body : SS} {st : List Sl} : ∀ (items : List D) (y : Sl), (∀ x ∈ items, body (st.set i (.d x)) = some (.nx (st.set i (.d x)))) → ∃ y', forS (gNm i) body items (st.set i y) = some (.nx (st.set i y'))
  | [], y, _ => ⟨y, rfl⟩
  | x :: r, y, h => by
    rw [forS_cons, gNm_ap, Option.bind_some, List.set_set, h x List.mem_cons_self]
    exact forS_pass r (.d x) fun z hz => h z (List.mem_cons_of_mem _ hz)
theorem set_get (st : List Sl) (i : Nat) : ∃ y, st.set i y = st := by
  by_cases h : i < st.length
  · exact ⟨st[i], List.set_getElem_self h⟩
  · exact ⟨.no, List.set_eq_of_length_le (by omega)⟩
theorem forS_pass' {i : Nat} {body : SS} {st : List Sl} {items : List D} (h : ∀ x ∈ items, body (st.set i (.d x)) = some (.nx (st.set i (.d x)))) : ∃ y', forS (gNm i) body items st = some (.nx (st.set i y')) := by
  obtain ⟨y, e⟩ := set_get st i
  have := forS_pass (i := i) (body := body) (st := st) items y h
  rw [e] at this
  exact this

/-! ### texts: split, join, numbers -/
theorem strsOf_ds : ∀ ls : List (List Nat), strsOf (ls.map ds) = some (ls.map fun l => (⟨l.toArray⟩ : Str))
  | [] => rfl
  | l :: r => by
    show (strsOf (r.map ds)).map _ = _
    rw [strsOf_ds r]
    rfl
theorem tl_of (l : List Nat) : tl (⟨l.toArray⟩ : Str) = l := rfl
theorem map_tl (ls : List (List Nat)) : (ls.map fun l => (⟨l.toArray⟩ : Str)).map tl = ls := by
  rw [List.map_map]
  conv => rhs; rw [← List.map_id ls]
  rfl
theorem splitD {s : Nat} (hs : s < 256) {parts : List (List Nat)} (hne : parts ≠ []) (hp : ∀ p ∈ parts, s ∉ p) : (Txt.split (⟨(joinL [s] parts).toArray⟩ : Str) (⟨[s].toArray⟩ : Str)).map PyData.str = parts.map ds := by
  have h := split_join (y := (⟨[s].toArray⟩ : Str)) (s := s) (S := []) rfl (by simp [hs]) (parts := parts.map fun l => (⟨l.toArray⟩ : Str)) (by simpa using hne) (fun p hp' => by
    obtain ⟨l, hl, rfl⟩ := List.mem_map.mp hp'
    exact hp l hl)
  have e : (Txt.join (⟨[s].toArray⟩ : Str) (parts.map fun l => (⟨l.toArray⟩ : Str))) = ⟨(joinL [s] parts).toArray⟩ := by
    apply ext_tl
    rw [join_eq, tl_join, map_tl]
  rw [e] at h
  rw [h, List.map_map]
  rfl
theorem joinD {m : List Nat} {parts : List (List Nat)} (h : (parts.map List.length).sum + parts.length * m.length ≤ 16777216) : (strsOf (parts.map ds)).bind (fun ys => if (ys.map (·.length)).sum + ys.length * (⟨m.toArray⟩ : Str).length ≤ 16777216 then some (.str (Txt.join ⟨m.toArray⟩ ys)) else none) = some (ds (joinL m parts)) := by
  rw [strsOf_ds, Option.bind_some, List.map_map, List.length_map]
  have e1 : ((fun (x : Str) => x.length) ∘ fun l => (⟨l.toArray⟩ : Str)) = List.length := by
    funext l
    simp [Str.length]
  rw [e1, if_pos (by simpa [Str.length] using h)]
  congr 2
  apply ext_tl
  rw [join_eq, tl_join, map_tl]
theorem dJoin_l {m : List Nat} {parts : List (List Nat)} (h : (parts.map List.length).sum + parts.length * m.length ≤ 16777216) : dJoin (ds m) (.list (parts.map ds)) = some (ds (joinL m parts)) := joinD h
theorem dJoin_t {m : List Nat} {parts : List (List Nat)} (h : (parts.map List.length).sum + parts.length * m.length ≤ 16777216) : dJoin (ds m) (.tuple (parts.map ds)) = some (ds (joinL m parts)) := joinD h
theorem num_str (n : Nat) : Str.ofString (toString ((n : Nat) : Int)) = (⟨(numL n).toArray⟩ : Str) := ext_tl (tl_num n)
theorem fStr_nat {n : Nat} (h : n < 2 ^ 64) : fStr [.int (n : Int)] = some (ds (numL n)) := by
  rw [fStr_i]
  have e : (n : Int).natAbs = n := Int.natAbs_natCast n
  rw [e, if_pos]
  · rw [num_str]
  · by_cases h0 : n = 0
    · subst h0; decide
    · exact Nat.lt_of_lt_of_le ((Nat.log2_lt h0).mpr h) (by decide)
theorem num_len {n : Nat} (h : n < 10 ^ 10) : (numL n).length ≤ 10 := numL_len (by decide) h
theorem fInt_num {n : Nat} (h : n < 10 ^ 10) : fInt [ds (numL n)] = some (.int (n : Int)) := by
  have hl := num_len h
  rw [fInt_s, codes_mk, if_pos (by omega), ← num_str, int_num (by omega)]
  rfl
theorem num_head : ∀ n : Nat, 1 ≤ n → ∃ c r, numL n = c :: r ∧ c ≠ 48 := fun n => by
  induction n using Nat.strongRecOn with
  | ind n ih =>
    intro h
    by_cases h10 : n < 10
    · exact ⟨48 + n, [], numL_lt h10, by omega⟩
    · obtain ⟨c, r, e, hc⟩ := ih (n / 10) (by omega) (by omega)
      exact ⟨c, r ++ [48 + n % 10], by rw [numL_step (by omega), e]; rfl, hc⟩
theorem num_fig {n c : Nat} (h : c ∈ numL n) : 48 ≤ c ∧ c ≤ 57 := by
  have := numL_free (n := n) (s := c)
  by_cases h' : c < 48 ∨ 57 < c
  · exact absurd h (this h')
  · omega
theorem num_zero : numL 0 = [48] := numL_lt (by decide)

/-! ### signs -/
abbrev Let (c : Nat) : Prop := 97 ≤ c ∧ c ≤ 122
abbrev Fig (c : Nat) : Prop := 48 ≤ c ∧ c ≤ 57
theorem in_letters {c : Nat} : decide (c ∈ cs "abcdefghijklmnopqrstuvwxyz") = decide (Let c) := by
  have e : cs "abcdefghijklmnopqrstuvwxyz" = [97,98,99,100,101,102,103,104,105,106,107,108,109,110,111,112,113,114,115,116,117,118,119,120,121,122] := by decide
  rw [e]
  apply decide_eq_decide.mpr
  simp only [List.mem_cons, List.not_mem_nil, or_false, Let]
  omega
theorem in_figures {c : Nat} : decide (c ∈ cs "0123456789") = decide (Fig c) := by
  have e : cs "0123456789" = [48,49,50,51,52,53,54,55,56,57] := by decide
  rw [e]
  apply decide_eq_decide.mpr
  simp only [List.mem_cons, List.not_mem_nil, or_false, Fig]
  omega
theorem in_signs {c : Nat} : decide (c ∈ cs "abcdefghijklmnopqrstuvwxyz0123456789 .,:+") = decide (Let c ∨ Fig c ∨ c = 32 ∨ c = 46 ∨ c = 44 ∨ c = 58 ∨ c = 43) := by
  have e : cs "abcdefghijklmnopqrstuvwxyz0123456789 .,:+" = [97,98,99,100,101,102,103,104,105,106,107,108,109,110,111,112,113,114,115,116,117,118,119,120,121,122,48,49,50,51,52,53,54,55,56,57,32,46,44,58,43] := by decide
  rw [e]
  apply decide_eq_decide.mpr
  simp only [List.mem_cons, List.not_mem_nil, or_false, Fig, Let]
  omega
theorem mem_chars {l : List Nat} {x : D} (h : x ∈ l.map fun c => ds [c]) : ∃ c ∈ l, x = ds [c] := by
  obtain ⟨c, hc, rfl⟩ := List.mem_map.mp h
  exact ⟨c, hc, rfl⟩
theorem dIn_let {c : Nat} : dIn (ds [c]) k_LETTERS = some (decide (Let c)) := by
  unfold k_LETTERS
  rw [dIn_one, codes_mk, in_letters]
theorem dIn_fig {c : Nat} : dIn (ds [c]) k_FIGURES = some (decide (Fig c)) := by
  unfold k_FIGURES
  rw [dIn_one, codes_mk, in_figures]
theorem is_figures_num (n : Nat) (h : n < 10 ^ 10) : f_is_figures [ds (numL n)] = some (.d (.bool true)) := by
  have hl := num_len h
  have hs := szl
  have loop : ∃ y', forS (gNm 1) (sIf (bBin dNotIn (eNm 1) (eK k_FIGURES)) (sRet (eK (.bool false))) sNext) ((numL n).map fun c => ds [c]) [.d (ds (numL n)), .no] = some (.nx ([Sl.d (ds (numL n)), .no].set 1 y')) := by
    refine forS_pass' fun x hx => ?_
    obtain ⟨c, hc, rfl⟩ := mem_chars hx
    have hf : Fig c := num_fig hc
    simp [dIn_fig, hf]
  obtain ⟨y', loop⟩ := loop
  have first : ∃ c r, numL n = c :: r ∧ (c = 48 → r = []) := by
    by_cases h0 : n = 0
    · subst h0; exact ⟨48, [], num_zero, fun _ => rfl⟩
    · obtain ⟨c, r, e, hc⟩ := num_head n (by omega)
      exact ⟨c, r, e, fun z => absurd z hc⟩
  obtain ⟨c, r, e, h48⟩ := first
  rw [e] at loop hl ⊢
  by_cases hc : c = 48
  · have hr := h48 hc
    subst hc hr
    simp [f_is_figures, b_is_figures, List.replicate, atI, ixN, hs, loop] at loop ⊢
    simp [loop]
  · simp only [List.length_cons] at hl
    have hz : r.length + 1 ≤ sizeLine := by omega
    simp [f_is_figures, b_is_figures, List.replicate, atI, ixN, hz, hc] at loop ⊢
    simp [loop]
end DL

set_option Elab.async false
set_option linter.all false
set_option maxRecDepth 100000
set_option maxHeartbeats 4000000
namespace DL
open PySem PySem.Spec L2 TL

/-! ### in, of texts -/
theorem eqF_ds {x y : List Nat} : eqF (ds y) (ds x) = decide (y = x) := by
  show ((⟨y.toArray⟩ : Str) == ⟨x.toArray⟩) = _
  by_cases h : y = x
  · subst h; simp
  · rw [decide_eq_false h]
    refine beq_eq_false_iff_ne.mpr fun z => h ?_
    have := congrArg codes z
    simpa using this
theorem any_ds {x : List Nat} : ∀ ls : List (List Nat), ((ls.map ds).any fun z => eqF z (ds x)) = decide (x ∈ ls)
  | [] => by simp
  | l :: r => by
    rw [List.map_cons, List.any_cons, any_ds r, eqF_ds, ← Bool.decide_or]
    apply decide_eq_decide.mpr
    rw [List.mem_cons]
    constructor <;> rintro (h | h) <;> first | exact .inl h.symm | exact .inr h
theorem all_flat (ls : List (List Nat)) : (ls.map ds).all flatD = true := by
  rw [List.all_eq_true]
  intro x hx
  obtain ⟨l, _, rfl⟩ := List.mem_map.mp hx
  rfl
theorem dIn_l {x : List Nat} {ls : List (List Nat)} : dIn (ds x) (.list (ls.map ds)) = some (decide (x ∈ ls)) := by
  show (if (flatD (ds x) && (ls.map ds).all flatD) then some ((ls.map ds).any fun z => eqF z (ds x)) else none) = _
  rw [all_flat, any_ds]
  rfl
theorem dIn_t {x : List Nat} {ls : List (List Nat)} : dIn (ds x) (.tuple (ls.map ds)) = some (decide (x ∈ ls)) := by
  show (if (flatD (ds x) && (ls.map ds).all flatD) then some ((ls.map ds).any fun z => eqF z (ds x)) else none) = _
  rw [all_flat, any_ds]
  rfl
def keptL : List (List Nat) := [cs "name", cs "hidden", cs "release", cs "feature", cs "row", cs "start", cs "later", cs "signer", cs "book", cs "end", cs "after", cs "up", cs "down", cs "never", cs "from", cs "not", cs "at", cs "none", cs "on", cs "need", cs "clash", cs "either", cs "same", cs "most", cs "least", cs "of", cs "and", cs "or", cs "come", cs "go", cs "publish", cs "withdraw", cs "answer", cs "letter", cs "heard"]
theorem kept_eq : k_KEPT = .tuple (keptL.map ds) := rfl
def firstL : List (List Nat) := [cs "name", cs "hidden", cs "release", cs "feature", cs "row", cs "start", cs "later", cs "signer", cs "book", cs "end"]
theorem first_eq : k_FIRST_WORDS = .tuple (firstL.map ds) := rfl

/-! ### words, names, versions, prices -/
structure WordT (t : List Nat) : Prop where
  len : t.length ≤ 12
  head : ∃ c r, t = c :: r ∧ Let c
  all : ∀ c ∈ t, Let c ∨ Fig c
  free : t ∉ keptL
theorem is_word_ok {t : List Nat} (h : WordT t) : f_is_word [ds t] = some (.d (.bool true)) := by
  obtain ⟨c, r, e, hc⟩ := h.head
  have hl := h.len
  have hs := szl
  have loop : ∃ y', forS (gNm 1) (sIf (bAnd (bBin dNotIn (eNm 1) (eK k_LETTERS)) (bBin dNotIn (eNm 1) (eK k_FIGURES))) (sRet (eK (.bool false))) sNext) (t.map fun c => ds [c]) [.d (ds t), .no] = some (.nx ([Sl.d (ds t), .no].set 1 y')) := by
    refine forS_pass' fun x hx => ?_
    obtain ⟨d, hd, rfl⟩ := mem_chars hx
    by_cases hL : Let d
    · simp [dIn_let, dIn_fig, hL]
    · have hF : Fig d := (h.all d hd).resolve_left hL
      simp [dIn_let, dIn_fig, hL, hF]
  obtain ⟨y', loop⟩ := loop
  have hfree := h.free
  subst e
  simp only [List.length_cons] at hl
  have hz : r.length + 1 ≤ sizeLine := by omega
  have h12 : ¬ (12 : Int) < (r.length : Int) + 1 := by omega
  simp [f_is_word, b_is_word, List.replicate, atI, ixN, hz, h12, dIn_let, hc, kept_eq, dIn_t, hfree] at loop ⊢
  simp [loop, dIn_t, hfree]
theorem is_number_ok {n : Nat} {lo hi : Int} (h : n < 10 ^ 10) (h1 : lo ≤ n) (h2 : (n : Int) ≤ hi) : f_is_number [ds (numL n), .int lo, .int hi] = some (.d (.bool true)) := by
  have hl := num_len h
  have hs := szl
  have hz : (numL n).length ≤ sizeLine := by omega
  have h10 : ¬ (10 : Int) < ((numL n).length : Int) := by omega
  simp only [f_is_number, b_is_number, runP_ap, startD_ap, List.length_cons, List.length_nil, if_true, List.map_cons, List.map_nil, List.replicate, Nat.sub_self, List.append_nil, sSeq_ap, sIf_ap, bOr_ap, bNot_ap, bUn_ap, eCallP_ap, aCons_ap, aNil_ap, eNm_ap]
  simp [is_figures_num n h, hz, h10, fInt_num h, h1, h2]
def VerT (t : List Nat) : Prop := ∃ ns : List Nat, ns ≠ [] ∧ ns.length ≤ 3 ∧ (∀ n ∈ ns, n ≤ 999) ∧ t = joinL [46] (ns.map numL)
theorem joinL_len {m : List Nat} {k : Nat} : ∀ {ps : List (List Nat)}, (∀ p ∈ ps, p.length ≤ k) → (joinL m ps).length ≤ ps.length * (k + m.length)
  | [], _ => Nat.zero_le _
  | [p], h => by
    have := h p List.mem_cons_self
    show p.length ≤ 1 * (k + m.length)
    omega
  | p :: q :: r, h => by
    have h1 := h p List.mem_cons_self
    have h2 := joinL_len (m := m) (k := k) (ps := q :: r) fun x hx => h x (List.mem_cons_of_mem _ hx)
    show (p ++ (m ++ joinL m (q :: r))).length ≤ (r.length + 1 + 1) * (k + m.length)
    rw [List.length_append, List.length_append, Nat.add_mul (r.length + 1)]
    simp only [List.length_cons] at h2
    omega
theorem mem_joinL {m : List Nat} {c : Nat} : ∀ {ps : List (List Nat)}, c ∈ joinL m ps → (∃ p ∈ ps, c ∈ p) ∨ c ∈ m
  | [p], h => .inl ⟨p, List.mem_cons_self, h⟩
  | p :: q :: r, h => by
    have h' : c ∈ p ++ (m ++ joinL m (q :: r)) := h
    rcases List.mem_append.mp h' with h | h
    · exact .inl ⟨p, List.mem_cons_self, h⟩
    · rcases List.mem_append.mp h with h | h
      · exact .inr h
      · rcases mem_joinL h with ⟨x, hx, hc⟩ | h
        · exact .inl ⟨x, List.mem_cons_of_mem _ hx, hc⟩
        · exact .inr h
theorem num_len3 {n : Nat} (h : n ≤ 999) : (numL n).length ≤ 3 := numL_len (by decide) (by omega)
theorem ver_len {t : List Nat} (h : VerT t) : t.length ≤ 12 := by
  obtain ⟨ns, _, h2, h3, rfl⟩ := h
  have := joinL_len (m := [46]) (k := 3) (ps := ns.map numL) fun p hp => by
    obtain ⟨n, hn, rfl⟩ := List.mem_map.mp hp
    exact num_len3 (h3 n hn)
  rw [List.length_map] at this
  simp only [List.length_cons, List.length_nil] at this
  omega
theorem ver_ne {t : List Nat} (h : VerT t) : ∃ c r, t = c :: r ∧ Fig c := by
  obtain ⟨ns, h1, h2, h3, rfl⟩ := h
  cases ns with
  | nil => exact absurd rfl h1
  | cons n r =>
    have : ∃ c q, numL n = c :: q := by
      cases e : numL n with
      | nil => exact absurd e (numL_ne n)
      | cons c q => exact ⟨c, q, rfl⟩
    obtain ⟨c, q, e⟩ := this
    have hf : Fig c := num_fig (n := n) (by rw [e]; exact List.mem_cons_self)
    cases r with
    | nil => exact ⟨c, q, e, hf⟩
    | cons n' r' => exact ⟨c, q ++ ([46] ++ joinL [46] (numL n' :: r'.map numL)), by show numL n ++ _ = _; rw [e]; rfl, hf⟩
theorem ver_all {t : List Nat} (h : VerT t) : ∀ c ∈ t, Fig c ∨ c = 46 := by
  obtain ⟨ns, _, h2, h3, rfl⟩ := h
  intro c hc
  rcases mem_joinL hc with ⟨p, hp, hc⟩ | hc
  · obtain ⟨n, hn, rfl⟩ := List.mem_map.mp hp
    exact .inl (num_fig hc)
  · exact .inr (by simpa using hc)
theorem is_version_ok {t : List Nat} (h : VerT t) : f_is_version [ds t] = some (.d (.bool true)) := by
  have hl := ver_len h
  have hs := szl
  obtain ⟨ns, h1, h2, h3, rfl⟩ := h
  have sp := splitD (s := 46) (by decide) (parts := ns.map numL) (by simpa using h1) fun p hp => by
    obtain ⟨n, hn, rfl⟩ := List.mem_map.mp hp
    exact numL_free (by omega)
  have hlen : (joinL [46] (ns.map numL)).length + 2 ≤ sizeLine := by omega
  have h4 : ¬ (3 : Int) < (ns.length : Int) := by omega
  have loop : ∃ y', forS (gNm 2) (sIf (bNot (bUn truD (eCallP f_is_number (aCons (eNm 2) (aCons (eK (.int 0)) (aCons (eK (.int 999)) aNil)))))) (sRet (eK (.bool false))) sNext) ((ns.map numL).map ds) [.d (ds (joinL [46] (ns.map numL))), .d (.list ((ns.map numL).map ds)), .no] = some (.nx ([Sl.d (ds (joinL [46] (ns.map numL))), .d (.list ((ns.map numL).map ds)), .no].set 2 y')) := by
    refine forS_pass' fun x hx => ?_
    obtain ⟨l, hl, rfl⟩ := List.mem_map.mp hx
    obtain ⟨n, hn, rfl⟩ := List.mem_map.mp hl
    have := is_number_ok (n := n) (lo := 0) (hi := 999) (by have := h3 n hn; omega) (by omega) (by have := h3 n hn; omega)
    simp [this]
  obtain ⟨y', loop⟩ := loop
  simp only [f_is_version, b_is_version, runP_ap, startD_ap, List.length_cons, List.length_nil, if_true, List.map_cons, List.map_nil, List.replicate, Nat.sub_self, List.append_nil, sSeq_ap, sSet_ap, eFz_ap, oSplit_ap, eNm_ap, eK_ap, cs_dot, codes_mk]
  simp only [List.nil_append, List.cons_append, List.getElem?_cons_zero, Option.bind_some, codes_mk, List.length_cons, List.length_nil, sp]
  simp [hlen, h4] at loop ⊢
  simp [loop]
def RelT (t : List Nat) : Prop := t = cs "on" ∨ VerT t
theorem is_release_ok {t : List Nat} (h : RelT t) : f_is_release [ds t] = some (.d (.bool true)) := by
  rcases h with rfl | h
  · simp [f_is_release, b_is_release]
  · by_cases e : t = cs "on"
    · simp [f_is_release, b_is_release, e]
    · simp [f_is_release, b_is_release, e, is_version_ok h]
def PriceT (d : D) (t : List Nat) : Prop := (d = .none ∧ t = cs "never") ∨ ∃ n : Nat, 1 ≤ n ∧ n ≤ 1000000000 ∧ d = .int n ∧ t = numL n
theorem num_ne {n : Nat} {t : List Nat} (h : ∃ c r, t = c :: r ∧ ¬ Fig c) : numL n ≠ t := fun e => by
  obtain ⟨c, r, rfl, hc⟩ := h
  exact hc (num_fig (n := n) (by rw [e]; exact List.mem_cons_self))
theorem never_ne {n : Nat} : numL n ≠ cs "never" := num_ne ⟨110, [101, 118, 101, 114], by decide, by decide⟩
theorem is_price_ok {d : D} {t : List Nat} (h : PriceT d t) : f_is_price [ds t] = some (.d (.bool true)) := by
  rcases h with ⟨_, rfl⟩ | ⟨n, h1, h2, _, rfl⟩
  · simp [f_is_price, b_is_price]
  · have hn := is_number_ok (n := n) (lo := 1) (hi := 1000000000) (by omega) (by omega) (by omega)
    simp [f_is_price, b_is_price, never_ne, k_GREATEST_PRICE, hn]
theorem price_of_ok {d : D} {t : List Nat} (h : PriceT d t) : f_price_of [ds t] = some (.d d) := by
  rcases h with ⟨rfl, rfl⟩ | ⟨n, h1, h2, rfl, rfl⟩
  · simp [f_price_of, b_price_of]
  · have hf := fInt_num (n := n) (by omega)
    simp [-fInt_s, f_price_of, b_price_of, never_ne, hf]
theorem price_word_ok {d : D} {t : List Nat} (h : PriceT d t) : f_price_word [d] = some (.d (ds t)) ∧ f_law_price_word [d] = some (.d (ds t)) := by
  rcases h with ⟨rfl, rfl⟩ | ⟨n, h1, h2, rfl, rfl⟩
  · constructor <;> simp [f_price_word, b_price_word, f_law_price_word, b_law_price_word]
  · have hf := fStr_nat (n := n) (by omega)
    constructor <;> simp [-fStr_i, f_price_word, b_price_word, f_law_price_word, b_law_price_word, hf]
def NameT (t : List Nat) : Prop := WordT t ∨ ∃ a b, WordT a ∧ WordT b ∧ t = a ++ 43 :: b
theorem word_no {t : List Nat} (h : WordT t) {c : Nat} (hc : ¬ (Let c ∨ Fig c)) : c ∉ t := fun m => hc (h.all c m)
theorem name_parts {t : List Nat} (h : NameT t) : ∃ ps : List (List Nat), ps ≠ [] ∧ ps.length ≤ 2 ∧ (∀ p ∈ ps, WordT p) ∧ t = joinL [43] ps := by
  rcases h with h | ⟨a, b, ha, hb, rfl⟩
  · exact ⟨[t], by simp, by simp, by simpa using h, rfl⟩
  · exact ⟨[a, b], by simp, by simp, by simpa using ⟨ha, hb⟩, rfl⟩
theorem name_len {t : List Nat} (h : NameT t) : t.length ≤ 25 := by
  rcases h with h | ⟨a, b, ha, hb, rfl⟩
  · have := h.len; omega
  · have := ha.len; have := hb.len
    rw [List.length_append, List.length_cons]; omega
theorem name_all {t : List Nat} (h : NameT t) : ∀ c ∈ t, Let c ∨ Fig c ∨ c = 43 := by
  rcases h with h | ⟨a, b, ha, hb, rfl⟩
  · intro c hc
    rcases h.all c hc with z | z
    · exact .inl z
    · exact .inr (.inl z)
  · intro c hc
    rcases List.mem_append.mp hc with hc | hc
    · rcases ha.all c hc with z | z
      · exact .inl z
      · exact .inr (.inl z)
    · rcases List.mem_cons.mp hc with hc | hc
      · exact .inr (.inr hc)
      · rcases hb.all c hc with z | z
        · exact .inl z
        · exact .inr (.inl z)
theorem is_short_ok {t : List Nat} (h : NameT t) : f_is_short_name [ds t] = some (.d (.bool true)) := by
  have hl := name_len h
  have hs := szl
  obtain ⟨ps, h1, h2, h3, rfl⟩ := name_parts h
  have sp := splitD (s := 43) (by decide) (parts := ps) h1 fun p hp => word_no (h3 p hp) (by decide)
  have hlen : (joinL [43] ps).length + 2 ≤ sizeLine := by omega
  have h4 : ¬ (2 : Int) < (ps.length : Int) := by omega
  have loop : ∃ y', forS (gNm 2) (sIf (bNot (bUn truD (eCallP f_is_word (aCons (eNm 2) aNil)))) (sRet (eK (.bool false))) sNext) (ps.map ds) [.d (ds (joinL [43] ps)), .d (.list (ps.map ds)), .no] = some (.nx ([Sl.d (ds (joinL [43] ps)), .d (.list (ps.map ds)), .no].set 2 y')) := by
    refine forS_pass' fun x hx => ?_
    obtain ⟨l, hl, rfl⟩ := List.mem_map.mp hx
    simp [is_word_ok (h3 l hl)]
  obtain ⟨y', loop⟩ := loop
  simp only [f_is_short_name, b_is_short_name, runP_ap, startD_ap, List.length_cons, List.length_nil, if_true, List.map_cons, List.map_nil, List.replicate, Nat.sub_self, List.append_nil, sSeq_ap, sSet_ap, eFz_ap, oSplit_ap, eNm_ap, eK_ap, cs_plus, codes_mk]
  simp only [List.nil_append, List.cons_append, List.getElem?_cons_zero, Option.bind_some, codes_mk, List.length_cons, List.length_nil, sp]
  simp [hlen, h4] at loop ⊢
  simp [loop]
end DL

set_option Elab.async false
set_option linter.all false
set_option maxRecDepth 100000
set_option maxHeartbeats 4000000
namespace DL
open PySem PySem.Spec L2 TL

abbrev Ln := List Nat
/-- a bound for a text's length, found by instance -/
class Bd (x : Ln) (k : outParam Nat) : Prop where
  le : x.length ≤ k
instance bd_nil : Bd [] 0 := ⟨Nat.le_refl _⟩
instance bd_cons {c : Nat} {x : Ln} {k : Nat} [h : Bd x k] : Bd (c :: x) (k + 1) := ⟨Nat.succ_le_succ h.le⟩
instance bd_app {x y : Ln} {k l : Nat} [h : Bd x k] [h' : Bd y l] : Bd (x ++ y) (k + l) := ⟨by rw [List.length_append]; exact Nat.add_le_add h.le h'.le⟩
theorem dAdd_ok {x y : Ln} {k l : Nat} [h : Bd x k] [h' : Bd y l] (hk : k + l ≤ 16777216) : dAdd (ds x) (ds y) = some (ds (x ++ y)) := by
  have h1 := h.le
  have h2 := h'.le
  rw [dAdd_ss, codes_mk, codes_mk, if_pos (by rw [szl]; omega)]
theorem fLen_ok {x : Ln} {k : Nat} [h : Bd x k] (hk : k ≤ 16777216) : fLen [ds x] = some (.int x.length) := by
  have h1 := h.le
  rw [fLen_s, codes_mk, if_pos (by rw [szl]; omega)]
/-- the constants' words -/
theorem sp_none : cs " none" = 32 :: cs "none" := by decide
theorem sp_not_from : cs " not from " = 32 :: (cs "not" ++ 32 :: (cs "from" ++ [32])) := by decide
inductive CondT : D → List Ln → Prop
  | non {n : Ln} (h : NameT n) : CondT (.tuple [ds n, ds (cs "none")]) [n, cs "none"]
  | not {n v : Ln} (h : NameT n) (r : RelT v) : CondT (.tuple [ds n, ds (cs "not"), ds v]) [n, cs "not", cs "from", v]
  | frm {n v : Ln} (h : NameT n) (r : RelT v) : CondT (.tuple [ds n, ds (cs "from"), ds v]) [n, cs "from", v]
  | att {n v : Ln} (h : NameT n) (r : RelT v) : CondT (.tuple [ds n, ds (cs "at"), ds v]) [n, cs "at", v]
theorem rel_len {t : Ln} (h : RelT t) : t.length ≤ 12 := by
  rcases h with rfl | h
  · decide
  · exact ver_len h
theorem ne1 : cs "not" ≠ cs "none" := by decide
theorem ne2 : cs "from" ≠ cs "none" := by decide
theorem ne3 : cs "from" ≠ cs "not" := by decide
theorem ne4 : cs "at" ≠ cs "none" := by decide
theorem ne5 : cs "at" ≠ cs "not" := by decide
theorem ne6 : cs "at" ≠ cs "from" := by decide
theorem cond_read {d : D} {toks : List Ln} (h : CondT d toks) : f_read_condition [.list (toks.map ds), .bool false] = some (.d d) := by
  cases h with
  | non h => simp [f_read_condition, b_read_condition, List.replicate, atI, ixN, is_short_ok h]
  | not h r => simp [f_read_condition, b_read_condition, List.replicate, atI, ixN, is_short_ok h, is_release_ok r]
  | frm h r => simp [f_read_condition, b_read_condition, List.replicate, atI, ixN, is_short_ok h, is_release_ok r]
  | att h r => simp [f_read_condition, b_read_condition, List.replicate, atI, ixN, is_short_ok h, is_release_ok r]
instance bd_c3 : Bd (cs "from") 4 := ⟨by decide⟩
instance bd_c4 : Bd (cs "at") 2 := ⟨by decide⟩
instance bd_c5 : Bd (cs "none") 4 := ⟨by decide⟩
instance bd_c6 : Bd (cs "not") 3 := ⟨by decide⟩
theorem cond_words {d : D} {toks : List Ln} (h : CondT d toks) : f_condition_words [d] = some (.d (ds (joinL [32] toks))) ∧ f_law_condition_words [d] = some (.d (ds (joinL [32] toks))) := by
  cases h with
  | @non n h =>
    have l1 : Bd n 25 := ⟨name_len h⟩
    constructor <;> simp [-dAdd_ss, dAdd_ok, f_condition_words, b_condition_words, f_law_condition_words, b_law_condition_words, List.replicate, atI, ixN, joinL, sp_none]
  | @not n v h r =>
    have l1 : Bd n 25 := ⟨name_len h⟩
    have l2 : Bd v 12 := ⟨rel_len r⟩
    constructor <;> simp [-dAdd_ss, dAdd_ok, f_condition_words, b_condition_words, f_law_condition_words, b_law_condition_words, List.replicate, atI, ixN, joinL, ne1, sp_not_from]
  | @frm n v h r =>
    have l1 : Bd n 25 := ⟨name_len h⟩
    have l2 : Bd v 12 := ⟨rel_len r⟩
    constructor <;> simp [-dAdd_ss, dAdd_ok, f_condition_words, b_condition_words, f_law_condition_words, b_law_condition_words, List.replicate, atI, ixN, joinL, ne2, ne3]
  | @att n v h r =>
    have l1 : Bd n 25 := ⟨name_len h⟩
    have l2 : Bd v 12 := ⟨rel_len r⟩
    constructor <;> simp [-dAdd_ss, dAdd_ok, f_condition_words, b_condition_words, f_law_condition_words, b_law_condition_words, List.replicate, atI, ixN, joinL, ne4, ne5]
end DL

set_option Elab.async false
set_option linter.all false
set_option maxRecDepth 100000
set_option maxHeartbeats 4000000
namespace DL
open PySem PySem.Spec L2 TL

/-! ### tokens -/
abbrev Sg (c : Nat) : Prop := Let c ∨ Fig c ∨ c = 46 ∨ c = 44 ∨ c = 58 ∨ c = 43
structure TokB (t : Ln) : Prop where
  len : t.length ≤ 25
  ne : t ≠ []
  all : ∀ c ∈ t, Sg c
structure CTok (t : Ln) : Prop where
  b : TokB t
  nand : t ≠ cs "and"
  nor : t ≠ cs "or"
  ncom : t ≠ [44]
  ncol : t ≠ [58]
theorem kept_let : ∀ t ∈ keptL, ∀ c ∈ t, Let c := by decide
theorem word_tokB {t : Ln} (h : WordT t) : TokB t := by
  refine ⟨by have := h.len; omega, ?_, fun c hc => ?_⟩
  · obtain ⟨c, r, rfl, _⟩ := h.head
    exact List.cons_ne_nil _ _
  · rcases h.all c hc with z | z
    · exact .inl z
    · exact .inr (.inl z)
theorem name_tokB {t : Ln} (h : NameT t) : TokB t := by
  refine ⟨name_len h, ?_, fun c hc => ?_⟩
  · rcases h with h | ⟨a, b, _, _, rfl⟩
    · exact (word_tokB h).ne
    · simp
  · rcases name_all h c hc with z | z | z
    · exact .inl z
    · exact .inr (.inl z)
    · exact .inr (.inr (.inr (.inr (.inr z))))
theorem name_kept {t : Ln} (h : NameT t) : t ∉ keptL := by
  rcases h with h | ⟨a, b, _, _, rfl⟩
  · exact h.free
  · intro hk
    have := kept_let _ hk 43 (by simp)
    exact absurd this (by decide)
theorem name_no {t : Ln} (h : NameT t) {c : Nat} (hc : ¬ (Let c ∨ Fig c ∨ c = 43)) : c ∉ t := fun m => hc (name_all h c m)
theorem name_ctok {t : Ln} (h : NameT t) : CTok t := by
  refine ⟨name_tokB h, ?_, ?_, ?_, ?_⟩
  · rintro rfl; exact name_kept h (by decide)
  · rintro rfl; exact name_kept h (by decide)
  · rintro rfl; exact name_no h (c := 44) (by decide) (by decide)
  · rintro rfl; exact name_no h (c := 58) (by decide) (by decide)
theorem ver_tokB {t : Ln} (h : VerT t) : TokB t := by
  refine ⟨by have := ver_len h; omega, ?_, fun c hc => ?_⟩
  · obtain ⟨c, r, rfl, _⟩ := ver_ne h
    exact List.cons_ne_nil _ _
  · rcases ver_all h c hc with z | z
    · exact .inr (.inl z)
    · exact .inr (.inr (.inl z))
theorem ver_no {t : Ln} (h : VerT t) {c : Nat} (hc : ¬ (Fig c ∨ c = 46)) : c ∉ t := fun m => hc (ver_all h c m)
theorem on_ctok : CTok (cs "on") := ⟨⟨by decide, by decide, by decide⟩, by decide, by decide, by decide, by decide⟩
theorem rel_ctok {t : Ln} (h : RelT t) : CTok t := by
  rcases h with rfl | h
  · exact on_ctok
  · refine ⟨ver_tokB h, ?_, ?_, ?_, ?_⟩
    · rintro rfl; exact ver_no h (c := 97) (by decide) (by decide)
    · rintro rfl; exact ver_no h (c := 111) (by decide) (by decide)
    · rintro rfl; exact ver_no h (c := 44) (by decide) (by decide)
    · rintro rfl; exact ver_no h (c := 58) (by decide) (by decide)
theorem cond_toks {d : D} {toks : List Ln} (h : CondT d toks) : (∀ t ∈ toks, CTok t) ∧ toks ≠ [] ∧ toks.length ≤ 4 := by
  have k1 : CTok (cs "none") := ⟨⟨by decide, by decide, by decide⟩, by decide, by decide, by decide, by decide⟩
  have k2 : CTok (cs "not") := ⟨⟨by decide, by decide, by decide⟩, by decide, by decide, by decide, by decide⟩
  have k3 : CTok (cs "from") := ⟨⟨by decide, by decide, by decide⟩, by decide, by decide, by decide, by decide⟩
  have k4 : CTok (cs "at") := ⟨⟨by decide, by decide, by decide⟩, by decide, by decide, by decide, by decide⟩
  cases h with
  | non h => exact ⟨by simpa using ⟨name_ctok h, k1⟩, by simp, by simp⟩
  | not h r => exact ⟨by simpa using ⟨name_ctok h, k2, k3, rel_ctok r⟩, by simp, by simp⟩
  | frm h r => exact ⟨by simpa using ⟨name_ctok h, k3, rel_ctok r⟩, by simp, by simp⟩
  | att h r => exact ⟨by simpa using ⟨name_ctok h, k4, rel_ctok r⟩, by simp, by simp⟩

/-! ### split_tokens -/
def joinT {α : Type} (m : α) : List (List α) → List α
  | [] => []
  | [p] => p
  | p :: q :: r => p ++ m :: joinT m (q :: r)
abbrev sk (l : Ln) : Str := ⟨l.toArray⟩
theorem splitL_free {m : Str} : ∀ (p : List Str), (∀ t ∈ p, t ≠ m) → ∀ rest acc cur, splitL m (p ++ rest) acc cur = splitL m rest acc (cur ++ p)
  | [], _, rest, acc, cur => by simp
  | t :: r, h, rest, acc, cur => by
    have h1 := h t List.mem_cons_self
    rw [List.cons_append, splitL, if_neg h1, splitL_free r (fun x hx => h x (List.mem_cons_of_mem _ hx))]
    simp
theorem splitL_join {m : Str} : ∀ (pss : List (List Str)), pss ≠ [] → (∀ p ∈ pss, ∀ t ∈ p, t ≠ m) → ∀ acc, splitL m (joinT m pss) acc [] = acc ++ pss
  | [p], _, h, acc => by
    have := splitL_free (m := m) p (h p List.mem_cons_self) [] acc []
    rw [List.append_nil] at this
    rw [joinT, this]
    simp [splitL]
  | p :: q :: r, _, h, acc => by
    rw [joinT, splitL_free p (h p List.mem_cons_self), splitL, if_pos rfl, splitL_join (q :: r) (by simp) (fun x hx => h x (List.mem_cons_of_mem _ hx))]
    simp
theorem joinT_map {α β : Type} {f : α → β} {m : α} : ∀ pss : List (List α), (joinT m pss).map f = joinT (f m) (pss.map (·.map f))
  | [] => rfl
  | [p] => rfl
  | p :: q :: r => by
    show (p ++ m :: joinT m (q :: r)).map f = p.map f ++ f m :: joinT (f m) ((q :: r).map (·.map f))
    rw [List.map_append, List.map_cons, joinT_map (q :: r)]
theorem sk_ne {a b : Ln} (h : a ≠ b) : sk a ≠ sk b := fun e => h (by simpa using congrArg codes e)
theorem split_ok {m : Ln} {pss : List (List Ln)} (h : pss ≠ []) (hp : ∀ p ∈ pss, ∀ t ∈ p, t ≠ m) (hl : (joinT m pss).length ≤ 100000) :
    f_split_tokens [.list ((joinT m pss).map ds), ds m] = some (.d (.list (pss.map fun p => .list (p.map ds)))) := by
  show (strsOf ((joinT m pss).map ds)).bind _ = _
  have ej := joinT_map (f := fun l : Ln => (⟨l.toArray⟩ : Str)) (m := m) pss
  rw [strsOf_ds, Option.bind_some, List.length_map, if_pos hl, ej, splitL_join (m := ⟨m.toArray⟩)]
  · rw [List.nil_append, List.map_map]
    congr 4
    funext p
    simp [List.map_map, Function.comp_def]
  · simpa using h
  · intro p hp' t ht
    obtain ⟨p0, h0, rfl⟩ := List.mem_map.mp hp'
    obtain ⟨t0, h1, rfl⟩ := List.mem_map.mp ht
    exact sk_ne (hp p0 h0 t0 h1)

/-! ### joined words of joined tokens -/
theorem joinL_app {m : Ln} : ∀ {p q : List Ln}, p ≠ [] → q ≠ [] → joinL m (p ++ q) = joinL m p ++ m ++ joinL m q
  | [a], b :: r, _, _ => by
    show a ++ (m ++ joinL m (b :: r)) = _
    rw [List.append_assoc]
    rfl
  | a :: b :: r, q, _, hq => by
    show a ++ (m ++ joinL m ((b :: r) ++ q)) = (a ++ (m ++ joinL m (b :: r))) ++ m ++ joinL m q
    rw [joinL_app (p := b :: r) (by simp) hq]
    simp only [List.append_assoc]
theorem joinL_cons {m a : Ln} {q : List Ln} (h : q ≠ []) : joinL m (a :: q) = a ++ m ++ joinL m q := joinL_app (p := [a]) (by simp) h
theorem joinT_ne {α : Type} {m : α} : ∀ {pss : List (List α)}, pss ≠ [] → (∀ p ∈ pss, p ≠ []) → joinT m pss ≠ []
  | [p], _, h => h p List.mem_cons_self
  | p :: q :: r, _, h => by
    show p ++ m :: joinT m (q :: r) ≠ []
    simp
theorem joinL_joinT {m : Ln} : ∀ {pss : List (List Ln)}, pss ≠ [] → (∀ p ∈ pss, p ≠ []) → joinL [32] (joinT m pss) = joinL (32 :: (m ++ [32])) (pss.map (joinL [32]))
  | [p], _, h => rfl
  | p :: q :: r, _, h => by
    have h1 := h p List.mem_cons_self
    have h2 : joinT m (q :: r) ≠ [] := joinT_ne (by simp) fun x hx => h x (List.mem_cons_of_mem _ hx)
    show joinL [32] (p ++ m :: joinT m (q :: r)) = joinL [32] p ++ (32 :: (m ++ [32]) ++ joinL (32 :: (m ++ [32])) ((q :: r).map (joinL [32])))
    rw [joinL_app h1 (by simp), joinL_cons h2, joinL_joinT (pss := q :: r) (by simp) fun x hx => h x (List.mem_cons_of_mem _ hx)]
    simp
theorem mem_joinT {α : Type} {m t : α} : ∀ {pss : List (List α)}, t ∈ joinT m pss → t = m ∨ ∃ p ∈ pss, t ∈ p
  | [p], h => .inr ⟨p, List.mem_cons_self, h⟩
  | p :: q :: r, h => by
    have h' : t ∈ p ++ m :: joinT m (q :: r) := h
    rcases List.mem_append.mp h' with h | h
    · exact .inr ⟨p, List.mem_cons_self, h⟩
    · rcases List.mem_cons.mp h with h | h
      · exact .inl h
      · rcases mem_joinT h with h | ⟨x, hx, ht⟩
        · exact .inl h
        · exact .inr ⟨x, List.mem_cons_of_mem _ hx, ht⟩
theorem joinT_len {α : Type} {m : α} {k : Nat} : ∀ {pss : List (List α)}, (∀ p ∈ pss, p.length ≤ k) → (joinT m pss).length ≤ pss.length * (k + 1)
  | [], _ => Nat.zero_le _
  | [p], h => by
    have := h p List.mem_cons_self
    show p.length ≤ 1 * (k + 1)
    omega
  | p :: q :: r, h => by
    have h1 := h p List.mem_cons_self
    have h2 := joinT_len (m := m) (k := k) (pss := q :: r) fun x hx => h x (List.mem_cons_of_mem _ hx)
    show (p ++ m :: joinT m (q :: r)).length ≤ (r.length + 1 + 1) * (k + 1)
    rw [List.length_append, List.length_cons, Nat.add_mul (r.length + 1)]
    simp only [List.length_cons] at h2
    omega

/-! ### many conditions -/
structure Conds (cds : List (D × List Ln)) (lo hi : Nat) : Prop where
  all : ∀ c ∈ cds, CondT c.1 c.2
  lo : lo ≤ cds.length
  hi : cds.length ≤ hi
abbrev ctoks (m : Ln) (cds : List (D × List Ln)) : List Ln := joinT m (cds.map Prod.snd)
abbrev cdat (cds : List (D × List Ln)) : D := .tuple (cds.map Prod.fst)
theorem cond_notN {d : D} {toks : List Ln} (h : CondT d toks) : dIsN d = some false := by
  cases h <;> rfl
theorem read_conds_loop {a b c d e : Sl} : ∀ (cds : List (D × List Ln)), (∀ x ∈ cds, CondT x.1 x.2) → ∀ (acc : List D) (y z : Sl), acc.length + cds.length < 10000 → ∃ y' z',
    forS (gNm 6) (sSeq (sSet 7 (eCallP f_read_condition (aCons (eNm 6) (aCons (eK (.bool false)) aNil))))
  (sSeq (sIf (bUn dIsN (eNm 7))
  (sRet (eK .none))
  sNext)
  (sApp 5 (eNm 7)))) (cds.map fun x => .list (x.2.map ds)) [a, b, c, d, e, .own acc, y, z] = some (.nx [a, b, c, d, e, .own (acc ++ cds.map Prod.fst), y', z'])
  | [], _, acc, y, z, _ => ⟨y, z, by simp⟩
  | x :: r, h, acc, y, z, hl => by
    have hx := h x List.mem_cons_self
    have hN : dIsN x.1 = some false := cond_notN hx
    simp only [List.length_cons] at hl
    obtain ⟨y', z', e⟩ := read_conds_loop r (fun q hq => h q (List.mem_cons_of_mem _ hq)) (acc ++ [x.1]) (.d (.list (x.2.map ds))) (.d x.1) (by simp; omega)
    refine ⟨y', z', ?_⟩
    rw [List.map_cons, forS_cons]
    have hacc : acc.length < 16000000 := by omega
    simp [cond_read hx, hN, hacc]
    rw [e]
    simp
theorem read_conds_ok {m : Ln} {cds : List (D × List Ln)} {lo hi : Nat} (h : Conds cds lo hi) (h1 : 1 ≤ lo) (h6 : hi ≤ 6) (hm : ∀ t, CTok t → t ≠ m) :
    f_read_conditions [.list ((ctoks m cds).map ds), ds m, .int lo, .int hi] = some (.d (cdat cds)) := by
  have hlo := h.lo
  have hhi := h.hi
  have hsp := split_ok (m := m) (pss := cds.map Prod.snd) (by
    intro e
    have := congrArg List.length e
    simp at this
    simp [this] at hlo
    omega) (fun p hp t ht => by
      obtain ⟨c, hc, rfl⟩ := List.mem_map.mp hp
      exact hm t ((cond_toks (h.all c hc)).1 t ht)) (by
      have := joinT_len (m := m) (k := 4) (pss := cds.map Prod.snd) fun p hp => by
        obtain ⟨c, hc, rfl⟩ := List.mem_map.mp hp
        exact (cond_toks (h.all c hc)).2.2
      rw [List.length_map] at this
      omega)
  rw [List.map_map] at hsp
  obtain ⟨y', z', e⟩ := read_conds_loop (a := .d (.list ((ctoks m cds).map ds))) (b := .d (ds m)) (c := .d (.int lo)) (d := .d (.int hi)) (e := .d (.list (cds.map ((fun p => PyData.list (p.map ds)) ∘ Prod.snd)))) cds h.all [] .no .no (by simp; omega)
  have g1 : (lo : Int) ≤ cds.length := by omega
  have g2 : (cds.length : Int) ≤ hi := by omega
  have e' : (cds.map ((fun p => PyData.list (p.map ds)) ∘ Prod.snd)) = cds.map fun x => PyData.list (x.2.map ds) := rfl
  rw [e'] at hsp e
  simp only [f_read_conditions, b_read_conditions, runP_ap, startD_ap, List.length_cons, List.length_nil, if_true, List.map_cons, List.map_nil, List.replicate, Nat.sub_self, List.append_nil, sSeq_ap, sSet_ap, eCallP_ap, aCons_ap, aNil_ap, eNm_ap, List.nil_append, List.cons_append, List.getElem?_cons_zero, List.getElem?_cons_succ, Option.bind_some, Option.map_some, hsp, Nat.reduceSub, Nat.reduceAdd, List.set_cons_succ, List.set_cons_zero]
  simp [g1, g2]
  simp at e
  simp [e]
end DL

set_option Elab.async false
set_option linter.all false
set_option maxRecDepth 100000
set_option maxHeartbeats 4000000
namespace DL
open PySem PySem.Spec L2 TL

/-! ### comprehensions that change nothing -/
theorem compS_pure {i : Nat} {f : ES} {st : List Sl} {g : D → D} : ∀ {items : List D}, (∀ x ∈ items, f (st.set i (.d x)) = some (g x, st.set i (.d x))) → compS i bYes f items (st.set i .no) = some (items.map g, st.set i .no)
  | [], _ => rfl
  | x :: r, h => by
    have e := compS_pure (items := r) fun z hz => h z (List.mem_cons_of_mem _ hz)
    rw [compS_cons, List.set_set, bYes_ap, Option.bind_some]
    show (f (st.set i (.d x))).bind _ = _
    rw [h x List.mem_cons_self, Option.bind_some]
    show (compS i bYes f r ((st.set i (.d x)).set i .no)).map _ = _
    rw [List.set_set, e]
    rfl
theorem compS_map {α : Type} {i : Nat} {f : ES} {st : List Sl} {a : α → D} {b : α → D} : ∀ {items : List α}, (∀ x ∈ items, f (st.set i (.d (a x))) = some (b x, st.set i (.d (a x)))) → compS i bYes f (items.map a) (st.set i .no) = some (items.map b, st.set i .no)
  | [], _ => rfl
  | x :: r, h => by
    have e := compS_map (items := r) fun z hz => h z (List.mem_cons_of_mem _ hz)
    rw [List.map_cons, compS_cons, List.set_set, bYes_ap, Option.bind_some]
    show (f (st.set i (.d (a x)))).bind _ = _
    rw [h x List.mem_cons_self, Option.bind_some]
    show (compS i bYes f (r.map a) ((st.set i (.d (a x))).set i .no)).map _ = _
    rw [List.set_set, e]
    rfl
theorem sum_le {k : Nat} : ∀ {ls : List Ln}, (∀ l ∈ ls, l.length ≤ k) → (ls.map List.length).sum ≤ ls.length * k
  | [], _ => Nat.zero_le _
  | l :: r, h => by
    have h1 := h l List.mem_cons_self
    have h2 := sum_le (ls := r) fun x hx => h x (List.mem_cons_of_mem _ hx)
    rw [List.map_cons, List.sum_cons, List.length_cons, Nat.add_mul]
    omega
theorem dJoin_lk {m : Ln} {parts : List Ln} (k : Nat) (h : ∀ p ∈ parts, p.length ≤ k) (hk : parts.length * (k + m.length) ≤ 16777216) : dJoin (ds m) (.list (parts.map ds)) = some (ds (joinL m parts)) := by
  refine dJoin_l ?_
  have := sum_le h
  rw [Nat.mul_add] at hk
  omega
theorem dJoin_tk {m : Ln} {parts : List Ln} (k : Nat) (h : ∀ p ∈ parts, p.length ≤ k) (hk : parts.length * (k + m.length) ≤ 16777216) : dJoin (ds m) (.tuple (parts.map ds)) = some (ds (joinL m parts)) := dJoin_lk k h hk

/-! ### items at known places -/
theorem at_n {α : Type} {xs : List α} (n : Nat) : atI xs (n : Int) = xs[n]? := by
  unfold atI ixN
  rw [if_pos (by omega)]
  by_cases h : n < xs.length
  · rw [if_pos (by omega)]
    simp
  · rw [if_neg (by omega), List.getElem?_eq_none (by omega)]
    rfl
theorem at_0 {α : Type} {xs : List α} : atI xs 0 = xs[0]? := at_n 0
theorem at_1 {α : Type} {xs : List α} : atI xs 1 = xs[1]? := at_n 1
theorem at_2 {α : Type} {xs : List α} : atI xs 2 = xs[2]? := at_n 2
theorem at_3 {α : Type} {xs : List α} : atI xs 3 = xs[3]? := at_n 3
theorem at_4 {α : Type} {xs : List α} : atI xs 4 = xs[4]? := at_n 4
theorem at_5 {α : Type} {xs : List α} : atI xs 5 = xs[5]? := at_n 5
theorem at_6 {α : Type} {xs : List α} : atI xs 6 = xs[6]? := at_n 6
theorem at_7 {α : Type} {xs : List α} : atI xs 7 = xs[7]? := at_n 7
theorem at_8 {α : Type} {xs : List α} : atI xs 8 = xs[8]? := at_n 8
theorem at_l {α : Type} {xs : List α} {x : α} : atI (xs ++ [x]) (-1) = some x := by
  unfold atI ixN
  rw [if_neg (by decide), if_pos (by rw [List.length_append]; simp only [List.length_cons, List.length_nil]; omega)]
  have : ((-1 : Int) + ((xs ++ [x]).length : Int)).toNat = xs.length := by
    rw [List.length_append]
    simp only [List.length_cons, List.length_nil]
    omega
  rw [this]
  simp

/-! ### slices -/
theorem cut_from {α : Type} (xs : List α) (k : Nat) : cutD xs (some (k : Int)) none = xs.drop k := by
  unfold cutD
  rw [HT.sIx_nat, HT.sIx_none]
  by_cases h : k ≤ xs.length
  · rw [Nat.min_eq_left h, List.take_of_length_le (by rw [List.length_drop]; omega)]
  · rw [Nat.min_eq_right (by omega), List.drop_eq_nil_of_le (Nat.le_refl _), List.drop_eq_nil_of_le (by omega)]
    simp
theorem cut_to {α : Type} (xs : List α) (k : Nat) : cutD xs none (some (k : Int)) = xs.take k := by
  unfold cutD
  rw [HT.sIx_nat, HT.sIx_none, List.drop_zero, Nat.sub_zero]
  by_cases h : k ≤ xs.length
  · rw [Nat.min_eq_left h]
  · rw [Nat.min_eq_right (by omega), List.take_of_length_le (Nat.le_refl _), List.take_of_length_le (by omega)]
theorem cut_last {α : Type} (xs : List α) (x : α) : cutD (xs ++ [x]) none (some (-1)) = xs := by
  unfold cutD
  rw [HT.sIx_none, List.drop_zero, Nat.sub_zero]
  have : HT.sIx (xs ++ [x]).length (xs ++ [x]).length (some (-1)) = xs.length := by
    show (if (-1 : Int) < 0 then ((-1 : Int) + ((xs ++ [x]).length : Int)).toNat else min (-1 : Int).toNat (xs ++ [x]).length) = xs.length
    rw [if_pos (by decide), List.length_append]
    simp only [List.length_cons, List.length_nil]
    omega
  rw [this, List.take_left']
  rfl
theorem dSl_from {xs : List D} (k : Nat) : dSl (.list xs) (some (k : Int)) none = some (.list (xs.drop k)) := by
  show some (PyData.list (cutD xs (some (k : Int)) none)) = _
  rw [cut_from]
theorem dSl_to {xs : List D} (k : Nat) : dSl (.list xs) none (some (k : Int)) = some (.list (xs.take k)) := by
  show some (PyData.list (cutD xs none (some (k : Int)))) = _
  rw [cut_to]
theorem dSl_1 {xs : List D} : dSl (.list xs) (some 1) none = some (.list (xs.drop 1)) := dSl_from 1
theorem dSl_3 {xs : List D} : dSl (.list xs) (some 3) none = some (.list (xs.drop 3)) := dSl_from 3
theorem dSl_4 {xs : List D} : dSl (.list xs) (some 4) none = some (.list (xs.drop 4)) := dSl_from 4
theorem dSl_l {xs : List D} {x : D} : dSl (.list (xs ++ [x])) none (some (-1)) = some (.list xs) := by
  show some (PyData.list (cutD (xs ++ [x]) none (some (-1)))) = _
  rw [cut_last]
theorem strOk_sg {t : Ln} (h : ∀ c ∈ t, Sg c) : PyData.strOk ⟨t.toArray⟩ = true := by
  show (t.toArray.all (· < 0x110000)) = true
  rw [List.all_toArray, List.all_eq_true]
  intro c hc
  have hg := h c hc
  have : c ≤ 122 := by
    simp only [Sg, Let, Fig] at hg
    omega
  exact decide_eq_true (by omega)
theorem can_toks : ∀ {toks : List Ln}, (∀ t ∈ toks, TokB t) → PyData.canLayAll0 (toks.map ds) = true
  | [], _ => rfl
  | t :: r, h => by
    show (PyData.canLay0 (ds t) && PyData.canLayAll0 (r.map ds)) = true
    rw [can_toks fun x hx => h x (List.mem_cons_of_mem _ hx), Bool.and_true]
    exact strOk_sg (h t List.mem_cons_self).all
theorem dep_toks : ∀ (toks : List Ln), PyData.depthAll (toks.map ds) ≤ 1
  | [] => Nat.zero_le _
  | t :: r => by
    show max (PyData.depth (ds t)) (PyData.depthAll (r.map ds)) ≤ 1
    have h1 := dep_toks r
    have h2 : PyData.depth (ds t) ≤ 1 := by
      show PyData.depth (.str ⟨t.toArray⟩) ≤ 1
      simp [PyData.depth]
    omega
theorem shaped_toks {toks : List Ln} (h : ∀ t ∈ toks, TokB t) : SeqAt.shaped (.list (toks.map ds)) = true := by
  unfold SeqAt.shaped
  rw [Bool.and_eq_true]
  refine ⟨?_, decide_eq_true ?_⟩
  · show PyData.canLayAll0 (toks.map ds) = true
    exact can_toks h
  · show PyData.depthAll (toks.map ds) + 1 ≤ 64
    have := dep_toks toks
    omega
theorem dEq_toks {toks : List Ln} (h : ∀ t ∈ toks, TokB t) (hne : toks ≠ []) : dEq (.list (toks.map ds)) (.list []) = some false := by
  have h1 := shaped_toks h
  cases toks with
  | nil => exact absurd rfl hne
  | cons t r =>
    show (if (SeqAt.shaped (.list ((t :: r).map ds)) && SeqAt.shaped (.list [])) = true then some (PyData.eqv (.list ((t :: r).map ds)) (.list [])) else none) = some false
    rw [h1, if_pos (by rfl)]
    rfl

/-! ### the words of many conditions -/
abbrev cw (x : D × List Ln) : Ln := joinL [32] x.2
theorem cw_len {x : D × List Ln} (h : CondT x.1 x.2) : (cw x).length ≤ 104 := by
  have h1 := (cond_toks h)
  have h2 := joinL_len (m := [32]) (k := 25) (ps := x.2) fun p hp => (h1.1 p hp).b.len
  have h3 := h1.2.2
  simp only [List.length_cons, List.length_nil] at h2
  have : x.2.length * 26 ≤ 4 * 26 := Nat.mul_le_mul_right _ h3
  show (joinL [32] x.2).length ≤ 104
  omega
theorem many_join {m : Ln} {cds : List (D × List Ln)} (h : ∀ c ∈ cds, CondT c.1 c.2) (hl : cds.length ≤ 10) (hm : m.length ≤ 10) : dJoin (ds m) (.list ((cds.map cw).map ds)) = some (ds (joinL m (cds.map cw))) := by
  refine dJoin_lk 104 (fun p hp => ?_) ?_
  · obtain ⟨c, hc, rfl⟩ := List.mem_map.mp hp
    exact cw_len (h c hc)
  · rw [List.length_map]
    exact Nat.le_trans (Nat.mul_le_mul hl (Nat.add_le_add_left hm _)) (by decide)
theorem many_ok {m : Ln} {cds : List (D × List Ln)} (h : ∀ c ∈ cds, CondT c.1 c.2) (hl : cds.length ≤ 10) (hm : m.length ≤ 10) : f_many_words [cdat cds, ds m] = some (.d (ds (joinL m (cds.map cw)))) := by
  have e := compS_map (i := 2) (f := eCallP f_condition_words (aCons (eNm 2) aNil)) (st := [.d (cdat cds), .d (ds m), .no]) (a := Prod.fst) (b := fun x => ds (cw x)) (items := cds) fun x hx => by
    simp [(cond_words (h x hx)).1]
  simp at e
  have hj := many_join h hl hm
  have h6 : cds.length ≤ 1000000 := by omega
  rw [List.map_map] at hj
  simp [f_many_words, b_many_words, List.replicate, e, h6]
  have hj2 : dJoin (ds m) (.list (cds.map fun x => ds (cw x))) = some (ds (joinL m (cds.map cw))) := hj
  rw [hj2]
  rfl
theorem many_len {m : Ln} {cds : List (D × List Ln)} (h : ∀ c ∈ cds, CondT c.1 c.2) (hl : cds.length ≤ 10) (hm : m.length ≤ 10) : (joinL m (cds.map cw)).length ≤ 1140 := by
  have := joinL_len (m := m) (k := 104) (ps := cds.map cw) fun p hp => by
    obtain ⟨c, hc, rfl⟩ := List.mem_map.mp hp
    exact cw_len (h c hc)
  rw [List.length_map] at this
  exact Nat.le_trans this (Nat.le_trans (Nat.mul_le_mul hl (Nat.add_le_add_left hm _)) (by decide))
theorem many_toks {m : Ln} {cds : List (D × List Ln)} (h : ∀ c ∈ cds, CondT c.1 c.2) (hne : cds ≠ []) : joinL [32] (ctoks m cds) = joinL (32 :: (m ++ [32])) (cds.map cw) := by
  rw [joinL_joinT (by simpa using hne) fun p hp => by
    obtain ⟨c, hc, rfl⟩ := List.mem_map.mp hp
    exact (cond_toks (h c hc)).2.1, List.map_map]
  rfl
theorem ctoks_ne {m : Ln} {cds : List (D × List Ln)} (h : ∀ c ∈ cds, CondT c.1 c.2) (hne : cds ≠ []) : ctoks m cds ≠ [] := joinT_ne (by simpa using hne) fun p hp => by
    obtain ⟨c, hc, rfl⟩ := List.mem_map.mp hp
    exact (cond_toks (h c hc)).2.1
theorem ctoks_len {m : Ln} {cds : List (D × List Ln)} (h : ∀ c ∈ cds, CondT c.1 c.2) : (ctoks m cds).length ≤ cds.length * 5 := by
  have := joinT_len (m := m) (k := 4) (pss := cds.map Prod.snd) fun p hp => by
        obtain ⟨c, hc, rfl⟩ := List.mem_map.mp hp
        exact (cond_toks (h c hc)).2.2
  rw [List.length_map] at this
  omega
theorem ctoks_mem {m t : Ln} {cds : List (D × List Ln)} (h : ∀ c ∈ cds, CondT c.1 c.2) (ht : t ∈ ctoks m cds) : t = m ∨ CTok t := by
  rcases mem_joinT ht with h1 | ⟨p, hp, h1⟩
  · exact .inl h1
  · obtain ⟨c, hc, rfl⟩ := List.mem_map.mp hp
    exact .inr ((cond_toks (h c hc)).1 t h1)
inductive FormT : D → List Ln → Prop
  | need {A B : List (D × List Ln)} (a : Conds A 1 4) (b : Conds B 1 6) : FormT (.tuple [ds (cs "need"), cdat A, cdat B]) (cs "need" :: (ctoks (cs "and") A ++ [58] :: ctoks (cs "or") B))
  | cnt {k : Ln} {n : Nat} {C : List (D × List Ln)} (hk : k = cs "most" ∨ k = cs "least") (hn : n ≤ 6) (c : Conds C 1 6) : FormT (.tuple [ds k, .int n, cdat C]) (k :: numL n :: cs "of" :: ctoks [44] C)
  | cl {C : List (D × List Ln)} (c : Conds C 2 6) : FormT (.tuple [ds (cs "clash"), cdat C]) (cs "clash" :: ctoks [44] C)
  | ei {C : List (D × List Ln)} (c : Conds C 1 6) : FormT (.tuple [ds (cs "either"), cdat C]) (cs "either" :: ctoks [44] C)
  | same {a b : D × List Ln} (h : CondT a.1 a.2) (h' : CondT b.1 b.2) : FormT (.tuple [ds (cs "same"), a.1, b.1]) (cs "same" :: ctoks [44] [a, b])
theorem conds_ne {A : List (D × List Ln)} {lo hi : Nat} (h : Conds A lo hi) (h1 : 1 ≤ lo) : A ≠ [] := by
  rintro rfl
  have := h.lo
  simp at this
  omega
theorem read_need_ok {A B : List (D × List Ln)} (a : Conds A 1 4) (b : Conds B 1 6) : f_read_need [.list ((ctoks (cs "and") A ++ [58] :: ctoks (cs "or") B).map ds)] = some (.d (.tuple [ds (cs "need"), cdat A, cdat B])) := by
  have la := ctoks_len (m := cs "and") a.all
  have lb := ctoks_len (m := cs "or") b.all
  have h1 := a.hi
  have h2 := b.hi
  have hsp := split_ok (m := [58]) (pss := [ctoks (cs "and") A, ctoks (cs "or") B]) (by simp) (fun p hp t ht => by
    simp at hp
    rcases hp with rfl | rfl
    · rcases ctoks_mem a.all ht with rfl | h
      · decide
      · exact h.ncol
    · rcases ctoks_mem b.all ht with rfl | h
      · decide
      · exact h.ncol) (by
    show (ctoks (cs "and") A ++ [58] :: ctoks (cs "or") B).length ≤ _
    rw [List.length_append, List.length_cons]
    omega)
  have r1 := read_conds_ok (m := cs "and") a (by decide) (by decide) fun t h => h.nand
  have r2 := read_conds_ok (m := cs "or") b (by decide) (by decide) fun t h => h.nor
  have e : joinT [58] [ctoks (cs "and") A, ctoks (cs "or") B] = ctoks (cs "and") A ++ [58] :: ctoks (cs "or") B := rfl
  rw [e] at hsp
  simp only [f_read_need, b_read_need, runP_ap, startD_ap, List.length_cons, List.length_nil, if_true, List.map_cons, List.map_nil, List.replicate, Nat.sub_self, List.append_nil, sSeq_ap, sSet_ap, eCallP_ap, aCons_ap, aNil_ap, eNm_ap, eK_ap, List.nil_append, List.cons_append, List.getElem?_cons_zero, List.getElem?_cons_succ, Option.bind_some, Option.map_some, Nat.reduceSub, Nat.reduceAdd, List.set_cons_succ, List.set_cons_zero, cs_colon, hsp]
  simp at r1 r2
  simp [atI, ixN, r1, r2]
theorem form_toks {d : D} {toks : List Ln} (h : FormT d toks) : (∀ t ∈ toks, TokB t) ∧ toks ≠ [] := by
  have tm {m : Ln} (hm : TokB m) {A : List (D × List Ln)} (h : ∀ c ∈ A, CondT c.1 c.2) : ∀ t ∈ ctoks m A, TokB t := fun t ht => by
    rcases ctoks_mem h ht with rfl | h
    · exact hm
    · exact h.b
  have t1 : TokB (cs "and") := ⟨by decide, by decide, by decide⟩
  have t2 : TokB (cs "or") := ⟨by decide, by decide, by decide⟩
  have t3 : TokB [44] := ⟨by decide, by decide, by decide⟩
  have t4 : TokB [58] := ⟨by decide, by decide, by decide⟩
  have t5 : TokB (cs "of") := ⟨by decide, by decide, by decide⟩
  cases h with
  | @need A B a b =>
    refine ⟨fun t ht => ?_, List.cons_ne_nil _ _⟩
    rcases List.mem_cons.mp ht with rfl | ht
    · exact ⟨by decide, by decide, by decide⟩
    · rcases List.mem_append.mp ht with ht | ht
      · exact tm t1 a.all t ht
      · rcases List.mem_cons.mp ht with rfl | ht
        · exact t4
        · exact tm t2 b.all t ht
  | @cnt k n C hk hn c =>
    refine ⟨fun t ht => ?_, List.cons_ne_nil _ _⟩
    rcases List.mem_cons.mp ht with rfl | ht
    · rcases hk with rfl | rfl <;> exact ⟨by decide, by decide, by decide⟩
    · rcases List.mem_cons.mp ht with rfl | ht
      · exact ⟨by have := num_len (n := n) (by omega); omega, numL_ne n, fun c hc => .inr (.inl (num_fig hc))⟩
      · rcases List.mem_cons.mp ht with rfl | ht
        · exact t5
        · exact tm t3 c.all t ht
  | @cl C c =>
    refine ⟨fun t ht => ?_, List.cons_ne_nil _ _⟩
    rcases List.mem_cons.mp ht with rfl | ht
    · exact ⟨by decide, by decide, by decide⟩
    · exact tm t3 c.all t ht
  | @ei C c =>
    refine ⟨fun t ht => ?_, List.cons_ne_nil _ _⟩
    rcases List.mem_cons.mp ht with rfl | ht
    · exact ⟨by decide, by decide, by decide⟩
    · exact tm t3 c.all t ht
  | @same a b h h' =>
    refine ⟨fun t ht => ?_, List.cons_ne_nil _ _⟩
    rcases List.mem_cons.mp ht with rfl | ht
    · exact ⟨by decide, by decide, by decide⟩
    · exact tm t3 (A := [a, b]) (by simpa using ⟨h, h'⟩) t ht
theorem read_form_ok {d : D} {toks : List Ln} (h : FormT d toks) : f_read_form [.list (toks.map ds)] = some (.d d) := by
  have hne := dEq_toks (form_toks h).1 (form_toks h).2
  cases h with
  | @need A B a b =>
    simp only [List.map_cons, List.map_append] at hne
    have hr := read_need_ok a b
    simp at hr
    simp [f_read_form, b_read_form, List.replicate, at_0, at_1, at_2, at_3, hne, dSl_1, hr]
  | @cnt k n C hk hn c =>
    simp only [List.map_cons, List.map_append] at hne
    have r := read_conds_ok (m := [44]) c (by decide) (by decide) fun t h => h.ncom
    have hnum := is_number_ok (n := n) (lo := 0) (hi := 6) (by omega) (by omega) (by omega)
    have hint := fInt_num (n := n) (by omega)
    have hnec := ctoks_ne (m := [44]) c.all (conds_ne c (by decide))
    have hlen : ¬ ((ctoks [44] C).length : Int) + 1 + 1 + 1 < 4 := by
      have : (ctoks [44] C).length ≠ 0 := fun z => hnec (List.eq_nil_of_length_eq_zero z)
      omega
    simp at r
    have rc : f_read_counted [.list ((k :: numL n :: cs "of" :: ctoks [44] C).map ds)] = some (.d (.tuple [ds k, .int n, cdat C])) := by
      simp [-fInt_s, f_read_counted, b_read_counted, List.replicate, at_0, at_1, at_2, at_3, dSl_3, hnum, hint, hlen, r]
    simp at rc
    rcases hk with rfl | rfl <;> simp [f_read_form, b_read_form, List.replicate, at_0, at_1, at_2, at_3, hne, dSl_1, rc, show cs "most" ≠ cs "need" by decide, show cs "least" ≠ cs "need" by decide, show cs "least" ≠ cs "most" by decide]
  | @cl C c =>
    simp only [List.map_cons, List.map_append] at hne
    have r := read_conds_ok (m := [44]) c (by decide) (by decide) fun t h => h.ncom
    simp at r
    simp [f_read_form, b_read_form, List.replicate, at_0, at_1, at_2, at_3, hne, dSl_1, r, show cs "clash" ≠ cs "need" by decide, show cs "clash" ≠ cs "most" by decide, show cs "clash" ≠ cs "least" by decide]
  | @ei C c =>
    simp only [List.map_cons, List.map_append] at hne
    have r := read_conds_ok (m := [44]) c (by decide) (by decide) fun t h => h.ncom
    simp at r
    simp [f_read_form, b_read_form, List.replicate, at_0, at_1, at_2, at_3, hne, dSl_1, r, show cs "either" ≠ cs "need" by decide, show cs "either" ≠ cs "most" by decide, show cs "either" ≠ cs "least" by decide, show cs "either" ≠ cs "clash" by decide]
  | @same a b h h' =>
    have c : Conds [a, b] 2 2 := ⟨by simpa using ⟨h, h'⟩, by simp, by simp⟩
    simp only [List.map_cons, List.map_append] at hne
    have r := read_conds_ok (m := [44]) c (by decide) (by decide) fun t h => h.ncom
    simp at r
    simp [f_read_form, b_read_form, List.replicate, at_0, at_1, at_2, at_3, hne, dSl_1, r, show cs "same" ≠ cs "need" by decide, show cs "same" ≠ cs "most" by decide, show cs "same" ≠ cs "least" by decide, show cs "same" ≠ cs "clash" by decide, show cs "same" ≠ cs "either" by decide]
end DL

set_option Elab.async false
set_option linter.all false
set_option maxRecDepth 100000
set_option maxHeartbeats 4000000
namespace DL
open PySem PySem.Spec L2 TL

/-! ### the words of a form -/
theorem sp_need : cs "need " = cs "need" ++ [32] := by decide
theorem sp_same : cs "same " = cs "same" ++ [32] := by decide
theorem sp_and : cs " and " = 32 :: (cs "and" ++ [32]) := by decide
theorem sp_or : cs " or " = 32 :: (cs "or" ++ [32]) := by decide
theorem sp_col : cs " : " = [32, 58, 32] := by decide
theorem sp_com : cs " , " = [32, 44, 32] := by decide
theorem sp_of : cs " of " = 32 :: (cs "of" ++ [32]) := by decide
instance bd_need : Bd (cs "need") 4 := ⟨by decide⟩
instance bd_same : Bd (cs "same") 4 := ⟨by decide⟩
instance bd_and : Bd (cs "and") 3 := ⟨by decide⟩
instance bd_or : Bd (cs "or") 2 := ⟨by decide⟩
instance bd_of : Bd (cs "of") 2 := ⟨by decide⟩
instance bd_most : Bd (cs "most") 4 := ⟨by decide⟩
instance bd_least : Bd (cs "least") 5 := ⟨by decide⟩
instance bd_clash : Bd (cs "clash") 5 := ⟨by decide⟩
instance bd_either : Bd (cs "either") 6 := ⟨by decide⟩
theorem law_words_comp {P : List (D × List Ln)} (h : ∀ c ∈ P, CondT c.1 c.2) {d : D} : compS 2 bYes (eCallP f_law_condition_words (aCons (eNm 2) aNil)) (P.map Prod.fst) [.d d, .no, .no] = some (P.map fun x => ds (cw x), [.d d, .no, .no]) := by
  have e := compS_map (i := 2) (f := eCallP f_law_condition_words (aCons (eNm 2) aNil)) (st := [.d d, .no, .no]) (a := Prod.fst) (b := fun x => ds (cw x)) (items := P) fun x hx => by
    simp [(cond_words (h x hx)).2]
  simpa using e
theorem many_join' {m : Ln} {cds : List (D × List Ln)} (h : ∀ c ∈ cds, CondT c.1 c.2) (hl : cds.length ≤ 10) (hm : m.length ≤ 10) : dJoin (ds m) (.list (cds.map fun x => ds (cw x))) = some (ds (joinL m (cds.map cw))) := by
  have hj := many_join h hl hm
  rw [List.map_map] at hj
  exact hj
theorem form_words_ok {d : D} {toks : List Ln} (h : FormT d toks) : f_form_words [d] = some (.d (ds (joinL [32] toks))) ∧ f_law_form_words [d] = some (.d (ds (joinL [32] toks))) := by
  cases h with
  | @need A B a b =>
    have a1 := a.hi
    have b1 := b.hi
    have mA := many_ok (m := cs " and ") a.all (by omega) (by decide)
    have mB := many_ok (m := cs " or ") b.all (by omega) (by decide)
    have bA : Bd (joinL (cs " and ") (A.map cw)) 1140 := ⟨many_len a.all (by omega) (by decide)⟩
    have bB : Bd (joinL (cs " or ") (B.map cw)) 1140 := ⟨many_len b.all (by omega) (by decide)⟩
    have jA := many_join' (m := cs " and ") a.all (by omega) (by decide)
    have jB := many_join' (m := cs " or ") b.all (by omega) (by decide)
    have tA := many_toks (m := cs "and") a.all (conds_ne a (by decide))
    have tB := many_toks (m := cs "or") b.all (conds_ne b (by decide))
    have nA := ctoks_ne (m := cs "and") a.all (conds_ne a (by decide))
    have nB := ctoks_ne (m := cs "or") b.all (conds_ne b (by decide))
    rw [← sp_and] at tA
    rw [← sp_or] at tB
    have e : joinL [32] (cs "need" :: (ctoks (cs "and") A ++ [58] :: ctoks (cs "or") B)) = cs "need" ++ 32 :: (joinL (cs " and ") (A.map cw) ++ 32 :: 58 :: 32 :: joinL (cs " or ") (B.map cw)) := by
      rw [joinL_cons (by simp), joinL_app nA (by simp), joinL_cons nB, tA, tB]
      simp
    rw [e]
    constructor
    · simp [-dAdd_ss, dAdd_ok, f_form_words, b_form_words, List.replicate, at_0, at_1, at_2, mA, mB, sp_need, sp_col]
    · have hp : f_law_parts [.tuple [ds (cs "need"), cdat A, cdat B]] = some (.d (.list ((A ++ B).map Prod.fst))) := by
        have hs : A.length + B.length ≤ sizeLine := by rw [szl]; omega
        simp [f_law_parts, b_law_parts, List.replicate, at_0, at_1, at_2, hs]
      have hc := law_words_comp (P := A ++ B) (fun c hc => by
        rcases List.mem_append.mp hc with hc | hc
        · exact a.all c hc
        · exact b.all c hc) (d := .tuple [ds (cs "need"), cdat A, cdat B])
      have s1 : dSl (.list ((A ++ B).map fun x => ds (cw x))) none (some (A.length : Int)) = some (.list (A.map fun x => ds (cw x))) := by
        rw [dSl_to, List.map_append, List.take_left' (by simp)]
      have s2 : dSl (.list ((A ++ B).map fun x => ds (cw x))) (some (A.length : Int)) none = some (.list (B.map fun x => ds (cw x))) := by
        rw [dSl_from, List.map_append, List.drop_left' (by simp)]
      have hl : A.length + B.length ≤ 1000000 := by omega
      simp [-List.map_append, -dAdd_ss, dAdd_ok, f_law_form_words, b_law_form_words, List.replicate, at_0, at_1, at_2, hp, hc, s1, s2, jA, jB, hl, sp_need, sp_col]
  | @cnt k n C hk hn c =>
    have c1 := c.hi
    have mC := many_ok (m := cs " , ") c.all (by omega) (by decide)
    have bC : Bd (joinL (cs " , ") (C.map cw)) 1140 := ⟨many_len c.all (by omega) (by decide)⟩
    have jC := many_join' (m := cs " , ") c.all (by omega) (by decide)
    have tC := many_toks (m := [44]) c.all (conds_ne c (by decide))
    have nC := ctoks_ne (m := [44]) c.all (conds_ne c (by decide))
    have s44 : (32 :: ([44] ++ [32])) = cs " , " := by decide
    rw [s44] at tC
    have bn : Bd (numL n) 10 := ⟨num_len (by omega)⟩
    have fn := fStr_nat (n := n) (by omega)
    have bk : Bd k 5 := ⟨by rcases hk with rfl | rfl <;> decide⟩
    have e : joinL [32] (k :: numL n :: cs "of" :: ctoks [44] C) = k ++ 32 :: (numL n ++ 32 :: (cs "of" ++ 32 :: joinL (cs " , ") (C.map cw))) := by
      rw [joinL_cons (by simp), joinL_cons (by simp), joinL_cons nC, tC]
      simp
    rw [e]
    have hl : C.length ≤ 1000000 := by omega
    have k1 : k ≠ cs "need" := by rcases hk with rfl | rfl <;> decide
    have k2 : k ≠ cs "same" := by rcases hk with rfl | rfl <;> decide
    constructor
    · rcases hk with rfl | rfl <;> simp (decide := true) [-dAdd_ss, -fStr_i, dAdd_ok, f_form_words, b_form_words, List.replicate, at_0, at_1, at_2, mC, sp_of, fn, k1, k2]
    · have hp : f_law_parts [.tuple [ds k, .int n, cdat C]] = some (.d (.list (C.map Prod.fst))) := by
        simp [f_law_parts, b_law_parts, List.replicate, atI, ixN, k1, k2]
      have hc := law_words_comp (P := C) c.all (d := .tuple [ds k, .int n, cdat C])
      rcases hk with rfl | rfl <;> simp (decide := true) [-dAdd_ss, -fStr_i, dAdd_ok, f_law_form_words, b_law_form_words, List.replicate, at_0, at_1, at_2, hp, hc, hl, jC, sp_of, fn, k1, k2]
  | @cl C c =>
    have c1 := c.hi
    have mC := many_ok (m := cs " , ") c.all (by omega) (by decide)
    have bC : Bd (joinL (cs " , ") (C.map cw)) 1140 := ⟨many_len c.all (by omega) (by decide)⟩
    have jC := many_join' (m := cs " , ") c.all (by omega) (by decide)
    have tC := many_toks (m := [44]) c.all (conds_ne c (by decide))
    have nC := ctoks_ne (m := [44]) c.all (conds_ne c (by decide))
    have s44 : (32 :: ([44] ++ [32])) = cs " , " := by decide
    rw [s44] at tC
    have e : joinL [32] (cs "clash" :: ctoks [44] C) = cs "clash" ++ 32 :: joinL (cs " , ") (C.map cw) := by
      rw [joinL_cons nC, tC]
      simp
    rw [e]
    have hl : C.length ≤ 1000000 := by omega
    constructor
    · simp (decide := true) [-dAdd_ss, -fStr_i, dAdd_ok, f_form_words, b_form_words, List.replicate, at_0, at_1, at_2, mC]
    · have hp : f_law_parts [.tuple [ds (cs "clash"), cdat C]] = some (.d (.list (C.map Prod.fst))) := by
        simp (decide := true) [f_law_parts, b_law_parts, List.replicate, atI, ixN]
      have hc := law_words_comp (P := C) c.all (d := .tuple [ds (cs "clash"), cdat C])
      simp (decide := true) [-dAdd_ss, -fStr_i, dAdd_ok, f_law_form_words, b_law_form_words, List.replicate, at_0, at_1, at_2, hp, hc, hl, jC]
  | @ei C c =>
    have c1 := c.hi
    have mC := many_ok (m := cs " , ") c.all (by omega) (by decide)
    have bC : Bd (joinL (cs " , ") (C.map cw)) 1140 := ⟨many_len c.all (by omega) (by decide)⟩
    have jC := many_join' (m := cs " , ") c.all (by omega) (by decide)
    have tC := many_toks (m := [44]) c.all (conds_ne c (by decide))
    have nC := ctoks_ne (m := [44]) c.all (conds_ne c (by decide))
    have s44 : (32 :: ([44] ++ [32])) = cs " , " := by decide
    rw [s44] at tC
    have e : joinL [32] (cs "either" :: ctoks [44] C) = cs "either" ++ 32 :: joinL (cs " , ") (C.map cw) := by
      rw [joinL_cons nC, tC]
      simp
    rw [e]
    have hl : C.length ≤ 1000000 := by omega
    constructor
    · simp (decide := true) [-dAdd_ss, -fStr_i, dAdd_ok, f_form_words, b_form_words, List.replicate, at_0, at_1, at_2, mC]
    · have hp : f_law_parts [.tuple [ds (cs "either"), cdat C]] = some (.d (.list (C.map Prod.fst))) := by
        simp (decide := true) [f_law_parts, b_law_parts, List.replicate, atI, ixN]
      have hc := law_words_comp (P := C) c.all (d := .tuple [ds (cs "either"), cdat C])
      simp (decide := true) [-dAdd_ss, -fStr_i, dAdd_ok, f_law_form_words, b_law_form_words, List.replicate, at_0, at_1, at_2, hp, hc, hl, jC]
  | @same a b h h' =>
    have c : Conds [a, b] 2 2 := ⟨by simpa using ⟨h, h'⟩, by simp, by simp⟩
    have mC := many_ok (m := cs " , ") c.all (by simp) (by decide)
    have bC : Bd (joinL (cs " , ") ([a, b].map cw)) 1140 := ⟨many_len c.all (by simp) (by decide)⟩
    have jC := many_join' (m := cs " , ") c.all (by simp) (by decide)
    have tC := many_toks (m := [44]) c.all (conds_ne c (by decide))
    have nC := ctoks_ne (m := [44]) c.all (conds_ne c (by decide))
    have s44 : (32 :: ([44] ++ [32])) = cs " , " := by decide
    rw [s44] at tC
    have e : joinL [32] (cs "same" :: ctoks [44] [a, b]) = cs "same" ++ 32 :: joinL (cs " , ") ([a, b].map cw) := by
      rw [joinL_cons nC, tC]
      simp
    rw [e]
    have s1 : dSl (.tuple [ds (cs "same"), a.1, b.1]) (some 1) none = some (.tuple [a.1, b.1]) := by
      simp [dSl, HT.sIx, cutD]
    constructor
    · have mC' : f_many_words [.tuple [a.1, b.1], ds (cs " , ")] = some (.d (ds (joinL (cs " , ") ([a, b].map cw)))) := mC
      generalize joinL (cs " , ") ([a, b].map cw) = J at *
      simp (decide := true) [-dAdd_ss, -fStr_i, dAdd_ok, f_form_words, b_form_words, List.replicate, at_0, at_1, at_2, mC', s1, sp_same]
    · have hp : f_law_parts [.tuple [ds (cs "same"), a.1, b.1]] = some (.d (.list [a.1, b.1])) := by
        simp (decide := true) [f_law_parts, b_law_parts, List.replicate, atI, ixN]
      have hc := law_words_comp (P := [a, b]) c.all (d := .tuple [ds (cs "same"), a.1, b.1])
      have hc' : compS 2 bYes (eCallP f_law_condition_words (aCons (eNm 2) aNil)) [a.1, b.1] [.d (.tuple [ds (cs "same"), a.1, b.1]), .no, .no] = some ([ds (cw a), ds (cw b)], [.d (.tuple [ds (cs "same"), a.1, b.1]), .no, .no]) := hc
      have jC' : dJoin (ds (cs " , ")) (.list [ds (cw a), ds (cw b)]) = some (ds (joinL (cs " , ") ([a, b].map cw))) := jC
      generalize joinL (cs " , ") ([a, b].map cw) = J at *
      simp (decide := true) [-dAdd_ss, -fStr_i, dAdd_ok, f_law_form_words, b_law_form_words, List.replicate, at_0, at_1, at_2, hp, hc', jC']
end DL

set_option Elab.async false
set_option linter.all false
set_option maxRecDepth 100000
set_option maxHeartbeats 4000000
namespace DL
open PySem PySem.Spec L2 TL

/-! ### lines -/
inductive LineT : D → List Ln → Prop
  | nm {k w : Ln} (hk : k = cs "name" ∨ k = cs "hidden" ∨ k = cs "book") (h : WordT w) : LineT (.tuple [ds k, ds w]) [k, w]
  | rel {w v e tp tq : Ln} {p q : D} (h : WordT w) (hv : VerT v) (he : e = cs "none" ∨ VerT e) (hp : PriceT p tp) (hq : PriceT q tq) :
    LineT (.tuple [ds (cs "release"), ds w, ds v, ds e, p, q]) [cs "release", w, v, cs "after", e, cs "up", tp, cs "down", tq]
  | fea {w o v tp tq : Ln} {p q : D} (h : WordT w) (ho : WordT o) (hv : VerT v) (hp : PriceT p tp) (hq : PriceT q tq) :
    LineT (.tuple [ds (cs "feature"), ds w, ds o, ds v, p, q]) [cs "feature", w, o, cs "from", v, cs "up", tp, cs "down", tq]
  | sta {k n r : Ln} (hk : k = cs "start" ∨ k = cs "later") (h : NameT n) (hr : RelT r) : LineT (.tuple [ds k, ds n, ds r]) [k, n, r]
  | sig {w : Ln} {n : Nat} {a : Ln} {names : List Ln} (h : WordT w) (h1 : 1 ≤ n) (h2 : n ≤ 99) (hn : ∀ x ∈ a :: names, NameT x) (hl : names.length ≤ 7) :
    LineT (.tuple [ds (cs "signer"), ds w, .int n, .tuple ((a :: names).map ds)]) (cs "signer" :: w :: numL n :: [58] :: a :: names)
  | row {f : D} {toks : List Ln} (h : FormT f toks) : LineT (.tuple [ds (cs "row"), f]) (cs "row" :: toks)
  | fin : LineT (.tuple [ds (cs "end")]) [cs "end"]
theorem price_len {d : D} {t : Ln} (h : PriceT d t) : t.length ≤ 10 := by
  rcases h with ⟨_, rfl⟩ | ⟨n, _, _, _, rfl⟩
  · decide
  · exact num_len (by omega)
theorem ver_none {v : Ln} (h : VerT v) : v ≠ cs "none" := by
  rintro rfl
  exact ver_no h (c := 110) (by decide) (by decide)
theorem form_notN {d : D} {toks : List Ln} (h : FormT d toks) : dIsN d = some false := by
  cases h <;> rfl
theorem line_notN {d : D} {toks : List Ln} (h : LineT d toks) : dIsN d = some false := by
  cases h <;> rfl
theorem read_line_ok {d : D} {toks : List Ln} (h : LineT d toks) : f_read_line [.list (toks.map ds)] = some (.d d) := by
  cases h with
  | @nm k w hk h =>
    rcases hk with rfl | rfl | rfl <;> simp (decide := true) [f_read_line, b_read_line, List.replicate, at_0, at_1, at_2, is_word_ok h]
  | @rel w v e tp tq p q h hv he hp hq =>
    have hr : f_read_release [.list ([cs "release", w, v, cs "after", e, cs "up", tp, cs "down", tq].map ds)] = some (.d (.tuple [ds (cs "release"), ds w, ds v, ds e, p, q])) := by
      rcases he with rfl | he
      · simp (decide := true) [f_read_release, b_read_release, List.replicate, at_0, at_1, at_2, at_3, at_4, at_5, at_6, at_7, at_8, is_word_ok h, is_version_ok hv, is_price_ok hp, is_price_ok hq, price_of_ok hp, price_of_ok hq]
      · simp (decide := true) [f_read_release, b_read_release, List.replicate, at_0, at_1, at_2, at_3, at_4, at_5, at_6, at_7, at_8, is_word_ok h, is_version_ok hv, is_version_ok he, ver_none he, is_price_ok hp, is_price_ok hq, price_of_ok hp, price_of_ok hq]
    simp only [List.map_cons, List.map_nil] at hr
    simp (decide := true) [f_read_line, b_read_line, List.replicate, at_0, hr]
  | @fea w o v tp tq p q h ho hv hp hq =>
    have hr : f_read_feature [.list ([cs "feature", w, o, cs "from", v, cs "up", tp, cs "down", tq].map ds)] = some (.d (.tuple [ds (cs "feature"), ds w, ds o, ds v, p, q])) := by
      simp (decide := true) [f_read_feature, b_read_feature, List.replicate, at_0, at_1, at_2, at_3, at_4, at_5, at_6, at_7, at_8, is_word_ok h, is_word_ok ho, is_version_ok hv, is_price_ok hp, is_price_ok hq, price_of_ok hp, price_of_ok hq]
    simp only [List.map_cons, List.map_nil] at hr
    simp (decide := true) [f_read_line, b_read_line, List.replicate, at_0, hr]
  | @sta k n r hk h hr =>
    rcases hk with rfl | rfl <;> simp (decide := true) [f_read_line, b_read_line, List.replicate, at_0, at_1, at_2, is_short_ok h, is_release_ok hr]
  | @sig w n a names h h1 h2 hn hl =>
    have hnum := is_number_ok (n := n) (lo := 1) (hi := 99) (by omega) (by omega) (by omega)
    have hint := fInt_num (n := n) (by omega)
    have loop : ∃ y', forS (gNm 1) (sIf (bNot (bUn truD (eCallP f_is_short_name (aCons (eNm 1) aNil)))) (sRet (eK .none)) sNext) ((a :: names).map ds) [.d (.list ((cs "signer" :: w :: numL n :: [58] :: a :: names).map ds)), .no] = some (.nx ([Sl.d (.list ((cs "signer" :: w :: numL n :: [58] :: a :: names).map ds)), .no].set 1 y')) := by
      refine forS_pass' fun x hx => ?_
      obtain ⟨l, hl, rfl⟩ := List.mem_map.mp hx
      simp [is_short_ok (hn l hl)]
    obtain ⟨y', loop⟩ := loop
    have hlen : ¬ ((names.length : Int) + 1 + 1 + 1 + 1 + 1 < 5) := by omega
    have hr : f_read_signer [.list ((cs "signer" :: w :: numL n :: [58] :: a :: names).map ds)] = some (.d (.tuple [ds (cs "signer"), ds w, .int n, .tuple ((a :: names).map ds)])) := by
      simp at loop
      simp (decide := true) [-fInt_s, f_read_signer, b_read_signer, List.replicate, at_0, at_1, at_2, at_3, is_word_ok h, hnum, hint, hlen, dSl_4, loop]
    simp only [List.map_cons, List.map_nil] at hr
    simp (decide := true) [f_read_line, b_read_line, List.replicate, at_0, hr]
  | @row f toks h =>
    simp (decide := true) [f_read_line, b_read_line, List.replicate, at_0, dSl_1, read_form_ok h, form_notN h]
  | fin =>
    simp (decide := true) [f_read_line, b_read_line, List.replicate, at_0]

/-! ### the words of a line -/
theorem sp_up : cs " up " = 32 :: (cs "up" ++ [32]) := by decide
theorem sp_down : cs " down " = 32 :: (cs "down" ++ [32]) := by decide
theorem sp_after : cs " after " = 32 :: (cs "after" ++ [32]) := by decide
theorem sp_from : cs " from " = 32 :: (cs "from" ++ [32]) := by decide
theorem sp_release : cs "release " = cs "release" ++ [32] := by decide
theorem sp_feature : cs "feature " = cs "feature" ++ [32] := by decide
theorem sp_signer : cs "signer " = cs "signer" ++ [32] := by decide
theorem sp_row : cs "row " = cs "row" ++ [32] := by decide
instance bd_up : Bd (cs "up") 2 := ⟨by decide⟩
instance bd_down : Bd (cs "down") 4 := ⟨by decide⟩
instance bd_after : Bd (cs "after") 5 := ⟨by decide⟩
instance bd_release : Bd (cs "release") 7 := ⟨by decide⟩
instance bd_feature : Bd (cs "feature") 7 := ⟨by decide⟩
instance bd_signer : Bd (cs "signer") 6 := ⟨by decide⟩
instance bd_row : Bd (cs "row") 3 := ⟨by decide⟩
theorem form_len {d : D} {toks : List Ln} (h : FormT d toks) : toks.length ≤ 60 := by
  cases h with
  | @need A B a b =>
    have h1 := ctoks_len (m := cs "and") a.all
    have h2 := ctoks_len (m := cs "or") b.all
    have := a.hi
    have := b.hi
    simp only [List.length_cons, List.length_append]
    omega
  | @cnt k n C hk hn c =>
    have h1 := ctoks_len (m := [44]) c.all
    have := c.hi
    simp only [List.length_cons]
    omega
  | @cl C c =>
    have h1 := ctoks_len (m := [44]) c.all
    have := c.hi
    simp only [List.length_cons]
    omega
  | @ei C c =>
    have h1 := ctoks_len (m := [44]) c.all
    have := c.hi
    simp only [List.length_cons]
    omega
  | @same a b h h' =>
    have h1 := ctoks_len (m := [44]) (cds := [a, b]) (by simpa using ⟨h, h'⟩)
    simp only [List.length_cons, List.length_nil] at h1 ⊢
    omega
theorem toks_len {toks : List Ln} (h : ∀ t ∈ toks, TokB t) : (joinL [32] toks).length ≤ toks.length * 26 := joinL_len (m := [32]) (k := 25) fun p hp => (h p hp).len
theorem line_words_ok {d : D} {toks : List Ln} (h : LineT d toks) : f_line_words [d] = some (.d (ds (joinL [32] toks))) ∧ f_law_line_words [d] = some (.d (ds (joinL [32] toks))) := by
  cases h with
  | @nm k w hk h =>
    have bw := h.len
    have j : dJoin (ds [32]) (.tuple ([k, w].map ds)) = some (ds (joinL [32] [k, w])) := dJoin_tk 12 (by
      intro p hp
      simp at hp
      rcases hp with rfl | rfl
      · rcases hk with rfl | rfl | rfl <;> decide
      · exact bw) (by simp)
    simp only [List.map_cons, List.map_nil] at j
    rcases hk with rfl | rfl | rfl <;> constructor <;> simp (decide := true) [f_line_words, b_line_words, f_law_line_words, b_law_line_words, List.replicate, at_0, j]
  | @rel w v e tp tq p q h hv he hp hq =>
    have b1 : Bd w 12 := ⟨h.len⟩
    have b2 : Bd v 12 := ⟨ver_len hv⟩
    have b3 : Bd e 12 := ⟨by
      rcases he with rfl | he
      · decide
      · exact ver_len he⟩
    have b4 : Bd tp 10 := ⟨price_len hp⟩
    have b5 : Bd tq 10 := ⟨price_len hq⟩
    have e1 := (price_word_ok hp).1
    have e2 := (price_word_ok hp).2
    have e3 := (price_word_ok hq).1
    have e4 := (price_word_ok hq).2
    constructor
    · simp (decide := true) [-dAdd_ss, dAdd_ok, f_line_words, b_line_words, List.replicate, at_0, at_1, at_2, at_3, at_4, at_5, e1, e3, sp_up, sp_down, sp_after, sp_release, joinL]
    · have s3 : dSl (.tuple [ds (cs "release"), ds w, ds v, ds e, p, q]) none (some 3) = some (.tuple ([cs "release", w, v].map ds)) := by
        simp [dSl, HT.sIx, cutD]
      have j : dJoin (ds [32]) (.tuple ([cs "release", w, v].map ds)) = some (ds (joinL [32] [cs "release", w, v])) := dJoin_tk 12 (by
        intro p hp
        simp at hp
        rcases hp with rfl | rfl | rfl
        · decide
        · exact b1.le
        · exact b2.le) (by simp)
      simp only [List.map_cons, List.map_nil, joinL] at j s3
      simp (decide := true) [-dAdd_ss, dAdd_ok, f_law_line_words, b_law_line_words, List.replicate, at_0, at_1, at_2, at_3, at_4, at_5, e2, e4, sp_up, sp_down, sp_after, joinL, s3, j]
  | @fea w o v tp tq p q h ho hv hp hq =>
    have b1 : Bd w 12 := ⟨h.len⟩
    have b2 : Bd v 12 := ⟨ver_len hv⟩
    have b3 : Bd o 12 := ⟨ho.len⟩
    have b4 : Bd tp 10 := ⟨price_len hp⟩
    have b5 : Bd tq 10 := ⟨price_len hq⟩
    have e1 := (price_word_ok hp).1
    have e2 := (price_word_ok hp).2
    have e3 := (price_word_ok hq).1
    have e4 := (price_word_ok hq).2
    constructor
    · simp (decide := true) [-dAdd_ss, dAdd_ok, f_line_words, b_line_words, List.replicate, at_0, at_1, at_2, at_3, at_4, at_5, e1, e3, sp_up, sp_down, sp_from, sp_feature, joinL]
    · have s3 : dSl (.tuple [ds (cs "feature"), ds w, ds o, ds v, p, q]) none (some 3) = some (.tuple ([cs "feature", w, o].map ds)) := by
        simp [dSl, HT.sIx, cutD]
      have j : dJoin (ds [32]) (.tuple ([cs "feature", w, o].map ds)) = some (ds (joinL [32] [cs "feature", w, o])) := dJoin_tk 12 (by
        intro p hp
        simp at hp
        rcases hp with rfl | rfl | rfl
        · decide
        · exact b1.le
        · exact b3.le) (by simp)
      simp only [List.map_cons, List.map_nil, joinL] at j s3
      simp (decide := true) [-dAdd_ss, dAdd_ok, f_law_line_words, b_law_line_words, List.replicate, at_0, at_1, at_2, at_3, at_4, at_5, e2, e4, sp_up, sp_down, sp_from, joinL, s3, j]
  | @sta k n r hk h hr =>
    have j : dJoin (ds [32]) (.tuple ([k, n, r].map ds)) = some (ds (joinL [32] [k, n, r])) := dJoin_tk 25 (by
      intro p hp
      simp at hp
      rcases hp with rfl | rfl | rfl
      · rcases hk with rfl | rfl <;> decide
      · exact name_len h
      · have := rel_len hr; omega) (by simp)
    simp only [List.map_cons, List.map_nil] at j
    rcases hk with rfl | rfl <;> constructor <;> simp (decide := true) [f_line_words, b_line_words, f_law_line_words, b_law_line_words, List.replicate, at_0, j]
  | @sig w n a names h h1 h2 hn hl =>
    have b1 : Bd w 12 := ⟨h.len⟩
    have b2 : Bd (numL n) 10 := ⟨num_len (by omega)⟩
    have fn := fStr_nat (n := n) (by omega)
    have j : dJoin (ds [32]) (.tuple ((a :: names).map ds)) = some (ds (joinL [32] (a :: names))) := dJoin_tk 25 (fun p hp => name_len (hn p hp)) (by simp; omega)
    have b3 : Bd (joinL [32] (a :: names)) 208 := ⟨by
      have := joinL_len (m := [32]) (k := 25) (ps := a :: names) fun p hp => name_len (hn p hp)
      simp only [List.length_cons, List.length_nil] at this
      omega⟩
    have e : joinL [32] (cs "signer" :: w :: numL n :: [58] :: a :: names) = cs "signer" ++ 32 :: (w ++ 32 :: (numL n ++ 32 :: 58 :: 32 :: joinL [32] (a :: names))) := by
      rw [joinL_cons (by simp), joinL_cons (by simp), joinL_cons (by simp), joinL_cons (by simp)]
      simp
    rw [e]
    simp only [List.map_cons] at j
    generalize joinL [32] (a :: names) = J at *
    constructor <;> simp (decide := true) [-dAdd_ss, -fStr_i, dAdd_ok, f_line_words, b_line_words, f_law_line_words, b_law_line_words, List.replicate, at_0, at_1, at_2, at_3, fn, sp_signer, sp_col, j]
  | @row f toks h =>
    have hw := form_words_ok h
    have ht := form_toks h
    have b1 : Bd (joinL [32] toks) 1560 := ⟨by
      have h1 := toks_len ht.1
      have h2 := form_len h
      omega⟩
    rw [joinL_cons ht.2]
    constructor <;> simp (decide := true) [-dAdd_ss, dAdd_ok, f_line_words, b_line_words, f_law_line_words, b_law_line_words, List.replicate, at_0, at_1, hw.1, hw.2, sp_row]
  | fin =>
    have j : dJoin (ds [32]) (.tuple ([cs "end"].map ds)) = some (ds (joinL [32] [cs "end"])) := dJoin_tk 25 (by simp; decide) (by simp)
    simp only [List.map_cons, List.map_nil] at j
    constructor <;> simp (decide := true) [f_line_words, b_line_words, f_law_line_words, b_law_line_words, List.replicate, at_0, j]
theorem line_toks {d : D} {toks : List Ln} (h : LineT d toks) : (∀ t ∈ toks, TokB t) ∧ (∃ t r, toks = t :: r ∧ t ∈ firstL) ∧ toks.length ≤ 61 := by
  have tn (n : Nat) (h : n < 10 ^ 10) : TokB (numL n) := ⟨by have := num_len h; omega, numL_ne n, fun c hc => .inr (.inl (num_fig hc))⟩
  have tp {d : D} {t : Ln} (h : PriceT d t) : TokB t := by
    rcases h with ⟨_, rfl⟩ | ⟨n, _, _, _, rfl⟩
    · exact ⟨by decide, by decide, by decide⟩
    · exact tn n (by omega)
  have t1 : TokB (cs "after") := ⟨by decide, by decide, by decide⟩
  have t2 : TokB (cs "up") := ⟨by decide, by decide, by decide⟩
  have t3 : TokB (cs "down") := ⟨by decide, by decide, by decide⟩
  have t4 : TokB (cs "from") := ⟨by decide, by decide, by decide⟩
  have t5 : TokB [58] := ⟨by decide, by decide, by decide⟩
  have t6 : TokB (cs "none") := ⟨by decide, by decide, by decide⟩
  have f : ∀ t ∈ firstL, TokB t := by
    intro t ht
    refine ⟨?_, ?_, ?_⟩
    · have : ∀ t ∈ firstL, t.length ≤ 25 := by decide
      exact this t ht
    · have : ∀ t ∈ firstL, t ≠ [] := by decide
      exact this t ht
    · have : ∀ t ∈ firstL, ∀ c ∈ t, Sg c := by decide
      exact this t ht
  cases h with
  | @nm k w hk h =>
    have hk' : k ∈ firstL := by rcases hk with rfl | rfl | rfl <;> decide
    exact ⟨by simpa using ⟨f k hk', word_tokB h⟩, ⟨_, _, rfl, hk'⟩, by simp⟩
  | @rel w v e tp' tq p q h hv he hp hq =>
    have te : TokB e := by
      rcases he with rfl | he
      · exact t6
      · exact ver_tokB he
    exact ⟨by simpa using ⟨f _ (by decide), word_tokB h, ver_tokB hv, t1, te, t2, tp hp, t3, tp hq⟩, ⟨_, _, rfl, by decide⟩, by simp⟩
  | @fea w o v tp' tq p q h ho hv hp hq =>
    exact ⟨by simpa using ⟨f _ (by decide), word_tokB h, word_tokB ho, t4, ver_tokB hv, t2, tp hp, t3, tp hq⟩, ⟨_, _, rfl, by decide⟩, by simp⟩
  | @sta k n r hk h hr =>
    have hk' : k ∈ firstL := by rcases hk with rfl | rfl <;> decide
    exact ⟨by simpa using ⟨f k hk', name_tokB h, (rel_ctok hr).b⟩, ⟨_, _, rfl, hk'⟩, by simp⟩
  | @sig w n a names h h1 h2 hn hl =>
    refine ⟨?_, ⟨_, _, rfl, by decide⟩, by simp; omega⟩
    intro t ht
    simp only [List.mem_cons] at ht
    rcases ht with rfl | rfl | rfl | rfl | ht
    · exact f _ (by decide)
    · exact word_tokB h
    · exact tn n (by omega)
    · exact t5
    · exact name_tokB (hn t (by simpa using ht))
  | @row f' toks h =>
    refine ⟨?_, ⟨_, _, rfl, by decide⟩, by have := form_len h; simp only [List.length_cons]; omega⟩
    intro t ht
    rcases List.mem_cons.mp ht with rfl | ht
    · exact f _ (by decide)
    · exact (form_toks h).1 t ht
  | fin => exact ⟨by simpa using f _ (by decide), ⟨_, _, rfl, by decide⟩, by simp⟩
end DL

set_option Elab.async false
set_option linter.all false
set_option maxRecDepth 100000
set_option maxHeartbeats 4000000
namespace DL
open PySem PySem.Spec L2 TL

/-! ### the row of a line -/
def nd : Bool → List Nat → Bool
  | _, [] => true
  | b, c :: r => !(b && c == 32) && nd (c == 32) r
theorem nd_bad : ∀ (u v : List Nat) (b : Bool), nd b (u ++ 32 :: 32 :: v) = false
  | [], v, b => by simp [nd]
  | c :: r, v, b => by simp [nd, nd_bad r v]
theorem nd_free : ∀ (p l : List Nat) (b : Bool), p ≠ [] → 32 ∉ p → nd b (p ++ l) = nd false l
  | [c], l, b, _, h => by
    have hc : (c == 32) = false := beq_eq_false_iff_ne.mpr fun e => h (by simp [e])
    simp [nd, hc]
  | c :: d :: r, l, b, _, h => by
    have hc : (c == 32) = false := beq_eq_false_iff_ne.mpr fun e => h (by simp [e])
    have := nd_free (d :: r) l false (by simp) fun m => h (List.mem_cons_of_mem _ m)
    simp only [List.cons_append] at this ⊢
    rw [nd]
    simp [hc, this]
theorem sg_no {t : Ln} (h : TokB t) {c : Nat} (hc : ¬ Sg c) : c ∉ t := fun m => hc (h.all c m)
theorem nd_join : ∀ {toks : List Ln} (b : Bool), (∀ t ∈ toks, TokB t) → toks ≠ [] → nd b (joinL [32] toks) = true
  | [t], b, h, _ => by
    have ht := h t List.mem_cons_self
    have := nd_free t [] b ht.ne (sg_no ht (by decide))
    rw [List.append_nil] at this
    show nd b t = true
    rw [this]
    rfl
  | t :: u :: r, b, h, _ => by
    have ht := h t List.mem_cons_self
    show nd b (t ++ ([32] ++ joinL [32] (u :: r))) = true
    rw [nd_free t _ b ht.ne (sg_no ht (by decide))]
    show nd false (32 :: joinL [32] (u :: r)) = true
    simp [nd, nd_join (toks := u :: r) true (fun x hx => h x (List.mem_cons_of_mem _ hx)) (by simp)]
theorem join_last : ∀ {toks : List Ln}, (∀ t ∈ toks, TokB t) → toks ≠ [] → ∃ u c, joinL [32] toks = u ++ [c] ∧ Sg c
  | [t], h, _ => by
    have ht := h t List.mem_cons_self
    refine ⟨t.dropLast, t.getLast ht.ne, (List.dropLast_concat_getLast ht.ne).symm, ht.all _ (List.getLast_mem ht.ne)⟩
  | t :: u :: r, h, _ => by
    obtain ⟨p, c, e, hc⟩ := join_last (toks := u :: r) (fun x hx => h x (List.mem_cons_of_mem _ hx)) (by simp)
    refine ⟨t ++ ([32] ++ p), c, ?_, hc⟩
    show t ++ ([32] ++ joinL [32] (u :: r)) = _
    rw [e]
    simp
theorem join_first {toks : List Ln} (h : ∀ t ∈ toks, TokB t) (hne : toks ≠ []) : ∃ c r, joinL [32] toks = c :: r ∧ Sg c := by
  cases toks with
  | nil => exact absurd rfl hne
  | cons t r =>
    have ht := h t List.mem_cons_self
    cases ht' : t with
    | nil => exact absurd ht' ht.ne
    | cons c q =>
      have hc : Sg c := ht.all c (by rw [ht']; exact List.mem_cons_self)
      cases r with
      | nil => exact ⟨c, q, rfl, hc⟩
      | cons u s => exact ⟨c, q ++ ([32] ++ joinL [32] (u :: s)), rfl, hc⟩
theorem join_all {toks : List Ln} (h : ∀ t ∈ toks, TokB t) : ∀ c ∈ joinL [32] toks, Sg c ∨ c = 32 := fun c hc => by
  rcases mem_joinL hc with ⟨p, hp, hc⟩ | hc
  · exact .inl ((h p hp).all c hc)
  · exact .inr (by simpa using hc)
theorem drop_two {l : List Nat} {i a b : Nat} (h : (l.drop i).take 2 = [a, b]) : ∃ u v, l = u ++ a :: b :: v := by
  refine ⟨l.take i, (l.drop i).drop 2, ?_⟩
  have h1 : l = l.take i ++ l.drop i := (List.take_append_drop i l).symm
  have h2 : l.drop i = (l.drop i).take 2 ++ (l.drop i).drop 2 := (List.take_append_drop 2 _).symm
  rw [h] at h2
  conv => lhs; rw [h1, h2]
  simp
theorem no_double {l : List Nat} (h : nd false l = true) : dIn (ds [32, 32]) (ds l) = some false := by
  show some (!(Builtin.Str.occurrences ⟨l.toArray⟩ ⟨[32, 32].toArray⟩ 0 (⟨l.toArray⟩ : Str).length 1).isEmpty) = some false
  congr 1
  rw [Bool.eq_false_iff]
  intro e
  obtain ⟨i, hi, hs⟩ := (StrLaws.found_iff _ _).mp e
  rw [StrLaws.subAt_eq] at hs
  have hs' : (l.drop i).take 2 = [32, 32] := eq_of_beq hs
  obtain ⟨u, v, rfl⟩ := drop_two hs'
  rw [nd_bad] at h
  cases h
theorem cs_2bl : cs "  " = [32, 32] := by decide
theorem dIn_sg {c : Nat} (h : Sg c ∨ c = 32) : dIn (ds [c]) k_SIGNS = some true := by
  unfold k_SIGNS
  rw [dIn_one, codes_mk, in_signs, decide_eq_true]
  rcases h with (h | h | h | h | h | h) | h
  · exact .inl h
  · exact .inr (.inl h)
  · exact .inr (.inr (.inr (.inl h)))
  · exact .inr (.inr (.inr (.inr (.inl h))))
  · exact .inr (.inr (.inr (.inr (.inr (.inl h)))))
  · exact .inr (.inr (.inr (.inr (.inr (.inr h)))))
  · exact .inr (.inr (.inl h))
/-- what a row's text is -/
structure RowT (d : D) (r : Ln) : Prop where
  line : ∃ toks, LineT d toks ∧ r = joinL [32] toks
  len : r.length ≤ 400
theorem row_ne {d : D} {r : Ln} (h : RowT d r) : r ≠ [] := by
  obtain ⟨toks, h1, rfl⟩ := h.line
  have ht := line_toks h1
  obtain ⟨t, q, e, _⟩ := ht.2.1
  obtain ⟨c, q, e, _⟩ := join_first ht.1 (by rw [e]; simp)
  rw [e]
  simp
theorem row_nl {d : D} {r : Ln} (h : RowT d r) : 10 ∉ r := by
  obtain ⟨toks, h1, rfl⟩ := h.line
  intro hm
  rcases join_all (line_toks h1).1 10 hm with h | h
  · exact absurd h (by decide)
  · exact absurd h (by decide)
theorem sign_fault_ok {d : D} {r : Ln} (h : RowT d r) : f_sign_fault [ds r] = some (.d (ds [])) := by
  have hlen := h.len
  have hs := szl
  obtain ⟨toks, h1, rfl⟩ := h.line
  have ht := line_toks h1
  have hne : toks ≠ [] := by
    obtain ⟨t, q, e, _⟩ := ht.2.1
    rw [e]; simp
  have hall := join_all ht.1
  have hnd := no_double (nd_join false ht.1 hne)
  obtain ⟨u, c, eu, hc⟩ := join_last ht.1 hne
  obtain ⟨c', q, eq, hc'⟩ := join_first ht.1 hne
  generalize joinL [32] toks = R at *
  have hc1 : c ≠ 32 := by rintro rfl; exact absurd hc (by decide)
  have hc2 : c' ≠ 32 := by rintro rfl; exact absurd hc' (by decide)
  have loop : ∃ y', forS (gNm 1) (sIf (bBin dNotIn (eNm 1) (eK k_SIGNS)) (sRet (eK (ds (cs "sign")))) sNext) (R.map fun c => ds [c]) [.d (ds R), .no] = some (.nx ([Sl.d (ds R), .no].set 1 y')) := by
    refine forS_pass' fun x hx => ?_
    obtain ⟨c, hc, rfl⟩ := mem_chars hx
    simp [dIn_sg (hall c hc)]
  obtain ⟨y', loop⟩ := loop
  have hR : R ≠ [] := by rw [eq]; simp
  have hz : R.length ≤ sizeLine := by omega
  have a0 : dIx (ds R) (.int 0) = some (ds [c']) := by
    rw [dIx_s, codes_mk, if_pos hz, at_0, eq]; rfl
  have a1 : dIx (ds R) (.int (-1)) = some (ds [c]) := by
    rw [dIx_s, codes_mk, if_pos hz, eu, at_l]; rfl
  simp [-dIx_s, f_sign_fault, b_sign_fault, List.replicate, hR, loop, a0, a1, hc1, hc2, cs_2bl, hnd]
theorem row_split {d : D} {r : Ln} (h : RowT d r) : ∃ toks, LineT d toks ∧ (Txt.split (⟨r.toArray⟩ : Str) (⟨[32].toArray⟩ : Str)).map PyData.str = toks.map ds := by
  obtain ⟨toks, h1, rfl⟩ := h.line
  have ht := line_toks h1
  refine ⟨toks, h1, splitD (by decide) ?_ fun p hp => sg_no (ht.1 p hp) (by decide)⟩
  obtain ⟨t, q, e, _⟩ := ht.2.1
  rw [e]; simp

/-! ### texts of rows -/
theorem lim_lines : dTab k_LIMITS (ds (cs "lines")) = some (.int 900) := by
  have e : k_LIMITS.lookup (cs "lines") = some 900 := by decide
  show (k_LIMITS.lookup (codes ⟨(cs "lines").toArray⟩)).map PyData.int = _
  rw [codes_mk, e]
  rfl
theorem lim_signs : dTab k_LIMITS (ds (cs "signs")) = some (.int 400) := by
  have e : k_LIMITS.lookup (cs "signs") = some 400 := by decide
  show (k_LIMITS.lookup (codes ⟨(cs "signs").toArray⟩)).map PyData.int = _
  rw [codes_mk, e]
  rfl
theorem bound_lines {n : Nat} (h : n ≤ 900) : f_bound_check [ds (cs "lines"), .int n] = some (.d .none) := by
  have h' : ¬ (900 : Int) < n := by omega
  simp [f_bound_check, b_bound_check, lim_lines, h']
theorem bound_signs {n : Nat} (h : n ≤ 400) : f_bound_check [ds (cs "signs"), .int n] = some (.d .none) := by
  have h' : ¬ (400 : Int) < n := by omega
  simp [f_bound_check, b_bound_check, lim_signs, h']
/-- texts that hold these rows: with the last line feed, or without it -/
def TextT (rows : List Ln) (t : Ln) : Prop := t = joinL [10] (rows ++ [[]]) ∨ (rows ≠ [] ∧ t = joinL [10] rows)
theorem text_rows_ok {rows : List Ln} {t : Ln} (h : TextT rows t) (hn : ∀ r ∈ rows, 10 ∉ r ∧ r ≠ []) (hl : t.length ≤ 1000000) : f_text_rows [ds t] = some (.d (.list (rows.map ds))) := by
  have hs := szl
  have hz : t.length + 2 ≤ sizeLine := by omega
  rcases h with rfl | ⟨hne, rfl⟩
  · have sp := splitD (s := 10) (by decide) (parts := rows ++ [[]]) (by simp) fun p hp => by
      rcases List.mem_append.mp hp with hp | hp
      · exact (hn p hp).1
      · simp at hp; simp [hp]
    simp only [f_text_rows, b_text_rows, runP_ap, startD_ap, List.length_cons, List.length_nil, if_true, List.map_cons, List.map_nil, List.replicate, Nat.sub_self, List.append_nil, sSeq_ap, sSet_ap, eFz_ap, oSplit_ap, eNm_ap, eK_ap, cs_nl, codes_mk, List.nil_append, List.cons_append, List.getElem?_cons_zero, Option.bind_some, sp]
    simp [hz, at_l, dSl_l]
  · have sp := splitD (s := 10) (by decide) (parts := rows) hne fun p hp => (hn p hp).1
    obtain ⟨u, c, e⟩ : ∃ u c, rows = u ++ [c] := ⟨rows.dropLast, rows.getLast hne, (List.dropLast_concat_getLast hne).symm⟩
    have hc : c ≠ [] := (hn c (by rw [e]; simp)).2
    simp only [f_text_rows, b_text_rows, runP_ap, startD_ap, List.length_cons, List.length_nil, if_true, List.map_cons, List.map_nil, List.replicate, Nat.sub_self, List.append_nil, sSeq_ap, sSet_ap, eFz_ap, oSplit_ap, eNm_ap, eK_ap, cs_nl, codes_mk, List.nil_append, List.cons_append, List.getElem?_cons_zero, Option.bind_some, sp]
    rw [e] at hz ⊢
    simp [hz, at_l, dSl_l, hc]
theorem checked_rows_ok {rows : List Ln} {t : Ln} (h : TextT rows t) (hn : ∀ r ∈ rows, 10 ∉ r ∧ r ≠ []) (hl : t.length ≤ 1000000) (h9 : rows.length ≤ 900) (h4 : ∀ r ∈ rows, r.length ≤ 400) : f_checked_rows [ds t] = some (.d (.list (rows.map ds))) := by
  have hs := szl
  have loop : ∃ y', forS (gNm 2) (sDrop (eCallP f_bound_check (aCons (eK (ds (cs "signs"))) (aCons (eCall fLen (aCons (eNm 2) aNil)) aNil)))) (rows.map ds) [.d (ds t), .d (.list (rows.map ds)), .no] = some (.nx ([Sl.d (ds t), .d (.list (rows.map ds)), .no].set 2 y')) := by
    refine forS_pass' fun x hx => ?_
    obtain ⟨r, hr, rfl⟩ := List.mem_map.mp hx
    have hb := bound_signs (h4 r hr)
    have hz : r.length ≤ sizeLine := by have := h4 r hr; omega
    simp [hz, hb]
  obtain ⟨y', loop⟩ := loop
  have hb := bound_lines h9
  simp [f_checked_rows, b_checked_rows, List.replicate, text_rows_ok h hn hl, hb] at loop ⊢
  simp [loop]
/-- the lines of a text with their rows -/
def LinesT (L : List (D × Ln)) : Prop := (∀ x ∈ L, RowT x.1 x.2) ∧ L.length ≤ 100
def rlBody : SS := (sSeq (sSet 5 (eCallP f_sign_fault (aCons (eNm 4) aNil)))
  (sSeq (sIf (bBin dNe (eNm 5) (eK (ds (cs ""))))
  sNone
  sNext)
  (sSeq (sSet 6 (eFz (oSplit (eNm 4) (eK (ds (cs " "))))))
  (sSeq (sIf (bBin dNotIn (eBin dIx (eNm 6) (eK (.int 0))) (eK k_FIRST_WORDS))
  sNone
  sNext)
  (sSeq (sSet 7 (eCallP f_read_line (aCons (eNm 6) aNil)))
  (sSeq (sIf (bUn dIsN (eNm 7))
  sNone
  sNext)
  (sApp 2 (eNm 7))))))))
theorem read_lines_loop {a b : Sl} : ∀ (L : List (D × Ln)), (∀ x ∈ L, RowT x.1 x.2) → ∀ (k : Nat) (acc : List D) (y3 y4 y5 y6 y7 : Sl), acc.length + L.length < 10000 → ∃ z3 z4 z5 z6 z7,
    forS (gTupD (gsCons (gNm 3) (gsCons (gNm 4) gsNil))) rlBody (enums k (L.map fun x => ds x.2)) [a, b, .own acc, y3, y4, y5, y6, y7] = some (.nx [a, b, .own (acc ++ L.map Prod.fst), z3, z4, z5, z6, z7])
  | [], _, k, acc, y3, y4, y5, y6, y7, _ => ⟨y3, y4, y5, y6, y7, by simp [enums]⟩
  | x :: r, h, k, acc, y3, y4, y5, y6, y7, hl => by
    have hx := h x List.mem_cons_self
    obtain ⟨toks, h1, hsp⟩ := row_split hx
    have hlen := hx.len
    have hs := szl
    have hz : x.2.length + 2 ≤ sizeLine := by omega
    obtain ⟨t0, r0, e0, hf⟩ := (line_toks h1).2.1
    have hrl := read_line_ok h1
    have hN := line_notN h1
    have hsf := sign_fault_ok hx
    simp only [List.length_cons] at hl
    obtain ⟨z3, z4, z5, z6, z7, e⟩ := read_lines_loop r (fun q hq => h q (List.mem_cons_of_mem _ hq)) (k + 1) (acc ++ [x.1]) (.d (.int k)) (.d (ds x.2)) (.d (ds [])) (.d (.list (toks.map ds))) (.d x.1) (by simp; omega)
    refine ⟨z3, z4, z5, z6, z7, ?_⟩
    have hacc : acc.length < 16000000 := by omega
    have h0 : dIx (.list (toks.map ds)) (.int 0) = some (ds t0) := by rw [dIx_l, at_0, e0]; rfl
    have hb : rlBody [a, b, .own acc, .d (.int k), .d (ds x.2), y5, y6, y7] = some (.nx [a, b, .own (acc ++ [x.1]), .d (.int k), .d (ds x.2), .d (ds []), .d (.list (toks.map ds)), .d x.1]) := by
      simp [-dIx_l, rlBody, hsf, hsp, hz, h0, first_eq, dIn_t, hf, hrl, hN, hacc]
    rw [List.map_cons, enums, forS_cons]
    simp [hb]
    rw [e]
    simp
theorem read_lines_ok {L : List (D × Ln)} (h : LinesT L) {t : Ln} (ht : TextT (L.map Prod.snd) t) (hl : t.length ≤ 1000000) : f_read_lines [ds t] = some (.o (L.map Prod.fst)) := by
  have hc := checked_rows_ok ht (fun r hr => by
    obtain ⟨x, hx, rfl⟩ := List.mem_map.mp hr
    exact ⟨row_nl (h.1 x hx), row_ne (h.1 x hx)⟩) hl (by rw [List.length_map]; have := h.2; omega) (fun r hr => by
    obtain ⟨x, hx, rfl⟩ := List.mem_map.mp hr
    exact (h.1 x hx).len)
  have e : (L.map Prod.snd).map ds = L.map fun x => ds x.2 := by rw [List.map_map]; rfl
  rw [e] at hc
  obtain ⟨z3, z4, z5, z6, z7, eL⟩ := read_lines_loop (a := .d (ds t)) (b := .d (.list (L.map fun x => ds x.2))) L h.1 0 [] .no .no .no .no .no (by have := h.2; simp; omega)
  have eB : b_read_lines = sSeq (sSet 1 (eCallP f_checked_rows (aCons (eNm 0) aNil))) (sSeq (sSetO 2 (oLst aNil)) (sSeq (sFor (gTupD (gsCons (gNm 3) (gsCons (gNm 4) gsNil))) (iEnu (aCons (eNm 1) aNil)) rlBody) (sRetO (oNm 2)))) := rfl
  simp [f_read_lines, eB, List.replicate, hc] at eL ⊢
  simp [eL]
end DL

set_option Elab.async false
set_option linter.all false
set_option maxRecDepth 100000
set_option maxHeartbeats 4000000
namespace DL
open PySem PySem.Spec L2 TL

def b_law_show : SS :=
  (sRet (eBin dJoin (eK (ds (cs ""))) (eFz (oComp 1 bYes (eBin dAdd (eCallP f_law_line_words (aCons (eNm 1) aNil)) (eK (ds (cs "\n")))) (iAny (eNm 0))))))
def f_law_show : PF := runP 2 1 b_law_show

/-! ### printing -/
theorem row_words {d : D} {r : Ln} (h : RowT d r) : f_line_words [d] = some (.d (ds r)) ∧ f_law_line_words [d] = some (.d (ds r)) := by
  obtain ⟨toks, h1, rfl⟩ := h.line
  exact line_words_ok h1
theorem join_nl : ∀ rows : List Ln, joinL [] (rows.map fun r => r ++ [10]) = joinL [10] (rows ++ [[]])
  | [] => rfl
  | [r] => by
    show r ++ [10] = r ++ ([10] ++ [])
    rfl
  | r :: q :: s => by
    show (r ++ [10]) ++ ([] ++ joinL [] ((q :: s).map fun r => r ++ [10])) = r ++ ([10] ++ joinL [10] ((q :: s) ++ [[]]))
    rw [join_nl (q :: s)]
    simp
theorem join_nl' {rows : List Ln} (h : rows ≠ []) : joinL [10] (rows ++ [[]]) = joinL [10] rows ++ [10] := by
  rw [joinL_app h (by simp)]
  show joinL [10] rows ++ [10] ++ [] = _
  rw [List.append_nil]
abbrev textL (L : List (D × Ln)) : Ln := joinL [10] (L.map Prod.snd ++ [[]])
theorem text_len {L : List (D × Ln)} (h : LinesT L) : (textL L).length ≤ 50000 := by
  have h1 := joinL_len (m := [10]) (k := 400) (ps := L.map Prod.snd ++ [[]]) fun p hp => by
    rcases List.mem_append.mp hp with hp | hp
    · obtain ⟨x, hx, rfl⟩ := List.mem_map.mp hp
      exact (h.1 x hx).len
    · simp at hp; simp [hp]
  have h2 := h.2
  rw [List.length_append, List.length_map] at h1
  exact Nat.le_trans h1 (Nat.le_trans (Nat.mul_le_mul_right _ (show L.length + [([] : Ln)].length ≤ 101 from Nat.succ_le_succ h2)) (by decide))
theorem show_join {L : List (D × Ln)} (h : LinesT L) : dJoin (ds []) (.list (L.map fun x => ds (x.2 ++ [10]))) = some (ds (textL L)) := by
  have j := dJoin_lk (m := []) (parts := L.map fun x => x.2 ++ [10]) 401 (fun p hp => by
    obtain ⟨x, hx, rfl⟩ := List.mem_map.mp hp
    have := (h.1 x hx).len
    simp
    omega) (by rw [List.length_map]; have := h.2; simp; omega)
  rw [List.map_map] at j
  have e := join_nl (L.map Prod.snd)
  rw [List.map_map] at e
  have e' : (L.map fun x => x.2 ++ [10]) = L.map ((fun r => r ++ [10]) ∘ Prod.snd) := rfl
  rw [e', e] at j
  exact j
theorem law_show_ok {L : List (D × Ln)} (h : LinesT L) : f_law_show [.list (L.map Prod.fst)] = some (.d (ds (textL L))) := by
  have e := compS_map (i := 1) (f := eBin dAdd (eCallP f_law_line_words (aCons (eNm 1) aNil)) (eK (ds (cs "\n")))) (st := [.d (.list (L.map Prod.fst)), .no]) (a := Prod.fst) (b := fun x => ds (x.2 ++ [10])) (items := L) fun x hx => by
    have b1 : Bd x.2 400 := ⟨(h.1 x hx).len⟩
    simp [-dAdd_ss, dAdd_ok, (row_words (h.1 x hx)).2]
  have hl : L.length ≤ 1000000 := by have := h.2; omega
  have j := show_join h
  simp at e
  simp [f_law_show, b_law_show, List.replicate, e, hl, j]
theorem print_list_ok {L : List (D × Ln)} (h : LinesT L) : f_print_lines [.list (L.map Prod.fst)] = some (.d (ds (textL L))) := by
  have e := compS_map (i := 1) (f := eBin dAdd (eCallP f_line_words (aCons (eNm 1) aNil)) (eK (ds (cs "\n")))) (st := [.d (.list (L.map Prod.fst)), .no]) (a := Prod.fst) (b := fun x => ds (x.2 ++ [10])) (items := L) fun x hx => by
    have b1 : Bd x.2 400 := ⟨(h.1 x hx).len⟩
    simp [-dAdd_ss, dAdd_ok, (row_words (h.1 x hx)).1]
  have hl : L.length ≤ 1000000 := by have := h.2; omega
  have j := show_join h
  simp at e
  simp [f_print_lines, b_print_lines, List.replicate, e, hl, j]
theorem print_tuple_ok {L : List (D × Ln)} (h : LinesT L) : f_print_lines [.tuple (L.map Prod.fst)] = some (.d (ds (textL L))) := by
  have e := compS_map (i := 1) (f := eBin dAdd (eCallP f_line_words (aCons (eNm 1) aNil)) (eK (ds (cs "\n")))) (st := [.d (.tuple (L.map Prod.fst)), .no]) (a := Prod.fst) (b := fun x => ds (x.2 ++ [10])) (items := L) fun x hx => by
    have b1 : Bd x.2 400 := ⟨(h.1 x hx).len⟩
    simp [-dAdd_ss, dAdd_ok, (row_words (h.1 x hx)).1]
  have hl : L.length ≤ 1000000 := by have := h.2; omega
  have j := show_join h
  simp at e
  simp [f_print_lines, b_print_lines, List.replicate, e, hl, j]

/-! ### _law_same -/
@[simp] theorem dEq_bb {x y : Bool} : dEq (.bool x) (.bool y) = some (decide (x = y)) := by cases x <;> cases y <;> rfl
theorem dEq_nn : dEq .none .none = some true := rfl
inductive Sm : Nat → D → Prop
  | i {n : Nat} {i : Int} : Sm (n + 1) (.int i)
  | s {n : Nat} {l : Ln} : Sm (n + 1) (ds l)
  | no {n : Nat} : Sm (n + 1) .none
  | t {n : Nat} {xs : List D} (h : ∀ x ∈ xs, Sm n x) (hl : xs.length ≤ 1000000) : Sm (n + 1) (.tuple xs)
  | l {n : Nat} {xs : List D} (h : ∀ x ∈ xs, Sm n x) (hl : xs.length ≤ 1000000) : Sm (n + 1) (.list xs)
theorem bools_true {α : Type} : ∀ l : List α, bools (l.map fun _ => PyData.bool true) = some (l.map fun _ => true)
  | [] => rfl
  | a :: r => by
    show (bools (r.map fun _ => PyData.bool true)).map _ = _
    rw [bools_true r]
    rfl
theorem all_true {α : Type} : ∀ l : List α, (l.map fun _ => true).all id = true
  | [] => rfl
  | a :: r => by
    show (true && (r.map fun _ => true).all id) = true
    rw [all_true r]
    rfl
theorem fAll_true {α : Type} (l : List α) : fAll [.list (l.map fun _ => PyData.bool true)] = some (.bool true) := by
  rw [fAll_l, bools_true, Option.map_some, all_true]
theorem rng_ok {f : AS} {st st' : List Sl} {n : Nat} (h : f st = some ([.int n], st')) (hn : n ≤ 1000000) : iRng f st = some (rints 0 n, st') := by
  rw [iRng_ap, h, Option.bind_some]
  show (if -(2 ^ 62) ≤ (n : Int) ∧ (n : Int) < 2 ^ 62 then some (rints 0 (n : Int).toNat, st') else none) = _
  rw [if_pos ⟨by omega, by omega⟩, Int.toNat_natCast]
theorem i2i (i : Int) : dIsi2 "tuple" "list" (.int i) = some (.bool false) := rfl
theorem i2s (l : Ln) : dIsi2 "tuple" "list" (ds l) = some (.bool false) := rfl
theorem i2n : dIsi2 "tuple" "list" .none = some (.bool false) := rfl
theorem i2t (xs : List D) : dIsi2 "tuple" "list" (.tuple xs) = some (.bool true) := rfl
theorem i2l (xs : List D) : dIsi2 "tuple" "list" (.list xs) = some (.bool true) := rfl
theorem idi (i : Int) : dIsi "dict" (.int i) = some (.bool false) := rfl
theorem ids (l : Ln) : dIsi "dict" (ds l) = some (.bool false) := rfl
theorem idn : dIsi "dict" .none = some (.bool false) := rfl
theorem ibi (i : Int) : dIsi "bool" (.int i) = some (.bool false) := rfl
theorem ibs (l : Ln) : dIsi "bool" (ds l) = some (.bool false) := rfl
theorem ibn : dIsi "bool" .none = some (.bool false) := rfl
theorem iii (i : Int) : dIsi "int" (.int i) = some (.bool true) := rfl
theorem iis (l : Ln) : dIsi "int" (ds l) = some (.bool false) := rfl
theorem iin : dIsi "int" .none = some (.bool false) := rfl
theorem isi (i : Int) : dIsi "str" (.int i) = some (.bool false) := rfl
theorem iss (l : Ln) : dIsi "str" (ds l) = some (.bool true) := rfl
theorem isn : dIsi "str" .none = some (.bool false) := rfl
theorem ilt (xs : List D) : dIsi "list" (.tuple xs) = some (.bool false) := rfl
theorem ill (xs : List D) : dIsi "list" (.list xs) = some (.bool true) := rfl
theorem same_i {g : PF} {i : Int} : runP 5 2 (b_law_same g) [.int i, .int i] = some (.d (.bool true)) := by
  simp [b_law_same, List.replicate, i2i, idi, ibi, iii, isi]
theorem same_s {g : PF} {l : Ln} : runP 5 2 (b_law_same g) [ds l, ds l] = some (.d (.bool true)) := by
  simp [b_law_same, List.replicate, i2s, ids, ibs, iis, iss]
theorem same_n {g : PF} : runP 5 2 (b_law_same g) [.none, .none] = some (.d (.bool true)) := by
  simp [b_law_same, List.replicate, i2n, idn, ibn, iin, isn, dEq_nn]
theorem same_comp {g : PF} {d : D} {xs : List D} (hs : ∀ x ∈ xs, g [x, x] = some (.d (.bool true))) (hd : ∀ k : Int, dIx d (.int k) = atI xs k) :
        compS 2 bYes (eCallP g (aCons (eBin dIx (eNm 0) (eNm 2)) (aCons (eBin dIx (eNm 1) (eNm 2)) aNil))) (rints 0 xs.length) [.d d, .d d, .no, .no, .no] = some ((List.range xs.length).map fun _ => .bool true, [.d d, .d d, .no, .no, .no]) := by
  have e := compS_map (i := 2) (f := eCallP g (aCons (eBin dIx (eNm 0) (eNm 2)) (aCons (eBin dIx (eNm 1) (eNm 2)) aNil))) (st := [.d d, .d d, .no, .no, .no]) (a := fun k : Nat => PyData.int (0 + (k : Nat))) (b := fun _ => .bool true) (items := List.range xs.length) fun k hk => by
    have hk' := List.mem_range.mp hk
    have hx : atI xs (k : Int) = some xs[k] := by rw [at_n, List.getElem?_eq_getElem hk']
    have hr := hs _ (List.getElem_mem hk')
    simp [hd, hx, hr]
  exact e
theorem oComp_ok {i : Nat} {c : BS} {f : ES} {it : AS} {st st1 st2 : List Sl} {items outs : List D} (h1 : it st = some (items, st1)) (h2 : notOwn st1 i = true) (h3 : items.length ≤ 1000000) (h4 : compS i c f items (st1.set i .no) = some (outs, st2)) : oComp i c f it st = some (outs, st2) := by
  rw [oComp_ap, h1, Option.bind_some, h2, Bool.true_and, decide_eq_true h3, if_pos rfl]
  exact h4
theorem same_t {g : PF} {xs : List D} (hs : ∀ x ∈ xs, g [x, x] = some (.d (.bool true))) (hl : xs.length ≤ 1000000) : runP 5 2 (b_law_same g) [.tuple xs, .tuple xs] = some (.d (.bool true)) := by
  obtain ⟨outs, e, ha⟩ : ∃ outs, compS 2 bYes (eCallP g (aCons (eBin dIx (eNm 0) (eNm 2)) (aCons (eBin dIx (eNm 1) (eNm 2)) aNil))) (rints 0 xs.length) [.d (.tuple xs), .d (.tuple xs), .no, .no, .no] = some (outs, [.d (.tuple xs), .d (.tuple xs), .no, .no, .no]) ∧ fAll [.list outs] = some (.bool true) := ⟨_, same_comp (d := .tuple xs) hs fun k => by simp, fAll_true (List.range xs.length)⟩
  have r : iRng (aCons (eCall fLen (aCons (eNm 1) aNil)) aNil) [.d (.tuple xs), .d (.tuple xs), .no, .no, .no] = some (rints 0 xs.length, [.d (.tuple xs), .d (.tuple xs), .no, .no, .no]) := rng_ok (by simp) hl
  have g3 : (rints 0 xs.length).length ≤ 1000000 := by rw [rints_len]; exact hl
  have c : oComp 2 bYes (eCallP g (aCons (eBin dIx (eNm 0) (eNm 2)) (aCons (eBin dIx (eNm 1) (eNm 2)) aNil))) (iRng (aCons (eCall fLen (aCons (eNm 1) aNil)) aNil)) [.d (.tuple xs), .d (.tuple xs), .no, .no, .no] = some (outs, [.d (.tuple xs), .d (.tuple xs), .no, .no, .no]) := by
    exact oComp_ok r (by simp) g3 e
  have c1 : (bUn truD (eUn (dIsi2 "tuple" "list") (eNm 1))) [.d (.tuple xs), .d (.tuple xs), .no, .no, .no] = some (true, [.d (.tuple xs), .d (.tuple xs), .no, .no, .no]) := by
    simp [i2t]
  have c2 : (bOr (bNot (bUn truD (eUn (dIsi2 "tuple" "list") (eNm 0)))) (bOr (bBin dNe (eUn (dIsi "list") (eNm 0)) (eUn (dIsi "list") (eNm 1))) (bBin dNe (eCall fLen (aCons (eNm 0) aNil)) (eCall fLen (aCons (eNm 1) aNil))))) [.d (.tuple xs), .d (.tuple xs), .no, .no, .no] = some (false, [.d (.tuple xs), .d (.tuple xs), .no, .no, .no]) := by
    simp [i2t, ilt]
  have c3 : (sRet (eCall fAll (aCons (eFz (oComp 2 bYes (eCallP g (aCons (eBin dIx (eNm 0) (eNm 2)) (aCons (eBin dIx (eNm 1) (eNm 2)) aNil))) (iRng (aCons (eCall fLen (aCons (eNm 1) aNil)) aNil)))) aNil))) [.d (.tuple xs), .d (.tuple xs), .no, .no, .no] = some (.rt (.bool true) [.d (.tuple xs), .d (.tuple xs), .no, .no, .no]) := by
    simp only [sRet_ap, eCall_ap, aCons_ap, eFz_ap, c, Option.map_some, Option.bind_some, aNil_ap, ha]
  rw [runP_ap, if_pos (by rfl)]
  have s0 : startD 5 [PyData.tuple xs, .tuple xs] = [.d (.tuple xs), .d (.tuple xs), .no, .no, .no] := rfl
  rw [s0, b_law_same, sSeq_ap, sIf_ap, c1, Option.bind_some, if_pos rfl, sSeq_ap, sIf_ap, c2, Option.bind_some, if_neg (fun h => Bool.noConfusion h), sNext_ap, Option.bind_some]
  simp only []
  rw [c3]
  rfl
theorem same_l {g : PF} {xs : List D} (hs : ∀ x ∈ xs, g [x, x] = some (.d (.bool true))) (hl : xs.length ≤ 1000000) : runP 5 2 (b_law_same g) [.list xs, .list xs] = some (.d (.bool true)) := by
  obtain ⟨outs, e, ha⟩ : ∃ outs, compS 2 bYes (eCallP g (aCons (eBin dIx (eNm 0) (eNm 2)) (aCons (eBin dIx (eNm 1) (eNm 2)) aNil))) (rints 0 xs.length) [.d (.list xs), .d (.list xs), .no, .no, .no] = some (outs, [.d (.list xs), .d (.list xs), .no, .no, .no]) ∧ fAll [.list outs] = some (.bool true) := ⟨_, same_comp (d := .list xs) hs fun k => by simp, fAll_true (List.range xs.length)⟩
  have r : iRng (aCons (eCall fLen (aCons (eNm 1) aNil)) aNil) [.d (.list xs), .d (.list xs), .no, .no, .no] = some (rints 0 xs.length, [.d (.list xs), .d (.list xs), .no, .no, .no]) := rng_ok (by simp) hl
  have g3 : (rints 0 xs.length).length ≤ 1000000 := by rw [rints_len]; exact hl
  have c : oComp 2 bYes (eCallP g (aCons (eBin dIx (eNm 0) (eNm 2)) (aCons (eBin dIx (eNm 1) (eNm 2)) aNil))) (iRng (aCons (eCall fLen (aCons (eNm 1) aNil)) aNil)) [.d (.list xs), .d (.list xs), .no, .no, .no] = some (outs, [.d (.list xs), .d (.list xs), .no, .no, .no]) := by
    exact oComp_ok r (by simp) g3 e
  have c1 : (bUn truD (eUn (dIsi2 "tuple" "list") (eNm 1))) [.d (.list xs), .d (.list xs), .no, .no, .no] = some (true, [.d (.list xs), .d (.list xs), .no, .no, .no]) := by
    simp [i2l]
  have c2 : (bOr (bNot (bUn truD (eUn (dIsi2 "tuple" "list") (eNm 0)))) (bOr (bBin dNe (eUn (dIsi "list") (eNm 0)) (eUn (dIsi "list") (eNm 1))) (bBin dNe (eCall fLen (aCons (eNm 0) aNil)) (eCall fLen (aCons (eNm 1) aNil))))) [.d (.list xs), .d (.list xs), .no, .no, .no] = some (false, [.d (.list xs), .d (.list xs), .no, .no, .no]) := by
    simp [i2l, ill]
  have c3 : (sRet (eCall fAll (aCons (eFz (oComp 2 bYes (eCallP g (aCons (eBin dIx (eNm 0) (eNm 2)) (aCons (eBin dIx (eNm 1) (eNm 2)) aNil))) (iRng (aCons (eCall fLen (aCons (eNm 1) aNil)) aNil)))) aNil))) [.d (.list xs), .d (.list xs), .no, .no, .no] = some (.rt (.bool true) [.d (.list xs), .d (.list xs), .no, .no, .no]) := by
    simp only [sRet_ap, eCall_ap, aCons_ap, eFz_ap, c, Option.map_some, Option.bind_some, aNil_ap, ha]
  rw [runP_ap, if_pos (by rfl)]
  have s0 : startD 5 [PyData.list xs, .list xs] = [.d (.list xs), .d (.list xs), .no, .no, .no] := rfl
  rw [s0, b_law_same, sSeq_ap, sIf_ap, c1, Option.bind_some, if_pos rfl, sSeq_ap, sIf_ap, c2, Option.bind_some, if_neg (fun h => Bool.noConfusion h), sNext_ap, Option.bind_some]
  simp only []
  rw [c3]
  rfl
theorem same_ok (n : Nat) : ∀ (d : D), Sm n d → f_law_same n [d, d] = some (.d (.bool true)) := by
  induction n with
  | zero =>
    intro d h
    cases h
  | succ n ih =>
    intro d h
    rw [f_law_same]
    cases h with
    | i => exact same_i
    | s => exact same_s
    | no => exact same_n
    | @t n xs h hl => exact same_t (fun x hx => ih x (h x hx)) hl
    | @l n xs h hl => exact same_l (fun x hx => ih x (h x hx)) hl
theorem sm_up : ∀ {n m : Nat} {d : D}, n ≤ m → Sm n d → Sm m d
  | n + 1, m + 1, _, hm, .i => .i
  | n + 1, m + 1, _, hm, .s => .s
  | n + 1, m + 1, _, hm, .no => .no
  | n + 1, m + 1, _, hm, .t h hl => .t (fun x hx => sm_up (Nat.le_of_succ_le_succ hm) (h x hx)) hl
  | n + 1, m + 1, _, hm, .l h hl => .l (fun x hx => sm_up (Nat.le_of_succ_le_succ hm) (h x hx)) hl
theorem sm_cond {d : D} {toks : List Ln} (h : CondT d toks) : Sm 3 d := by
  cases h <;> exact .t (by simp; exact ⟨.s, by first | exact .s | exact ⟨.s, .s⟩⟩) (by simp)
theorem sm_conds {A : List (D × List Ln)} {lo hi : Nat} (h : Conds A lo hi) (h6 : hi ≤ 6) : Sm 4 (cdat A) := .t (fun x hx => by
  obtain ⟨c, hc, rfl⟩ := List.mem_map.mp hx
  exact sm_cond (h.all c hc)) (by have := h.hi; rw [List.length_map]; omega)
theorem sm_form {d : D} {toks : List Ln} (h : FormT d toks) : Sm 5 d := by
  cases h with
  | need a b => exact .t (by simp; exact ⟨.s, sm_conds a (by decide), sm_conds b (by decide)⟩) (by simp)
  | cnt hk hn c => exact .t (by simp; exact ⟨.s, .i, sm_conds c (by decide)⟩) (by simp)
  | cl c => exact .t (by simp; exact ⟨.s, sm_conds c (by decide)⟩) (by simp)
  | ei c => exact .t (by simp; exact ⟨.s, sm_conds c (by decide)⟩) (by simp)
  | same h h' => exact .t (by simp; exact ⟨.s, sm_up (by decide) (sm_cond h), sm_up (by decide) (sm_cond h')⟩) (by simp)
theorem sm_price {d : D} {t : Ln} (h : PriceT d t) : Sm 5 d := by
  rcases h with ⟨rfl, _⟩ | ⟨n, _, _, rfl, _⟩
  · exact .no
  · exact .i
theorem sm_line {d : D} {toks : List Ln} (h : LineT d toks) : Sm 6 d := by
  cases h with
  | nm hk h => exact .t (by simp; exact ⟨.s, .s⟩) (by simp)
  | rel h hv he hp hq => exact .t (by simp; exact ⟨.s, .s, .s, .s, sm_price hp, sm_price hq⟩) (by simp)
  | fea h ho hv hp hq => exact .t (by simp; exact ⟨.s, .s, .s, .s, sm_price hp, sm_price hq⟩) (by simp)
  | sta hk h hr => exact .t (by simp; exact ⟨.s, .s, .s⟩) (by simp)
  | @sig w n a names h h1 h2 hn hl =>
    refine .t ?_ (by simp)
    intro x hx
    simp only [List.mem_cons, List.not_mem_nil, or_false] at hx
    rcases hx with rfl | rfl | rfl | rfl
    · exact .s
    · exact .s
    · exact .i
    · refine .t (fun y hy => ?_) (by simp; omega)
      obtain ⟨l, _, rfl⟩ := List.mem_map.mp hy
      exact .s
  | row h => exact .t (by simp; exact ⟨.s, sm_form h⟩) (by simp)
  | fin => exact .t (by simp; exact .s) (by simp)
theorem sm_lines {L : List (D × Ln)} (h : LinesT L) : Sm 10 (.list (L.map Prod.fst)) := .l (fun x hx => by
  obtain ⟨c, hc, rfl⟩ := List.mem_map.mp hx
  obtain ⟨toks, h1, _⟩ := (h.1 c hc).line
  exact sm_up (by decide) (sm_line h1)) (by have := h.2; rw [List.length_map]; omega)
end DL

set_option Elab.async false
set_option linter.all false
set_option maxRecDepth 100000
set_option maxHeartbeats 4000000
namespace DL
open PySem PySem.Spec L2 TL

/-! ### the drawing functions -/
theorem pick_i {s : List D} (m : Int) (h : St4 s) (hm : m < 1073741824 := by decide) : ∃ (n : Nat) (s' : List D), f_law_pick s [.int m] = some (.d (.int n), s') ∧ St4 s' ∧ ((n : Int) < m ∨ n = 0) := by
  obtain ⟨r, s', e, h', h0, h1⟩ := pick_ok h hm
  refine ⟨r.toNat, s', ?_, h', ?_⟩
  · rw [e, Int.toNat_of_nonneg h0]
  · rcases h1 with h1 | h1
    · exact .inl (by omega)
    · exact .inr (by omega)
/-- what a drawing function gives -/
def Gen (g : SF) (args : List D) (P : D → Prop) : Prop := ∀ s, St4 s → ∃ r s', g s args = some (.d r, s') ∧ St4 s' ∧ P r
theorem number_loop {a b c : Sl} : ∀ (items : List D) (s : List D) (told : Int) (y : Sl), St4 s → 0 ≤ told → ∃ s' told' y', forS (gNm 4) (sSet 3 (eBin dAdd (eBin dMul (eNm 3) (eK (.int 1000003))) (eCallS f_law_pick 0 (aCons (eK (.int 1000003)) aNil)))) items [.own s, b, c, .d (.int told), y] = some (.nx [.own s', b, c, .d (.int told'), y']) ∧ St4 s' ∧ 0 ≤ told'
  | [], s, told, y, h, h0 => ⟨s, told, y, rfl, h, h0⟩
  | x :: r, s, told, y, h, h0 => by
    obtain ⟨n, s1, e1, h1, _⟩ := pick_i 1000003 h
    obtain ⟨s', told', y', e, h', h0'⟩ := number_loop (a := a) (b := b) (c := c) r s1 (told * 1000003 + n) (.d x) h1 (by omega)
    refine ⟨s', told', y', ?_, h', h0'⟩
    rw [forS_cons]
    simp [e1, dMul]
    exact e
theorem number_gen : Gen f_law_number [.int 1000000000] (fun r => ∃ n : Nat, n < 1000000000 ∧ r = .int n) := fun s h => by
  obtain ⟨k, s1, e1, h1, _⟩ := pick_i 4 h
  by_cases k0 : k = 0
  · obtain ⟨n, s2, e2, h2, hn⟩ := pick_i 12 h1
    exact ⟨.int n, s2, by simp [f_law_number, b_law_number, List.replicate, e1, k0, e2], h2, n, by omega, rfl⟩
  · by_cases k1 : k = 1
    · obtain ⟨n, s2, e2, h2, hn⟩ := pick_i 12 h1
      refine ⟨.int (1000000000 - 1 - n), s2, by simp [f_law_number, b_law_number, List.replicate, e1, k1, e2], h2, (1000000000 - 1 - n), by omega, ?_⟩
      congr 1
      omega
    · obtain ⟨s2, told, y', e2, h2, h0⟩ := number_loop (a := .no) (b := .d (.int 1000000000)) (c := .d (.int k)) (rints 0 4) s1 0 .no h1 (by decide)
      have k1' : ¬ (k : Int) = 1 := by omega
      refine ⟨.int (told % 1000000000), s2, ?_, h2, (told % 1000000000).toNat, by omega, ?_⟩
      · have hr : Int.toNat 4 = 4 := rfl
        simp [f_law_number, b_law_number, List.replicate, e1, k0, k1', e2, hr, dMod]
      · rw [Int.toNat_of_nonneg (by omega)]
theorem price_gen : Gen f_law_a_price [] (fun r => ∃ t, PriceT r t) := fun s h => by
  obtain ⟨k, s1, e1, h1, _⟩ := pick_i 5 h
  by_cases k0 : k = 0
  · exact ⟨.none, s1, by simp [f_law_a_price, b_law_a_price, List.replicate, e1, k0], h1, cs "never", .inl ⟨rfl, rfl⟩⟩
  · obtain ⟨r, s2, e2, h2, n, hn, rfl⟩ := number_gen s1 h1
    have hp : dPow (.int 10) (.int 9) = some (.int 1000000000) := by rfl
    refine ⟨.int (1 + n), s2, by simp [f_law_a_price, b_law_a_price, List.replicate, e1, k0, hp, e2], h2, numL (1 + n), .inr ⟨1 + n, by omega, by omega, ?_, rfl⟩⟩
    congr 1
theorem version_loop : ∀ (items : List D) (s : List D) (ns : List Nat) (y : Sl), St4 s → ns ≠ [] → (∀ n ∈ ns, n ≤ 999) → ns.length + items.length ≤ 3 → ∃ s' ns' y', forS (gNm 2) (sSet 1 (eBin dAdd (eBin dAdd (eNm 1) (eK (ds (cs ".")))) (eCall fStr (aCons (eIf (bBin dEq (eCallS f_law_pick 0 (aCons (eK (.int 2)) aNil)) (eK (.int 0))) (eCallS f_law_pick 0 (aCons (eK (.int 1000)) aNil)) (eCallS f_law_pick 0 (aCons (eK (.int 3)) aNil))) aNil)))) items [.own s, .d (ds (joinL [46] (ns.map numL))), y] = some (.nx [.own s', .d (ds (joinL [46] (ns'.map numL))), y']) ∧ St4 s' ∧ ns' ≠ [] ∧ (∀ n ∈ ns', n ≤ 999) ∧ ns'.length ≤ 3
  | [], s, ns, y, h, hne, h9, hl => ⟨s, ns, y, rfl, h, hne, h9, by simpa using hl⟩
  | x :: r, s, ns, y, h, hne, h9, hl => by
    simp only [List.length_cons] at hl
    obtain ⟨k, s1, e1, h1, _⟩ := pick_i 2 h
    have step : ∃ (n : Nat) (s2 : List D), n ≤ 999 ∧ St4 s2 ∧ (eIf (bBin dEq (eCallS f_law_pick 0 (aCons (eK (.int 2)) aNil)) (eK (.int 0))) (eCallS f_law_pick 0 (aCons (eK (.int 1000)) aNil)) (eCallS f_law_pick 0 (aCons (eK (.int 3)) aNil))) [.own s, .d (ds (joinL [46] (ns.map numL))), .d x] = some (.int n, [.own s2, .d (ds (joinL [46] (ns.map numL))), .d x]) := by
      by_cases k0 : k = 0
      · obtain ⟨n, s2, e2, h2, hn⟩ := pick_i 1000 h1
        exact ⟨n, s2, by omega, h2, by simp [e1, k0, e2]⟩
      · obtain ⟨n, s2, e2, h2, hn⟩ := pick_i 3 h1
        exact ⟨n, s2, by omega, h2, by simp [e1, k0, e2]⟩
    obtain ⟨n, s2, hn, h2, e2⟩ := step
    obtain ⟨s', ns', y', e, h', r1, r2, r3⟩ := version_loop r s2 (ns ++ [n]) (.d x) h2 (by simp) (fun q hq => by
      rcases List.mem_append.mp hq with hq | hq
      · exact h9 q hq
      · simp at hq; omega) (by simp; omega)
    refine ⟨s', ns', y', ?_, h', r1, r2, r3⟩
    have fn := fStr_nat (n := n) (by omega)
    have ej : joinL [46] ((ns ++ [n]).map numL) = joinL [46] (ns.map numL) ++ 46 :: numL n := by
      rw [List.map_append, joinL_app (by simpa using hne) (by simp)]
      show joinL [46] (ns.map numL) ++ [46] ++ numL n = _
      simp
    have b1 : Bd (joinL [46] (ns.map numL)) 12 := ⟨ver_len ⟨ns, hne, by omega, h9, rfl⟩⟩
    have b2 : Bd (numL n) 10 := ⟨num_len (by omega)⟩
    rw [ej] at e
    rw [forS_cons]
    generalize joinL [46] (ns.map numL) = J at *
    have hb : (sSet 1 (eBin dAdd (eBin dAdd (eNm 1) (eK (ds (cs ".")))) (eCall fStr (aCons (eIf (bBin dEq (eCallS f_law_pick 0 (aCons (eK (.int 2)) aNil)) (eK (.int 0))) (eCallS f_law_pick 0 (aCons (eK (.int 1000)) aNil)) (eCallS f_law_pick 0 (aCons (eK (.int 3)) aNil))) aNil)))) [.own s, .d (ds J), .d x] = some (.nx [.own s2, .d (ds (J ++ 46 :: numL n)), .d x]) := by
      simp [-eIf_ap, -dAdd_ss, -fStr_i, dAdd_ok, e2, fn]
    rw [gNm_ap, Option.bind_some]
    show ((sSet 1 _) [.own s, .d (ds J), .d x]).bind _ = _
    rw [hb]
    exact e
theorem version_gen : Gen f_law_a_version [] (fun r => ∃ t, VerT t ∧ r = ds t) := fun s h => by
  obtain ⟨n, s1, e1, h1, hn⟩ := pick_i 1000 h
  obtain ⟨m, s2, e2, h2, hm⟩ := pick_i 3 h1
  obtain ⟨s3, ns, y', e3, h3, r1, r2, r3⟩ := version_loop (rints 0 m) s2 [n] .no h2 (by simp) (by simp; omega) (by rw [rints_len]; simp; omega)
  have fn := fStr_nat (n := n) (by omega)
  refine ⟨ds (joinL [46] (ns.map numL)), s3, ?_, h3, _, ⟨ns, r1, r3, r2, rfl⟩, rfl⟩
  have r : iRng (aCons (eCallS f_law_pick 0 (aCons (eK (.int 3)) aNil)) aNil) [.own s1, .d (ds (numL n)), .no] = some (rints 0 m, [.own s2, .d (ds (numL n)), .no]) := rng_ok (by simp [e2]) (by omega)
  have e3' : forS (gNm 2) (sSet 1 (eBin dAdd (eBin dAdd (eNm 1) (eK (ds (cs ".")))) (eCall fStr (aCons (eIf (bBin dEq (eCallS f_law_pick 0 (aCons (eK (.int 2)) aNil)) (eK (.int 0))) (eCallS f_law_pick 0 (aCons (eK (.int 1000)) aNil)) (eCallS f_law_pick 0 (aCons (eK (.int 3)) aNil))) aNil)))) (rints 0 m) [.own s2, .d (ds (numL n)), .no] = some (.nx [.own s3, .d (ds (joinL [46] (ns.map numL))), y']) := e3
  simp at e3'
  simp [-fStr_i, -iRng_ap, f_law_a_version, b_law_a_version, List.replicate, e1, fn, r, e3']
theorem release_gen : Gen f_law_a_release [] (fun r => ∃ t, RelT t ∧ r = ds t) := fun s h => by
  obtain ⟨k, s1, e1, h1, _⟩ := pick_i 5 h
  by_cases k0 : k = 0
  · exact ⟨ds (cs "on"), s1, by simp [f_law_a_release, b_law_a_release, List.replicate, e1, k0], h1, _, .inl rfl, rfl⟩
  · obtain ⟨r, s2, e2, h2, t, ht, rfl⟩ := version_gen s1 h1
    exact ⟨ds t, s2, by simp [f_law_a_release, b_law_a_release, List.replicate, e1, k0, e2], h2, t, .inr ht, rfl⟩
/-- the drawn words -/
structure W6 (ws : List Ln) : Prop where
  len : ws.length = 6
  all : ∀ w ∈ ws, WordT w
theorem ws_at {ws : List Ln} (h : W6 ws) {n : Nat} (hn : (n : Int) < 6 ∨ n = 0) : ∃ w, atI (ws.map ds) (n : Int) = some (ds w) ∧ WordT w := by
  have hl : n < ws.length := by rw [h.len]; omega
  refine ⟨ws[n], ?_, h.all _ (List.getElem_mem hl)⟩
  rw [at_n, List.getElem?_map, List.getElem?_eq_getElem hl]
  rfl
theorem name_gen {ws : List Ln} (h : W6 ws) : Gen f_law_a_name [.list (ws.map ds)] (fun r => ∃ t, NameT t ∧ r = ds t) := fun s hs => by
  have hl : ((ws.map ds).length : Int) = 6 := by rw [List.length_map, h.len]; rfl
  obtain ⟨k, s1, e1, h1, hk⟩ := pick_i 6 hs
  obtain ⟨w, ew, hw⟩ := ws_at h hk
  obtain ⟨j, s2, e2, h2, _⟩ := pick_i 5 h1
  simp only [List.length_map] at hl
  by_cases j0 : j = 0
  · obtain ⟨k', s3, e3, h3, hk'⟩ := pick_i 6 h2
    obtain ⟨w', ew', hw'⟩ := ws_at h hk'
    have b1 : Bd w 12 := ⟨hw.len⟩
    have b2 : Bd w' 12 := ⟨hw'.len⟩
    exact ⟨ds (w ++ 43 :: w'), s3, by simp [-dAdd_ss, dAdd_ok, f_law_a_name, b_law_a_name, List.replicate, hl, e1, ew, e2, j0, e3, ew'], h3, _, .inr ⟨w, w', hw, hw', rfl⟩, rfl⟩
  · exact ⟨ds w, s2, by simp [f_law_a_name, b_law_a_name, List.replicate, hl, e1, ew, e2, j0], h2, _, .inl hw, rfl⟩
theorem condition_gen {ws : List Ln} (h : W6 ws) : Gen f_law_a_condition [.list (ws.map ds)] (fun r => ∃ t, CondT r t) := fun s hs => by
  obtain ⟨k, s1, e1, h1, hk⟩ := pick_i 4 hs
  obtain ⟨r, s2, e2, h2, t, ht, rfl⟩ := name_gen h s1 h1
  by_cases k3 : k = 3
  · exact ⟨_, s2, by simp [f_law_a_condition, b_law_a_condition, List.replicate, e1, k3, e2], h2, _, .non ht⟩
  · obtain ⟨r', s3, e3, h3, v, hv, rfl⟩ := release_gen s2 h2
    have hk' : k = 0 ∨ k = 1 ∨ k = 2 := by omega
    rcases hk' with rfl | rfl | rfl
    · exact ⟨_, s3, by simp [f_law_a_condition, b_law_a_condition, List.replicate, e1, e2, at_0, at_1, at_2, e3], h3, _, .frm ht hv⟩
    · exact ⟨_, s3, by simp [f_law_a_condition, b_law_a_condition, List.replicate, e1, e2, at_0, at_1, at_2, e3], h3, _, .not ht hv⟩
    · exact ⟨_, s3, by simp [f_law_a_condition, b_law_a_condition, List.replicate, e1, e2, at_0, at_1, at_2, e3], h3, _, .att ht hv⟩
end DL

set_option Elab.async false
set_option linter.all false
set_option maxRecDepth 100000
set_option maxHeartbeats 4000000
namespace DL
open PySem PySem.Spec L2 TL

theorem compS_gen {j : Nat} {f : ES} {tl : List Sl} {P : D → Prop} (hf : ∀ (s : List D) (x : D), St4 s → ∃ r s', f (.own s :: tl.set j (.d x)) = some (r, .own s' :: tl.set j (.d x)) ∧ St4 s' ∧ P r) :
    ∀ (items : List D) (s : List D), St4 s → ∃ outs s', compS (j + 1) bYes f items (.own s :: tl.set j .no) = some (outs, .own s' :: tl.set j .no) ∧ St4 s' ∧ outs.length = items.length ∧ ∀ o ∈ outs, P o
  | [], s, h => ⟨[], s, rfl, h, rfl, by simp⟩
  | x :: r, s, h => by
    obtain ⟨o, s1, e1, h1, p1⟩ := hf s x h
    obtain ⟨outs, s2, e2, h2, l2, p2⟩ := compS_gen hf r s1 h1
    refine ⟨o :: outs, s2, ?_, h2, by simp [l2], ?_⟩
    · rw [compS_cons]
      simp [e1, e2]
    · intro q hq
      rcases List.mem_cons.mp hq with rfl | hq
      · exact p1
      · exact p2 q hq
theorem choose_list {α β : Type} {P : α → β → Prop} : ∀ outs : List α, (∀ o ∈ outs, ∃ t, P o t) → ∃ cds : List (α × β), cds.map Prod.fst = outs ∧ ∀ c ∈ cds, P c.1 c.2
  | [], _ => ⟨[], rfl, by simp⟩
  | o :: r, h => by
    obtain ⟨t, ht⟩ := h o List.mem_cons_self
    obtain ⟨cds, e, hc⟩ := choose_list r fun x hx => h x (List.mem_cons_of_mem _ hx)
    refine ⟨(o, t) :: cds, by simp [e], ?_⟩
    intro c hc'
    rcases List.mem_cons.mp hc' with rfl | hc'
    · exact ht
    · exact hc c hc'
theorem conditions_gen {ws : List Ln} (h : W6 ws) {lo hi : Nat} (h1 : lo ≤ hi) (h6 : hi ≤ 6) : Gen f_law_a_conditions [.list (ws.map ds), .int lo, .int hi] (fun r => ∃ C, Conds C lo hi ∧ r = cdat C) := fun s hs => by
  obtain ⟨n, s1, e1, hs1, hn⟩ := pick_i ((hi : Int) - lo + 1) hs (by omega)
  obtain ⟨outs, s2, e2, h2, l2, p2⟩ := compS_gen (j := 3) (f := eCallS f_law_a_condition 0 (aCons (eNm 1) aNil)) (tl := [.d (.list (ws.map ds)), .d (.int lo), .d (.int hi), .no]) (P := fun r => ∃ t, CondT r t) (fun s x hs => by
    obtain ⟨r, s', e, h', p⟩ := condition_gen h s hs
    exact ⟨r, s', by simp [e], h', p⟩) (rints 0 (lo + n)) s1 hs1
  obtain ⟨C, rfl, hC⟩ := choose_list outs p2
  rw [List.length_map, rints_len] at l2
  have r : iRng (aCons (eBin dAdd (eNm 2) (eCallS f_law_pick 0 (aCons (eBin dAdd (eBin dSub (eNm 3) (eNm 2)) (eK (.int 1))) aNil))) aNil) [.own s, .d (.list (ws.map ds)), .d (.int lo), .d (.int hi), .no] = some (rints 0 (lo + n), [.own s1, .d (.list (ws.map ds)), .d (.int lo), .d (.int hi), .no]) := rng_ok (by simp [e1]) (by omega)
  have c := oComp_ok r (by simp) (by rw [rints_len]; omega) e2
  simp [-oComp_ap, -iRng_ap] at c
  exact ⟨cdat C, s2, by simp [-oComp_ap, -iRng_ap, f_law_a_conditions, b_law_a_conditions, List.replicate, c], h2, C, ⟨hC, by omega, by omega⟩, rfl⟩
theorem form_gen {ws : List Ln} (h : W6 ws) : Gen f_law_a_form [.list (ws.map ds)] (fun r => ∃ t, FormT r t) := fun s hs => by
  obtain ⟨k, s1, e1, h1, hk⟩ := pick_i 6 hs
  have c14 := conditions_gen h (lo := 1) (hi := 4) (by decide) (by decide)
  have c16 := conditions_gen h (lo := 1) (hi := 6) (by decide) (by decide)
  have c26 := conditions_gen h (lo := 2) (hi := 6) (by decide) (by decide)
  have hk' : k = 0 ∨ k = 1 ∨ k = 2 ∨ k = 3 ∨ k = 4 ∨ k = 5 := by omega
  rcases hk' with rfl | rfl | rfl | rfl | rfl | rfl
  · obtain ⟨r, s2, e2, h2, A, hA, rfl⟩ := c14 s1 h1
    obtain ⟨r, s3, e3, h3, B, hB, rfl⟩ := c16 s2 h2
    simp at e2 e3
    exact ⟨_, s3, by simp [f_law_a_form, b_law_a_form, List.replicate, e1, e2, e3], h3, _, .need hA hB⟩
  · obtain ⟨r, s2, e2, h2, A, hA, rfl⟩ := c26 s1 h1
    simp at e2
    exact ⟨_, s2, by simp [f_law_a_form, b_law_a_form, List.replicate, e1, e2], h2, _, .cl hA⟩
  · obtain ⟨r, s2, e2, h2, A, hA, rfl⟩ := c16 s1 h1
    simp at e2
    exact ⟨_, s2, by simp [f_law_a_form, b_law_a_form, List.replicate, e1, e2], h2, _, .ei hA⟩
  · obtain ⟨r, s2, e2, h2, t, ht⟩ := condition_gen h s1 h1
    obtain ⟨r', s3, e3, h3, t', ht'⟩ := condition_gen h s2 h2
    exact ⟨_, s3, by simp [f_law_a_form, b_law_a_form, List.replicate, e1, e2, e3], h3, _, .same (a := (r, t)) (b := (r', t')) ht ht'⟩
  · obtain ⟨n, s2, e2, h2, hn⟩ := pick_i 7 h1
    obtain ⟨r, s3, e3, h3, A, hA, rfl⟩ := c16 s2 h2
    simp at e3
    exact ⟨_, s3, by simp [f_law_a_form, b_law_a_form, List.replicate, e1, e2, e3, at_0, at_1], h3, _, .cnt (n := n) (.inl rfl) (by omega) hA⟩
  · obtain ⟨n, s2, e2, h2, hn⟩ := pick_i 7 h1
    obtain ⟨r, s3, e3, h3, A, hA, rfl⟩ := c16 s2 h2
    simp at e3
    exact ⟨_, s3, by simp [f_law_a_form, b_law_a_form, List.replicate, e1, e2, e3, at_0, at_1], h3, _, .cnt (n := n) (.inr rfl) (by omega) hA⟩
theorem line_gen {ws : List Ln} (h : W6 ws) : Gen f_law_a_line [.list (ws.map ds)] (fun r => ∃ t, LineT r t) := fun s hs => by
  have hl : ((ws.map ds).length : Int) = 6 := by rw [List.length_map, h.len]; rfl
  simp only [List.length_map] at hl
  obtain ⟨k, s1, e1, h1, hk⟩ := pick_i 12 hs
  obtain ⟨m, s2, e2, h2, hm⟩ := pick_i 6 h1
  obtain ⟨w, ew, hw⟩ := ws_at h hm
  by_cases k3 : (k : Int) < 3
  · obtain ⟨r, s3, e3, h3, t, ht⟩ := form_gen h s2 h2
    exact ⟨_, s3, by simp [f_law_a_line, b_law_a_line, List.replicate, e1, hl, e2, ew, k3, e3], h3, _, .row ht⟩
  · have hk' : k = 3 ∨ k = 4 ∨ k = 5 ∨ k = 6 ∨ k = 7 ∨ k = 8 ∨ k = 9 ∨ k = 10 ∨ k = 11 := by omega
    clear k3 hk
    rcases hk' with rfl | rfl | rfl | rfl | rfl | rfl | rfl | rfl | rfl
    · obtain ⟨q, s3, e3, h3, _⟩ := pick_i 2 h2
      have he : ∃ (t : Ln) (s4 : List D), St4 s4 ∧ (t = cs "none" ∨ VerT t) ∧ (eIf (bBin dEq (eCallS f_law_pick 0 (aCons (eK (.int 2)) aNil)) (eK (.int 0))) (eK (ds (cs "none"))) (eCallS f_law_a_version 0 aNil)) [.own s2, .d (.list (ws.map ds)), .d (.int 3), .d (ds w), .no, .no, .no, .no] = some (ds t, [.own s4, .d (.list (ws.map ds)), .d (.int 3), .d (ds w), .no, .no, .no, .no]) := by
        by_cases q0 : q = 0
        · exact ⟨_, s3, h3, .inl rfl, by simp [e3, q0]⟩
        · obtain ⟨r, s4, e4, h4, t, ht, rfl⟩ := version_gen s3 h3
          exact ⟨t, s4, h4, .inr ht, by simp [e3, q0, e4]⟩
      obtain ⟨t, s4, h4, ht, e4⟩ := he
      obtain ⟨r, s5, e5, h5, v, hv, rfl⟩ := version_gen s4 h4
      obtain ⟨p, s6, e6, h6, tp, hp⟩ := price_gen s5 h5
      obtain ⟨p', s7, e7, h7, tp', hp'⟩ := price_gen s6 h6
      exact ⟨_, s7, by simp [-eIf_ap, f_law_a_line, b_law_a_line, List.replicate, e1, hl, e2, ew, e4, e5, e6, e7], h7, _, .rel hw hv ht hp hp'⟩
    · obtain ⟨m', s3, e3, h3, hm'⟩ := pick_i 6 h2
      obtain ⟨w', ew', hw'⟩ := ws_at h hm'
      obtain ⟨r, s5, e5, h5, v, hv, rfl⟩ := version_gen s3 h3
      obtain ⟨p, s6, e6, h6, tp, hp⟩ := price_gen s5 h5
      obtain ⟨p', s7, e7, h7, tp', hp'⟩ := price_gen s6 h6
      exact ⟨_, s7, by simp [f_law_a_line, b_law_a_line, List.replicate, e1, hl, e2, ew, e3, ew', e5, e6, e7], h7, _, .fea hw hw' hv hp hp'⟩
    · obtain ⟨r, s3, e3, h3, n, hn, rfl⟩ := name_gen h s2 h2
      obtain ⟨r, s4, e4, h4, v, hv, rfl⟩ := release_gen s3 h3
      exact ⟨_, s4, by simp [f_law_a_line, b_law_a_line, List.replicate, e1, hl, e2, ew, e3, e4, at_0, at_1], h4, _, .sta (.inl rfl) hn hv⟩
    · obtain ⟨r, s3, e3, h3, n, hn, rfl⟩ := name_gen h s2 h2
      obtain ⟨r, s4, e4, h4, v, hv, rfl⟩ := release_gen s3 h3
      exact ⟨_, s4, by simp [f_law_a_line, b_law_a_line, List.replicate, e1, hl, e2, ew, e3, e4, at_0, at_1], h4, _, .sta (.inr rfl) hn hv⟩
    · obtain ⟨n, s3, e3, h3, hn⟩ := pick_i 8 h2
      obtain ⟨outs, s4, e4, h4, l4, p4⟩ := compS_gen (j := 6) (f := eCallS f_law_a_name 0 (aCons (eNm 1) aNil)) (tl := [.d (.list (ws.map ds)), .d (.int 7), .d (ds w), .no, .no, .no, .no]) (P := fun r => ∃ t, NameT t ∧ r = ds t) (fun s x hs => by
        obtain ⟨r, s', e, h', p⟩ := name_gen h s hs
        exact ⟨r, s', by simp [e], h', p⟩) (rints 0 (1 + n)) s3 h3
      obtain ⟨C, rfl, hC⟩ := choose_list outs p4
      rw [List.length_map, rints_len] at l4
      have r : iRng (aCons (eBin dAdd (eK (.int 1)) (eCallS f_law_pick 0 (aCons (eK (.int 8)) aNil))) aNil) [.own s2, .d (.list (ws.map ds)), .d (.int 7), .d (ds w), .no, .no, .no, .no] = some (rints 0 (1 + n), [.own s3, .d (.list (ws.map ds)), .d (.int 7), .d (ds w), .no, .no, .no, .no]) := rng_ok (by simp [e3]) (by omega)
      have c := oComp_ok r (by simp) (by rw [rints_len]; omega) e4
      simp [-oComp_ap, -iRng_ap] at c
      obtain ⟨q, s5, e5, h5, hq⟩ := pick_i 99 h4
      have eC : C.map Prod.fst = (C.map Prod.snd).map ds := by
        rw [List.map_map]
        exact List.map_congr_left fun x hx => (hC x hx).2
      have hn' : ∀ x ∈ C.map Prod.snd, NameT x := fun x hx => by
        obtain ⟨c, hc, rfl⟩ := List.mem_map.mp hx
        exact (hC c hc).1
      have hlen : (C.map Prod.snd).length = 1 + n := by rw [List.length_map]; exact l4
      rw [eC] at c
      generalize C.map Prod.snd = N at *
      cases N with
      | nil => simp at hlen; omega
      | cons a N =>
        simp only [List.length_cons] at hlen
        exact ⟨_, s5, by simp [-oComp_ap, -iRng_ap, f_law_a_line, b_law_a_line, List.replicate, e1, hl, e2, ew, c, e5], h5, _, .sig hw (n := 1 + q) (by omega) (by omega) hn' (by omega)⟩
    · exact ⟨_, s2, by simp [f_law_a_line, b_law_a_line, List.replicate, e1, hl, e2, ew], h2, _, .fin⟩
    · exact ⟨_, s2, by simp [f_law_a_line, b_law_a_line, List.replicate, e1, hl, e2, ew, at_0, at_1, at_2], h2, _, .nm (.inl rfl) hw⟩
    · exact ⟨_, s2, by simp [f_law_a_line, b_law_a_line, List.replicate, e1, hl, e2, ew, at_0, at_1, at_2], h2, _, .nm (.inr (.inl rfl)) hw⟩
    · exact ⟨_, s2, by simp [f_law_a_line, b_law_a_line, List.replicate, e1, hl, e2, ew, at_0, at_1, at_2], h2, _, .nm (.inr (.inr rfl)) hw⟩
end DL

set_option Elab.async false
set_option linter.all false
set_option maxRecDepth 100000
set_option maxHeartbeats 4000000
namespace DL
open PySem PySem.Spec L2 TL

/-! ### _law_words -/
structure Cand (t : Ln) (k : Nat) : Prop where
  len : t.length ≤ k
  head : ∃ c r, t = c :: r ∧ Let c
  all : ∀ c ∈ t, Let c ∨ Fig c
abbrev aL : Ln := cs "abcdefghijklmnopqrstuvwxyz"
abbrev aF : Ln := cs "0123456789"
theorem letter_at {n : Nat} (h : (n : Int) < 26 ∨ n = 0) : ∃ c, dIx (ds aL) (.int n) = some (ds [c]) ∧ Let c := by
  have hl : aL.length = 26 := by decide
  have hn : n < aL.length := by omega
  refine ⟨aL[n], ?_, ?_⟩
  · rw [dIx_s, codes_mk, if_pos (by rw [szl]; omega), at_n, List.getElem?_eq_getElem hn]
    rfl
  · have := in_letters (c := aL[n])
    have hm : aL[n] ∈ aL := List.getElem_mem hn
    rw [decide_eq_true hm] at this
    exact of_decide_eq_true this.symm
theorem sign_at {n : Nat} (h : (n : Int) < 36 ∨ n = 0) : ∃ c, dIx (ds (aL ++ aF)) (.int n) = some (ds [c]) ∧ (Let c ∨ Fig c) := by
  have hl : (aL ++ aF).length = 36 := by decide
  have hn : n < (aL ++ aF).length := by omega
  refine ⟨(aL ++ aF)[n], ?_, ?_⟩
  · rw [dIx_s, codes_mk, if_pos (by rw [szl]; omega), at_n, List.getElem?_eq_getElem hn]
    rfl
  · have hm : (aL ++ aF)[n] ∈ aL ++ aF := List.getElem_mem hn
    generalize (aL ++ aF)[n] = c at *
    rcases List.mem_append.mp hm with hm | hm
    · have := in_letters (c := c)
      rw [decide_eq_true hm] at this
      exact .inl (of_decide_eq_true this.symm)
    · have := in_figures (c := c)
      rw [decide_eq_true hm] at this
      exact .inr (of_decide_eq_true this.symm)
theorem kept_ok : f_law_kept [] = some (.d (.list (keptL.map ds))) := by
  have e : cs "name hidden release feature row start later signer book end after up down never from not at none on need" ++ cs " clash either same most least of and or come go publish withdraw answer letter heard" = joinL [32] keptL := by decide
  have b1 : Bd (cs "name hidden release feature row start later signer book end after up down never from not at none on need") 200 := ⟨by decide⟩
  have b2 : Bd (cs " clash either same most least of and or come go publish withdraw answer letter heard") 200 := ⟨by decide⟩
  have sp := splitD (s := 32) (by decide) (parts := keptL) (by decide) (by decide)
  have hl : (joinL [32] keptL).length + 2 ≤ sizeLine := by
    rw [szl]
    decide
  have h1 : ∀ st : List Sl, oSplit (eK (ds (joinL [32] keptL))) (eK (ds [32])) st = some (keptL.map ds, st) := fun st => by
    rw [oSplit_ap, eK_ap, Option.bind_some, eK_ap, Option.bind_some]
    simp only [codes_mk]
    rw [if_pos ⟨by decide, hl⟩, sp]
  have h2 : (eFz (oSplit (eNm 0) (eK (ds (cs " "))))) [.d (ds (joinL [32] keptL))] = some (.list (keptL.map ds), [.d (ds (joinL [32] keptL))]) := by
    have := h1 [.d (ds (joinL [32] keptL))]
    rw [eFz_ap, cs_blank]
    rw [oSplit_ap] at this ⊢
    rw [eK_ap, Option.bind_some] at this
    rw [eNm_ap]
    simp only [List.getElem?_cons_zero, Option.bind_some]
    simp only [this]
    rfl
  simp [-eFz_ap, -dAdd_ss, dAdd_ok, f_law_kept, b_law_kept, List.replicate]
  rw [e]
  simp [-eFz_ap] at h2
  simp [-eFz_ap, h2]
theorem chars_loop {a b c d e f g h' : Sl} : ∀ (items : List D) (s : List D) (w : Ln) (y : Sl), St4 s → Cand w (12 - items.length) → items.length ≤ 12 → ∃ s' w' y', forS (gNm 10) (sSet 9 (eBin dAdd (eNm 9) (eBin dIx (eNm 3) (eCallS f_law_pick 0 (aCons (eK (.int 36)) aNil))))) items [.own s, a, b, .d (ds (aL ++ aF)), d, e, f, g, h', .d (ds w), y] = some (.nx [.own s', a, b, .d (ds (aL ++ aF)), d, e, f, g, h', .d (ds w'), y']) ∧ St4 s' ∧ Cand w' 12
  | [], s, w, y, hs, hw, _ => ⟨s, w, y, rfl, hs, hw⟩
  | x :: r, s, w, y, hs, hw, hl => by
    simp only [List.length_cons] at hl hw
    obtain ⟨n, s1, e1, h1, hn⟩ := pick_i 36 hs
    obtain ⟨ch, ec, hc⟩ := sign_at hn
    have b1 : Bd w 12 := ⟨by have := hw.len; omega⟩
    obtain ⟨q, t, ew, hq⟩ := hw.head
    obtain ⟨s', w', y', e', h2, hw'⟩ := chars_loop (a := a) (b := b) (c := c) (d := d) (e := e) (f := f) (g := g) (h' := h') r s1 (w ++ [ch]) (.d x) h1 ⟨by have := hw.len; rw [List.length_append]; simp only [List.length_cons, List.length_nil]; omega, ⟨q, t ++ [ch], by rw [ew]; rfl, hq⟩, fun z hz => by
      rcases List.mem_append.mp hz with hz | hz
      · exact hw.all z hz
      · simp at hz; rw [hz]; exact hc⟩ (by omega)
    refine ⟨s', w', y', ?_, h2, hw'⟩
    rw [forS_cons, gNm_ap, Option.bind_some]
    have hb : (sSet 9 (eBin dAdd (eNm 9) (eBin dIx (eNm 3) (eCallS f_law_pick 0 (aCons (eK (.int 36)) aNil))))) [.own s, a, b, .d (ds (aL ++ aF)), d, e, f, g, h', .d (ds w), .d x] = some (.nx [.own s1, a, b, .d (ds (aL ++ aF)), d, e, f, g, h', .d (ds (w ++ [ch])), .d x]) := by
      generalize aL ++ aF = S at *
      simp [-dIx_s, -dAdd_ss, dAdd_ok, e1, ec]
    show ((sSet 9 _) [.own s, a, b, .d (ds (aL ++ aF)), d, e, f, g, h', .d (ds w), .d x]).bind _ = _
    rw [hb]
    exact e'
theorem z_word {j k : Nat} (hj : j < 100) (hk : k < 100) : WordT (cs "z" ++ numL j ++ cs "x" ++ numL k) := by
  have l1 : (numL j).length ≤ 2 := numL_len (by decide) (by omega)
  have l2 : (numL k).length ≤ 2 := numL_len (by decide) (by omega)
  have ez : cs "z" = [122] := by decide
  have ex : cs "x" = [120] := by decide
  rw [ez, ex]
  refine ⟨by simp; omega, ⟨122, numL j ++ [120] ++ numL k, by simp, by decide⟩, fun c hc => ?_, fun hm => ?_⟩
  · simp at hc
    rcases hc with rfl | hc | rfl | hc
    · exact .inl (by decide)
    · exact .inr (num_fig hc)
    · exact .inl (by decide)
    · exact .inr (num_fig hc)
  · have : ∀ t ∈ keptL, t.head? ≠ some 122 := by decide
    exact this _ hm rfl
theorem fresh_loop {a b c d f g : Sl} {s : List D} {told : List Ln} {k : Nat} (hk : k < 100) : ∀ (js : List Nat) (w : Ln) (y : Sl), (∀ j ∈ js, j < 100) → Cand w 12 → (js ≠ [] ∨ WordT w) → ∃ w' y', forS (gNm 10) (sSeq (sIf (bAnd (bBin dNotIn (eNm 9) (eNm 5)) (bBinV dNotIn (eNm 9) (oNm 4)))
  sBrk
  sNext)
  (sSet 9 (eBin dAdd (eBin dAdd (eBin dAdd (eK (ds (cs "z"))) (eCall fStr (aCons (eNm 10) aNil))) (eK (ds (cs "x")))) (eCall fStr (aCons (eNm 8) aNil))))) (js.map fun j => PyData.int (0 + (j : Nat))) [a, b, c, d, .own (told.map ds), .d (.list (keptL.map ds)), f, g, .d (.int k), .d (ds w), y] = some (.nx [a, b, c, d, .own (told.map ds), .d (.list (keptL.map ds)), f, g, .d (.int k), .d (ds w'), y']) ∧ WordT w'
  | [], w, y, _, _, h => ⟨w, y, rfl, h.resolve_left (fun z => z rfl)⟩
  | j :: r, w, y, hj, hw, _ => by
    have hj0 := hj j List.mem_cons_self
    have fj := fStr_nat (n := j) (by omega)
    have fk := fStr_nat (n := k) (by omega)
    have b1 : Bd (numL j) 10 := ⟨num_len (by omega)⟩
    have b2 : Bd (numL k) 10 := ⟨num_len (by omega)⟩
    have bz : Bd (cs "z") 1 := ⟨by decide⟩
    have bx : Bd (cs "x") 1 := ⟨by decide⟩
    rw [List.map_cons, forS_cons, gNm_ap, Option.bind_some]
    by_cases hb : w ∉ keptL ∧ w ∉ told
    · refine ⟨w, .d (.int (0 + (j : Nat))), ?_, ⟨hw.len, hw.head, hw.all, hb.1⟩⟩
      simp [dIn_l, hb.1, hb.2]
    · have zw := z_word hj0 hk
      obtain ⟨w', y', e, h'⟩ := fresh_loop hk (a := a) (b := b) (c := c) (d := d) (f := f) (g := g) (s := s) (told := told) r _ (.d (.int (0 + (j : Nat)))) (fun q hq => hj q (List.mem_cons_of_mem _ hq)) ⟨zw.len, zw.head, zw.all⟩ (.inr zw)
      refine ⟨w', y', ?_, h'⟩
      have hbody : (sSeq (sIf (bAnd (bBin dNotIn (eNm 9) (eNm 5)) (bBinV dNotIn (eNm 9) (oNm 4)))
  sBrk
  sNext)
  (sSet 9 (eBin dAdd (eBin dAdd (eBin dAdd (eK (ds (cs "z"))) (eCall fStr (aCons (eNm 10) aNil))) (eK (ds (cs "x")))) (eCall fStr (aCons (eNm 8) aNil))))) [a, b, c, d, .own (told.map ds), .d (.list (keptL.map ds)), f, g, .d (.int k), .d (ds w), .d (.int (0 + (j : Nat)))] = some (.nx [a, b, c, d, .own (told.map ds), .d (.list (keptL.map ds)), f, g, .d (.int k), .d (ds (cs "z" ++ numL j ++ cs "x" ++ numL k)), .d (.int (0 + (j : Nat)))]) := by
        by_cases h1 : w ∈ keptL
        · simp [-dAdd_ss, -fStr_i, dAdd_ok, dIn_l, h1, fj, fk]
        · have h2 : w ∈ told := by
            by_cases h2 : w ∈ told
            · exact h2
            · exact absurd ⟨h1, h2⟩ hb
          simp [-dAdd_ss, -fStr_i, dAdd_ok, dIn_l, h1, h2, fj, fk]
      show ((sSeq _ _) [a, b, c, d, .own (told.map ds), .d (.list (keptL.map ds)), f, g, .d (.int k), .d (ds w), .d (.int (0 + (j : Nat)))]).bind _ = _
      rw [hbody]
      exact e
end DL

set_option Elab.async false
set_option linter.all false
set_option maxRecDepth 100000
set_option maxHeartbeats 4000000
namespace DL
open PySem PySem.Spec L2 TL

def wHead : SS := (sSet 9 (eIf (bUn truD (eNm 6)) (eNm 7) (eBin dIx (eNm 2) (eCallS f_law_pick 0 (aCons (eK (.int 26)) aNil)))))
def wItA : AS := (iRng (aCons (eIf (bUn truD (eNm 6)) (eK (.int 2)) (eIf (bBin dEq (eCallS f_law_pick 0 (aCons (eK (.int 5)) aNil)) (eK (.int 0))) (eCallS f_law_pick 0 (aCons (eK (.int 12)) aNil)) (eCallS f_law_pick 0 (aCons (eK (.int 4)) aNil)))) aNil))
def wBodyA : SS := (sSet 9 (eBin dAdd (eNm 9) (eBin dIx (eNm 3) (eCallS f_law_pick 0 (aCons (eK (.int 36)) aNil)))))
def wItB : AS := (iRng (aCons (eBin dAdd (eNm 1) (eK (.int 40))) aNil))
def wBodyB : SS := (sSeq (sIf (bAnd (bBin dNotIn (eNm 9) (eNm 5)) (bBinV dNotIn (eNm 9) (oNm 4)))
  sBrk
  sNext)
  (sSet 9 (eBin dAdd (eBin dAdd (eBin dAdd (eK (ds (cs "z"))) (eCall fStr (aCons (eNm 10) aNil))) (eK (ds (cs "x")))) (eCall fStr (aCons (eNm 8) aNil)))))
def wBody : SS := sSeq wHead (sSeq (sFor (gNm 10) wItA wBodyA) (sSeq (sFor (gNm 10) wItB wBodyB) (sApp 4 (eNm 9))))
theorem w_body {b g : Sl} {s : List D} {al : Bool} {stem : Ln} {told : List Ln} {k : Nat} {y9 y10 : Sl} (hs : St4 s) (hst : Cand stem 3) (hk : k < 100) (ht : told.length < 100) :
    ∃ (s' : List D) (w : Ln) (z9 z10 : Sl), wBody [.own s, .d (.int 6), .d (ds aL), .d (ds (aL ++ aF)), .own (told.map ds), .d (.list (keptL.map ds)), .d (.bool al), .d (ds stem), .d (.int k), y9, y10] = some (.nx [.own s', .d (.int 6), .d (ds aL), .d (ds (aL ++ aF)), .own (told.map ds ++ [ds w]), .d (.list (keptL.map ds)), .d (.bool al), .d (ds stem), .d (.int k), z9, z10]) ∧ St4 s' ∧ WordT w := by
  have h1 : ∃ (s1 : List D) (w : Ln), wHead [.own s, .d (.int 6), .d (ds aL), .d (ds (aL ++ aF)), .own (told.map ds), .d (.list (keptL.map ds)), .d (.bool al), .d (ds stem), .d (.int k), y9, y10] = some (.nx [.own s1, .d (.int 6), .d (ds aL), .d (ds (aL ++ aF)), .own (told.map ds), .d (.list (keptL.map ds)), .d (.bool al), .d (ds stem), .d (.int k), .d (ds w), y10]) ∧ St4 s1 ∧ Cand w (if al then 3 else 1) := by
    cases al with
    | true => exact ⟨s, stem, by simp [wHead], hs, hst⟩
    | false =>
      obtain ⟨n, s1, e1, h1, hn⟩ := pick_i 26 hs
      obtain ⟨c, ec, hc⟩ := letter_at hn
      exact ⟨s1, [c], by generalize aL = A at *; simp [-dIx_s, wHead, e1, ec], h1, ⟨by simp, ⟨c, [], rfl, hc⟩, fun z hz => by simp at hz; rw [hz]; exact .inl hc⟩⟩
  obtain ⟨s1, w, e1, hs1, hw⟩ := h1
  have h2 : ∃ (s2 : List D) (n : Nat), wItA [.own s1, .d (.int 6), .d (ds aL), .d (ds (aL ++ aF)), .own (told.map ds), .d (.list (keptL.map ds)), .d (.bool al), .d (ds stem), .d (.int k), .d (ds w), y10] = some (rints 0 n, [.own s2, .d (.int 6), .d (ds aL), .d (ds (aL ++ aF)), .own (told.map ds), .d (.list (keptL.map ds)), .d (.bool al), .d (ds stem), .d (.int k), .d (ds w), y10]) ∧ St4 s2 ∧ Cand w (12 - n) ∧ n ≤ 11 := by
    cases al with
    | true =>
      have hw' : w.length ≤ 3 := hw.len
      refine ⟨s1, 2, rng_ok (by simp) (by decide), hs1, ⟨by omega, hw.head, hw.all⟩, by decide⟩
    | false =>
      have hw' : w.length ≤ 1 := hw.len
      obtain ⟨q, s2, e2, h2, _⟩ := pick_i 5 hs1
      by_cases q0 : q = 0
      · obtain ⟨n, s3, e3, h3, hn⟩ := pick_i 12 h2
        exact ⟨s3, n, rng_ok (by simp [e2, q0, e3]) (by omega), h3, ⟨by omega, hw.head, hw.all⟩, by omega⟩
      · obtain ⟨n, s3, e3, h3, hn⟩ := pick_i 4 h2
        exact ⟨s3, n, rng_ok (by simp [e2, q0, e3]) (by omega), h3, ⟨by omega, hw.head, hw.all⟩, by omega⟩
  obtain ⟨s2, n, e2, hs2, hw2, hn⟩ := h2
  obtain ⟨s3, w3, y10', e3, hs3, hw3⟩ := chars_loop (a := .d (.int 6)) (b := .d (ds aL)) (c := .no) (d := .own (told.map ds)) (e := .d (.list (keptL.map ds))) (f := .d (.bool al)) (g := .d (ds stem)) (h' := .d (.int k)) (rints 0 n) s2 w y10 hs2 (by rw [rints_len]; exact hw2) (by rw [rints_len]; omega)
  obtain ⟨w4, y10'', e4, hw4⟩ := fresh_loop (s := []) hk (a := .own s3) (b := .d (.int 6)) (c := .d (ds aL)) (d := .d (ds (aL ++ aF))) (f := .d (.bool al)) (g := .d (ds stem)) (told := told) (List.range 46) w3 y10' (fun j hj => by have := List.mem_range.mp hj; omega) hw3 (.inl (by decide))
  have rB : wItB [.own s3, .d (.int 6), .d (ds aL), .d (ds (aL ++ aF)), .own (told.map ds), .d (.list (keptL.map ds)), .d (.bool al), .d (ds stem), .d (.int k), .d (ds w3), y10'] = some (rints 0 46, [.own s3, .d (.int 6), .d (ds aL), .d (ds (aL ++ aF)), .own (told.map ds), .d (.list (keptL.map ds)), .d (.bool al), .d (ds stem), .d (.int k), .d (ds w3), y10']) := rng_ok (by simp) (by decide)
  refine ⟨s3, w4, .d (ds w4), y10'', ?_, hs3, hw4⟩
  have e3' : forS (gNm 10) wBodyA (rints 0 n) [.own s2, .d (.int 6), .d (ds aL), .d (ds (aL ++ aF)), .own (told.map ds), .d (.list (keptL.map ds)), .d (.bool al), .d (ds stem), .d (.int k), .d (ds w), y10] = some (.nx [.own s3, .d (.int 6), .d (ds aL), .d (ds (aL ++ aF)), .own (told.map ds), .d (.list (keptL.map ds)), .d (.bool al), .d (ds stem), .d (.int k), .d (ds w3), y10']) := e3
  have e4' : forS (gNm 10) wBodyB (rints 0 46) [.own s3, .d (.int 6), .d (ds aL), .d (ds (aL ++ aF)), .own (told.map ds), .d (.list (keptL.map ds)), .d (.bool al), .d (ds stem), .d (.int k), .d (ds w3), y10'] = some (.nx [.own s3, .d (.int 6), .d (ds aL), .d (ds (aL ++ aF)), .own (told.map ds), .d (.list (keptL.map ds)), .d (.bool al), .d (ds stem), .d (.int k), .d (ds w4), y10'']) := e4
  rw [wBody, sSeq_ap, e1, Option.bind_some]
  simp only []
  rw [sSeq_ap, sFor_ap, e2, Option.bind_some, e3', Option.bind_some]
  simp only []
  rw [sSeq_ap, sFor_ap, rB, Option.bind_some, e4', Option.bind_some]
  have hl : told.length < 16000000 := by omega
  simp [hl]
theorem w_loop {al : Bool} {stem : Ln} (hst : Cand stem 3) : ∀ (ks : List Nat) (s : List D) (told : List Ln) (y8 y9 y10 : Sl), St4 s → (∀ k ∈ ks, k < 100) → (∀ w ∈ told, WordT w) → told.length + ks.length < 100 →
    ∃ (s' : List D) (ws : List Ln) (z8 z9 z10 : Sl), forS (gNm 8) wBody (ks.map fun k => PyData.int (0 + (k : Nat))) [.own s, .d (.int 6), .d (ds aL), .d (ds (aL ++ aF)), .own (told.map ds), .d (.list (keptL.map ds)), .d (.bool al), .d (ds stem), y8, y9, y10] = some (.nx [.own s', .d (.int 6), .d (ds aL), .d (ds (aL ++ aF)), .own (ws.map ds), .d (.list (keptL.map ds)), .d (.bool al), .d (ds stem), z8, z9, z10]) ∧ St4 s' ∧ (∀ w ∈ ws, WordT w) ∧ ws.length = told.length + ks.length
  | [], s, told, y8, y9, y10, hs, _, ht, _ => ⟨s, told, y8, y9, y10, rfl, hs, ht, rfl⟩
  | k :: r, s, told, y8, y9, y10, hs, hk, ht, hl => by
    simp only [List.length_cons] at hl
    obtain ⟨s1, w, z9, z10, e1, h1, hw⟩ := w_body (b := .no) (g := .no) (al := al) (stem := stem) (told := told) (k := k) (y9 := y9) (y10 := y10) hs hst (hk k List.mem_cons_self) (by omega)
    obtain ⟨s', ws, z8, z9', z10', e, h', hws, hlen⟩ := w_loop hst (al := al) r s1 (told ++ [w]) (.d (.int k)) z9 z10 h1 (fun q hq => hk q (List.mem_cons_of_mem _ hq)) (fun q hq => by
      rcases List.mem_append.mp hq with hq | hq
      · exact ht q hq
      · simp at hq; rw [hq]; exact hw) (by simp; omega)
    refine ⟨s', ws, z8, z9', z10', ?_, h', hws, by rw [hlen]; simp; omega⟩
    have ek : PyData.int (0 + (k : Int)) = .int k := by rw [Int.zero_add]
    have em : (told ++ [w]).map ds = told.map ds ++ [ds w] := by simp
    rw [em] at e
    rw [List.map_cons, forS_cons, gNm_ap, Option.bind_some, ek]
    show (wBody [.own s, .d (.int 6), .d (ds aL), .d (ds (aL ++ aF)), .own (told.map ds), .d (.list (keptL.map ds)), .d (.bool al), .d (ds stem), .d (.int k), y9, y10]).bind _ = _
    rw [e1]
    exact e
theorem words_gen {s : List D} (hs : St4 s) : ∃ (ws : List Ln) (s' : List D), f_law_words s [.int 6] = some (.o (ws.map ds), s') ∧ St4 s' ∧ W6 ws := by
  obtain ⟨q, s1, e1, h1, _⟩ := pick_i 3 hs
  obtain ⟨n1, s2, e2, h2, hn1⟩ := pick_i 26 h1
  obtain ⟨n2, s3, e3, h3, hn2⟩ := pick_i 36 h2
  obtain ⟨n3, s4, e4, h4, hn3⟩ := pick_i 36 h3
  obtain ⟨c1, ec1, hc1⟩ := letter_at hn1
  obtain ⟨c2, ec2, hc2⟩ := sign_at hn2
  obtain ⟨c3, ec3, hc3⟩ := sign_at hn3
  have hst : Cand [c1, c2, c3] 3 := ⟨by simp, ⟨c1, _, rfl, hc1⟩, fun c hc => by
    simp at hc
    rcases hc with rfl | rfl | rfl
    · exact .inl hc1
    · exact hc2
    · exact hc3⟩
  obtain ⟨s', ws, z8, z9, z10, e, h', hws, hlen⟩ := w_loop hst (al := decide (q = 0)) (List.range 6) s4 [] .no .no .no h4 (fun k hk => by have := List.mem_range.mp hk; omega) (by simp) (by simp)
  refine ⟨ws, s', ?_, h', ⟨by rw [hlen]; simp, hws⟩⟩
  have eB : b_law_words = sSeq (sSet 2 (eK (ds aL))) (sSeq (sSet 3 (eBin dAdd (eNm 2) (eK (ds aF)))) (sSeq (sSetO 4 (oLst aNil)) (sSeq (sSet 5 (eCallP f_law_kept aNil)) (sSeq (sSet 6 (eB (bBin dEq (eCallS f_law_pick 0 (aCons (eK (.int 3)) aNil)) (eK (.int 0))))) (sSeq (sSet 7 (eBin dAdd (eBin dAdd (eBin dIx (eNm 2) (eCallS f_law_pick 0 (aCons (eK (.int 26)) aNil))) (eBin dIx (eNm 3) (eCallS f_law_pick 0 (aCons (eK (.int 36)) aNil)))) (eBin dIx (eNm 3) (eCallS f_law_pick 0 (aCons (eK (.int 36)) aNil))))) (sSeq (sFor (gNm 8) (iRng (aCons (eNm 1) aNil)) wBody) (sRetO (oNm 4)))))))) := rfl
  have bA : Bd aL 26 := ⟨by decide⟩
  have bF : Bd aF 10 := ⟨by decide⟩
  have rg : iRng (aCons (eNm 1) aNil) [.own s4, .d (.int 6), .d (ds aL), .d (ds (aL ++ aF)), .own [], .d (.list (keptL.map ds)), .d (.bool (decide (q = 0))), .d (ds [c1, c2, c3]), .no, .no, .no] = some (rints 0 6, [.own s4, .d (.int 6), .d (ds aL), .d (ds (aL ++ aF)), .own [], .d (.list (keptL.map ds)), .d (.bool (decide (q = 0))), .d (ds [c1, c2, c3]), .no, .no, .no]) := rng_ok rfl (by decide)
  have e' : forS (gNm 8) wBody (rints 0 6) [.own s4, .d (.int 6), .d (ds aL), .d (ds (aL ++ aF)), .own [], .d (.list (keptL.map ds)), .d (.bool (decide (q = 0))), .d (ds [c1, c2, c3]), .no, .no, .no] = some (.nx [.own s', .d (.int 6), .d (ds aL), .d (ds (aL ++ aF)), .own (ws.map ds), .d (.list (keptL.map ds)), .d (.bool (decide (q = 0))), .d (ds [c1, c2, c3]), z8, z9, z10]) := e
  rw [f_law_words, eB]
  generalize aL = A at *
  generalize aF = F at *
  simp [-iRng_ap, -dIx_s, -dAdd_ss, dAdd_ok, List.replicate, kept_ok, e1, e2, ec1, e3, ec2, e4, ec3, rg, e']

/-! ### lines of a text -/
theorem line_words_len {d : D} {toks : List Ln} (h : LineT d toks) : (joinL [32] toks).length ≤ 1586 := by
  have h1 := toks_len (line_toks h).1
  have h2 := (line_toks h).2.2
  omega
def lBody : SS := (sSeq (sSet 5 (eCallS f_law_a_line 0 (aCons (eNm 2) aNil)))
  (sApp 3 (eIf (bBin dLe (eCall fLen (aCons (eCallP f_law_line_words (aCons (eNm 5) aNil)) aNil)) (eK (.int 400))) (eNm 5) (eTup (aCons (eK (ds (cs "end"))) aNil)))))
theorem l_loop {ws : List Ln} (h : W6 ws) {n : Int} : ∀ (items : List D) (s : List D) (L : List (D × Ln)) (y4 y5 : Sl), St4 s → (∀ x ∈ L, RowT x.1 x.2) → L.length + items.length < 1000 →
    ∃ (s' : List D) (L' : List (D × Ln)) (z4 z5 : Sl), forS (gNm 4) lBody items [.own s, .d (.int n), .d (.list (ws.map ds)), .own (L.map Prod.fst), y4, y5] = some (.nx [.own s', .d (.int n), .d (.list (ws.map ds)), .own (L'.map Prod.fst), z4, z5]) ∧ St4 s' ∧ (∀ x ∈ L', RowT x.1 x.2) ∧ L'.length = L.length + items.length
  | [], s, L, y4, y5, hs, hL, _ => ⟨s, L, y4, y5, rfl, hs, hL, rfl⟩
  | x :: r, s, L, y4, y5, hs, hL, hl => by
    simp only [List.length_cons] at hl
    obtain ⟨d, s1, e1, h1, toks, ht⟩ := line_gen h s hs
    have hw := (line_words_ok ht).2
    have b1 : Bd (joinL [32] toks) 1586 := ⟨line_words_len ht⟩
    have step : ∃ (d' : D) (r' : Ln), RowT d' r' ∧ lBody [.own s, .d (.int n), .d (.list (ws.map ds)), .own (L.map Prod.fst), .d x, y5] = some (.nx [.own s1, .d (.int n), .d (.list (ws.map ds)), .own (L.map Prod.fst ++ [d']), .d x, .d d]) := by
      have hl' : L.length < 16000000 := by omega
      by_cases hc : (joinL [32] toks).length ≤ 400
      · refine ⟨d, joinL [32] toks, ⟨⟨toks, ht, rfl⟩, hc⟩, ?_⟩
        have hc' : ((joinL [32] toks).length : Int) ≤ 400 := by omega
        generalize joinL [32] toks = J at *
        simp [-fLen_s, fLen_ok, lBody, e1, hw, hc', hl']
      · refine ⟨.tuple [ds (cs "end")], joinL [32] [cs "end"], ⟨⟨_, .fin, rfl⟩, by decide⟩, ?_⟩
        have hc' : ¬ ((joinL [32] toks).length : Int) ≤ 400 := by omega
        generalize joinL [32] toks = J at *
        simp [-fLen_s, fLen_ok, lBody, e1, hw, hc', hl']
    obtain ⟨d', r', hr, e2⟩ := step
    obtain ⟨s', L', z4, z5, e, h', hL', hlen⟩ := l_loop h (n := n) r s1 (L ++ [(d', r')]) (.d x) (.d d) h1 (fun q hq => by
      rcases List.mem_append.mp hq with hq | hq
      · exact hL q hq
      · simp at hq; rw [hq]; exact hr) (by simp; omega)
    refine ⟨s', L', z4, z5, ?_, h', hL', by rw [hlen]; simp; omega⟩
    have em : (L ++ [(d', r')]).map Prod.fst = L.map Prod.fst ++ [d'] := by simp
    rw [em] at e
    rw [forS_cons, gNm_ap, Option.bind_some]
    show (lBody [.own s, .d (.int n), .d (.list (ws.map ds)), .own (L.map Prod.fst), .d x, y5]).bind _ = _
    rw [e2]
    exact e
theorem lines_gen {s : List D} (hs : St4 s) {n : Nat} (hn : n ≤ 100) : ∃ (L : List (D × Ln)) (s' : List D), f_law_a_lines s [.int n] = some (.o (L.map Prod.fst), s') ∧ St4 s' ∧ LinesT L := by
  obtain ⟨ws, s1, e1, h1, hw⟩ := words_gen hs
  obtain ⟨s2, L, z4, z5, e2, h2, hL, hlen⟩ := l_loop hw (n := n) (rints 0 n) s1 [] .no .no h1 (by simp) (by rw [rints_len]; simp; omega)
  refine ⟨L, s2, ?_, h2, hL, by rw [hlen, rints_len]; simp; omega⟩
  have eB : b_law_a_lines = sSeq (sSet 2 (eFz (oCallS f_law_words 0 (aCons (eK (.int 6)) aNil)))) (sSeq (sSetO 3 (oLst aNil)) (sSeq (sFor (gNm 4) (iRng (aCons (eNm 1) aNil)) lBody) (sRetO (oNm 3)))) := rfl
  have rg : iRng (aCons (eNm 1) aNil) [.own s1, .d (.int n), .d (.list (ws.map ds)), .own [], .no, .no] = some (rints 0 n, [.own s1, .d (.int n), .d (.list (ws.map ds)), .own [], .no, .no]) := rng_ok rfl (by omega)
  rw [List.map_nil] at e2
  have a1 : sSet 2 (eFz (oCallS f_law_words 0 (aCons (eK (.int 6)) aNil))) [.own s, .d (.int n), .no, .no, .no, .no] = some (.nx [.own s1, .d (.int n), .d (.list (ws.map ds)), .no, .no, .no]) := by simp [e1]
  have a2 : sSetO 3 (oLst aNil) [.own s1, .d (.int n), .d (.list (ws.map ds)), .no, .no, .no] = some (.nx [.own s1, .d (.int n), .d (.list (ws.map ds)), .own [], .no, .no]) := by simp
  have hst : startD (6 - 1) [PyData.int (n : Int)] = [.d (.int n), .no, .no, .no, .no] := rfl
  rw [f_law_a_lines, runS_ap, if_pos (by rfl), hst, eB, sSeq_ap, a1, Option.bind_some]
  simp only []
  rw [sSeq_ap, a2, Option.bind_some]
  simp only []
  rw [sSeq_ap, sFor_ap, rg, Option.bind_some, e2, Option.bind_some]
  rfl
end DL

set_option Elab.async false
set_option linter.all false
set_option maxRecDepth 100000
set_option maxHeartbeats 4000000
namespace DL
open PySem PySem.Spec L2 TL

theorem w_body2 {b g : Sl} {s : List D} {al : Bool} {stem : Ln} {told : List Ln} {k : Nat} {y9 y10 : Sl} (hs : St4 s) (hst : Cand stem 3) (hk : k < 100) (ht : told.length < 100) :
    ∃ (s' : List D) (w : Ln) (z9 z10 : Sl), wBody [.own s, .d (.int 2), .d (ds aL), .d (ds (aL ++ aF)), .own (told.map ds), .d (.list (keptL.map ds)), .d (.bool al), .d (ds stem), .d (.int k), y9, y10] = some (.nx [.own s', .d (.int 2), .d (ds aL), .d (ds (aL ++ aF)), .own (told.map ds ++ [ds w]), .d (.list (keptL.map ds)), .d (.bool al), .d (ds stem), .d (.int k), z9, z10]) ∧ St4 s' ∧ WordT w := by
  have h1 : ∃ (s1 : List D) (w : Ln), wHead [.own s, .d (.int 2), .d (ds aL), .d (ds (aL ++ aF)), .own (told.map ds), .d (.list (keptL.map ds)), .d (.bool al), .d (ds stem), .d (.int k), y9, y10] = some (.nx [.own s1, .d (.int 2), .d (ds aL), .d (ds (aL ++ aF)), .own (told.map ds), .d (.list (keptL.map ds)), .d (.bool al), .d (ds stem), .d (.int k), .d (ds w), y10]) ∧ St4 s1 ∧ Cand w (if al then 3 else 1) := by
    cases al with
    | true => exact ⟨s, stem, by simp [wHead], hs, hst⟩
    | false =>
      obtain ⟨n, s1, e1, h1, hn⟩ := pick_i 26 hs
      obtain ⟨c, ec, hc⟩ := letter_at hn
      exact ⟨s1, [c], by generalize aL = A at *; simp [-dIx_s, wHead, e1, ec], h1, ⟨by simp, ⟨c, [], rfl, hc⟩, fun z hz => by simp at hz; rw [hz]; exact .inl hc⟩⟩
  obtain ⟨s1, w, e1, hs1, hw⟩ := h1
  have h2 : ∃ (s2 : List D) (n : Nat), wItA [.own s1, .d (.int 2), .d (ds aL), .d (ds (aL ++ aF)), .own (told.map ds), .d (.list (keptL.map ds)), .d (.bool al), .d (ds stem), .d (.int k), .d (ds w), y10] = some (rints 0 n, [.own s2, .d (.int 2), .d (ds aL), .d (ds (aL ++ aF)), .own (told.map ds), .d (.list (keptL.map ds)), .d (.bool al), .d (ds stem), .d (.int k), .d (ds w), y10]) ∧ St4 s2 ∧ Cand w (12 - n) ∧ n ≤ 11 := by
    cases al with
    | true =>
      have hw' : w.length ≤ 3 := hw.len
      refine ⟨s1, 2, rng_ok (by simp) (by decide), hs1, ⟨by omega, hw.head, hw.all⟩, by decide⟩
    | false =>
      have hw' : w.length ≤ 1 := hw.len
      obtain ⟨q, s2, e2, h2, _⟩ := pick_i 5 hs1
      by_cases q0 : q = 0
      · obtain ⟨n, s3, e3, h3, hn⟩ := pick_i 12 h2
        exact ⟨s3, n, rng_ok (by simp [e2, q0, e3]) (by omega), h3, ⟨by omega, hw.head, hw.all⟩, by omega⟩
      · obtain ⟨n, s3, e3, h3, hn⟩ := pick_i 4 h2
        exact ⟨s3, n, rng_ok (by simp [e2, q0, e3]) (by omega), h3, ⟨by omega, hw.head, hw.all⟩, by omega⟩
  obtain ⟨s2, n, e2, hs2, hw2, hn⟩ := h2
  obtain ⟨s3, w3, y10', e3, hs3, hw3⟩ := chars_loop (a := .d (.int 2)) (b := .d (ds aL)) (c := .no) (d := .own (told.map ds)) (e := .d (.list (keptL.map ds))) (f := .d (.bool al)) (g := .d (ds stem)) (h' := .d (.int k)) (rints 0 n) s2 w y10 hs2 (by rw [rints_len]; exact hw2) (by rw [rints_len]; omega)
  obtain ⟨w4, y10'', e4, hw4⟩ := fresh_loop (s := []) hk (a := .own s3) (b := .d (.int 2)) (c := .d (ds aL)) (d := .d (ds (aL ++ aF))) (f := .d (.bool al)) (g := .d (ds stem)) (told := told) (List.range 42) w3 y10' (fun j hj => by have := List.mem_range.mp hj; omega) hw3 (.inl (by decide))
  have rB : wItB [.own s3, .d (.int 2), .d (ds aL), .d (ds (aL ++ aF)), .own (told.map ds), .d (.list (keptL.map ds)), .d (.bool al), .d (ds stem), .d (.int k), .d (ds w3), y10'] = some (rints 0 42, [.own s3, .d (.int 2), .d (ds aL), .d (ds (aL ++ aF)), .own (told.map ds), .d (.list (keptL.map ds)), .d (.bool al), .d (ds stem), .d (.int k), .d (ds w3), y10']) := rng_ok (by simp) (by decide)
  refine ⟨s3, w4, .d (ds w4), y10'', ?_, hs3, hw4⟩
  have e3' : forS (gNm 10) wBodyA (rints 0 n) [.own s2, .d (.int 2), .d (ds aL), .d (ds (aL ++ aF)), .own (told.map ds), .d (.list (keptL.map ds)), .d (.bool al), .d (ds stem), .d (.int k), .d (ds w), y10] = some (.nx [.own s3, .d (.int 2), .d (ds aL), .d (ds (aL ++ aF)), .own (told.map ds), .d (.list (keptL.map ds)), .d (.bool al), .d (ds stem), .d (.int k), .d (ds w3), y10']) := e3
  have e4' : forS (gNm 10) wBodyB (rints 0 42) [.own s3, .d (.int 2), .d (ds aL), .d (ds (aL ++ aF)), .own (told.map ds), .d (.list (keptL.map ds)), .d (.bool al), .d (ds stem), .d (.int k), .d (ds w3), y10'] = some (.nx [.own s3, .d (.int 2), .d (ds aL), .d (ds (aL ++ aF)), .own (told.map ds), .d (.list (keptL.map ds)), .d (.bool al), .d (ds stem), .d (.int k), .d (ds w4), y10'']) := e4
  rw [wBody, sSeq_ap, e1, Option.bind_some]
  simp only []
  rw [sSeq_ap, sFor_ap, e2, Option.bind_some, e3', Option.bind_some]
  simp only []
  rw [sSeq_ap, sFor_ap, rB, Option.bind_some, e4', Option.bind_some]
  have hl : told.length < 16000000 := by omega
  simp [hl]
theorem w_loop2 {al : Bool} {stem : Ln} (hst : Cand stem 3) : ∀ (ks : List Nat) (s : List D) (told : List Ln) (y8 y9 y10 : Sl), St4 s → (∀ k ∈ ks, k < 100) → (∀ w ∈ told, WordT w) → told.length + ks.length < 100 →
    ∃ (s' : List D) (ws : List Ln) (z8 z9 z10 : Sl), forS (gNm 8) wBody (ks.map fun k => PyData.int (0 + (k : Nat))) [.own s, .d (.int 2), .d (ds aL), .d (ds (aL ++ aF)), .own (told.map ds), .d (.list (keptL.map ds)), .d (.bool al), .d (ds stem), y8, y9, y10] = some (.nx [.own s', .d (.int 2), .d (ds aL), .d (ds (aL ++ aF)), .own (ws.map ds), .d (.list (keptL.map ds)), .d (.bool al), .d (ds stem), z8, z9, z10]) ∧ St4 s' ∧ (∀ w ∈ ws, WordT w) ∧ ws.length = told.length + ks.length
  | [], s, told, y8, y9, y10, hs, _, ht, _ => ⟨s, told, y8, y9, y10, rfl, hs, ht, rfl⟩
  | k :: r, s, told, y8, y9, y10, hs, hk, ht, hl => by
    simp only [List.length_cons] at hl
    obtain ⟨s1, w, z9, z10, e1, h1, hw⟩ := w_body2 (b := .no) (g := .no) (al := al) (stem := stem) (told := told) (k := k) (y9 := y9) (y10 := y10) hs hst (hk k List.mem_cons_self) (by omega)
    obtain ⟨s', ws, z8, z9', z10', e, h', hws, hlen⟩ := w_loop2 hst (al := al) r s1 (told ++ [w]) (.d (.int k)) z9 z10 h1 (fun q hq => hk q (List.mem_cons_of_mem _ hq)) (fun q hq => by
      rcases List.mem_append.mp hq with hq | hq
      · exact ht q hq
      · simp at hq; rw [hq]; exact hw) (by simp; omega)
    refine ⟨s', ws, z8, z9', z10', ?_, h', hws, by rw [hlen]; simp; omega⟩
    have ek : PyData.int (0 + (k : Int)) = .int k := by rw [Int.zero_add]
    have em : (told ++ [w]).map ds = told.map ds ++ [ds w] := by simp
    rw [em] at e
    rw [List.map_cons, forS_cons, gNm_ap, Option.bind_some, ek]
    show (wBody [.own s, .d (.int 2), .d (ds aL), .d (ds (aL ++ aF)), .own (told.map ds), .d (.list (keptL.map ds)), .d (.bool al), .d (ds stem), .d (.int k), y9, y10]).bind _ = _
    rw [e1]
    exact e
theorem words_gen2 {s : List D} (hs : St4 s) : ∃ (wa wb : Ln) (s' : List D), f_law_words s [.int 2] = some (.o [ds wa, ds wb], s') ∧ St4 s' ∧ WordT wa ∧ WordT wb := by
  obtain ⟨q, s1, e1, h1, _⟩ := pick_i 3 hs
  obtain ⟨n1, s2, e2, h2, hn1⟩ := pick_i 26 h1
  obtain ⟨n2, s3, e3, h3, hn2⟩ := pick_i 36 h2
  obtain ⟨n3, s4, e4, h4, hn3⟩ := pick_i 36 h3
  obtain ⟨c1, ec1, hc1⟩ := letter_at hn1
  obtain ⟨c2, ec2, hc2⟩ := sign_at hn2
  obtain ⟨c3, ec3, hc3⟩ := sign_at hn3
  have hst : Cand [c1, c2, c3] 3 := ⟨by simp, ⟨c1, _, rfl, hc1⟩, fun c hc => by
    simp at hc
    rcases hc with rfl | rfl | rfl
    · exact .inl hc1
    · exact hc2
    · exact hc3⟩
  obtain ⟨s', ws, z8, z9, z10, e, h', hws, hlen⟩ := w_loop2 hst (al := decide (q = 0)) (List.range 2) s4 [] .no .no .no h4 (fun k hk => by have := List.mem_range.mp hk; omega) (by simp) (by simp)
  obtain ⟨wa, wb, rfl⟩ : ∃ wa wb, ws = [wa, wb] := by
    match ws, hlen with
    | [wa, wb], _ => exact ⟨wa, wb, rfl⟩
  refine ⟨wa, wb, s', ?_, h', hws wa (by simp), hws wb (by simp)⟩
  have eB : b_law_words = sSeq (sSet 2 (eK (ds aL))) (sSeq (sSet 3 (eBin dAdd (eNm 2) (eK (ds aF)))) (sSeq (sSetO 4 (oLst aNil)) (sSeq (sSet 5 (eCallP f_law_kept aNil)) (sSeq (sSet 6 (eB (bBin dEq (eCallS f_law_pick 0 (aCons (eK (.int 3)) aNil)) (eK (.int 0))))) (sSeq (sSet 7 (eBin dAdd (eBin dAdd (eBin dIx (eNm 2) (eCallS f_law_pick 0 (aCons (eK (.int 26)) aNil))) (eBin dIx (eNm 3) (eCallS f_law_pick 0 (aCons (eK (.int 36)) aNil)))) (eBin dIx (eNm 3) (eCallS f_law_pick 0 (aCons (eK (.int 36)) aNil))))) (sSeq (sFor (gNm 8) (iRng (aCons (eNm 1) aNil)) wBody) (sRetO (oNm 4)))))))) := rfl
  have bA : Bd aL 26 := ⟨by decide⟩
  have bF : Bd aF 10 := ⟨by decide⟩
  have rg : iRng (aCons (eNm 1) aNil) [.own s4, .d (.int 2), .d (ds aL), .d (ds (aL ++ aF)), .own [], .d (.list (keptL.map ds)), .d (.bool (decide (q = 0))), .d (ds [c1, c2, c3]), .no, .no, .no] = some (rints 0 2, [.own s4, .d (.int 2), .d (ds aL), .d (ds (aL ++ aF)), .own [], .d (.list (keptL.map ds)), .d (.bool (decide (q = 0))), .d (ds [c1, c2, c3]), .no, .no, .no]) := rng_ok rfl (by decide)
  have e' : forS (gNm 8) wBody (rints 0 2) [.own s4, .d (.int 2), .d (ds aL), .d (ds (aL ++ aF)), .own [], .d (.list (keptL.map ds)), .d (.bool (decide (q = 0))), .d (ds [c1, c2, c3]), .no, .no, .no] = some (.nx [.own s', .d (.int 2), .d (ds aL), .d (ds (aL ++ aF)), .own [ds wa, ds wb], .d (.list (keptL.map ds)), .d (.bool (decide (q = 0))), .d (ds [c1, c2, c3]), z8, z9, z10]) := e
  rw [f_law_words, eB]
  generalize aL = A at *
  generalize aF = F at *
  simp [-iRng_ap, -dIx_s, -dAdd_ss, dAdd_ok, List.replicate, kept_ok, e1, e2, ec1, e3, ec2, e4, ec3, rg, e']

end DL

set_option Elab.async false
set_option linter.all false
set_option maxRecDepth 100000
set_option maxHeartbeats 4000000
namespace DL
open PySem PySem.Spec L2 TL

/-! ### statements that may raise: what they compute -/
section
variable {st : List Sl} {i : Nat}
@[simp] theorem xLift_ap {g : SS} : xLift g st = (g st).map .n := rfl
@[simp] theorem xNext_ap : xNext st = some (.n (.nx st)) := rfl
@[simp] theorem xSeq_ap {f g : XS} : xSeq f g st = (f st).bind fun o => match o with
  | .n (.nx st') => g st'
  | o => some o := rfl
@[simp] theorem xIf_ap {c : BS} {f g : XS} : xIf c f g st = (c st).bind fun r => if r.1 then f r.2 else g r.2 := rfl
@[simp] theorem xRaise_ap {c : Str} {ns : List Str} {u : AS} : xRaise c ns u st = (u st).bind fun r => if r.1.length = ns.length then some (.x c (ns.zip r.1).reverse) else none := rfl
@[simp] theorem xFor_ap {t : GS} {it : AS} {body : XS} : xFor t it body st = (it st).bind fun r => forX t body r.1 r.2 := rfl
theorem forX_cons {t : GS} {body : XS} {x : D} {xs : List D} : forX t body (x :: xs) st = (t x st).bind fun st1 => (body st1).bind fun o => match o with
    | .n (.nx st') => forX t body xs st'
    | .n (.ct st') => forX t body xs st'
    | .n (.bk st') => some (.n (.nx st'))
    | o => some o := rfl
@[simp] theorem outX_x {c : Str} {fs : List (Str × D)} : outX (.x c fs) = some (.x c fs) := rfl
@[simp] theorem sTryRet_ap {g : PX} {u : AS} {c : Str} {h : List (Str × D) → AS} : sTryRet g u c i h st = (u st).bind fun r => (g r.1).bind fun q => match q with
  | .n _ => some (.nx r.2)
  | .x c' fs => if c' = c ∧ i < r.2.length then (h fs (r.2.set i .no)).bind fun z => if z.1.length ≤ 1000 then some (.rt (.tuple z.1) z.2) else none else none := rfl
@[simp] theorem eFld_ap {fs : List (Str × D)} {f : Str} : eFld fs f st = (fs.lookup f).map fun x => (x, st) := rfl
end
/-- a wrong row with the word of its fault -/
structure FaultT (r w : Ln) : Prop where
  nl : 10 ∉ r
  len : r.length ≤ 400
  kind : (f_sign_fault [ds r] = some (.d (ds w)) ∧ w ≠ []) ∨ (f_sign_fault [ds r] = some (.d (ds [])) ∧ ∃ (t0 : Ln) (tr : List Ln), (Txt.split (⟨r.toArray⟩ : Str) (⟨[32].toArray⟩ : Str)).map PyData.str = (t0 :: tr).map ds ∧
    ((t0 ∉ firstL ∧ w = cs "word") ∨ (t0 ∈ firstL ∧ f_read_line [.list ((t0 :: tr).map ds)] = some (.d .none) ∧ w = cs "form")))
theorem text_rows_nl {rows : List Ln} (hn : ∀ r ∈ rows, 10 ∉ r) (hl : (joinL [10] (rows ++ [[]])).length ≤ 1000000) : f_text_rows [ds (joinL [10] (rows ++ [[]]))] = some (.d (.list (rows.map ds))) := by
  have hs := szl
  have hz : (joinL [10] (rows ++ [[]])).length + 2 ≤ sizeLine := by omega
  have sp := splitD (s := 10) (by decide) (parts := rows ++ [[]]) (by simp) fun p hp => by
    rcases List.mem_append.mp hp with hp | hp
    · exact hn p hp
    · simp at hp; simp [hp]
  simp only [f_text_rows, b_text_rows, runP_ap, startD_ap, List.length_cons, List.length_nil, if_true, List.map_cons, List.map_nil, List.replicate, Nat.sub_self, List.append_nil, sSeq_ap, sSet_ap, eFz_ap, oSplit_ap, eNm_ap, eK_ap, cs_nl, codes_mk, List.nil_append, List.cons_append, List.getElem?_cons_zero, Option.bind_some, sp]
  simp [hz, at_l, dSl_l]
theorem checked_rows_nl {rows : List Ln} (hn : ∀ r ∈ rows, 10 ∉ r) (hl : (joinL [10] (rows ++ [[]])).length ≤ 1000000) (h9 : rows.length ≤ 900) (h4 : ∀ r ∈ rows, r.length ≤ 400) : f_checked_rows [ds (joinL [10] (rows ++ [[]]))] = some (.d (.list (rows.map ds))) := by
  have hs := szl
  have ht := text_rows_nl hn hl
  generalize joinL [10] (rows ++ [[]]) = t at *
  have loop : ∃ y', forS (gNm 2) (sDrop (eCallP f_bound_check (aCons (eK (ds (cs "signs"))) (aCons (eCall fLen (aCons (eNm 2) aNil)) aNil)))) (rows.map ds) [.d (ds t), .d (.list (rows.map ds)), .no] = some (.nx ([Sl.d (ds t), .d (.list (rows.map ds)), .no].set 2 y')) := by
    refine forS_pass' fun x hx => ?_
    obtain ⟨r, hr, rfl⟩ := List.mem_map.mp hx
    have hb := bound_signs (h4 r hr)
    have hz : r.length ≤ sizeLine := by have := h4 r hr; omega
    simp [hz, hb]
  obtain ⟨y', loop⟩ := loop
  have hb := bound_lines h9
  simp [f_checked_rows, b_checked_rows, List.replicate, ht, hb] at loop ⊢
  simp [loop]
def xlBody : XS := (xSeq (xLift (sSet 5 (eCallP f_sign_fault (aCons (eNm 4) aNil))))
  (xSeq (xIf (bBin dNe (eNm 5) (eK (ds (cs ""))))
  (xRaise "BadText" ["line", "what"] (aCons (eBin dAdd (eNm 3) (eK (.int 1))) (aCons (eNm 5) aNil)))
  xNext)
  (xSeq (xLift (sSet 6 (eFz (oSplit (eNm 4) (eK (ds (cs " ")))))))
  (xSeq (xIf (bBin dNotIn (eBin dIx (eNm 6) (eK (.int 0))) (eK k_FIRST_WORDS))
  (xRaise "BadText" ["line", "what"] (aCons (eBin dAdd (eNm 3) (eK (.int 1))) (aCons (eK (ds (cs "word"))) aNil)))
  xNext)
  (xSeq (xLift (sSet 7 (eCallP f_read_line (aCons (eNm 6) aNil))))
  (xSeq (xIf (bUn dIsN (eNm 7))
  (xRaise "BadText" ["line", "what"] (aCons (eBin dAdd (eNm 3) (eK (.int 1))) (aCons (eK (ds (cs "form"))) aNil)))
  xNext)
  (xLift (sApp 2 (eNm 7)))))))))
theorem readx_loop {a b : Sl} {bad w : Ln} {post : List Ln} (hbad : FaultT bad w) : ∀ (L : List (D × Ln)), (∀ x ∈ L, RowT x.1 x.2) → ∀ (k : Nat) (acc : List D) (y3 y4 y5 y6 y7 : Sl), acc.length + L.length < 10000 →
    forX (gTupD (gsCons (gNm 3) (gsCons (gNm 4) gsNil))) xlBody (enums k ((L.map Prod.snd ++ bad :: post).map ds)) [a, b, .own acc, y3, y4, y5, y6, y7] = some (.x "BadText" [("what", ds w), ("line", .int ((k + L.length : Nat) + 1 : Int))])
  | [], _, k, acc, y3, y4, y5, y6, y7, _ => by
    have hs := szl
    have hlen := hbad.len
    have hz : bad.length + 2 ≤ sizeLine := by omega
    have hb : xlBody [a, b, .own acc, .d (.int k), .d (ds bad), y5, y6, y7] = some (.x "BadText" [("what", ds w), ("line", .int (k + 1))]) := by
      rcases hbad.kind with ⟨h1, h2⟩ | ⟨h1, t0, tr, h2, h3⟩
      · simp [xlBody, h1, h2]
      · have h0 : dIx (.list ((t0 :: tr).map ds)) (.int 0) = some (ds t0) := by rw [dIx_l, at_0]; rfl
        rcases h3 with ⟨h3, rfl⟩ | ⟨h3, h4, rfl⟩
        · simp only [List.map_cons] at h0 h2
          simp [-dIx_l, xlBody, h1, h2, hz, h0, first_eq, dIn_t, h3]
        · simp only [List.map_cons] at h0 h2 h4
          simp [-dIx_l, xlBody, h1, h2, hz, h0, first_eq, dIn_t, h3, h4]
    simp only [List.map_nil, List.nil_append, List.map_cons, enums]
    rw [forX_cons]
    simp [hb]
  | x :: r, h, k, acc, y3, y4, y5, y6, y7, hl => by
    have hx := h x List.mem_cons_self
    obtain ⟨toks, h1, hsp⟩ := row_split hx
    have hlen := hx.len
    have hs := szl
    have hz : x.2.length + 2 ≤ sizeLine := by omega
    obtain ⟨t0, r0, e0, hf⟩ := (line_toks h1).2.1
    have hrl := read_line_ok h1
    have hN := line_notN h1
    have hsf := sign_fault_ok hx
    simp only [List.length_cons] at hl
    have e := readx_loop (a := a) (b := b) (post := post) hbad r (fun q hq => h q (List.mem_cons_of_mem _ hq)) (k + 1) (acc ++ [x.1]) (.d (.int k)) (.d (ds x.2)) (.d (ds [])) (.d (.list (toks.map ds))) (.d x.1) (by simp; omega)
    have hacc : acc.length < 16000000 := by omega
    have h0 : dIx (.list (toks.map ds)) (.int 0) = some (ds t0) := by rw [dIx_l, at_0, e0]; rfl
    have hb : xlBody [a, b, .own acc, .d (.int k), .d (ds x.2), y5, y6, y7] = some (.n (.nx [a, b, .own (acc ++ [x.1]), .d (.int k), .d (ds x.2), .d (ds []), .d (.list (toks.map ds)), .d x.1])) := by
      simp [-dIx_l, xlBody, hsf, hsp, hz, h0, first_eq, dIn_t, hf, hrl, hN, hacc]
    have ek : k + (x :: r).length = k + 1 + r.length := by simp only [List.length_cons]; omega
    rw [ek]
    simp only [List.map_cons, List.cons_append, enums]
    rw [forX_cons]
    simp only [gTupD_ap, gsCons_ap, gNm_ap, Option.bind_some, gsNil_ap, List.set_cons_succ, List.set_cons_zero, hb]
    exact e
theorem readx_ok {L : List (D × Ln)} {bad w : Ln} {post : List Ln} (hL : ∀ x ∈ L, RowT x.1 x.2) (hbad : FaultT bad w) (hp : ∀ r ∈ post, 10 ∉ r ∧ r.length ≤ 400) (hlen : L.length + post.length ≤ 100) :
    fx_read_lines [ds (joinL [10] ((L.map Prod.snd ++ bad :: post) ++ [[]]))] = some (.x "BadText" [("what", ds w), ("line", .int (L.length + 1 : Int))]) := by
  have hall : ∀ r ∈ L.map Prod.snd ++ bad :: post, 10 ∉ r ∧ r.length ≤ 400 := fun r hr => by
    rcases List.mem_append.mp hr with hr | hr
    · obtain ⟨x, hx, rfl⟩ := List.mem_map.mp hr
      exact ⟨row_nl (hL x hx), (hL x hx).len⟩
    · rcases List.mem_cons.mp hr with rfl | hr
      · exact ⟨hbad.nl, hbad.len⟩
      · exact hp r hr
  have hcount : (L.map Prod.snd ++ bad :: post).length ≤ 101 := by
    simp only [List.length_append, List.length_map, List.length_cons]
    omega
  have hl : (joinL [10] ((L.map Prod.snd ++ bad :: post) ++ [[]])).length ≤ 1000000 := by
    have h1 := joinL_len (m := [10]) (k := 400) (ps := (L.map Prod.snd ++ bad :: post) ++ [[]]) fun p hp => by
      rcases List.mem_append.mp hp with hp | hp
      · exact (hall p hp).2
      · simp at hp; simp [hp]
    rw [List.length_append] at h1
    exact Nat.le_trans h1 (Nat.le_trans (Nat.mul_le_mul_right _ (Nat.succ_le_succ hcount)) (by decide))
  have hc := checked_rows_nl (fun r hr => (hall r hr).1) hl (by omega) (fun r hr => (hall r hr).2)
  have e := readx_loop (a := .d (ds (joinL [10] ((L.map Prod.snd ++ bad :: post) ++ [[]])))) (b := .d (.list ((L.map Prod.snd ++ bad :: post).map ds))) (post := post) hbad L hL 0 [] .no .no .no .no .no (by simp; omega)
  have eB : bx_read_lines = xSeq (xLift (sSet 1 (eCallP f_checked_rows (aCons (eNm 0) aNil)))) (xSeq (xLift (sSetO 2 (oLst aNil))) (xSeq (xFor (gTupD (gsCons (gNm 3) (gsCons (gNm 4) gsNil))) (iEnu (aCons (eNm 1) aNil)) xlBody) (xLift (sRetO (oNm 2))))) := rfl
  rw [Nat.zero_add] at e
  generalize joinL [10] ((L.map Prod.snd ++ bad :: post) ++ [[]]) = T at *
  generalize (L.map Prod.snd ++ bad :: post).map ds = R at *
  simp [fx_read_lines, runX, eB, startD, List.replicate, hc, e]
theorem refusal_ok {t w : Ln} {n : Int} (h : fx_read_lines [ds t] = some (.x "BadText" [("what", ds w), ("line", .int n)])) : f_law_a_refusal [ds t] = some (.d (.tuple [ds (cs "BadText"), .int n, ds w, .bool true])) := by
  have l1 : List.lookup ("line" : Str) [(("what" : Str), ds w), (("line" : Str), PyData.int n)] = some (.int n) := by
    have e : (("line" : Str) == ("what" : Str)) = false := by decide
    simp [List.lookup, e]
  have l2 : List.lookup ("what" : Str) [(("what" : Str), ds w), (("line" : Str), PyData.int n)] = some (ds w) := by
    simp [List.lookup]
  simp [f_law_a_refusal, b_law_a_refusal, List.replicate, h, l1, l2]
end DL

set_option Elab.async false
set_option linter.all false
set_option maxRecDepth 100000
set_option maxHeartbeats 4000000
namespace DL
open PySem PySem.Spec L2 TL
instance bk_0 : Bd (cs "abcdefghijklm") 13 := ⟨by decide⟩
instance bk_1 : Bd (cs "name") 4 := ⟨by decide⟩
instance bk_2 : Bd (cs "name up") 7 := ⟨by decide⟩
instance bk_3 : Bd (cs "name 1") 6 := ⟨by decide⟩
instance bk_4 : Bd (cs "name ") 5 := ⟨by decide⟩
instance bk_5 : Bd (cs "row") 3 := ⟨by decide⟩
instance bk_6 : Bd (cs "row either") 10 := ⟨by decide⟩
instance bk_7 : Bd (cs "end end") 7 := ⟨by decide⟩
instance bk_11 : Bd (cs " 01 after none up 1 down 1") 26 := ⟨by decide⟩
instance bk_12 : Bd (cs " 1 after none up 0 down 1") 25 := ⟨by decide⟩
instance bk_13 : Bd (cs " 1 after none up 1000000001 down 1") 34 := ⟨by decide⟩
instance bk_14 : Bd (cs " 1 after none up 1") 18 := ⟨by decide⟩
instance bk_15 : Bd (cs " on after none up 1 down 1") 26 := ⟨by decide⟩
instance bk_16 : Bd (cs " 1.2.3.4 after none up 1 down 1") 31 := ⟨by decide⟩
instance bk_17 : Bd (cs " 1000 after none up 1 down 1") 28 := ⟨by decide⟩
instance bk_18 : Bd (cs " 1 from none up 1 down 1") 24 := ⟨by decide⟩
instance bk_19 : Bd (cs " 1 after none down 1 up 1") 25 := ⟨by decide⟩
instance bk_20 : Bd (cs " from on up 1 down 1") 20 := ⟨by decide⟩
instance bk_21 : Bd (cs " from 1 up 1 down 1") 19 := ⟨by decide⟩
instance bk_22 : Bd (cs " after 1 up 1 down 1") 20 := ⟨by decide⟩
instance bk_23 : Bd (cs " none") 5 := ⟨by decide⟩
instance bk_24 : Bd (cs " from 1") 7 := ⟨by decide⟩
instance bk_25 : Bd (cs " from 1 :") 9 := ⟨by decide⟩
instance bk_26 : Bd (cs "row clash ") 10 := ⟨by decide⟩
instance bk_27 : Bd (cs " none ,") 7 := ⟨by decide⟩
instance bk_28 : Bd (cs " from none") 10 := ⟨by decide⟩
instance bk_29 : Bd (cs " not 1") 6 := ⟨by decide⟩
instance bk_30 : Bd (cs " not from") 9 := ⟨by decide⟩
instance bk_31 : Bd (cs "row either ") 11 := ⟨by decide⟩
instance bk_32 : Bd (cs "row same ") 9 := ⟨by decide⟩
instance bk_33 : Bd (cs "start ") 6 := ⟨by decide⟩
instance bk_34 : Bd (cs " 1.") 3 := ⟨by decide⟩
instance bk_35 : Bd (cs " 1 :") 4 := ⟨by decide⟩
instance bk_36 : Bd (cs "release ") 8 := ⟨by decide⟩
instance bk_37 : Bd (cs "feature ") 8 := ⟨by decide⟩
instance bk_38 : Bd (cs "row ") 4 := ⟨by decide⟩
instance bk_39 : Bd (cs "row need ") 9 := ⟨by decide⟩
instance bk_40 : Bd (cs "row need : ") 11 := ⟨by decide⟩
instance bk_41 : Bd (cs " none : ") 8 := ⟨by decide⟩
instance bk_42 : Bd (cs "row most 7 of ") 14 := ⟨by decide⟩
instance bk_43 : Bd (cs "row least 1 ") 12 := ⟨by decide⟩
instance bk_44 : Bd (cs "row most of ") 12 := ⟨by decide⟩
instance bk_45 : Bd (cs "later ") 6 := ⟨by decide⟩
instance bk_46 : Bd (cs " 0 : ") 5 := ⟨by decide⟩
instance bk_47 : Bd (cs " 100 : ") 7 := ⟨by decide⟩
instance bk_48 : Bd (cs "signer ") 7 := ⟨by decide⟩
instance bk_49 : Bd (cs " : ") 3 := ⟨by decide⟩
instance bk_50 : Bd (cs " or ") 4 := ⟨by decide⟩
instance bk_51 : Bd (cs " , ") 3 := ⟨by decide⟩
instance bk_52 : Bd (cs "book ") 5 := ⟨by decide⟩
instance bk_53 : Bd (cs " and ") 5 := ⟨by decide⟩
instance bk_54 : Bd (cs "name abcdefghijkl") 17 := ⟨by decide⟩
instance bk_55 : Bd (cs " 0 after none up 1 down 1000000000") 34 := ⟨by decide⟩
instance bk_56 : Bd (cs " 999.0.999 after 1 up never down never") 38 := ⟨by decide⟩
instance bk_57 : Bd (cs "end") 3 := ⟨by decide⟩
instance bk_58 : Bd (cs " at on") 6 := ⟨by decide⟩
instance bk_59 : Bd (cs " not from 1") 11 := ⟨by decide⟩
instance bk_60 : Bd (cs " on") 3 := ⟨by decide⟩
instance bk_61 : Bd (cs "row most 6 of ") 14 := ⟨by decide⟩
instance bk_62 : Bd (cs " 99 : ") 6 := ⟨by decide⟩
instance bk_63 : Bd (cs "row least 0 of ") 15 := ⟨by decide⟩
instance bk_64 : Bd (cs " 1 : ") 5 := ⟨by decide⟩
theorem w_2 : cs "name up" = cs "name" ++ (32 :: (cs "up")) := by decide
theorem w_3 : cs "name 1" = cs "name" ++ (32 :: (cs "1")) := by decide
theorem w_4 : cs "name " = cs "name" ++ (32 :: []) := by decide
theorem w_6 : cs "row either" = cs "row" ++ (32 :: (cs "either")) := by decide
theorem w_7 : cs "end end" = cs "end" ++ (32 :: (cs "end")) := by decide
theorem w_11 : cs " 01 after none up 1 down 1" = 32 :: (cs "01" ++ (32 :: (cs "after" ++ (32 :: (cs "none" ++ (32 :: (cs "up" ++ (32 :: (cs "1" ++ (32 :: (cs "down" ++ (32 :: (cs "1"))))))))))))) := by decide
theorem w_12 : cs " 1 after none up 0 down 1" = 32 :: (cs "1" ++ (32 :: (cs "after" ++ (32 :: (cs "none" ++ (32 :: (cs "up" ++ (32 :: (cs "0" ++ (32 :: (cs "down" ++ (32 :: (cs "1"))))))))))))) := by decide
theorem w_13 : cs " 1 after none up 1000000001 down 1" = 32 :: (cs "1" ++ (32 :: (cs "after" ++ (32 :: (cs "none" ++ (32 :: (cs "up" ++ (32 :: (cs "1000000001" ++ (32 :: (cs "down" ++ (32 :: (cs "1"))))))))))))) := by decide
theorem w_14 : cs " 1 after none up 1" = 32 :: (cs "1" ++ (32 :: (cs "after" ++ (32 :: (cs "none" ++ (32 :: (cs "up" ++ (32 :: (cs "1"))))))))) := by decide
theorem w_15 : cs " on after none up 1 down 1" = 32 :: (cs "on" ++ (32 :: (cs "after" ++ (32 :: (cs "none" ++ (32 :: (cs "up" ++ (32 :: (cs "1" ++ (32 :: (cs "down" ++ (32 :: (cs "1"))))))))))))) := by decide
theorem w_16 : cs " 1.2.3.4 after none up 1 down 1" = 32 :: (cs "1.2.3.4" ++ (32 :: (cs "after" ++ (32 :: (cs "none" ++ (32 :: (cs "up" ++ (32 :: (cs "1" ++ (32 :: (cs "down" ++ (32 :: (cs "1"))))))))))))) := by decide
theorem w_17 : cs " 1000 after none up 1 down 1" = 32 :: (cs "1000" ++ (32 :: (cs "after" ++ (32 :: (cs "none" ++ (32 :: (cs "up" ++ (32 :: (cs "1" ++ (32 :: (cs "down" ++ (32 :: (cs "1"))))))))))))) := by decide
theorem w_18 : cs " 1 from none up 1 down 1" = 32 :: (cs "1" ++ (32 :: (cs "from" ++ (32 :: (cs "none" ++ (32 :: (cs "up" ++ (32 :: (cs "1" ++ (32 :: (cs "down" ++ (32 :: (cs "1"))))))))))))) := by decide
theorem w_19 : cs " 1 after none down 1 up 1" = 32 :: (cs "1" ++ (32 :: (cs "after" ++ (32 :: (cs "none" ++ (32 :: (cs "down" ++ (32 :: (cs "1" ++ (32 :: (cs "up" ++ (32 :: (cs "1"))))))))))))) := by decide
theorem w_20 : cs " from on up 1 down 1" = 32 :: (cs "from" ++ (32 :: (cs "on" ++ (32 :: (cs "up" ++ (32 :: (cs "1" ++ (32 :: (cs "down" ++ (32 :: (cs "1"))))))))))) := by decide
theorem w_21 : cs " from 1 up 1 down 1" = 32 :: (cs "from" ++ (32 :: (cs "1" ++ (32 :: (cs "up" ++ (32 :: (cs "1" ++ (32 :: (cs "down" ++ (32 :: (cs "1"))))))))))) := by decide
theorem w_22 : cs " after 1 up 1 down 1" = 32 :: (cs "after" ++ (32 :: (cs "1" ++ (32 :: (cs "up" ++ (32 :: (cs "1" ++ (32 :: (cs "down" ++ (32 :: (cs "1"))))))))))) := by decide
theorem w_23 : cs " none" = 32 :: (cs "none") := by decide
theorem w_24 : cs " from 1" = 32 :: (cs "from" ++ (32 :: (cs "1"))) := by decide
theorem w_25 : cs " from 1 :" = 32 :: (cs "from" ++ (32 :: (cs "1" ++ (32 :: (cs ":"))))) := by decide
theorem w_26 : cs "row clash " = cs "row" ++ (32 :: (cs "clash" ++ (32 :: []))) := by decide
theorem w_27 : cs " none ," = 32 :: (cs "none" ++ (32 :: (cs ","))) := by decide
theorem w_28 : cs " from none" = 32 :: (cs "from" ++ (32 :: (cs "none"))) := by decide
theorem w_29 : cs " not 1" = 32 :: (cs "not" ++ (32 :: (cs "1"))) := by decide
theorem w_30 : cs " not from" = 32 :: (cs "not" ++ (32 :: (cs "from"))) := by decide
theorem w_31 : cs "row either " = cs "row" ++ (32 :: (cs "either" ++ (32 :: []))) := by decide
theorem w_32 : cs "row same " = cs "row" ++ (32 :: (cs "same" ++ (32 :: []))) := by decide
theorem w_33 : cs "start " = cs "start" ++ (32 :: []) := by decide
theorem w_34 : cs " 1." = 32 :: (cs "1.") := by decide
theorem w_35 : cs " 1 :" = 32 :: (cs "1" ++ (32 :: (cs ":"))) := by decide
theorem w_36 : cs "release " = cs "release" ++ (32 :: []) := by decide
theorem w_37 : cs "feature " = cs "feature" ++ (32 :: []) := by decide
theorem w_38 : cs "row " = cs "row" ++ (32 :: []) := by decide
theorem w_39 : cs "row need " = cs "row" ++ (32 :: (cs "need" ++ (32 :: []))) := by decide
theorem w_40 : cs "row need : " = cs "row" ++ (32 :: (cs "need" ++ (32 :: (cs ":" ++ (32 :: []))))) := by decide
theorem w_41 : cs " none : " = 32 :: (cs "none" ++ (32 :: (cs ":" ++ (32 :: [])))) := by decide
theorem w_42 : cs "row most 7 of " = cs "row" ++ (32 :: (cs "most" ++ (32 :: (cs "7" ++ (32 :: (cs "of" ++ (32 :: []))))))) := by decide
theorem w_43 : cs "row least 1 " = cs "row" ++ (32 :: (cs "least" ++ (32 :: (cs "1" ++ (32 :: []))))) := by decide
theorem w_44 : cs "row most of " = cs "row" ++ (32 :: (cs "most" ++ (32 :: (cs "of" ++ (32 :: []))))) := by decide
theorem w_45 : cs "later " = cs "later" ++ (32 :: []) := by decide
theorem w_46 : cs " 0 : " = 32 :: (cs "0" ++ (32 :: (cs ":" ++ (32 :: [])))) := by decide
theorem w_47 : cs " 100 : " = 32 :: (cs "100" ++ (32 :: (cs ":" ++ (32 :: [])))) := by decide
theorem w_48 : cs "signer " = cs "signer" ++ (32 :: []) := by decide
theorem w_49 : cs " : " = 32 :: (cs ":" ++ (32 :: [])) := by decide
theorem w_50 : cs " or " = 32 :: (cs "or" ++ (32 :: [])) := by decide
theorem w_51 : cs " , " = 32 :: (cs "," ++ (32 :: [])) := by decide
theorem w_52 : cs "book " = cs "book" ++ (32 :: []) := by decide
theorem w_53 : cs " and " = 32 :: (cs "and" ++ (32 :: [])) := by decide
theorem w_54 : cs "name abcdefghijkl" = cs "name" ++ (32 :: (cs "abcdefghijkl")) := by decide
theorem w_55 : cs " 0 after none up 1 down 1000000000" = 32 :: (cs "0" ++ (32 :: (cs "after" ++ (32 :: (cs "none" ++ (32 :: (cs "up" ++ (32 :: (cs "1" ++ (32 :: (cs "down" ++ (32 :: (cs "1000000000"))))))))))))) := by decide
theorem w_56 : cs " 999.0.999 after 1 up never down never" = 32 :: (cs "999.0.999" ++ (32 :: (cs "after" ++ (32 :: (cs "1" ++ (32 :: (cs "up" ++ (32 :: (cs "never" ++ (32 :: (cs "down" ++ (32 :: (cs "never"))))))))))))) := by decide
theorem w_58 : cs " at on" = 32 :: (cs "at" ++ (32 :: (cs "on"))) := by decide
theorem w_59 : cs " not from 1" = 32 :: (cs "not" ++ (32 :: (cs "from" ++ (32 :: (cs "1"))))) := by decide
theorem w_60 : cs " on" = 32 :: (cs "on") := by decide
theorem w_61 : cs "row most 6 of " = cs "row" ++ (32 :: (cs "most" ++ (32 :: (cs "6" ++ (32 :: (cs "of" ++ (32 :: []))))))) := by decide
theorem w_62 : cs " 99 : " = 32 :: (cs "99" ++ (32 :: (cs ":" ++ (32 :: [])))) := by decide
theorem w_63 : cs "row least 0 of " = cs "row" ++ (32 :: (cs "least" ++ (32 :: (cs "0" ++ (32 :: (cs "of" ++ (32 :: []))))))) := by decide
theorem w_64 : cs " 1 : " = 32 :: (cs "1" ++ (32 :: (cs ":" ++ (32 :: [])))) := by decide
end DL

set_option Elab.async false
set_option linter.all false
set_option maxRecDepth 100000
set_option maxHeartbeats 4000000
namespace DL
open PySem PySem.Spec L2 TL

/-! ### the nearest right rows -/
abbrev rep (n : Nat) (x : Ln) : List Ln := List.replicate n x
theorem join_rep {m x : Ln} (n : Nat) (hx : x.length ≤ 40) (hm : m.length ≤ 10) (hn : n ≤ 10) : dJoin (ds m) (.list ((rep n x).map ds)) = some (ds (joinL m (rep n x))) := by
  refine dJoin_lk 40 (fun p hp => ?_) ?_
  · rw [List.eq_of_mem_replicate hp]; exact hx
  · rw [List.length_replicate]
    exact Nat.le_trans (Nat.mul_le_mul hn (Nat.add_le_add_left hm _)) (by decide)
theorem rep_len {m x : Ln} (n : Nat) (hx : x.length ≤ 40) (hm : m.length ≤ 10) (hn : n ≤ 10) : (joinL m (rep n x)).length ≤ 500 := by
  have := joinL_len (m := m) (k := 40) (ps := rep n x) fun p hp => by rw [List.eq_of_mem_replicate hp]; exact hx
  rw [List.length_replicate] at this
  exact Nat.le_trans this (Nat.le_trans (Nat.mul_le_mul hn (Nat.add_le_add_left hm _)) (by decide))
def nearTx (a b : Ln) : List Ln := [
  cs "name abcdefghijkl",
  cs "release " ++ (a ++ cs " 0 after none up 1 down 1000000000"),
  cs "release " ++ (a ++ cs " 999.0.999 after 1 up never down never"),
  cs "feature " ++ (a ++ 32 :: (b ++ cs " from 1 up 1 down 1")),
  cs "row need " ++ (joinL (cs " and ") (rep 4 (a ++ cs " none")) ++ (cs " : " ++ (b ++ cs " at on"))),
  cs "row need " ++ (a ++ (cs " none : " ++ joinL (cs " or ") (rep 6 (b ++ cs " none")))),
  cs "row clash " ++ joinL (cs " , ") (rep 6 (a ++ cs " none")),
  cs "row either " ++ (a ++ cs " not from 1"),
  cs "row most 6 of " ++ (a ++ cs " none"),
  cs "row least 0 of " ++ (a ++ 43 :: (b ++ cs " none")),
  cs "start " ++ (a ++ cs " on"),
  cs "later " ++ (a ++ 43 :: (b ++ cs " on")),
  cs "signer " ++ (a ++ (cs " 99 : " ++ b)),
  cs "signer " ++ (a ++ (cs " 1 : " ++ (b ++ 43 :: a))),
  cs "end"]
instance bd_cl : Bd (cs " : ") 3 := ⟨by decide⟩
theorem near_eval {a b : Ln} (ha : WordT a) (hb : WordT b) : f_law_a_near [ds a, ds b] = some (.o ((nearTx a b).map ds)) := by
  have b1 : Bd a 12 := ⟨ha.len⟩
  have b2 : Bd b 12 := ⟨hb.len⟩
  have cn : (cs " none").length = 5 := by decide
  have la : (a ++ cs " none").length ≤ 40 := by rw [List.length_append, cn]; have := ha.len; omega
  have lb : (b ++ cs " none").length ≤ 40 := by rw [List.length_append, cn]; have := hb.len; omega
  have j1 := join_rep (m := cs " and ") (x := a ++ cs " none") 4 la (by decide) (by decide)
  have j2 := join_rep (m := cs " or ") (x := b ++ cs " none") 6 lb (by decide) (by decide)
  have j3 := join_rep (m := cs " , ") (x := a ++ cs " none") 6 la (by decide) (by decide)
  have b3 : Bd (joinL (cs " and ") (rep 4 (a ++ cs " none"))) 500 := ⟨rep_len 4 la (by decide) (by decide)⟩
  have b4 : Bd (joinL (cs " or ") (rep 6 (b ++ cs " none"))) 500 := ⟨rep_len 6 lb (by decide) (by decide)⟩
  have b5 : Bd (joinL (cs " , ") (rep 6 (a ++ cs " none"))) 500 := ⟨rep_len 6 la (by decide) (by decide)⟩
  unfold nearTx
  generalize joinL (cs " and ") (rep 4 (a ++ cs " none")) = J1 at *
  generalize joinL (cs " or ") (rep 6 (b ++ cs " none")) = J2 at *
  generalize joinL (cs " , ") (rep 6 (a ++ cs " none")) = J3 at *
  simp [List.replicate] at j1 j2 j3
  have hs := szl
  simp [-dAdd_ss, dAdd_ok, f_law_a_near, b_law_a_near, List.replicate, oCatN, oRep, j1, j2, j3, hs]
end DL

set_option Elab.async false
set_option linter.all false
set_option maxRecDepth 100000
set_option maxHeartbeats 4000000
namespace DL
open PySem PySem.Spec L2 TL

/-! ### the nearest right rows are right -/
theorem num0 : numL 0 = cs "0" := by rw [num_zero]; decide
theorem num1 : numL 1 = cs "1" := by rw [numL_lt (by decide)]; decide
theorem num6 : numL 6 = cs "6" := by rw [numL_lt (by decide)]; decide
theorem num99 : numL 99 = cs "99" := by
  rw [numL_step (by decide), show 99 / 10 = 9 from rfl, numL_lt (by decide)]; decide
theorem num999 : numL 999 = cs "999" := by
  rw [numL_step (by decide), show 999 / 10 = 99 from rfl, num99]; decide
theorem numG : numL 1000000000 = cs "1000000000" := by
  have h1 : numL 10 = cs "10" := by rw [numL_step (by decide), show 10 / 10 = 1 from rfl, num1]; decide
  have h2 : numL 100 = cs "100" := by rw [numL_step (by decide), show 100 / 10 = 10 from rfl, h1]; decide
  have h3 : numL 1000 = cs "1000" := by rw [numL_step (by decide), show 1000 / 10 = 100 from rfl, h2]; decide
  have h4 : numL 10000 = cs "10000" := by rw [numL_step (by decide), show 10000 / 10 = 1000 from rfl, h3]; decide
  have h5 : numL 100000 = cs "100000" := by rw [numL_step (by decide), show 100000 / 10 = 10000 from rfl, h4]; decide
  have h6 : numL 1000000 = cs "1000000" := by rw [numL_step (by decide), show 1000000 / 10 = 100000 from rfl, h5]; decide
  have h7 : numL 10000000 = cs "10000000" := by rw [numL_step (by decide), show 10000000 / 10 = 1000000 from rfl, h6]; decide
  have h8 : numL 100000000 = cs "100000000" := by rw [numL_step (by decide), show 100000000 / 10 = 10000000 from rfl, h7]; decide
  rw [numL_step (by decide), show 1000000000 / 10 = 100000000 from rfl, h8]; decide
theorem word_l : WordT (cs "abcdefghijkl") := ⟨by decide, ⟨97, cs "bcdefghijkl", by decide, by decide⟩, by decide, by decide⟩
theorem ver_one {n : Nat} {t : Ln} (h : numL n = t) (hn : n ≤ 999) : VerT t := ⟨[n], by simp, by simp, by simpa using hn, h.symm⟩
theorem ver0 : VerT (cs "0") := ver_one num0 (by decide)
theorem ver1 : VerT (cs "1") := ver_one num1 (by decide)
theorem ver909 : VerT (cs "999.0.999") := ⟨[999, 0, 999], by simp, by simp, by simp, by
  show cs "999.0.999" = numL 999 ++ ([46] ++ (numL 0 ++ ([46] ++ numL 999)))
  rw [num999, num0]; decide⟩
theorem price1 : PriceT (.int 1) (cs "1") := .inr ⟨1, by decide, by decide, rfl, num1.symm⟩
theorem priceG : PriceT (.int 1000000000) (cs "1000000000") := .inr ⟨1000000000, by decide, by decide, rfl, numG.symm⟩
theorem priceN : PriceT .none (cs "never") := .inl ⟨rfl, rfl⟩
abbrev cn (a : Ln) : D × List Ln := (.tuple [ds a, ds (cs "none")], [a, cs "none"])
theorem cn_ok {a : Ln} (h : WordT a) : CondT (cn a).1 (cn a).2 := .non (.inl h)
theorem cn_w (a : Ln) : cw (cn a) = a ++ cs " none" := by rw [sp_none]; rfl
theorem reps {a : Ln} (h : WordT a) {n lo hi : Nat} (h1 : lo ≤ n) (h2 : n ≤ hi) : Conds (List.replicate n (cn a)) lo hi := ⟨fun c hc => by rw [List.eq_of_mem_replicate hc]; exact cn_ok h, by rw [List.length_replicate]; exact h1, by rw [List.length_replicate]; exact h2⟩
theorem reps_w (a : Ln) (n : Nat) : (List.replicate n (cn a)).map cw = rep n (a ++ cs " none") := by rw [List.map_replicate, cn_w]
theorem need_join {A B : List (D × List Ln)} (a : Conds A 1 4) (b : Conds B 1 6) : joinL [32] (cs "need" :: (ctoks (cs "and") A ++ [58] :: ctoks (cs "or") B)) = cs "need" ++ 32 :: (joinL (cs " and ") (A.map cw) ++ 32 :: 58 :: 32 :: joinL (cs " or ") (B.map cw)) := by
  have tA := many_toks (m := cs "and") a.all (conds_ne a (by decide))
  have tB := many_toks (m := cs "or") b.all (conds_ne b (by decide))
  have nA := ctoks_ne (m := cs "and") a.all (conds_ne a (by decide))
  have nB := ctoks_ne (m := cs "or") b.all (conds_ne b (by decide))
  rw [← sp_and] at tA
  rw [← sp_or] at tB
  rw [joinL_cons (by simp), joinL_app nA (by simp), joinL_cons nB, tA, tB]
  simp
theorem com_join {C : List (D × List Ln)} {lo hi : Nat} (c : Conds C lo hi) (h1 : 1 ≤ lo) : joinL [32] (ctoks [44] C) = joinL (cs " , ") (C.map cw) := by
  have tC := many_toks (m := [44]) c.all (conds_ne c h1)
  have s44 : (32 :: ([44] ++ [32])) = cs " , " := by decide
  rw [s44] at tC
  exact tC
theorem com_ne {C : List (D × List Ln)} {lo hi : Nat} (c : Conds C lo hi) (h1 : 1 ≤ lo) : ctoks [44] C ≠ [] := ctoks_ne c.all (conds_ne c h1)
theorem len_by {r : Ln} {k : Nat} [h : Bd r k] (hk : k ≤ 400) : r.length ≤ 400 := Nat.le_trans h.le hk
theorem rep_short {m x : Ln} {n : Nat} (hx : x.length ≤ 17) (hm : m.length ≤ 5) (hn : n ≤ 7) : (joinL m (rep n x)).length ≤ 160 := by
  have := joinL_len (m := m) (k := 17) (ps := rep n x) fun p hp => by rw [List.eq_of_mem_replicate hp]; exact hx
  rw [List.length_replicate] at this
  exact Nat.le_trans this (Nat.le_trans (Nat.mul_le_mul hn (Nat.add_le_add_left hm _)) (by decide))
end DL

set_option Elab.async false
set_option linter.all false
set_option maxRecDepth 100000
set_option maxHeartbeats 4000000
namespace DL
open PySem PySem.Spec L2 TL

section
variable {a b : Ln}
theorem nr1 : ∃ d, RowT d (cs "name abcdefghijkl") := ⟨_, ⟨_, .nm (.inl rfl) word_l, by rw [w_54]; simp [joinL]⟩, by decide⟩
theorem nr2 (ha : WordT a) : ∃ d, RowT d (cs "release " ++ (a ++ cs " 0 after none up 1 down 1000000000")) := by
  have b1 : Bd a 12 := ⟨ha.len⟩
  exact ⟨_, ⟨_, .rel ha ver0 (.inl rfl) price1 priceG, by rw [w_36, w_55]; simp [joinL]⟩, len_by (by decide)⟩
theorem nr3 (ha : WordT a) : ∃ d, RowT d (cs "release " ++ (a ++ cs " 999.0.999 after 1 up never down never")) := by
  have b1 : Bd a 12 := ⟨ha.len⟩
  exact ⟨_, ⟨_, .rel ha ver909 (.inr ver1) priceN priceN, by rw [w_36, w_56]; simp [joinL]⟩, len_by (by decide)⟩
theorem nr4 (ha : WordT a) (hb : WordT b) : ∃ d, RowT d (cs "feature " ++ (a ++ 32 :: (b ++ cs " from 1 up 1 down 1"))) := by
  have b1 : Bd a 12 := ⟨ha.len⟩
  have b2 : Bd b 12 := ⟨hb.len⟩
  exact ⟨_, ⟨_, .fea ha hb ver1 price1 price1, by rw [w_37, w_21]; simp [joinL]⟩, len_by (by decide)⟩
theorem nr5 (ha : WordT a) (hb : WordT b) : ∃ d, RowT d (cs "row need " ++ (joinL (cs " and ") (rep 4 (a ++ cs " none")) ++ (cs " : " ++ (b ++ cs " at on")))) := by
  have b2 : Bd b 12 := ⟨hb.len⟩
  have b3 : Bd (joinL (cs " and ") (rep 4 (a ++ cs " none"))) 160 := ⟨rep_short (by rw [List.length_append, show (cs " none").length = 5 by decide]; have := ha.len; omega) (by decide) (by decide)⟩
  have cA : Conds (List.replicate 4 (cn a)) 1 4 := reps ha (by decide) (by decide)
  have cB : Conds [((.tuple [ds b, ds (cs "at"), ds (cs "on")] : D), [b, cs "at", cs "on"])] 1 6 := ⟨by simpa using CondT.att (.inl hb) (.inl rfl), by simp, by simp⟩
  refine ⟨_, ⟨_, .row (.need cA cB), ?_⟩, len_by (by decide)⟩
  rw [joinL_cons (by simp), need_join cA cB, reps_w, w_39, sp_col, w_58]
  simp [joinL, cw, cn]
theorem nr6 (ha : WordT a) (hb : WordT b) : ∃ d, RowT d (cs "row need " ++ (a ++ (cs " none : " ++ joinL (cs " or ") (rep 6 (b ++ cs " none"))))) := by
  have b1 : Bd a 12 := ⟨ha.len⟩
  have b3 : Bd (joinL (cs " or ") (rep 6 (b ++ cs " none"))) 160 := ⟨rep_short (by rw [List.length_append, show (cs " none").length = 5 by decide]; have := hb.len; omega) (by decide) (by decide)⟩
  have cA : Conds [cn a] 1 4 := reps (n := 1) ha (by decide) (by decide)
  have cB : Conds (List.replicate 6 (cn b)) 1 6 := reps hb (by decide) (by decide)
  refine ⟨_, ⟨_, .row (.need cA cB), ?_⟩, len_by (by decide)⟩
  rw [joinL_cons (by simp), need_join cA cB, reps_w, w_39, w_41]
  simp [joinL, cw, cn]
theorem nr7 (ha : WordT a) : ∃ d, RowT d (cs "row clash " ++ joinL (cs " , ") (rep 6 (a ++ cs " none"))) := by
  have b3 : Bd (joinL (cs " , ") (rep 6 (a ++ cs " none"))) 160 := ⟨rep_short (by rw [List.length_append, show (cs " none").length = 5 by decide]; have := ha.len; omega) (by decide) (by decide)⟩
  have c : Conds (List.replicate 6 (cn a)) 2 6 := reps ha (by decide) (by decide)
  refine ⟨_, ⟨_, .row (.cl c), ?_⟩, len_by (by decide)⟩
  rw [joinL_cons (by simp), joinL_cons (com_ne c (by decide)), com_join c (by decide), reps_w, w_26]
  simp
theorem nr8 (ha : WordT a) : ∃ d, RowT d (cs "row either " ++ (a ++ cs " not from 1")) := by
  have b1 : Bd a 12 := ⟨ha.len⟩
  have c : Conds [((.tuple [ds a, ds (cs "not"), ds (cs "1")] : D), [a, cs "not", cs "from", cs "1"])] 1 6 := ⟨by simpa using CondT.not (.inl ha) (.inr ver1), by simp, by simp⟩
  refine ⟨_, ⟨_, .row (.ei c), ?_⟩, len_by (by decide)⟩
  rw [joinL_cons (by simp), joinL_cons (com_ne c (by decide)), com_join c (by decide), w_31, w_59]
  simp [joinL, cw, cn]
theorem nr9 (ha : WordT a) : ∃ d, RowT d (cs "row most 6 of " ++ (a ++ cs " none")) := by
  have b1 : Bd a 12 := ⟨ha.len⟩
  have c : Conds [cn a] 1 6 := reps (n := 1) ha (by decide) (by decide)
  refine ⟨_, ⟨_, .row (.cnt (n := 6) (.inl rfl) (by decide) c), ?_⟩, len_by (by decide)⟩
  rw [joinL_cons (by simp), joinL_cons (by simp), joinL_cons (by simp), joinL_cons (com_ne c (by decide)), com_join c (by decide), num6, w_61, w_23]
  simp [joinL, cw, cn]
theorem nr10 (ha : WordT a) (hb : WordT b) : ∃ d, RowT d (cs "row least 0 of " ++ (a ++ 43 :: (b ++ cs " none"))) := by
  have b1 : Bd a 12 := ⟨ha.len⟩
  have b2 : Bd b 12 := ⟨hb.len⟩
  have c : Conds [((.tuple [ds (a ++ 43 :: b), ds (cs "none")] : D), [a ++ 43 :: b, cs "none"])] 1 6 := ⟨by simpa using CondT.non (.inr ⟨a, b, ha, hb, rfl⟩), by simp, by simp⟩
  refine ⟨_, ⟨_, .row (.cnt (n := 0) (.inr rfl) (by decide) c), ?_⟩, len_by (by decide)⟩
  rw [joinL_cons (by simp), joinL_cons (by simp), joinL_cons (by simp), joinL_cons (com_ne c (by decide)), com_join c (by decide), num0, w_63, w_23]
  simp [joinL, cw, cn]
theorem nr11 (ha : WordT a) : ∃ d, RowT d (cs "start " ++ (a ++ cs " on")) := by
  have b1 : Bd a 12 := ⟨ha.len⟩
  exact ⟨_, ⟨_, .sta (.inl rfl) (.inl ha) (.inl rfl), by rw [w_33, w_60]; simp [joinL]⟩, len_by (by decide)⟩
theorem nr12 (ha : WordT a) (hb : WordT b) : ∃ d, RowT d (cs "later " ++ (a ++ 43 :: (b ++ cs " on"))) := by
  have b1 : Bd a 12 := ⟨ha.len⟩
  have b2 : Bd b 12 := ⟨hb.len⟩
  exact ⟨_, ⟨_, .sta (.inr rfl) (.inr ⟨a, b, ha, hb, rfl⟩) (.inl rfl), by rw [w_45, w_60]; simp [joinL]⟩, len_by (by decide)⟩
theorem nr13 (ha : WordT a) (hb : WordT b) : ∃ d, RowT d (cs "signer " ++ (a ++ (cs " 99 : " ++ b))) := by
  have b1 : Bd a 12 := ⟨ha.len⟩
  have b2 : Bd b 12 := ⟨hb.len⟩
  exact ⟨_, ⟨_, .sig (n := 99) (a := b) (names := []) ha (by decide) (by decide) (by simpa using .inl hb) (by simp), by rw [num99, w_48, w_62]; simp [joinL]⟩, len_by (by decide)⟩
theorem nr14 (ha : WordT a) (hb : WordT b) : ∃ d, RowT d (cs "signer " ++ (a ++ (cs " 1 : " ++ (b ++ 43 :: a)))) := by
  have b1 : Bd a 12 := ⟨ha.len⟩
  have b2 : Bd b 12 := ⟨hb.len⟩
  exact ⟨_, ⟨_, .sig (n := 1) (a := b ++ 43 :: a) (names := []) ha (by decide) (by decide) (by simpa using .inr ⟨b, a, hb, ha, rfl⟩) (by simp), by rw [num1, w_48, w_64]; simp [joinL]⟩, len_by (by decide)⟩
theorem nr15 : ∃ d, RowT d (cs "end") := ⟨_, ⟨_, .fin, rfl⟩, by decide⟩
theorem near_row (ha : WordT a) (hb : WordT b) : ∀ r ∈ nearTx a b, ∃ d, RowT d r := fun r hr => by
  simp only [nearTx, List.mem_cons, List.not_mem_nil, or_false] at hr
  rcases hr with rfl | rfl | rfl | rfl | rfl | rfl | rfl | rfl | rfl | rfl | rfl | rfl | rfl | rfl | rfl
  · exact nr1
  · exact nr2 ha
  · exact nr3 ha
  · exact nr4 ha hb
  · exact nr5 ha hb
  · exact nr6 ha hb
  · exact nr7 ha
  · exact nr8 ha
  · exact nr9 ha
  · exact nr10 ha hb
  · exact nr11 ha
  · exact nr12 ha hb
  · exact nr13 ha hb
  · exact nr14 ha hb
  · exact nr15
end
end DL

set_option Elab.async false
set_option linter.all false
set_option maxRecDepth 100000
set_option maxHeartbeats 4000000
namespace DL
open PySem PySem.Spec L2 TL

/-! ### wrong forms: what they share -/
theorem sf_toks {toks : List Ln} (ht : ∀ t ∈ toks, TokB t) (hne : toks ≠ []) (hlen : (joinL [32] toks).length ≤ 400) : f_sign_fault [ds (joinL [32] toks)] = some (.d (ds [])) := by
  have hs := szl
  have hall := join_all ht
  have hnd := no_double (nd_join false ht hne)
  obtain ⟨u, c, eu, hc⟩ := join_last ht hne
  obtain ⟨c', q, eq, hc'⟩ := join_first ht hne
  generalize joinL [32] toks = R at *
  have hc1 : c ≠ 32 := by rintro rfl; exact absurd hc (by decide)
  have hc2 : c' ≠ 32 := by rintro rfl; exact absurd hc' (by decide)
  have loop : ∃ y', forS (gNm 1) (sIf (bBin dNotIn (eNm 1) (eK k_SIGNS)) (sRet (eK (ds (cs "sign")))) sNext) (R.map fun c => ds [c]) [.d (ds R), .no] = some (.nx ([Sl.d (ds R), .no].set 1 y')) := by
    refine forS_pass' fun x hx => ?_
    obtain ⟨c, hc, rfl⟩ := mem_chars hx
    simp [dIn_sg (hall c hc)]
  obtain ⟨y', loop⟩ := loop
  have hR : R ≠ [] := by rw [eq]; simp
  have hz : R.length ≤ sizeLine := by omega
  have a0 : dIx (ds R) (.int 0) = some (ds [c']) := by
    rw [dIx_s, codes_mk, if_pos hz, at_0, eq]; rfl
  have a1 : dIx (ds R) (.int (-1)) = some (ds [c]) := by
    rw [dIx_s, codes_mk, if_pos hz, eu, at_l]; rfl
  simp [-dIx_s, f_sign_fault, b_sign_fault, List.replicate, hR, loop, a0, a1, hc1, hc2, cs_2bl, hnd]
theorem form_fault {t0 : Ln} {tr : List Ln} (ht : ∀ t ∈ t0 :: tr, TokB t) (hlen : (joinL [32] (t0 :: tr)).length ≤ 400) (hf : t0 ∈ firstL) (hr : f_read_line [.list ((t0 :: tr).map ds)] = some (.d .none)) : FaultT (joinL [32] (t0 :: tr)) (cs "form") := by
  refine ⟨fun hm => ?_, hlen, .inr ⟨sf_toks ht (by simp) hlen, t0, tr, splitD (by decide) (by simp) fun p hp => sg_no (ht p hp) (by decide), .inr ⟨hf, hr, rfl⟩⟩⟩
  rcases join_all ht 10 hm with h | h
  · exact absurd h (by decide)
  · exact absurd h (by decide)
theorem word_fault {t0 : Ln} {tr : List Ln} (ht : ∀ t ∈ t0 :: tr, TokB t) (hlen : (joinL [32] (t0 :: tr)).length ≤ 400) (hf : t0 ∉ firstL) : FaultT (joinL [32] (t0 :: tr)) (cs "word") := by
  refine ⟨fun hm => ?_, hlen, .inr ⟨sf_toks ht (by simp) hlen, t0, tr, splitD (by decide) (by simp) fun p hp => sg_no (ht p hp) (by decide), .inl ⟨hf, rfl⟩⟩⟩
  rcases join_all ht 10 hm with h | h
  · exact absurd h (by decide)
  · exact absurd h (by decide)
theorem empty_fault : FaultT [] (cs "empty") := ⟨by simp, by simp, .inl ⟨by simp [f_sign_fault, b_sign_fault, List.replicate], by decide⟩⟩
theorem neg_word_up : f_is_word [ds (cs "up")] = some (.d (.bool false)) := by rfl
theorem neg_word_long : f_is_word [ds (cs "abcdefghijklm")] = some (.d (.bool false)) := by rfl
end DL

set_option Elab.async false
set_option linter.all false
set_option maxRecDepth 100000
set_option maxHeartbeats 4000000
namespace DL
open PySem PySem.Spec L2 TL

/-! ### the wrong forms -/
def wrongTx (a b : Ln) : List Ln := [
  cs "name",
  cs "name " ++ (a ++ (32 :: (b))),
  cs "name up",
  cs "name 1" ++ (a.take 3),
  cs "name " ++ (a ++ (46 :: (b))),
  cs "name " ++ (cs "abcdefghijklm"),
  cs "name " ++ (a ++ (43 :: (b))),
  cs "release " ++ (a ++ (cs " 01 after none up 1 down 1")),
  cs "release " ++ (a ++ (cs " 1 after none up 0 down 1")),
  cs "release " ++ (a ++ (cs " 1 after none up 1000000001 down 1")),
  cs "release " ++ (a ++ (cs " 1 after none up 1")),
  cs "release " ++ (a ++ (cs " on after none up 1 down 1")),
  cs "release " ++ (a ++ (cs " 1.2.3.4 after none up 1 down 1")),
  cs "release " ++ (a ++ (cs " 1000 after none up 1 down 1")),
  cs "release " ++ (a ++ (cs " 1 from none up 1 down 1")),
  cs "release " ++ (a ++ (cs " 1 after none down 1 up 1")),
  cs "feature " ++ (a ++ (32 :: (b ++ (cs " from on up 1 down 1")))),
  cs "feature " ++ (a ++ (cs " from 1 up 1 down 1")),
  cs "feature " ++ (a ++ (32 :: (b ++ (cs " after 1 up 1 down 1")))),
  cs "row",
  cs "row " ++ (a ++ (cs " none")),
  cs "row need " ++ (a ++ (cs " from 1")),
  cs "row need " ++ (a ++ (cs " from 1 :")),
  cs "row need : " ++ (a ++ (cs " none")),
  cs "row need " ++ ((joinL (cs " and ") (rep 5 (a ++ cs " none"))) ++ (cs " : " ++ (b ++ (cs " none")))),
  cs "row need " ++ (a ++ (cs " none : " ++ ((joinL (cs " or ") (rep 7 (b ++ cs " none")))))),
  cs "row clash " ++ (a ++ (cs " none")),
  cs "row clash " ++ ((joinL (cs " , ") (rep 7 (a ++ cs " none")))),
  cs "row either",
  cs "row either " ++ (a ++ (cs " none ,")),
  cs "row either " ++ (a ++ (cs " from none")),
  cs "row either " ++ (a ++ (cs " not 1")),
  cs "row either " ++ (a ++ (cs " not from")),
  cs "row either " ++ (a),
  cs "row same " ++ ((joinL (cs " , ") (rep 3 (a ++ cs " none")))),
  cs "row most 7 of " ++ (a ++ (cs " none")),
  cs "row least 1 " ++ (a ++ (cs " none")),
  cs "row most of " ++ (a ++ (cs " none")),
  cs "start " ++ (a ++ (cs " none")),
  cs "start " ++ (a),
  cs "later " ++ (a ++ (cs " 1.")),
  cs "signer " ++ (a ++ (cs " 0 : " ++ (b))),
  cs "signer " ++ (a ++ (cs " 100 : " ++ (b))),
  cs "signer " ++ (a ++ (cs " 1 :")),
  cs "book " ++ (a ++ (32 :: (b))),
  cs "end end"]
theorem take3 {a : Ln} (h : a.length ≤ 1000) : dSl (ds a) none (some 3) = some (ds (a.take 3)) := by
  show (if (codes ⟨a.toArray⟩).length ≤ sizeLine then some (ds (cutD (codes ⟨a.toArray⟩) none (some ((3 : Nat) : Int)))) else none) = _
  rw [codes_mk, if_pos (by rw [szl]; omega), cut_to]
instance bd_take {a : Ln} {n : Nat} : Bd (a.take n) n := ⟨by rw [List.length_take]; omega⟩
instance bd_long : Bd (cs "abcdefghijklm") 13 := ⟨by decide⟩
theorem wrong_eval {a b : Ln} (ha : WordT a) (hb : WordT b) : f_law_a_wrong [ds a, ds b] = some (.o ((wrongTx a b).map ds)) := by
  have b1 : Bd a 12 := ⟨ha.len⟩
  have b2 : Bd b 12 := ⟨hb.len⟩
  have cn : (cs " none").length = 5 := by decide
  have la : (a ++ cs " none").length ≤ 40 := by rw [List.length_append, cn]; have := ha.len; omega
  have lb : (b ++ cs " none").length ≤ 40 := by rw [List.length_append, cn]; have := hb.len; omega
  have t3 := take3 (a := a) (by have := ha.len; omega)
  have j0 := join_rep (m := cs " and ") (x := a ++ cs " none") 5 la (by decide) (by decide)
  have c0 : Bd (joinL (cs " and ") (rep 5 (a ++ cs " none"))) 500 := ⟨rep_len 5 la (by decide) (by decide)⟩
  have j1 := join_rep (m := cs " or ") (x := b ++ cs " none") 7 lb (by decide) (by decide)
  have c1 : Bd (joinL (cs " or ") (rep 7 (b ++ cs " none"))) 500 := ⟨rep_len 7 lb (by decide) (by decide)⟩
  have j2 := join_rep (m := cs " , ") (x := a ++ cs " none") 7 la (by decide) (by decide)
  have c2 : Bd (joinL (cs " , ") (rep 7 (a ++ cs " none"))) 500 := ⟨rep_len 7 la (by decide) (by decide)⟩
  have j3 := join_rep (m := cs " , ") (x := a ++ cs " none") 3 la (by decide) (by decide)
  have c3 : Bd (joinL (cs " , ") (rep 3 (a ++ cs " none"))) 500 := ⟨rep_len 3 la (by decide) (by decide)⟩
  unfold wrongTx
  generalize joinL (cs " and ") (rep 5 (a ++ cs " none")) = J0 at *
  generalize joinL (cs " or ") (rep 7 (b ++ cs " none")) = J1 at *
  generalize joinL (cs " , ") (rep 7 (a ++ cs " none")) = J2 at *
  generalize joinL (cs " , ") (rep 3 (a ++ cs " none")) = J3 at *
  simp [List.replicate] at j0 j1 j2 j3
  have hs := szl
  simp [-dAdd_ss, dAdd_ok, f_law_a_wrong, b_law_a_wrong, List.replicate, oCatN, oRep, t3, hs, j0, j1, j2, j3]
end DL

set_option Elab.async false
set_option linter.all false
set_option maxRecDepth 100000
set_option maxHeartbeats 4000000
namespace DL
open PySem PySem.Spec L2 TL

/-! ### what is no word -/
abbrev wlBody : SS := sIf (bAnd (bBin dNotIn (eNm 1) (eK k_LETTERS)) (bBin dNotIn (eNm 1) (eK k_FIGURES))) (sRet (eK (.bool false))) sNext
theorem word_loop_bad {x : Sl} : ∀ (l : Ln) (y : Sl), (∃ c ∈ l, ¬ (Let c ∨ Fig c)) → ∃ st', forS (gNm 1) wlBody (l.map fun c => ds [c]) [x, y] = some (.rt (.bool false) st')
  | [], _, h => by obtain ⟨c, hc, _⟩ := h; cases hc
  | c :: r, y, h => by
    rw [List.map_cons, forS_cons, gNm_ap, Option.bind_some]
    by_cases hL : Let c
    · obtain ⟨st', e⟩ := word_loop_bad (x := x) r (.d (ds [c])) (by
        obtain ⟨d, hd, hn⟩ := h
        rcases List.mem_cons.mp hd with rfl | hd
        · exact absurd (.inl hL) hn
        · exact ⟨d, hd, hn⟩)
      refine ⟨st', ?_⟩
      simp [dIn_let, hL]
      exact e
    · by_cases hF : Fig c
      · obtain ⟨st', e⟩ := word_loop_bad (x := x) r (.d (ds [c])) (by
          obtain ⟨d, hd, hn⟩ := h
          rcases List.mem_cons.mp hd with rfl | hd
          · exact absurd (.inr hF) hn
          · exact ⟨d, hd, hn⟩)
        refine ⟨st', ?_⟩
        simp [dIn_let, dIn_fig, hL, hF]
        exact e
      · exact ⟨_, by simp [dIn_let, dIn_fig, hL, hF]; rfl⟩
theorem is_word_no {t : Ln} (h : ¬ WordT t) (hlen : t.length ≤ 1000) : f_is_word [ds t] = some (.d (.bool false)) := by
  have hs := szl
  cases t with
  | nil => simp [f_is_word, b_is_word, List.replicate]
  | cons c r =>
    simp only [List.length_cons] at hlen
    have hz : r.length + 1 ≤ sizeLine := by omega
    by_cases h12 : (12 : Int) < (r.length : Int) + 1
    · simp [f_is_word, b_is_word, List.replicate, hz, h12]
    · by_cases hc : Let c
      · by_cases hall : ∀ d ∈ c :: r, Let d ∨ Fig d
        · have hk : c :: r ∈ keptL := by
            by_cases hk : c :: r ∈ keptL
            · exact hk
            · exact absurd ⟨by simp only [List.length_cons]; omega, ⟨c, r, rfl, hc⟩, hall, hk⟩ h
          have loop : ∃ y', forS (gNm 1) wlBody ((c :: r).map fun c => ds [c]) [.d (ds (c :: r)), .no] = some (.nx ([Sl.d (ds (c :: r)), .no].set 1 y')) := by
            refine forS_pass' fun x hx => ?_
            obtain ⟨d, hd, rfl⟩ := mem_chars hx
            by_cases hL : Let d
            · simp [dIn_let, dIn_fig, hL]
            · have hF : Fig d := (hall d hd).resolve_left hL
              simp [dIn_let, dIn_fig, hL, hF]
          obtain ⟨y', loop⟩ := loop
          simp [f_is_word, b_is_word, List.replicate, atI, ixN, hz, h12, dIn_let, hc] at loop ⊢
          simp [loop, kept_eq, dIn_t, hk]
        · have hb : ∃ d ∈ c :: r, ¬ (Let d ∨ Fig d) := by
            apply Classical.byContradiction
            intro hn
            refine hall fun d hd => ?_
            apply Classical.byContradiction
            intro hq
            exact hn ⟨d, hd, hq⟩
          obtain ⟨st', loop⟩ := word_loop_bad (x := .d (ds (c :: r))) (c :: r) .no hb
          simp [f_is_word, b_is_word, List.replicate, atI, ixN, hz, h12, dIn_let, hc] at loop ⊢
          simp [loop]
      · simp [f_is_word, b_is_word, List.replicate, atI, ixN, hz, h12, dIn_let, hc]
end DL

set_option Elab.async false
set_option linter.all false
set_option maxRecDepth 100000
set_option maxHeartbeats 4000000
namespace DL
open PySem PySem.Spec L2 TL

/-! ### what is no number, version, price -/
theorem is_number_no {n : Nat} {lo hi : Int} (h : n < 10 ^ 10) (hx : ¬ (lo ≤ n ∧ (n : Int) ≤ hi)) : f_is_number [ds (numL n), .int lo, .int hi] = some (.d (.bool false)) := by
  have hl := num_len h
  have hs := szl
  have hz : (numL n).length ≤ sizeLine := by omega
  have h10 : ¬ (10 : Int) < ((numL n).length : Int) := by omega
  simp only [f_is_number, b_is_number, runP_ap, startD_ap, List.length_cons, List.length_nil, if_true, List.map_cons, List.map_nil, List.replicate, Nat.sub_self, List.append_nil, sSeq_ap, sIf_ap, bOr_ap, bNot_ap, bUn_ap, eCallP_ap, aCons_ap, aNil_ap, eNm_ap]
  by_cases h1 : lo ≤ (n : Int)
  · have h2 : ¬ (n : Int) ≤ hi := fun z => hx ⟨h1, z⟩
    simp [-fInt_s, is_figures_num n h, hz, h10, fInt_num h, h1, h2]
  · simp [-fInt_s, is_figures_num n h, hz, h10, fInt_num h, h1]
theorem is_number_fig {t : Ln} {lo hi : Int} (h : f_is_figures [ds t] = some (.d (.bool false))) : f_is_number [ds t, .int lo, .int hi] = some (.d (.bool false)) := by
  simp [f_is_number, b_is_number, List.replicate, h]
theorem ver_no1 {t : Ln} (h46 : 46 ∉ t) (hl : t.length ≤ 1000) (hb : f_is_number [ds t, .int 0, .int 999] = some (.d (.bool false))) : f_is_version [ds t] = some (.d (.bool false)) := by
  have hs := szl
  have sp := splitD (s := 46) (by decide) (parts := [t]) (by simp) (by simpa using h46)
  have sp' : (Txt.split (⟨t.toArray⟩ : Str) (⟨[46].toArray⟩ : Str)).map PyData.str = [ds t] := sp
  have hz : t.length + 2 ≤ sizeLine := by omega
  have lp : forS (gNm 2) (sIf (bNot (bUn truD (eCallP f_is_number (aCons (eNm 2) (aCons (eK (.int 0)) (aCons (eK (.int 999)) aNil)))))) (sRet (eK (.bool false))) sNext) [ds t] [.d (ds t), .d (.list [ds t]), .no] = some (.rt (.bool false) [.d (ds t), .d (.list [ds t]), .d (ds t)]) := by
    rw [forS_cons]
    simp [hb]
  simp [f_is_version, b_is_version, List.replicate, sp', hz] at lp ⊢
  simp [lp]
theorem rel_no {t : Ln} (h : t ≠ cs "on") (hv : f_is_version [ds t] = some (.d (.bool false))) : f_is_release [ds t] = some (.d (.bool false)) := by
  simp [f_is_release, b_is_release, h, hv]
theorem price_no {t : Ln} (h : t ≠ cs "never") (hv : f_is_number [ds t, .int 1, .int 1000000000] = some (.d (.bool false))) : f_is_price [ds t] = some (.d (.bool false)) := by
  simp [f_is_price, b_is_price, h, k_GREATEST_PRICE, hv]
theorem fg01 : f_is_figures [ds (cs "01")] = some (.d (.bool false)) := by rfl
theorem fgon : f_is_figures [ds (cs "on")] = some (.d (.bool false)) := by rfl
theorem fgnone : f_is_figures [ds (cs "none")] = some (.d (.bool false)) := by rfl
theorem fgof : f_is_figures [ds (cs "of")] = some (.d (.bool false)) := by rfl
theorem fgemp : f_is_figures [ds []] = some (.d (.bool false)) := by rfl
theorem ng_v01 : f_is_version [ds (cs "01")] = some (.d (.bool false)) := ver_no1 (by decide) (by decide) (is_number_fig fg01)
theorem ng_von : f_is_version [ds (cs "on")] = some (.d (.bool false)) := ver_no1 (by decide) (by decide) (is_number_fig fgon)
theorem ng_vnone : f_is_version [ds (cs "none")] = some (.d (.bool false)) := ver_no1 (by decide) (by decide) (is_number_fig fgnone)
theorem ng_rnone : f_is_release [ds (cs "none")] = some (.d (.bool false)) := rel_no (by decide) ng_vnone
theorem num1000 : numL 1000 = cs "1000" := by rw [numL_step (by decide), show 1000 / 10 = 100 from rfl, numL_step (by decide), show 100 / 10 = 10 from rfl, numL_step (by decide), show 10 / 10 = 1 from rfl, num1]; decide
theorem ng_v1000 : f_is_version [ds (cs "1000")] = some (.d (.bool false)) := ver_no1 (by decide) (by decide) (by rw [← num1000]; exact is_number_no (by decide) (by decide))
theorem ng_p0 : f_is_price [ds (cs "0")] = some (.d (.bool false)) := price_no (by decide) (by rw [← num0]; exact is_number_no (by decide) (by decide))
end DL

set_option Elab.async false
set_option linter.all false
set_option maxRecDepth 100000
set_option maxHeartbeats 4000000
namespace DL
open PySem PySem.Spec L2 TL

theorem ng_v4 : f_is_version [ds (cs "1.2.3.4")] = some (.d (.bool false)) := by
  have hs := szl
  have sp := splitD (s := 46) (by decide) (parts := [cs "1", cs "2", cs "3", cs "4"]) (by simp) (by decide)
  have e : joinL [46] [cs "1", cs "2", cs "3", cs "4"] = cs "1.2.3.4" := by decide
  rw [e] at sp
  have hz : (cs "1.2.3.4").length + 2 ≤ sizeLine := by rw [hs]; decide
  generalize cs "1.2.3.4" = t at *
  simp only [List.map_cons, List.map_nil] at sp
  simp [f_is_version, b_is_version, List.replicate, sp, hz]
theorem ng_vdot : f_is_version [ds (cs "1.")] = some (.d (.bool false)) := by
  have hs := szl
  have sp := splitD (s := 46) (by decide) (parts := [cs "1", []]) (by simp) (by decide)
  have e : joinL [46] [cs "1", []] = cs "1." := by decide
  rw [e] at sp
  have hz : (cs "1.").length + 2 ≤ sizeLine := by rw [hs]; decide
  have h1 : f_is_number [ds (cs "1"), .int 0, .int 999] = some (.d (.bool true)) := by rw [← num1]; exact is_number_ok (by decide) (by decide) (by decide)
  have h2 : f_is_number [ds [], .int 0, .int 999] = some (.d (.bool false)) := is_number_fig fgemp
  generalize cs "1." = t at *
  generalize cs "1" = u at *
  simp only [List.map_cons, List.map_nil] at sp
  have lp : forS (gNm 2) (sIf (bNot (bUn truD (eCallP f_is_number (aCons (eNm 2) (aCons (eK (.int 0)) (aCons (eK (.int 999)) aNil)))))) (sRet (eK (.bool false))) sNext) [ds u, ds []] [.d (ds t), .d (.list [ds u, ds []]), .no] = some (.rt (.bool false) [.d (ds t), .d (.list [ds u, ds []]), .d (ds [])]) := by
    rw [forS_cons]
    simp [h1]
    rw [forS_cons]
    simp [h2]
  simp [f_is_version, b_is_version, List.replicate, sp, hz] at lp ⊢
  simp [lp]
theorem ng_rdot : f_is_release [ds (cs "1.")] = some (.d (.bool false)) := rel_no (by decide) ng_vdot
theorem numG1 : numL 1000000001 = cs "1000000001" := by
  have h := numG
  rw [numL_step (by decide), show 1000000000 / 10 = 100000000 from rfl] at h
  have h8 : numL 100000000 = cs "100000000" := by
    have e : cs "1000000000" = cs "100000000" ++ [48] := by decide
    rw [e] at h
    exact List.append_cancel_right h
  rw [numL_step (by decide), show 1000000001 / 10 = 100000000 from rfl, h8]; decide
theorem ng_pG : f_is_price [ds (cs "1000000001")] = some (.d (.bool false)) := price_no (by decide) (by rw [← numG1]; exact is_number_no (by decide) (by decide))
theorem ng_n7 : f_is_number [ds (cs "7"), .int 0, .int 6] = some (.d (.bool false)) := by
  have e : numL 7 = cs "7" := by rw [numL_lt (by decide)]; decide
  rw [← e]; exact is_number_no (by decide) (by decide)
theorem ng_nof : f_is_number [ds (cs "of"), .int 0, .int 6] = some (.d (.bool false)) := is_number_fig fgof
theorem ng_n0 : f_is_number [ds (cs "0"), .int 1, .int 99] = some (.d (.bool false)) := by rw [← num0]; exact is_number_no (by decide) (by decide)
theorem ng_n100 : f_is_number [ds (cs "100"), .int 1, .int 99] = some (.d (.bool false)) := by
  have e : numL 100 = cs "100" := by rw [numL_step (by decide), show 100 / 10 = 10 from rfl, numL_step (by decide), show 10 / 10 = 1 from rfl, num1]; decide
  rw [← e]; exact is_number_no (by decide) (by decide)
end DL

set_option Elab.async false
set_option linter.all false
set_option maxRecDepth 100000
set_option maxHeartbeats 4000000
namespace DL
open PySem PySem.Spec L2 TL

/-! ### the tokens of the wrong forms -/
section
variable {a b : Ln}
theorem w_and : cs " and " = 32 :: (cs "and" ++ [32]) := by decide
theorem w_or : cs " or " = 32 :: (cs "or" ++ [32]) := by decide
theorem w_com : cs " , " = 32 :: (cs "," ++ [32]) := by decide
def wt0 (a b : Ln) : List Ln := [(cs "name")]
theorem we0 : cs "name" = joinL [32] (wt0 a b) := by simp [joinL, wt0]
def wt1 (a b : Ln) : List Ln := [(cs "name"), a, b]
theorem we1 : cs "name " ++ (a ++ (32 :: (b))) = joinL [32] (wt1 a b) := by simp [joinL, wt1, w_4]
def wt2 (a b : Ln) : List Ln := [(cs "name"), (cs "up")]
theorem we2 : cs "name up" = joinL [32] (wt2 a b) := by simp [joinL, wt2, w_2]
def wt3 (a b : Ln) : List Ln := [(cs "name"), (cs "1" ++ (a.take 3))]
theorem we3 : cs "name 1" ++ (a.take 3) = joinL [32] (wt3 a b) := by simp [joinL, wt3, w_3]
def wt4 (a b : Ln) : List Ln := [(cs "name"), (a ++ (cs "." ++ (b)))]
theorem we4 : cs "name " ++ (a ++ (46 :: (b))) = joinL [32] (wt4 a b) := by simp [joinL, wt4, w_4]
def wt5 (a b : Ln) : List Ln := [(cs "name"), (cs "abcdefghijklm")]
theorem we5 : cs "name " ++ (cs "abcdefghijklm") = joinL [32] (wt5 a b) := by simp [joinL, wt5, w_4]
def wt6 (a b : Ln) : List Ln := [(cs "name"), (a ++ (cs "+" ++ (b)))]
theorem we6 : cs "name " ++ (a ++ (43 :: (b))) = joinL [32] (wt6 a b) := by simp [joinL, wt6, w_4]
def wt7 (a b : Ln) : List Ln := [(cs "release"), a, (cs "01"), (cs "after"), (cs "none"), (cs "up"), (cs "1"), (cs "down"), (cs "1")]
theorem we7 : cs "release " ++ (a ++ (cs " 01 after none up 1 down 1")) = joinL [32] (wt7 a b) := by simp [joinL, wt7, w_11, w_36]
def wt8 (a b : Ln) : List Ln := [(cs "release"), a, (cs "1"), (cs "after"), (cs "none"), (cs "up"), (cs "0"), (cs "down"), (cs "1")]
theorem we8 : cs "release " ++ (a ++ (cs " 1 after none up 0 down 1")) = joinL [32] (wt8 a b) := by simp [joinL, wt8, w_12, w_36]
def wt9 (a b : Ln) : List Ln := [(cs "release"), a, (cs "1"), (cs "after"), (cs "none"), (cs "up"), (cs "1000000001"), (cs "down"), (cs "1")]
theorem we9 : cs "release " ++ (a ++ (cs " 1 after none up 1000000001 down 1")) = joinL [32] (wt9 a b) := by simp [joinL, wt9, w_13, w_36]
def wt10 (a b : Ln) : List Ln := [(cs "release"), a, (cs "1"), (cs "after"), (cs "none"), (cs "up"), (cs "1")]
theorem we10 : cs "release " ++ (a ++ (cs " 1 after none up 1")) = joinL [32] (wt10 a b) := by simp [joinL, wt10, w_14, w_36]
def wt11 (a b : Ln) : List Ln := [(cs "release"), a, (cs "on"), (cs "after"), (cs "none"), (cs "up"), (cs "1"), (cs "down"), (cs "1")]
theorem we11 : cs "release " ++ (a ++ (cs " on after none up 1 down 1")) = joinL [32] (wt11 a b) := by simp [joinL, wt11, w_15, w_36]
def wt12 (a b : Ln) : List Ln := [(cs "release"), a, (cs "1.2.3.4"), (cs "after"), (cs "none"), (cs "up"), (cs "1"), (cs "down"), (cs "1")]
theorem we12 : cs "release " ++ (a ++ (cs " 1.2.3.4 after none up 1 down 1")) = joinL [32] (wt12 a b) := by simp [joinL, wt12, w_16, w_36]
def wt13 (a b : Ln) : List Ln := [(cs "release"), a, (cs "1000"), (cs "after"), (cs "none"), (cs "up"), (cs "1"), (cs "down"), (cs "1")]
theorem we13 : cs "release " ++ (a ++ (cs " 1000 after none up 1 down 1")) = joinL [32] (wt13 a b) := by simp [joinL, wt13, w_17, w_36]
def wt14 (a b : Ln) : List Ln := [(cs "release"), a, (cs "1"), (cs "from"), (cs "none"), (cs "up"), (cs "1"), (cs "down"), (cs "1")]
theorem we14 : cs "release " ++ (a ++ (cs " 1 from none up 1 down 1")) = joinL [32] (wt14 a b) := by simp [joinL, wt14, w_18, w_36]
def wt15 (a b : Ln) : List Ln := [(cs "release"), a, (cs "1"), (cs "after"), (cs "none"), (cs "down"), (cs "1"), (cs "up"), (cs "1")]
theorem we15 : cs "release " ++ (a ++ (cs " 1 after none down 1 up 1")) = joinL [32] (wt15 a b) := by simp [joinL, wt15, w_19, w_36]
def wt16 (a b : Ln) : List Ln := [(cs "feature"), a, b, (cs "from"), (cs "on"), (cs "up"), (cs "1"), (cs "down"), (cs "1")]
theorem we16 : cs "feature " ++ (a ++ (32 :: (b ++ (cs " from on up 1 down 1")))) = joinL [32] (wt16 a b) := by simp [joinL, wt16, w_20, w_37]
def wt17 (a b : Ln) : List Ln := [(cs "feature"), a, (cs "from"), (cs "1"), (cs "up"), (cs "1"), (cs "down"), (cs "1")]
theorem we17 : cs "feature " ++ (a ++ (cs " from 1 up 1 down 1")) = joinL [32] (wt17 a b) := by simp [joinL, wt17, w_21, w_37]
def wt18 (a b : Ln) : List Ln := [(cs "feature"), a, b, (cs "after"), (cs "1"), (cs "up"), (cs "1"), (cs "down"), (cs "1")]
theorem we18 : cs "feature " ++ (a ++ (32 :: (b ++ (cs " after 1 up 1 down 1")))) = joinL [32] (wt18 a b) := by simp [joinL, wt18, w_22, w_37]
def wt19 (a b : Ln) : List Ln := [(cs "row")]
theorem we19 : cs "row" = joinL [32] (wt19 a b) := by simp [joinL, wt19]
def wt20 (a b : Ln) : List Ln := [(cs "row"), a, (cs "none")]
theorem we20 : cs "row " ++ (a ++ (cs " none")) = joinL [32] (wt20 a b) := by simp [joinL, wt20, w_23, w_38]
def wt21 (a b : Ln) : List Ln := [(cs "row"), (cs "need"), a, (cs "from"), (cs "1")]
theorem we21 : cs "row need " ++ (a ++ (cs " from 1")) = joinL [32] (wt21 a b) := by simp [joinL, wt21, w_24, w_39]
def wt22 (a b : Ln) : List Ln := [(cs "row"), (cs "need"), a, (cs "from"), (cs "1"), (cs ":")]
theorem we22 : cs "row need " ++ (a ++ (cs " from 1 :")) = joinL [32] (wt22 a b) := by simp [joinL, wt22, w_25, w_39]
def wt23 (a b : Ln) : List Ln := [(cs "row"), (cs "need"), (cs ":"), a, (cs "none")]
theorem we23 : cs "row need : " ++ (a ++ (cs " none")) = joinL [32] (wt23 a b) := by simp [joinL, wt23, w_23, w_40]
def wt24 (a b : Ln) : List Ln := [(cs "row"), (cs "need"), a, (cs "none"), (cs "and"), a, (cs "none"), (cs "and"), a, (cs "none"), (cs "and"), a, (cs "none"), (cs "and"), a, (cs "none"), (cs ":"), b, (cs "none")]
theorem we24 : cs "row need " ++ ((joinL (cs " and ") (rep 5 (a ++ cs " none"))) ++ (cs " : " ++ (b ++ (cs " none")))) = joinL [32] (wt24 a b) := by simp [joinL, wt24, w_23, w_39, w_49, w_53, rep, List.replicate, w_and, w_or, w_com]
def wt25 (a b : Ln) : List Ln := [(cs "row"), (cs "need"), a, (cs "none"), (cs ":"), b, (cs "none"), (cs "or"), b, (cs "none"), (cs "or"), b, (cs "none"), (cs "or"), b, (cs "none"), (cs "or"), b, (cs "none"), (cs "or"), b, (cs "none"), (cs "or"), b, (cs "none")]
theorem we25 : cs "row need " ++ (a ++ (cs " none : " ++ ((joinL (cs " or ") (rep 7 (b ++ cs " none")))))) = joinL [32] (wt25 a b) := by simp [joinL, wt25, w_23, w_39, w_41, w_50, rep, List.replicate, w_and, w_or, w_com]
def wt26 (a b : Ln) : List Ln := [(cs "row"), (cs "clash"), a, (cs "none")]
theorem we26 : cs "row clash " ++ (a ++ (cs " none")) = joinL [32] (wt26 a b) := by simp [joinL, wt26, w_23, w_26]
def wt27 (a b : Ln) : List Ln := [(cs "row"), (cs "clash"), a, (cs "none"), (cs ","), a, (cs "none"), (cs ","), a, (cs "none"), (cs ","), a, (cs "none"), (cs ","), a, (cs "none"), (cs ","), a, (cs "none"), (cs ","), a, (cs "none")]
theorem we27 : cs "row clash " ++ ((joinL (cs " , ") (rep 7 (a ++ cs " none")))) = joinL [32] (wt27 a b) := by simp [joinL, wt27, w_23, w_26, w_51, rep, List.replicate, w_and, w_or, w_com]
def wt28 (a b : Ln) : List Ln := [(cs "row"), (cs "either")]
theorem we28 : cs "row either" = joinL [32] (wt28 a b) := by simp [joinL, wt28, w_6]
def wt29 (a b : Ln) : List Ln := [(cs "row"), (cs "either"), a, (cs "none"), (cs ",")]
theorem we29 : cs "row either " ++ (a ++ (cs " none ,")) = joinL [32] (wt29 a b) := by simp [joinL, wt29, w_27, w_31]
def wt30 (a b : Ln) : List Ln := [(cs "row"), (cs "either"), a, (cs "from"), (cs "none")]
theorem we30 : cs "row either " ++ (a ++ (cs " from none")) = joinL [32] (wt30 a b) := by simp [joinL, wt30, w_28, w_31]
def wt31 (a b : Ln) : List Ln := [(cs "row"), (cs "either"), a, (cs "not"), (cs "1")]
theorem we31 : cs "row either " ++ (a ++ (cs " not 1")) = joinL [32] (wt31 a b) := by simp [joinL, wt31, w_29, w_31]
def wt32 (a b : Ln) : List Ln := [(cs "row"), (cs "either"), a, (cs "not"), (cs "from")]
theorem we32 : cs "row either " ++ (a ++ (cs " not from")) = joinL [32] (wt32 a b) := by simp [joinL, wt32, w_30, w_31]
def wt33 (a b : Ln) : List Ln := [(cs "row"), (cs "either"), a]
theorem we33 : cs "row either " ++ (a) = joinL [32] (wt33 a b) := by simp [joinL, wt33, w_31]
def wt34 (a b : Ln) : List Ln := [(cs "row"), (cs "same"), a, (cs "none"), (cs ","), a, (cs "none"), (cs ","), a, (cs "none")]
theorem we34 : cs "row same " ++ ((joinL (cs " , ") (rep 3 (a ++ cs " none")))) = joinL [32] (wt34 a b) := by simp [joinL, wt34, w_23, w_32, w_51, rep, List.replicate, w_and, w_or, w_com]
def wt35 (a b : Ln) : List Ln := [(cs "row"), (cs "most"), (cs "7"), (cs "of"), a, (cs "none")]
theorem we35 : cs "row most 7 of " ++ (a ++ (cs " none")) = joinL [32] (wt35 a b) := by simp [joinL, wt35, w_23, w_42]
def wt36 (a b : Ln) : List Ln := [(cs "row"), (cs "least"), (cs "1"), a, (cs "none")]
theorem we36 : cs "row least 1 " ++ (a ++ (cs " none")) = joinL [32] (wt36 a b) := by simp [joinL, wt36, w_23, w_43]
def wt37 (a b : Ln) : List Ln := [(cs "row"), (cs "most"), (cs "of"), a, (cs "none")]
theorem we37 : cs "row most of " ++ (a ++ (cs " none")) = joinL [32] (wt37 a b) := by simp [joinL, wt37, w_23, w_44]
def wt38 (a b : Ln) : List Ln := [(cs "start"), a, (cs "none")]
theorem we38 : cs "start " ++ (a ++ (cs " none")) = joinL [32] (wt38 a b) := by simp [joinL, wt38, w_23, w_33]
def wt39 (a b : Ln) : List Ln := [(cs "start"), a]
theorem we39 : cs "start " ++ (a) = joinL [32] (wt39 a b) := by simp [joinL, wt39, w_33]
def wt40 (a b : Ln) : List Ln := [(cs "later"), a, (cs "1.")]
theorem we40 : cs "later " ++ (a ++ (cs " 1.")) = joinL [32] (wt40 a b) := by simp [joinL, wt40, w_34, w_45]
def wt41 (a b : Ln) : List Ln := [(cs "signer"), a, (cs "0"), (cs ":"), b]
theorem we41 : cs "signer " ++ (a ++ (cs " 0 : " ++ (b))) = joinL [32] (wt41 a b) := by simp [joinL, wt41, w_46, w_48]
def wt42 (a b : Ln) : List Ln := [(cs "signer"), a, (cs "100"), (cs ":"), b]
theorem we42 : cs "signer " ++ (a ++ (cs " 100 : " ++ (b))) = joinL [32] (wt42 a b) := by simp [joinL, wt42, w_47, w_48]
def wt43 (a b : Ln) : List Ln := [(cs "signer"), a, (cs "1"), (cs ":")]
theorem we43 : cs "signer " ++ (a ++ (cs " 1 :")) = joinL [32] (wt43 a b) := by simp [joinL, wt43, w_35, w_48]
def wt44 (a b : Ln) : List Ln := [(cs "book"), a, b]
theorem we44 : cs "book " ++ (a ++ (32 :: (b))) = joinL [32] (wt44 a b) := by simp [joinL, wt44, w_52]
def wt45 (a b : Ln) : List Ln := [(cs "end"), (cs "end")]
theorem we45 : cs "end end" = joinL [32] (wt45 a b) := by simp [joinL, wt45, w_7]
end
end DL

set_option Elab.async false
set_option linter.all false
set_option maxRecDepth 100000
set_option maxHeartbeats 4000000
namespace DL
open PySem PySem.Spec L2 TL

section
variable {a b : Ln}
theorem tk_dot (ha : WordT a) (hb : WordT b) : TokB (a ++ (cs "." ++ (b))) := ⟨by have := ha.len; have := hb.len; simp; omega, by simp, fun c hc => by
  simp at hc
  rcases hc with hc | rfl | hc
  · exact (word_tokB ha).all c hc
  · decide
  · exact (word_tokB hb).all c hc⟩
theorem tk_plus (ha : WordT a) (hb : WordT b) : TokB (a ++ (cs "+" ++ (b))) := ⟨by have := ha.len; have := hb.len; simp; omega, by simp, fun c hc => by
  simp at hc
  rcases hc with hc | rfl | hc
  · exact (word_tokB ha).all c hc
  · decide
  · exact (word_tokB hb).all c hc⟩
theorem tk_take (ha : WordT a) : TokB (cs "1" ++ (a.take 3)) := by
  have h1 : (cs "1").length = 1 := by decide
  have h2 : cs "1" ≠ [] := by decide
  refine ⟨by rw [List.length_append, List.length_take]; omega, by simp [h2], fun c hc => ?_⟩
  rcases List.mem_append.mp hc with hc | hc
  · have : ∀ c ∈ cs "1", Sg c := by decide
    exact this c hc
  · exact (word_tokB ha).all c (List.mem_of_mem_take hc)
theorem rsa (ha : WordT a) : (a ++ cs " none").length ≤ 17 := by rw [List.length_append, show (cs " none").length = 5 by decide]; have := ha.len; omega
theorem wf0 (ha : WordT a) (hb : WordT b) (hr : f_read_line [.list ((wt0 a b).map ds)] = some (.d .none)) : FaultT (cs "name") (cs "form") := by
  have b1 : Bd a 12 := ⟨ha.len⟩
  have b2 : Bd b 12 := ⟨hb.len⟩
  have hl : (cs "name").length ≤ 400 := len_by (by decide)
  rw [we0 (a := a) (b := b)] at hl ⊢
  have ht : ∀ t ∈ wt0 a b, TokB t := by
    unfold wt0
    exact List.forall_mem_cons.mpr ⟨⟨by decide, by decide, by decide⟩, fun _ h => nomatch h⟩
  exact form_fault ht hl (by decide) hr
theorem wf1 (ha : WordT a) (hb : WordT b) (hr : f_read_line [.list ((wt1 a b).map ds)] = some (.d .none)) : FaultT (cs "name " ++ (a ++ (32 :: (b)))) (cs "form") := by
  have b1 : Bd a 12 := ⟨ha.len⟩
  have b2 : Bd b 12 := ⟨hb.len⟩
  have hl : (cs "name " ++ (a ++ (32 :: (b)))).length ≤ 400 := len_by (by decide)
  rw [we1 (a := a) (b := b)] at hl ⊢
  have ht : ∀ t ∈ wt1 a b, TokB t := by
    unfold wt1
    exact List.forall_mem_cons.mpr ⟨⟨by decide, by decide, by decide⟩, List.forall_mem_cons.mpr ⟨word_tokB ha, List.forall_mem_cons.mpr ⟨word_tokB hb, fun _ h => nomatch h⟩⟩⟩
  exact form_fault ht hl (by decide) hr
theorem wf2 (ha : WordT a) (hb : WordT b) (hr : f_read_line [.list ((wt2 a b).map ds)] = some (.d .none)) : FaultT (cs "name up") (cs "form") := by
  have b1 : Bd a 12 := ⟨ha.len⟩
  have b2 : Bd b 12 := ⟨hb.len⟩
  have hl : (cs "name up").length ≤ 400 := len_by (by decide)
  rw [we2 (a := a) (b := b)] at hl ⊢
  have ht : ∀ t ∈ wt2 a b, TokB t := by
    unfold wt2
    exact List.forall_mem_cons.mpr ⟨⟨by decide, by decide, by decide⟩, List.forall_mem_cons.mpr ⟨⟨by decide, by decide, by decide⟩, fun _ h => nomatch h⟩⟩
  exact form_fault ht hl (by decide) hr
theorem wf3 (ha : WordT a) (hb : WordT b) (hr : f_read_line [.list ((wt3 a b).map ds)] = some (.d .none)) : FaultT (cs "name 1" ++ (a.take 3)) (cs "form") := by
  have b1 : Bd a 12 := ⟨ha.len⟩
  have b2 : Bd b 12 := ⟨hb.len⟩
  have hl : (cs "name 1" ++ (a.take 3)).length ≤ 400 := len_by (by decide)
  rw [we3 (a := a) (b := b)] at hl ⊢
  have ht : ∀ t ∈ wt3 a b, TokB t := by
    unfold wt3
    exact List.forall_mem_cons.mpr ⟨⟨by decide, by decide, by decide⟩, List.forall_mem_cons.mpr ⟨tk_take ha, fun _ h => nomatch h⟩⟩
  exact form_fault ht hl (by decide) hr
theorem wf4 (ha : WordT a) (hb : WordT b) (hr : f_read_line [.list ((wt4 a b).map ds)] = some (.d .none)) : FaultT (cs "name " ++ (a ++ (46 :: (b)))) (cs "form") := by
  have b1 : Bd a 12 := ⟨ha.len⟩
  have b2 : Bd b 12 := ⟨hb.len⟩
  have hl : (cs "name " ++ (a ++ (46 :: (b)))).length ≤ 400 := len_by (by decide)
  rw [we4 (a := a) (b := b)] at hl ⊢
  have ht : ∀ t ∈ wt4 a b, TokB t := by
    unfold wt4
    exact List.forall_mem_cons.mpr ⟨⟨by decide, by decide, by decide⟩, List.forall_mem_cons.mpr ⟨tk_dot ha hb, fun _ h => nomatch h⟩⟩
  exact form_fault ht hl (by decide) hr
theorem wf5 (ha : WordT a) (hb : WordT b) (hr : f_read_line [.list ((wt5 a b).map ds)] = some (.d .none)) : FaultT (cs "name " ++ (cs "abcdefghijklm")) (cs "form") := by
  have b1 : Bd a 12 := ⟨ha.len⟩
  have b2 : Bd b 12 := ⟨hb.len⟩
  have hl : (cs "name " ++ (cs "abcdefghijklm")).length ≤ 400 := len_by (by decide)
  rw [we5 (a := a) (b := b)] at hl ⊢
  have ht : ∀ t ∈ wt5 a b, TokB t := by
    unfold wt5
    exact List.forall_mem_cons.mpr ⟨⟨by decide, by decide, by decide⟩, List.forall_mem_cons.mpr ⟨⟨by decide, by decide, by decide⟩, fun _ h => nomatch h⟩⟩
  exact form_fault ht hl (by decide) hr
theorem wf6 (ha : WordT a) (hb : WordT b) (hr : f_read_line [.list ((wt6 a b).map ds)] = some (.d .none)) : FaultT (cs "name " ++ (a ++ (43 :: (b)))) (cs "form") := by
  have b1 : Bd a 12 := ⟨ha.len⟩
  have b2 : Bd b 12 := ⟨hb.len⟩
  have hl : (cs "name " ++ (a ++ (43 :: (b)))).length ≤ 400 := len_by (by decide)
  rw [we6 (a := a) (b := b)] at hl ⊢
  have ht : ∀ t ∈ wt6 a b, TokB t := by
    unfold wt6
    exact List.forall_mem_cons.mpr ⟨⟨by decide, by decide, by decide⟩, List.forall_mem_cons.mpr ⟨tk_plus ha hb, fun _ h => nomatch h⟩⟩
  exact form_fault ht hl (by decide) hr
theorem wf7 (ha : WordT a) (hb : WordT b) (hr : f_read_line [.list ((wt7 a b).map ds)] = some (.d .none)) : FaultT (cs "release " ++ (a ++ (cs " 01 after none up 1 down 1"))) (cs "form") := by
  have b1 : Bd a 12 := ⟨ha.len⟩
  have b2 : Bd b 12 := ⟨hb.len⟩
  have hl : (cs "release " ++ (a ++ (cs " 01 after none up 1 down 1"))).length ≤ 400 := len_by (by decide)
  rw [we7 (a := a) (b := b)] at hl ⊢
  have ht : ∀ t ∈ wt7 a b, TokB t := by
    unfold wt7
    exact List.forall_mem_cons.mpr ⟨⟨by decide, by decide, by decide⟩, List.forall_mem_cons.mpr ⟨word_tokB ha, List.forall_mem_cons.mpr ⟨⟨by decide, by decide, by decide⟩, List.forall_mem_cons.mpr ⟨⟨by decide, by decide, by decide⟩, List.forall_mem_cons.mpr ⟨⟨by decide, by decide, by decide⟩, List.forall_mem_cons.mpr ⟨⟨by decide, by decide, by decide⟩, List.forall_mem_cons.mpr ⟨⟨by decide, by decide, by decide⟩, List.forall_mem_cons.mpr ⟨⟨by decide, by decide, by decide⟩, List.forall_mem_cons.mpr ⟨⟨by decide, by decide, by decide⟩, fun _ h => nomatch h⟩⟩⟩⟩⟩⟩⟩⟩⟩
  exact form_fault ht hl (by decide) hr
theorem wf8 (ha : WordT a) (hb : WordT b) (hr : f_read_line [.list ((wt8 a b).map ds)] = some (.d .none)) : FaultT (cs "release " ++ (a ++ (cs " 1 after none up 0 down 1"))) (cs "form") := by
  have b1 : Bd a 12 := ⟨ha.len⟩
  have b2 : Bd b 12 := ⟨hb.len⟩
  have hl : (cs "release " ++ (a ++ (cs " 1 after none up 0 down 1"))).length ≤ 400 := len_by (by decide)
  rw [we8 (a := a) (b := b)] at hl ⊢
  have ht : ∀ t ∈ wt8 a b, TokB t := by
    unfold wt8
    exact List.forall_mem_cons.mpr ⟨⟨by decide, by decide, by decide⟩, List.forall_mem_cons.mpr ⟨word_tokB ha, List.forall_mem_cons.mpr ⟨⟨by decide, by decide, by decide⟩, List.forall_mem_cons.mpr ⟨⟨by decide, by decide, by decide⟩, List.forall_mem_cons.mpr ⟨⟨by decide, by decide, by decide⟩, List.forall_mem_cons.mpr ⟨⟨by decide, by decide, by decide⟩, List.forall_mem_cons.mpr ⟨⟨by decide, by decide, by decide⟩, List.forall_mem_cons.mpr ⟨⟨by decide, by decide, by decide⟩, List.forall_mem_cons.mpr ⟨⟨by decide, by decide, by decide⟩, fun _ h => nomatch h⟩⟩⟩⟩⟩⟩⟩⟩⟩
  exact form_fault ht hl (by decide) hr
theorem wf9 (ha : WordT a) (hb : WordT b) (hr : f_read_line [.list ((wt9 a b).map ds)] = some (.d .none)) : FaultT (cs "release " ++ (a ++ (cs " 1 after none up 1000000001 down 1"))) (cs "form") := by
  have b1 : Bd a 12 := ⟨ha.len⟩
  have b2 : Bd b 12 := ⟨hb.len⟩
  have hl : (cs "release " ++ (a ++ (cs " 1 after none up 1000000001 down 1"))).length ≤ 400 := len_by (by decide)
  rw [we9 (a := a) (b := b)] at hl ⊢
  have ht : ∀ t ∈ wt9 a b, TokB t := by
    unfold wt9
    exact List.forall_mem_cons.mpr ⟨⟨by decide, by decide, by decide⟩, List.forall_mem_cons.mpr ⟨word_tokB ha, List.forall_mem_cons.mpr ⟨⟨by decide, by decide, by decide⟩, List.forall_mem_cons.mpr ⟨⟨by decide, by decide, by decide⟩, List.forall_mem_cons.mpr ⟨⟨by decide, by decide, by decide⟩, List.forall_mem_cons.mpr ⟨⟨by decide, by decide, by decide⟩, List.forall_mem_cons.mpr ⟨⟨by decide, by decide, by decide⟩, List.forall_mem_cons.mpr ⟨⟨by decide, by decide, by decide⟩, List.forall_mem_cons.mpr ⟨⟨by decide, by decide, by decide⟩, fun _ h => nomatch h⟩⟩⟩⟩⟩⟩⟩⟩⟩
  exact form_fault ht hl (by decide) hr
theorem wf10 (ha : WordT a) (hb : WordT b) (hr : f_read_line [.list ((wt10 a b).map ds)] = some (.d .none)) : FaultT (cs "release " ++ (a ++ (cs " 1 after none up 1"))) (cs "form") := by
  have b1 : Bd a 12 := ⟨ha.len⟩
  have b2 : Bd b 12 := ⟨hb.len⟩
  have hl : (cs "release " ++ (a ++ (cs " 1 after none up 1"))).length ≤ 400 := len_by (by decide)
  rw [we10 (a := a) (b := b)] at hl ⊢
  have ht : ∀ t ∈ wt10 a b, TokB t := by
    unfold wt10
    exact List.forall_mem_cons.mpr ⟨⟨by decide, by decide, by decide⟩, List.forall_mem_cons.mpr ⟨word_tokB ha, List.forall_mem_cons.mpr ⟨⟨by decide, by decide, by decide⟩, List.forall_mem_cons.mpr ⟨⟨by decide, by decide, by decide⟩, List.forall_mem_cons.mpr ⟨⟨by decide, by decide, by decide⟩, List.forall_mem_cons.mpr ⟨⟨by decide, by decide, by decide⟩, List.forall_mem_cons.mpr ⟨⟨by decide, by decide, by decide⟩, fun _ h => nomatch h⟩⟩⟩⟩⟩⟩⟩
  exact form_fault ht hl (by decide) hr
theorem wf11 (ha : WordT a) (hb : WordT b) (hr : f_read_line [.list ((wt11 a b).map ds)] = some (.d .none)) : FaultT (cs "release " ++ (a ++ (cs " on after none up 1 down 1"))) (cs "form") := by
  have b1 : Bd a 12 := ⟨ha.len⟩
  have b2 : Bd b 12 := ⟨hb.len⟩
  have hl : (cs "release " ++ (a ++ (cs " on after none up 1 down 1"))).length ≤ 400 := len_by (by decide)
  rw [we11 (a := a) (b := b)] at hl ⊢
  have ht : ∀ t ∈ wt11 a b, TokB t := by
    unfold wt11
    exact List.forall_mem_cons.mpr ⟨⟨by decide, by decide, by decide⟩, List.forall_mem_cons.mpr ⟨word_tokB ha, List.forall_mem_cons.mpr ⟨⟨by decide, by decide, by decide⟩, List.forall_mem_cons.mpr ⟨⟨by decide, by decide, by decide⟩, List.forall_mem_cons.mpr ⟨⟨by decide, by decide, by decide⟩, List.forall_mem_cons.mpr ⟨⟨by decide, by decide, by decide⟩, List.forall_mem_cons.mpr ⟨⟨by decide, by decide, by decide⟩, List.forall_mem_cons.mpr ⟨⟨by decide, by decide, by decide⟩, List.forall_mem_cons.mpr ⟨⟨by decide, by decide, by decide⟩, fun _ h => nomatch h⟩⟩⟩⟩⟩⟩⟩⟩⟩
  exact form_fault ht hl (by decide) hr
theorem wf12 (ha : WordT a) (hb : WordT b) (hr : f_read_line [.list ((wt12 a b).map ds)] = some (.d .none)) : FaultT (cs "release " ++ (a ++ (cs " 1.2.3.4 after none up 1 down 1"))) (cs "form") := by
  have b1 : Bd a 12 := ⟨ha.len⟩
  have b2 : Bd b 12 := ⟨hb.len⟩
  have hl : (cs "release " ++ (a ++ (cs " 1.2.3.4 after none up 1 down 1"))).length ≤ 400 := len_by (by decide)
  rw [we12 (a := a) (b := b)] at hl ⊢
  have ht : ∀ t ∈ wt12 a b, TokB t := by
    unfold wt12
    exact List.forall_mem_cons.mpr ⟨⟨by decide, by decide, by decide⟩, List.forall_mem_cons.mpr ⟨word_tokB ha, List.forall_mem_cons.mpr ⟨⟨by decide, by decide, by decide⟩, List.forall_mem_cons.mpr ⟨⟨by decide, by decide, by decide⟩, List.forall_mem_cons.mpr ⟨⟨by decide, by decide, by decide⟩, List.forall_mem_cons.mpr ⟨⟨by decide, by decide, by decide⟩, List.forall_mem_cons.mpr ⟨⟨by decide, by decide, by decide⟩, List.forall_mem_cons.mpr ⟨⟨by decide, by decide, by decide⟩, List.forall_mem_cons.mpr ⟨⟨by decide, by decide, by decide⟩, fun _ h => nomatch h⟩⟩⟩⟩⟩⟩⟩⟩⟩
  exact form_fault ht hl (by decide) hr
theorem wf13 (ha : WordT a) (hb : WordT b) (hr : f_read_line [.list ((wt13 a b).map ds)] = some (.d .none)) : FaultT (cs "release " ++ (a ++ (cs " 1000 after none up 1 down 1"))) (cs "form") := by
  have b1 : Bd a 12 := ⟨ha.len⟩
  have b2 : Bd b 12 := ⟨hb.len⟩
  have hl : (cs "release " ++ (a ++ (cs " 1000 after none up 1 down 1"))).length ≤ 400 := len_by (by decide)
  rw [we13 (a := a) (b := b)] at hl ⊢
  have ht : ∀ t ∈ wt13 a b, TokB t := by
    unfold wt13
    exact List.forall_mem_cons.mpr ⟨⟨by decide, by decide, by decide⟩, List.forall_mem_cons.mpr ⟨word_tokB ha, List.forall_mem_cons.mpr ⟨⟨by decide, by decide, by decide⟩, List.forall_mem_cons.mpr ⟨⟨by decide, by decide, by decide⟩, List.forall_mem_cons.mpr ⟨⟨by decide, by decide, by decide⟩, List.forall_mem_cons.mpr ⟨⟨by decide, by decide, by decide⟩, List.forall_mem_cons.mpr ⟨⟨by decide, by decide, by decide⟩, List.forall_mem_cons.mpr ⟨⟨by decide, by decide, by decide⟩, List.forall_mem_cons.mpr ⟨⟨by decide, by decide, by decide⟩, fun _ h => nomatch h⟩⟩⟩⟩⟩⟩⟩⟩⟩
  exact form_fault ht hl (by decide) hr
theorem wf14 (ha : WordT a) (hb : WordT b) (hr : f_read_line [.list ((wt14 a b).map ds)] = some (.d .none)) : FaultT (cs "release " ++ (a ++ (cs " 1 from none up 1 down 1"))) (cs "form") := by
  have b1 : Bd a 12 := ⟨ha.len⟩
  have b2 : Bd b 12 := ⟨hb.len⟩
  have hl : (cs "release " ++ (a ++ (cs " 1 from none up 1 down 1"))).length ≤ 400 := len_by (by decide)
  rw [we14 (a := a) (b := b)] at hl ⊢
  have ht : ∀ t ∈ wt14 a b, TokB t := by
    unfold wt14
    exact List.forall_mem_cons.mpr ⟨⟨by decide, by decide, by decide⟩, List.forall_mem_cons.mpr ⟨word_tokB ha, List.forall_mem_cons.mpr ⟨⟨by decide, by decide, by decide⟩, List.forall_mem_cons.mpr ⟨⟨by decide, by decide, by decide⟩, List.forall_mem_cons.mpr ⟨⟨by decide, by decide, by decide⟩, List.forall_mem_cons.mpr ⟨⟨by decide, by decide, by decide⟩, List.forall_mem_cons.mpr ⟨⟨by decide, by decide, by decide⟩, List.forall_mem_cons.mpr ⟨⟨by decide, by decide, by decide⟩, List.forall_mem_cons.mpr ⟨⟨by decide, by decide, by decide⟩, fun _ h => nomatch h⟩⟩⟩⟩⟩⟩⟩⟩⟩
  exact form_fault ht hl (by decide) hr
theorem wf15 (ha : WordT a) (hb : WordT b) (hr : f_read_line [.list ((wt15 a b).map ds)] = some (.d .none)) : FaultT (cs "release " ++ (a ++ (cs " 1 after none down 1 up 1"))) (cs "form") := by
  have b1 : Bd a 12 := ⟨ha.len⟩
  have b2 : Bd b 12 := ⟨hb.len⟩
  have hl : (cs "release " ++ (a ++ (cs " 1 after none down 1 up 1"))).length ≤ 400 := len_by (by decide)
  rw [we15 (a := a) (b := b)] at hl ⊢
  have ht : ∀ t ∈ wt15 a b, TokB t := by
    unfold wt15
    exact List.forall_mem_cons.mpr ⟨⟨by decide, by decide, by decide⟩, List.forall_mem_cons.mpr ⟨word_tokB ha, List.forall_mem_cons.mpr ⟨⟨by decide, by decide, by decide⟩, List.forall_mem_cons.mpr ⟨⟨by decide, by decide, by decide⟩, List.forall_mem_cons.mpr ⟨⟨by decide, by decide, by decide⟩, List.forall_mem_cons.mpr ⟨⟨by decide, by decide, by decide⟩, List.forall_mem_cons.mpr ⟨⟨by decide, by decide, by decide⟩, List.forall_mem_cons.mpr ⟨⟨by decide, by decide, by decide⟩, List.forall_mem_cons.mpr ⟨⟨by decide, by decide, by decide⟩, fun _ h => nomatch h⟩⟩⟩⟩⟩⟩⟩⟩⟩
  exact form_fault ht hl (by decide) hr
theorem wf16 (ha : WordT a) (hb : WordT b) (hr : f_read_line [.list ((wt16 a b).map ds)] = some (.d .none)) : FaultT (cs "feature " ++ (a ++ (32 :: (b ++ (cs " from on up 1 down 1"))))) (cs "form") := by
  have b1 : Bd a 12 := ⟨ha.len⟩
  have b2 : Bd b 12 := ⟨hb.len⟩
  have hl : (cs "feature " ++ (a ++ (32 :: (b ++ (cs " from on up 1 down 1"))))).length ≤ 400 := len_by (by decide)
  rw [we16 (a := a) (b := b)] at hl ⊢
  have ht : ∀ t ∈ wt16 a b, TokB t := by
    unfold wt16
    exact List.forall_mem_cons.mpr ⟨⟨by decide, by decide, by decide⟩, List.forall_mem_cons.mpr ⟨word_tokB ha, List.forall_mem_cons.mpr ⟨word_tokB hb, List.forall_mem_cons.mpr ⟨⟨by decide, by decide, by decide⟩, List.forall_mem_cons.mpr ⟨⟨by decide, by decide, by decide⟩, List.forall_mem_cons.mpr ⟨⟨by decide, by decide, by decide⟩, List.forall_mem_cons.mpr ⟨⟨by decide, by decide, by decide⟩, List.forall_mem_cons.mpr ⟨⟨by decide, by decide, by decide⟩, List.forall_mem_cons.mpr ⟨⟨by decide, by decide, by decide⟩, fun _ h => nomatch h⟩⟩⟩⟩⟩⟩⟩⟩⟩
  exact form_fault ht hl (by decide) hr
theorem wf17 (ha : WordT a) (hb : WordT b) (hr : f_read_line [.list ((wt17 a b).map ds)] = some (.d .none)) : FaultT (cs "feature " ++ (a ++ (cs " from 1 up 1 down 1"))) (cs "form") := by
  have b1 : Bd a 12 := ⟨ha.len⟩
  have b2 : Bd b 12 := ⟨hb.len⟩
  have hl : (cs "feature " ++ (a ++ (cs " from 1 up 1 down 1"))).length ≤ 400 := len_by (by decide)
  rw [we17 (a := a) (b := b)] at hl ⊢
  have ht : ∀ t ∈ wt17 a b, TokB t := by
    unfold wt17
    exact List.forall_mem_cons.mpr ⟨⟨by decide, by decide, by decide⟩, List.forall_mem_cons.mpr ⟨word_tokB ha, List.forall_mem_cons.mpr ⟨⟨by decide, by decide, by decide⟩, List.forall_mem_cons.mpr ⟨⟨by decide, by decide, by decide⟩, List.forall_mem_cons.mpr ⟨⟨by decide, by decide, by decide⟩, List.forall_mem_cons.mpr ⟨⟨by decide, by decide, by decide⟩, List.forall_mem_cons.mpr ⟨⟨by decide, by decide, by decide⟩, List.forall_mem_cons.mpr ⟨⟨by decide, by decide, by decide⟩, fun _ h => nomatch h⟩⟩⟩⟩⟩⟩⟩⟩
  exact form_fault ht hl (by decide) hr
theorem wf18 (ha : WordT a) (hb : WordT b) (hr : f_read_line [.list ((wt18 a b).map ds)] = some (.d .none)) : FaultT (cs "feature " ++ (a ++ (32 :: (b ++ (cs " after 1 up 1 down 1"))))) (cs "form") := by
  have b1 : Bd a 12 := ⟨ha.len⟩
  have b2 : Bd b 12 := ⟨hb.len⟩
  have hl : (cs "feature " ++ (a ++ (32 :: (b ++ (cs " after 1 up 1 down 1"))))).length ≤ 400 := len_by (by decide)
  rw [we18 (a := a) (b := b)] at hl ⊢
  have ht : ∀ t ∈ wt18 a b, TokB t := by
    unfold wt18
    exact List.forall_mem_cons.mpr ⟨⟨by decide, by decide, by decide⟩, List.forall_mem_cons.mpr ⟨word_tokB ha, List.forall_mem_cons.mpr ⟨word_tokB hb, List.forall_mem_cons.mpr ⟨⟨by decide, by decide, by decide⟩, List.forall_mem_cons.mpr ⟨⟨by decide, by decide, by decide⟩, List.forall_mem_cons.mpr ⟨⟨by decide, by decide, by decide⟩, List.forall_mem_cons.mpr ⟨⟨by decide, by decide, by decide⟩, List.forall_mem_cons.mpr ⟨⟨by decide, by decide, by decide⟩, List.forall_mem_cons.mpr ⟨⟨by decide, by decide, by decide⟩, fun _ h => nomatch h⟩⟩⟩⟩⟩⟩⟩⟩⟩
  exact form_fault ht hl (by decide) hr
theorem wf19 (ha : WordT a) (hb : WordT b) (hr : f_read_line [.list ((wt19 a b).map ds)] = some (.d .none)) : FaultT (cs "row") (cs "form") := by
  have b1 : Bd a 12 := ⟨ha.len⟩
  have b2 : Bd b 12 := ⟨hb.len⟩
  have hl : (cs "row").length ≤ 400 := len_by (by decide)
  rw [we19 (a := a) (b := b)] at hl ⊢
  have ht : ∀ t ∈ wt19 a b, TokB t := by
    unfold wt19
    exact List.forall_mem_cons.mpr ⟨⟨by decide, by decide, by decide⟩, fun _ h => nomatch h⟩
  exact form_fault ht hl (by decide) hr
theorem wf20 (ha : WordT a) (hb : WordT b) (hr : f_read_line [.list ((wt20 a b).map ds)] = some (.d .none)) : FaultT (cs "row " ++ (a ++ (cs " none"))) (cs "form") := by
  have b1 : Bd a 12 := ⟨ha.len⟩
  have b2 : Bd b 12 := ⟨hb.len⟩
  have hl : (cs "row " ++ (a ++ (cs " none"))).length ≤ 400 := len_by (by decide)
  rw [we20 (a := a) (b := b)] at hl ⊢
  have ht : ∀ t ∈ wt20 a b, TokB t := by
    unfold wt20
    exact List.forall_mem_cons.mpr ⟨⟨by decide, by decide, by decide⟩, List.forall_mem_cons.mpr ⟨word_tokB ha, List.forall_mem_cons.mpr ⟨⟨by decide, by decide, by decide⟩, fun _ h => nomatch h⟩⟩⟩
  exact form_fault ht hl (by decide) hr
theorem wf21 (ha : WordT a) (hb : WordT b) (hr : f_read_line [.list ((wt21 a b).map ds)] = some (.d .none)) : FaultT (cs "row need " ++ (a ++ (cs " from 1"))) (cs "form") := by
  have b1 : Bd a 12 := ⟨ha.len⟩
  have b2 : Bd b 12 := ⟨hb.len⟩
  have hl : (cs "row need " ++ (a ++ (cs " from 1"))).length ≤ 400 := len_by (by decide)
  rw [we21 (a := a) (b := b)] at hl ⊢
  have ht : ∀ t ∈ wt21 a b, TokB t := by
    unfold wt21
    exact List.forall_mem_cons.mpr ⟨⟨by decide, by decide, by decide⟩, List.forall_mem_cons.mpr ⟨⟨by decide, by decide, by decide⟩, List.forall_mem_cons.mpr ⟨word_tokB ha, List.forall_mem_cons.mpr ⟨⟨by decide, by decide, by decide⟩, List.forall_mem_cons.mpr ⟨⟨by decide, by decide, by decide⟩, fun _ h => nomatch h⟩⟩⟩⟩⟩
  exact form_fault ht hl (by decide) hr
theorem wf22 (ha : WordT a) (hb : WordT b) (hr : f_read_line [.list ((wt22 a b).map ds)] = some (.d .none)) : FaultT (cs "row need " ++ (a ++ (cs " from 1 :"))) (cs "form") := by
  have b1 : Bd a 12 := ⟨ha.len⟩
  have b2 : Bd b 12 := ⟨hb.len⟩
  have hl : (cs "row need " ++ (a ++ (cs " from 1 :"))).length ≤ 400 := len_by (by decide)
  rw [we22 (a := a) (b := b)] at hl ⊢
  have ht : ∀ t ∈ wt22 a b, TokB t := by
    unfold wt22
    exact List.forall_mem_cons.mpr ⟨⟨by decide, by decide, by decide⟩, List.forall_mem_cons.mpr ⟨⟨by decide, by decide, by decide⟩, List.forall_mem_cons.mpr ⟨word_tokB ha, List.forall_mem_cons.mpr ⟨⟨by decide, by decide, by decide⟩, List.forall_mem_cons.mpr ⟨⟨by decide, by decide, by decide⟩, List.forall_mem_cons.mpr ⟨⟨by decide, by decide, by decide⟩, fun _ h => nomatch h⟩⟩⟩⟩⟩⟩
  exact form_fault ht hl (by decide) hr
theorem wf23 (ha : WordT a) (hb : WordT b) (hr : f_read_line [.list ((wt23 a b).map ds)] = some (.d .none)) : FaultT (cs "row need : " ++ (a ++ (cs " none"))) (cs "form") := by
  have b1 : Bd a 12 := ⟨ha.len⟩
  have b2 : Bd b 12 := ⟨hb.len⟩
  have hl : (cs "row need : " ++ (a ++ (cs " none"))).length ≤ 400 := len_by (by decide)
  rw [we23 (a := a) (b := b)] at hl ⊢
  have ht : ∀ t ∈ wt23 a b, TokB t := by
    unfold wt23
    exact List.forall_mem_cons.mpr ⟨⟨by decide, by decide, by decide⟩, List.forall_mem_cons.mpr ⟨⟨by decide, by decide, by decide⟩, List.forall_mem_cons.mpr ⟨⟨by decide, by decide, by decide⟩, List.forall_mem_cons.mpr ⟨word_tokB ha, List.forall_mem_cons.mpr ⟨⟨by decide, by decide, by decide⟩, fun _ h => nomatch h⟩⟩⟩⟩⟩
  exact form_fault ht hl (by decide) hr
theorem wf24 (ha : WordT a) (hb : WordT b) (hr : f_read_line [.list ((wt24 a b).map ds)] = some (.d .none)) : FaultT (cs "row need " ++ ((joinL (cs " and ") (rep 5 (a ++ cs " none"))) ++ (cs " : " ++ (b ++ (cs " none"))))) (cs "form") := by
  have b1 : Bd a 12 := ⟨ha.len⟩
  have b2 : Bd b 12 := ⟨hb.len⟩
  have b3 : Bd (joinL (cs " and ") (rep 5 (a ++ cs " none"))) 160 := ⟨rep_short (rsa ha) (by decide) (by decide)⟩
  have hl : (cs "row need " ++ ((joinL (cs " and ") (rep 5 (a ++ cs " none"))) ++ (cs " : " ++ (b ++ (cs " none"))))).length ≤ 400 := len_by (by decide)
  rw [we24 (a := a) (b := b)] at hl ⊢
  have ht : ∀ t ∈ wt24 a b, TokB t := by
    unfold wt24
    exact List.forall_mem_cons.mpr ⟨⟨by decide, by decide, by decide⟩, List.forall_mem_cons.mpr ⟨⟨by decide, by decide, by decide⟩, List.forall_mem_cons.mpr ⟨word_tokB ha, List.forall_mem_cons.mpr ⟨⟨by decide, by decide, by decide⟩, List.forall_mem_cons.mpr ⟨⟨by decide, by decide, by decide⟩, List.forall_mem_cons.mpr ⟨word_tokB ha, List.forall_mem_cons.mpr ⟨⟨by decide, by decide, by decide⟩, List.forall_mem_cons.mpr ⟨⟨by decide, by decide, by decide⟩, List.forall_mem_cons.mpr ⟨word_tokB ha, List.forall_mem_cons.mpr ⟨⟨by decide, by decide, by decide⟩, List.forall_mem_cons.mpr ⟨⟨by decide, by decide, by decide⟩, List.forall_mem_cons.mpr ⟨word_tokB ha, List.forall_mem_cons.mpr ⟨⟨by decide, by decide, by decide⟩, List.forall_mem_cons.mpr ⟨⟨by decide, by decide, by decide⟩, List.forall_mem_cons.mpr ⟨word_tokB ha, List.forall_mem_cons.mpr ⟨⟨by decide, by decide, by decide⟩, List.forall_mem_cons.mpr ⟨⟨by decide, by decide, by decide⟩, List.forall_mem_cons.mpr ⟨word_tokB hb, List.forall_mem_cons.mpr ⟨⟨by decide, by decide, by decide⟩, fun _ h => nomatch h⟩⟩⟩⟩⟩⟩⟩⟩⟩⟩⟩⟩⟩⟩⟩⟩⟩⟩⟩
  exact form_fault ht hl (by decide) hr
theorem wf25 (ha : WordT a) (hb : WordT b) (hr : f_read_line [.list ((wt25 a b).map ds)] = some (.d .none)) : FaultT (cs "row need " ++ (a ++ (cs " none : " ++ ((joinL (cs " or ") (rep 7 (b ++ cs " none"))))))) (cs "form") := by
  have b1 : Bd a 12 := ⟨ha.len⟩
  have b2 : Bd b 12 := ⟨hb.len⟩
  have b3 : Bd (joinL (cs " or ") (rep 7 (b ++ cs " none"))) 160 := ⟨rep_short (rsa hb) (by decide) (by decide)⟩
  have hl : (cs "row need " ++ (a ++ (cs " none : " ++ ((joinL (cs " or ") (rep 7 (b ++ cs " none"))))))).length ≤ 400 := len_by (by decide)
  rw [we25 (a := a) (b := b)] at hl ⊢
  have ht : ∀ t ∈ wt25 a b, TokB t := by
    unfold wt25
    exact List.forall_mem_cons.mpr ⟨⟨by decide, by decide, by decide⟩, List.forall_mem_cons.mpr ⟨⟨by decide, by decide, by decide⟩, List.forall_mem_cons.mpr ⟨word_tokB ha, List.forall_mem_cons.mpr ⟨⟨by decide, by decide, by decide⟩, List.forall_mem_cons.mpr ⟨⟨by decide, by decide, by decide⟩, List.forall_mem_cons.mpr ⟨word_tokB hb, List.forall_mem_cons.mpr ⟨⟨by decide, by decide, by decide⟩, List.forall_mem_cons.mpr ⟨⟨by decide, by decide, by decide⟩, List.forall_mem_cons.mpr ⟨word_tokB hb, List.forall_mem_cons.mpr ⟨⟨by decide, by decide, by decide⟩, List.forall_mem_cons.mpr ⟨⟨by decide, by decide, by decide⟩, List.forall_mem_cons.mpr ⟨word_tokB hb, List.forall_mem_cons.mpr ⟨⟨by decide, by decide, by decide⟩, List.forall_mem_cons.mpr ⟨⟨by decide, by decide, by decide⟩, List.forall_mem_cons.mpr ⟨word_tokB hb, List.forall_mem_cons.mpr ⟨⟨by decide, by decide, by decide⟩, List.forall_mem_cons.mpr ⟨⟨by decide, by decide, by decide⟩, List.forall_mem_cons.mpr ⟨word_tokB hb, List.forall_mem_cons.mpr ⟨⟨by decide, by decide, by decide⟩, List.forall_mem_cons.mpr ⟨⟨by decide, by decide, by decide⟩, List.forall_mem_cons.mpr ⟨word_tokB hb, List.forall_mem_cons.mpr ⟨⟨by decide, by decide, by decide⟩, List.forall_mem_cons.mpr ⟨⟨by decide, by decide, by decide⟩, List.forall_mem_cons.mpr ⟨word_tokB hb, List.forall_mem_cons.mpr ⟨⟨by decide, by decide, by decide⟩, fun _ h => nomatch h⟩⟩⟩⟩⟩⟩⟩⟩⟩⟩⟩⟩⟩⟩⟩⟩⟩⟩⟩⟩⟩⟩⟩⟩⟩
  exact form_fault ht hl (by decide) hr
theorem wf26 (ha : WordT a) (hb : WordT b) (hr : f_read_line [.list ((wt26 a b).map ds)] = some (.d .none)) : FaultT (cs "row clash " ++ (a ++ (cs " none"))) (cs "form") := by
  have b1 : Bd a 12 := ⟨ha.len⟩
  have b2 : Bd b 12 := ⟨hb.len⟩
  have hl : (cs "row clash " ++ (a ++ (cs " none"))).length ≤ 400 := len_by (by decide)
  rw [we26 (a := a) (b := b)] at hl ⊢
  have ht : ∀ t ∈ wt26 a b, TokB t := by
    unfold wt26
    exact List.forall_mem_cons.mpr ⟨⟨by decide, by decide, by decide⟩, List.forall_mem_cons.mpr ⟨⟨by decide, by decide, by decide⟩, List.forall_mem_cons.mpr ⟨word_tokB ha, List.forall_mem_cons.mpr ⟨⟨by decide, by decide, by decide⟩, fun _ h => nomatch h⟩⟩⟩⟩
  exact form_fault ht hl (by decide) hr
theorem wf27 (ha : WordT a) (hb : WordT b) (hr : f_read_line [.list ((wt27 a b).map ds)] = some (.d .none)) : FaultT (cs "row clash " ++ ((joinL (cs " , ") (rep 7 (a ++ cs " none"))))) (cs "form") := by
  have b1 : Bd a 12 := ⟨ha.len⟩
  have b2 : Bd b 12 := ⟨hb.len⟩
  have b3 : Bd (joinL (cs " , ") (rep 7 (a ++ cs " none"))) 160 := ⟨rep_short (rsa ha) (by decide) (by decide)⟩
  have hl : (cs "row clash " ++ ((joinL (cs " , ") (rep 7 (a ++ cs " none"))))).length ≤ 400 := len_by (by decide)
  rw [we27 (a := a) (b := b)] at hl ⊢
  have ht : ∀ t ∈ wt27 a b, TokB t := by
    unfold wt27
    exact List.forall_mem_cons.mpr ⟨⟨by decide, by decide, by decide⟩, List.forall_mem_cons.mpr ⟨⟨by decide, by decide, by decide⟩, List.forall_mem_cons.mpr ⟨word_tokB ha, List.forall_mem_cons.mpr ⟨⟨by decide, by decide, by decide⟩, List.forall_mem_cons.mpr ⟨⟨by decide, by decide, by decide⟩, List.forall_mem_cons.mpr ⟨word_tokB ha, List.forall_mem_cons.mpr ⟨⟨by decide, by decide, by decide⟩, List.forall_mem_cons.mpr ⟨⟨by decide, by decide, by decide⟩, List.forall_mem_cons.mpr ⟨word_tokB ha, List.forall_mem_cons.mpr ⟨⟨by decide, by decide, by decide⟩, List.forall_mem_cons.mpr ⟨⟨by decide, by decide, by decide⟩, List.forall_mem_cons.mpr ⟨word_tokB ha, List.forall_mem_cons.mpr ⟨⟨by decide, by decide, by decide⟩, List.forall_mem_cons.mpr ⟨⟨by decide, by decide, by decide⟩, List.forall_mem_cons.mpr ⟨word_tokB ha, List.forall_mem_cons.mpr ⟨⟨by decide, by decide, by decide⟩, List.forall_mem_cons.mpr ⟨⟨by decide, by decide, by decide⟩, List.forall_mem_cons.mpr ⟨word_tokB ha, List.forall_mem_cons.mpr ⟨⟨by decide, by decide, by decide⟩, List.forall_mem_cons.mpr ⟨⟨by decide, by decide, by decide⟩, List.forall_mem_cons.mpr ⟨word_tokB ha, List.forall_mem_cons.mpr ⟨⟨by decide, by decide, by decide⟩, fun _ h => nomatch h⟩⟩⟩⟩⟩⟩⟩⟩⟩⟩⟩⟩⟩⟩⟩⟩⟩⟩⟩⟩⟩⟩
  exact form_fault ht hl (by decide) hr
theorem wf28 (ha : WordT a) (hb : WordT b) (hr : f_read_line [.list ((wt28 a b).map ds)] = some (.d .none)) : FaultT (cs "row either") (cs "form") := by
  have b1 : Bd a 12 := ⟨ha.len⟩
  have b2 : Bd b 12 := ⟨hb.len⟩
  have hl : (cs "row either").length ≤ 400 := len_by (by decide)
  rw [we28 (a := a) (b := b)] at hl ⊢
  have ht : ∀ t ∈ wt28 a b, TokB t := by
    unfold wt28
    exact List.forall_mem_cons.mpr ⟨⟨by decide, by decide, by decide⟩, List.forall_mem_cons.mpr ⟨⟨by decide, by decide, by decide⟩, fun _ h => nomatch h⟩⟩
  exact form_fault ht hl (by decide) hr
theorem wf29 (ha : WordT a) (hb : WordT b) (hr : f_read_line [.list ((wt29 a b).map ds)] = some (.d .none)) : FaultT (cs "row either " ++ (a ++ (cs " none ,"))) (cs "form") := by
  have b1 : Bd a 12 := ⟨ha.len⟩
  have b2 : Bd b 12 := ⟨hb.len⟩
  have hl : (cs "row either " ++ (a ++ (cs " none ,"))).length ≤ 400 := len_by (by decide)
  rw [we29 (a := a) (b := b)] at hl ⊢
  have ht : ∀ t ∈ wt29 a b, TokB t := by
    unfold wt29
    exact List.forall_mem_cons.mpr ⟨⟨by decide, by decide, by decide⟩, List.forall_mem_cons.mpr ⟨⟨by decide, by decide, by decide⟩, List.forall_mem_cons.mpr ⟨word_tokB ha, List.forall_mem_cons.mpr ⟨⟨by decide, by decide, by decide⟩, List.forall_mem_cons.mpr ⟨⟨by decide, by decide, by decide⟩, fun _ h => nomatch h⟩⟩⟩⟩⟩
  exact form_fault ht hl (by decide) hr
theorem wf30 (ha : WordT a) (hb : WordT b) (hr : f_read_line [.list ((wt30 a b).map ds)] = some (.d .none)) : FaultT (cs "row either " ++ (a ++ (cs " from none"))) (cs "form") := by
  have b1 : Bd a 12 := ⟨ha.len⟩
  have b2 : Bd b 12 := ⟨hb.len⟩
  have hl : (cs "row either " ++ (a ++ (cs " from none"))).length ≤ 400 := len_by (by decide)
  rw [we30 (a := a) (b := b)] at hl ⊢
  have ht : ∀ t ∈ wt30 a b, TokB t := by
    unfold wt30
    exact List.forall_mem_cons.mpr ⟨⟨by decide, by decide, by decide⟩, List.forall_mem_cons.mpr ⟨⟨by decide, by decide, by decide⟩, List.forall_mem_cons.mpr ⟨word_tokB ha, List.forall_mem_cons.mpr ⟨⟨by decide, by decide, by decide⟩, List.forall_mem_cons.mpr ⟨⟨by decide, by decide, by decide⟩, fun _ h => nomatch h⟩⟩⟩⟩⟩
  exact form_fault ht hl (by decide) hr
theorem wf31 (ha : WordT a) (hb : WordT b) (hr : f_read_line [.list ((wt31 a b).map ds)] = some (.d .none)) : FaultT (cs "row either " ++ (a ++ (cs " not 1"))) (cs "form") := by
  have b1 : Bd a 12 := ⟨ha.len⟩
  have b2 : Bd b 12 := ⟨hb.len⟩
  have hl : (cs "row either " ++ (a ++ (cs " not 1"))).length ≤ 400 := len_by (by decide)
  rw [we31 (a := a) (b := b)] at hl ⊢
  have ht : ∀ t ∈ wt31 a b, TokB t := by
    unfold wt31
    exact List.forall_mem_cons.mpr ⟨⟨by decide, by decide, by decide⟩, List.forall_mem_cons.mpr ⟨⟨by decide, by decide, by decide⟩, List.forall_mem_cons.mpr ⟨word_tokB ha, List.forall_mem_cons.mpr ⟨⟨by decide, by decide, by decide⟩, List.forall_mem_cons.mpr ⟨⟨by decide, by decide, by decide⟩, fun _ h => nomatch h⟩⟩⟩⟩⟩
  exact form_fault ht hl (by decide) hr
theorem wf32 (ha : WordT a) (hb : WordT b) (hr : f_read_line [.list ((wt32 a b).map ds)] = some (.d .none)) : FaultT (cs "row either " ++ (a ++ (cs " not from"))) (cs "form") := by
  have b1 : Bd a 12 := ⟨ha.len⟩
  have b2 : Bd b 12 := ⟨hb.len⟩
  have hl : (cs "row either " ++ (a ++ (cs " not from"))).length ≤ 400 := len_by (by decide)
  rw [we32 (a := a) (b := b)] at hl ⊢
  have ht : ∀ t ∈ wt32 a b, TokB t := by
    unfold wt32
    exact List.forall_mem_cons.mpr ⟨⟨by decide, by decide, by decide⟩, List.forall_mem_cons.mpr ⟨⟨by decide, by decide, by decide⟩, List.forall_mem_cons.mpr ⟨word_tokB ha, List.forall_mem_cons.mpr ⟨⟨by decide, by decide, by decide⟩, List.forall_mem_cons.mpr ⟨⟨by decide, by decide, by decide⟩, fun _ h => nomatch h⟩⟩⟩⟩⟩
  exact form_fault ht hl (by decide) hr
theorem wf33 (ha : WordT a) (hb : WordT b) (hr : f_read_line [.list ((wt33 a b).map ds)] = some (.d .none)) : FaultT (cs "row either " ++ (a)) (cs "form") := by
  have b1 : Bd a 12 := ⟨ha.len⟩
  have b2 : Bd b 12 := ⟨hb.len⟩
  have hl : (cs "row either " ++ (a)).length ≤ 400 := len_by (by decide)
  rw [we33 (a := a) (b := b)] at hl ⊢
  have ht : ∀ t ∈ wt33 a b, TokB t := by
    unfold wt33
    exact List.forall_mem_cons.mpr ⟨⟨by decide, by decide, by decide⟩, List.forall_mem_cons.mpr ⟨⟨by decide, by decide, by decide⟩, List.forall_mem_cons.mpr ⟨word_tokB ha, fun _ h => nomatch h⟩⟩⟩
  exact form_fault ht hl (by decide) hr
theorem wf34 (ha : WordT a) (hb : WordT b) (hr : f_read_line [.list ((wt34 a b).map ds)] = some (.d .none)) : FaultT (cs "row same " ++ ((joinL (cs " , ") (rep 3 (a ++ cs " none"))))) (cs "form") := by
  have b1 : Bd a 12 := ⟨ha.len⟩
  have b2 : Bd b 12 := ⟨hb.len⟩
  have b3 : Bd (joinL (cs " , ") (rep 3 (a ++ cs " none"))) 160 := ⟨rep_short (rsa ha) (by decide) (by decide)⟩
  have hl : (cs "row same " ++ ((joinL (cs " , ") (rep 3 (a ++ cs " none"))))).length ≤ 400 := len_by (by decide)
  rw [we34 (a := a) (b := b)] at hl ⊢
  have ht : ∀ t ∈ wt34 a b, TokB t := by
    unfold wt34
    exact List.forall_mem_cons.mpr ⟨⟨by decide, by decide, by decide⟩, List.forall_mem_cons.mpr ⟨⟨by decide, by decide, by decide⟩, List.forall_mem_cons.mpr ⟨word_tokB ha, List.forall_mem_cons.mpr ⟨⟨by decide, by decide, by decide⟩, List.forall_mem_cons.mpr ⟨⟨by decide, by decide, by decide⟩, List.forall_mem_cons.mpr ⟨word_tokB ha, List.forall_mem_cons.mpr ⟨⟨by decide, by decide, by decide⟩, List.forall_mem_cons.mpr ⟨⟨by decide, by decide, by decide⟩, List.forall_mem_cons.mpr ⟨word_tokB ha, List.forall_mem_cons.mpr ⟨⟨by decide, by decide, by decide⟩, fun _ h => nomatch h⟩⟩⟩⟩⟩⟩⟩⟩⟩⟩
  exact form_fault ht hl (by decide) hr
theorem wf35 (ha : WordT a) (hb : WordT b) (hr : f_read_line [.list ((wt35 a b).map ds)] = some (.d .none)) : FaultT (cs "row most 7 of " ++ (a ++ (cs " none"))) (cs "form") := by
  have b1 : Bd a 12 := ⟨ha.len⟩
  have b2 : Bd b 12 := ⟨hb.len⟩
  have hl : (cs "row most 7 of " ++ (a ++ (cs " none"))).length ≤ 400 := len_by (by decide)
  rw [we35 (a := a) (b := b)] at hl ⊢
  have ht : ∀ t ∈ wt35 a b, TokB t := by
    unfold wt35
    exact List.forall_mem_cons.mpr ⟨⟨by decide, by decide, by decide⟩, List.forall_mem_cons.mpr ⟨⟨by decide, by decide, by decide⟩, List.forall_mem_cons.mpr ⟨⟨by decide, by decide, by decide⟩, List.forall_mem_cons.mpr ⟨⟨by decide, by decide, by decide⟩, List.forall_mem_cons.mpr ⟨word_tokB ha, List.forall_mem_cons.mpr ⟨⟨by decide, by decide, by decide⟩, fun _ h => nomatch h⟩⟩⟩⟩⟩⟩
  exact form_fault ht hl (by decide) hr
theorem wf36 (ha : WordT a) (hb : WordT b) (hr : f_read_line [.list ((wt36 a b).map ds)] = some (.d .none)) : FaultT (cs "row least 1 " ++ (a ++ (cs " none"))) (cs "form") := by
  have b1 : Bd a 12 := ⟨ha.len⟩
  have b2 : Bd b 12 := ⟨hb.len⟩
  have hl : (cs "row least 1 " ++ (a ++ (cs " none"))).length ≤ 400 := len_by (by decide)
  rw [we36 (a := a) (b := b)] at hl ⊢
  have ht : ∀ t ∈ wt36 a b, TokB t := by
    unfold wt36
    exact List.forall_mem_cons.mpr ⟨⟨by decide, by decide, by decide⟩, List.forall_mem_cons.mpr ⟨⟨by decide, by decide, by decide⟩, List.forall_mem_cons.mpr ⟨⟨by decide, by decide, by decide⟩, List.forall_mem_cons.mpr ⟨word_tokB ha, List.forall_mem_cons.mpr ⟨⟨by decide, by decide, by decide⟩, fun _ h => nomatch h⟩⟩⟩⟩⟩
  exact form_fault ht hl (by decide) hr
theorem wf37 (ha : WordT a) (hb : WordT b) (hr : f_read_line [.list ((wt37 a b).map ds)] = some (.d .none)) : FaultT (cs "row most of " ++ (a ++ (cs " none"))) (cs "form") := by
  have b1 : Bd a 12 := ⟨ha.len⟩
  have b2 : Bd b 12 := ⟨hb.len⟩
  have hl : (cs "row most of " ++ (a ++ (cs " none"))).length ≤ 400 := len_by (by decide)
  rw [we37 (a := a) (b := b)] at hl ⊢
  have ht : ∀ t ∈ wt37 a b, TokB t := by
    unfold wt37
    exact List.forall_mem_cons.mpr ⟨⟨by decide, by decide, by decide⟩, List.forall_mem_cons.mpr ⟨⟨by decide, by decide, by decide⟩, List.forall_mem_cons.mpr ⟨⟨by decide, by decide, by decide⟩, List.forall_mem_cons.mpr ⟨word_tokB ha, List.forall_mem_cons.mpr ⟨⟨by decide, by decide, by decide⟩, fun _ h => nomatch h⟩⟩⟩⟩⟩
  exact form_fault ht hl (by decide) hr
theorem wf38 (ha : WordT a) (hb : WordT b) (hr : f_read_line [.list ((wt38 a b).map ds)] = some (.d .none)) : FaultT (cs "start " ++ (a ++ (cs " none"))) (cs "form") := by
  have b1 : Bd a 12 := ⟨ha.len⟩
  have b2 : Bd b 12 := ⟨hb.len⟩
  have hl : (cs "start " ++ (a ++ (cs " none"))).length ≤ 400 := len_by (by decide)
  rw [we38 (a := a) (b := b)] at hl ⊢
  have ht : ∀ t ∈ wt38 a b, TokB t := by
    unfold wt38
    exact List.forall_mem_cons.mpr ⟨⟨by decide, by decide, by decide⟩, List.forall_mem_cons.mpr ⟨word_tokB ha, List.forall_mem_cons.mpr ⟨⟨by decide, by decide, by decide⟩, fun _ h => nomatch h⟩⟩⟩
  exact form_fault ht hl (by decide) hr
theorem wf39 (ha : WordT a) (hb : WordT b) (hr : f_read_line [.list ((wt39 a b).map ds)] = some (.d .none)) : FaultT (cs "start " ++ (a)) (cs "form") := by
  have b1 : Bd a 12 := ⟨ha.len⟩
  have b2 : Bd b 12 := ⟨hb.len⟩
  have hl : (cs "start " ++ (a)).length ≤ 400 := len_by (by decide)
  rw [we39 (a := a) (b := b)] at hl ⊢
  have ht : ∀ t ∈ wt39 a b, TokB t := by
    unfold wt39
    exact List.forall_mem_cons.mpr ⟨⟨by decide, by decide, by decide⟩, List.forall_mem_cons.mpr ⟨word_tokB ha, fun _ h => nomatch h⟩⟩
  exact form_fault ht hl (by decide) hr
theorem wf40 (ha : WordT a) (hb : WordT b) (hr : f_read_line [.list ((wt40 a b).map ds)] = some (.d .none)) : FaultT (cs "later " ++ (a ++ (cs " 1."))) (cs "form") := by
  have b1 : Bd a 12 := ⟨ha.len⟩
  have b2 : Bd b 12 := ⟨hb.len⟩
  have hl : (cs "later " ++ (a ++ (cs " 1."))).length ≤ 400 := len_by (by decide)
  rw [we40 (a := a) (b := b)] at hl ⊢
  have ht : ∀ t ∈ wt40 a b, TokB t := by
    unfold wt40
    exact List.forall_mem_cons.mpr ⟨⟨by decide, by decide, by decide⟩, List.forall_mem_cons.mpr ⟨word_tokB ha, List.forall_mem_cons.mpr ⟨⟨by decide, by decide, by decide⟩, fun _ h => nomatch h⟩⟩⟩
  exact form_fault ht hl (by decide) hr
theorem wf41 (ha : WordT a) (hb : WordT b) (hr : f_read_line [.list ((wt41 a b).map ds)] = some (.d .none)) : FaultT (cs "signer " ++ (a ++ (cs " 0 : " ++ (b)))) (cs "form") := by
  have b1 : Bd a 12 := ⟨ha.len⟩
  have b2 : Bd b 12 := ⟨hb.len⟩
  have hl : (cs "signer " ++ (a ++ (cs " 0 : " ++ (b)))).length ≤ 400 := len_by (by decide)
  rw [we41 (a := a) (b := b)] at hl ⊢
  have ht : ∀ t ∈ wt41 a b, TokB t := by
    unfold wt41
    exact List.forall_mem_cons.mpr ⟨⟨by decide, by decide, by decide⟩, List.forall_mem_cons.mpr ⟨word_tokB ha, List.forall_mem_cons.mpr ⟨⟨by decide, by decide, by decide⟩, List.forall_mem_cons.mpr ⟨⟨by decide, by decide, by decide⟩, List.forall_mem_cons.mpr ⟨word_tokB hb, fun _ h => nomatch h⟩⟩⟩⟩⟩
  exact form_fault ht hl (by decide) hr
theorem wf42 (ha : WordT a) (hb : WordT b) (hr : f_read_line [.list ((wt42 a b).map ds)] = some (.d .none)) : FaultT (cs "signer " ++ (a ++ (cs " 100 : " ++ (b)))) (cs "form") := by
  have b1 : Bd a 12 := ⟨ha.len⟩
  have b2 : Bd b 12 := ⟨hb.len⟩
  have hl : (cs "signer " ++ (a ++ (cs " 100 : " ++ (b)))).length ≤ 400 := len_by (by decide)
  rw [we42 (a := a) (b := b)] at hl ⊢
  have ht : ∀ t ∈ wt42 a b, TokB t := by
    unfold wt42
    exact List.forall_mem_cons.mpr ⟨⟨by decide, by decide, by decide⟩, List.forall_mem_cons.mpr ⟨word_tokB ha, List.forall_mem_cons.mpr ⟨⟨by decide, by decide, by decide⟩, List.forall_mem_cons.mpr ⟨⟨by decide, by decide, by decide⟩, List.forall_mem_cons.mpr ⟨word_tokB hb, fun _ h => nomatch h⟩⟩⟩⟩⟩
  exact form_fault ht hl (by decide) hr
theorem wf43 (ha : WordT a) (hb : WordT b) (hr : f_read_line [.list ((wt43 a b).map ds)] = some (.d .none)) : FaultT (cs "signer " ++ (a ++ (cs " 1 :"))) (cs "form") := by
  have b1 : Bd a 12 := ⟨ha.len⟩
  have b2 : Bd b 12 := ⟨hb.len⟩
  have hl : (cs "signer " ++ (a ++ (cs " 1 :"))).length ≤ 400 := len_by (by decide)
  rw [we43 (a := a) (b := b)] at hl ⊢
  have ht : ∀ t ∈ wt43 a b, TokB t := by
    unfold wt43
    exact List.forall_mem_cons.mpr ⟨⟨by decide, by decide, by decide⟩, List.forall_mem_cons.mpr ⟨word_tokB ha, List.forall_mem_cons.mpr ⟨⟨by decide, by decide, by decide⟩, List.forall_mem_cons.mpr ⟨⟨by decide, by decide, by decide⟩, fun _ h => nomatch h⟩⟩⟩⟩
  exact form_fault ht hl (by decide) hr
theorem wf44 (ha : WordT a) (hb : WordT b) (hr : f_read_line [.list ((wt44 a b).map ds)] = some (.d .none)) : FaultT (cs "book " ++ (a ++ (32 :: (b)))) (cs "form") := by
  have b1 : Bd a 12 := ⟨ha.len⟩
  have b2 : Bd b 12 := ⟨hb.len⟩
  have hl : (cs "book " ++ (a ++ (32 :: (b)))).length ≤ 400 := len_by (by decide)
  rw [we44 (a := a) (b := b)] at hl ⊢
  have ht : ∀ t ∈ wt44 a b, TokB t := by
    unfold wt44
    exact List.forall_mem_cons.mpr ⟨⟨by decide, by decide, by decide⟩, List.forall_mem_cons.mpr ⟨word_tokB ha, List.forall_mem_cons.mpr ⟨word_tokB hb, fun _ h => nomatch h⟩⟩⟩
  exact form_fault ht hl (by decide) hr
theorem wf45 (ha : WordT a) (hb : WordT b) (hr : f_read_line [.list ((wt45 a b).map ds)] = some (.d .none)) : FaultT (cs "end end") (cs "form") := by
  have b1 : Bd a 12 := ⟨ha.len⟩
  have b2 : Bd b 12 := ⟨hb.len⟩
  have hl : (cs "end end").length ≤ 400 := len_by (by decide)
  rw [we45 (a := a) (b := b)] at hl ⊢
  have ht : ∀ t ∈ wt45 a b, TokB t := by
    unfold wt45
    exact List.forall_mem_cons.mpr ⟨⟨by decide, by decide, by decide⟩, List.forall_mem_cons.mpr ⟨⟨by decide, by decide, by decide⟩, fun _ h => nomatch h⟩⟩
  exact form_fault ht hl (by decide) hr
end
end DL

set_option Elab.async false
set_option linter.all false
set_option maxRecDepth 100000
set_option maxHeartbeats 4000000
namespace DL
open PySem PySem.Spec L2 TL

/-! ### conditions and forms that are none -/
theorem conds_cnt {m : Ln} {pss : List (List Ln)} {lo hi : Int} (h : pss ≠ []) (hp : ∀ p ∈ pss, ∀ t ∈ p, t ≠ m) (hl : (joinT m pss).length ≤ 100000) (hn : ¬ (lo ≤ pss.length ∧ (pss.length : Int) ≤ hi)) :
    f_read_conditions [.list ((joinT m pss).map ds), ds m, .int lo, .int hi] = some (.d .none) := by
  have hsp := split_ok h hp hl
  generalize (joinT m pss).map ds = J at *
  by_cases h1 : lo ≤ (pss.length : Int)
  · have h2 : ¬ (pss.length : Int) ≤ hi := fun z => hn ⟨h1, z⟩
    simp [f_read_conditions, b_read_conditions, List.replicate, hsp, h1, h2]
  · simp [f_read_conditions, b_read_conditions, List.replicate, hsp, h1]
theorem conds_loop_bad {a b c d e : Sl} {bad : List Ln} {rest : List D} (hb : f_read_condition [.list (bad.map ds), .bool false] = some (.d .none)) : ∀ (cds : List (D × List Ln)), (∀ x ∈ cds, CondT x.1 x.2) → ∀ (acc : List D) (y z : Sl), acc.length + cds.length < 10000 → ∃ st',
    forS (gNm 6) (sSeq (sSet 7 (eCallP f_read_condition (aCons (eNm 6) (aCons (eK (.bool false)) aNil))))
  (sSeq (sIf (bUn dIsN (eNm 7))
  (sRet (eK .none))
  sNext)
  (sApp 5 (eNm 7)))) ((cds.map fun x => .list (x.2.map ds)) ++ .list (bad.map ds) :: rest) [a, b, c, d, e, .own acc, y, z] = some (.rt .none st')
  | [], _, acc, y, z, _ => by
    rw [List.map_nil, List.nil_append, forS_cons]
    exact ⟨_, by simp [hb]; rfl⟩
  | x :: r, h, acc, y, z, hl => by
    have hx := h x List.mem_cons_self
    have hN : dIsN x.1 = some false := cond_notN hx
    simp only [List.length_cons] at hl
    obtain ⟨st', e⟩ := conds_loop_bad hb r (fun q hq => h q (List.mem_cons_of_mem _ hq)) (acc ++ [x.1]) (.d (.list (x.2.map ds))) (.d x.1) (by simp; omega)
    refine ⟨st', ?_⟩
    rw [List.map_cons, List.cons_append, forS_cons]
    have hacc : acc.length < 16000000 := by omega
    simp [cond_read hx, hN, hacc]
    exact e
theorem conds_bad {m : Ln} {cds : List (D × List Ln)} {bad : List Ln} {rest : List (List Ln)} {lo hi : Int} (hc : ∀ x ∈ cds, CondT x.1 x.2) (hb : f_read_condition [.list (bad.map ds), .bool false] = some (.d .none))
    (hp : ∀ p ∈ cds.map Prod.snd ++ bad :: rest, ∀ t ∈ p, t ≠ m) (hl : (joinT m (cds.map Prod.snd ++ bad :: rest)).length ≤ 100000) (h9 : cds.length < 1000) (h1 : lo ≤ ((cds.map Prod.snd ++ bad :: rest).length : Int)) (h2 : ((cds.map Prod.snd ++ bad :: rest).length : Int) ≤ hi) :
    f_read_conditions [.list ((joinT m (cds.map Prod.snd ++ bad :: rest)).map ds), ds m, .int lo, .int hi] = some (.d .none) := by
  have hsp := split_ok (by simp) hp hl
  generalize (joinT m (cds.map Prod.snd ++ bad :: rest)).map ds = J at *
  have e' : ((cds.map Prod.snd ++ bad :: rest).map fun p => PyData.list (p.map ds)) = (cds.map fun x => PyData.list (x.2.map ds)) ++ .list (bad.map ds) :: (rest.map fun p => PyData.list (p.map ds)) := by simp [Function.comp_def]
  obtain ⟨st', e⟩ := conds_loop_bad (a := .d (.list J)) (b := .d (ds m)) (c := .d (.int lo)) (d := .d (.int hi)) (e := .d (.list ((cds.map Prod.snd ++ bad :: rest).map fun p => PyData.list (p.map ds)))) (rest := rest.map fun p => PyData.list (p.map ds)) hb cds hc [] .no .no (by simp; omega)
  have el : (((cds.map Prod.snd ++ bad :: rest).map fun p => PyData.list (p.map ds)).length : Int) = ((cds.map Prod.snd ++ bad :: rest).length : Int) := by rw [List.length_map]
  rw [← el] at h1 h2
  rw [← e'] at e
  generalize ((cds.map Prod.snd ++ bad :: rest).map fun p => PyData.list (p.map ds)) = P at *
  have hf : f_read_conditions = runP 8 4 b_read_conditions := rfl
  have eB : b_read_conditions = sSeq (sSet 4 (eCallP f_split_tokens (aCons (eNm 0) (aCons (eNm 1) aNil)))) (sSeq (sIf (bNot (bChain dLe dLe (eNm 2) (eCall fLen (aCons (eNm 4) aNil)) (eNm 3))) (sRet (eK .none)) sNext) (sSeq (sSetO 5 (oLst aNil)) (sSeq (sFor (gNm 6) (iAny (eNm 4)) (sSeq (sSet 7 (eCallP f_read_condition (aCons (eNm 6) (aCons (eK (.bool false)) aNil)))) (sSeq (sIf (bUn dIsN (eNm 7)) (sRet (eK .none)) sNext) (sApp 5 (eNm 7))))) (sRet (eCallV fTuple (oNm 5)))))) := rfl
  generalize (sSeq (sSet 7 (eCallP f_read_condition (aCons (eNm 6) (aCons (eK (.bool false)) aNil)))) (sSeq (sIf (bUn dIsN (eNm 7)) (sRet (eK .none)) sNext) (sApp 5 (eNm 7)))) = BODY at *
  simp [hf, eB, List.replicate, hsp, h1, h2, e]
theorem rc_nil : f_read_condition [.list (([] : List Ln).map ds), .bool false] = some (.d .none) := by
  simp [f_read_condition, b_read_condition, List.replicate]
theorem rc_one {a : Ln} : f_read_condition [.list ([a].map ds), .bool false] = some (.d .none) := by
  simp [f_read_condition, b_read_condition, List.replicate]
theorem rc_rel {a t u : Ln} (ha : WordT a) (h : f_is_release [ds u] = some (.d (.bool false))) : f_read_condition [.list ([a, t, u].map ds), .bool false] = some (.d .none) := by
  simp [f_read_condition, b_read_condition, List.replicate, atI, ixN, is_short_ok (.inl ha), h]
theorem rc_not {a u : Ln} (ha : WordT a) (h : RelT u) : f_read_condition [.list ([a, cs "not", u].map ds), .bool false] = some (.d .none) := by
  simp (decide := true) [f_read_condition, b_read_condition, List.replicate, atI, ixN, is_short_ok (.inl ha), is_release_ok h]
theorem need_none {A B : List Ln} {x y : D} (hp : ∀ p ∈ [A, B], ∀ t ∈ p, t ≠ [58]) (hl : (A ++ [58] :: B).length ≤ 100000) (hA : f_read_conditions [.list (A.map ds), ds (cs "and"), .int 1, .int 4] = some (.d x)) (hB : f_read_conditions [.list (B.map ds), ds (cs "or"), .int 1, .int 6] = some (.d y)) (hxy : dIsN x = some true ∨ (dIsN x = some false ∧ dIsN y = some true)) :
    f_read_need [.list ((A ++ [58] :: B).map ds)] = some (.d .none) := by
  have hsp := split_ok (m := [58]) (pss := [A, B]) (by simp) hp hl
  have e : joinT [58] [A, B] = A ++ [58] :: B := rfl
  rw [e] at hsp
  generalize (A ++ [58] :: B).map ds = J at *
  simp only [f_read_need, b_read_need, runP_ap, startD_ap, List.length_cons, List.length_nil, if_true, List.map_cons, List.map_nil, List.replicate, Nat.sub_self, List.append_nil, sSeq_ap, sSet_ap, eCallP_ap, aCons_ap, aNil_ap, eNm_ap, eK_ap, List.nil_append, List.cons_append, List.getElem?_cons_zero, List.getElem?_cons_succ, Option.bind_some, Option.map_some, Nat.reduceSub, Nat.reduceAdd, List.set_cons_succ, List.set_cons_zero, cs_colon, hsp]
  generalize A.map ds = A' at *
  generalize B.map ds = B' at *
  rcases hxy with h | ⟨h, h'⟩
  · simp [atI, ixN, hA, hB, h]
  · simp [atI, ixN, hA, hB, h, h']
theorem form_row {toks : List Ln} (h : f_read_form [.list (toks.map ds)] = some (.d .none)) : f_read_line [.list ((cs "row" :: toks).map ds)] = some (.d .none) := by
  rw [List.map_cons]
  generalize toks.map ds = J at *
  simp (decide := true) [f_read_line, b_read_line, List.replicate, at_0, dSl_1, h]
section
variable {toks : List Ln}
theorem need_form (ht : ∀ t ∈ cs "need" :: toks, TokB t) (h : f_read_need [.list (toks.map ds)] = some (.d .none)) : f_read_form [.list ((cs "need" :: toks).map ds)] = some (.d .none) := by
  have hne := dEq_toks ht (by simp)
  rw [List.map_cons] at hne
  simp [f_read_form, b_read_form, List.replicate, at_0, hne, dSl_1, h]
theorem counted_form {k : Ln} (hk : k = cs "most" ∨ k = cs "least") (ht : ∀ t ∈ k :: toks, TokB t) (h : f_read_counted [.list ((k :: toks).map ds)] = some (.d .none)) : f_read_form [.list ((k :: toks).map ds)] = some (.d .none) := by
  have hne := dEq_toks ht (by simp)
  rw [List.map_cons] at hne h
  rcases hk with rfl | rfl <;> simp (decide := true) [f_read_form, b_read_form, List.replicate, at_0, hne, h]
theorem clash_form (ht : ∀ t ∈ cs "clash" :: toks, TokB t) (h : f_read_conditions [.list (toks.map ds), ds [44], .int 2, .int 6] = some (.d .none)) : f_read_form [.list ((cs "clash" :: toks).map ds)] = some (.d .none) := by
  have hne := dEq_toks ht (by simp)
  rw [List.map_cons] at hne
  simp (decide := true) [f_read_form, b_read_form, List.replicate, at_0, hne, dSl_1, h]
theorem either_form (ht : ∀ t ∈ cs "either" :: toks, TokB t) (h : f_read_conditions [.list (toks.map ds), ds [44], .int 1, .int 6] = some (.d .none)) : f_read_form [.list ((cs "either" :: toks).map ds)] = some (.d .none) := by
  have hne := dEq_toks ht (by simp)
  rw [List.map_cons] at hne
  simp (decide := true) [f_read_form, b_read_form, List.replicate, at_0, hne, dSl_1, h]
theorem same_form (ht : ∀ t ∈ cs "same" :: toks, TokB t) (h : f_read_conditions [.list (toks.map ds), ds [44], .int 2, .int 2] = some (.d .none)) : f_read_form [.list ((cs "same" :: toks).map ds)] = some (.d .none) := by
  have hne := dEq_toks ht (by simp)
  rw [List.map_cons] at hne
  simp (decide := true) [f_read_form, b_read_form, List.replicate, at_0, hne, dSl_1, h]
theorem none_form {t : Ln} {r : List Ln} (ht : ∀ u ∈ t :: r, TokB u) (hk : t ∉ keptL) : f_read_form [.list ((t :: r).map ds)] = some (.d .none) := by
  have hq := dEq_toks ht (by simp)
  rw [List.map_cons] at hq
  have k1 : t ≠ cs "need" := fun e => hk (by rw [e]; decide)
  have k2 : t ≠ cs "most" := fun e => hk (by rw [e]; decide)
  have k3 : t ≠ cs "least" := fun e => hk (by rw [e]; decide)
  have k4 : t ≠ cs "clash" := fun e => hk (by rw [e]; decide)
  have k5 : t ≠ cs "either" := fun e => hk (by rw [e]; decide)
  have k6 : t ≠ cs "same" := fun e => hk (by rw [e]; decide)
  simp [f_read_form, b_read_form, List.replicate, at_0, hq, k1, k2, k3, k4, k5, k6]
theorem form_nil : f_read_form [.list (([] : List Ln).map ds)] = some (.d .none) := by
  have h : dEq (.list (([] : List Ln).map ds)) (.list []) = some true := rfl
  simp at h
  simp [f_read_form, b_read_form, List.replicate, h]
end
end DL

set_option Elab.async false
set_option linter.all false
set_option maxRecDepth 100000
set_option maxHeartbeats 4000000
namespace DL
open PySem PySem.Spec L2 TL

section
variable {a b : Ln}
theorem wk {t : Ln} (h : WordT t) : t ∉ keptL := h.free
theorem ww {t : Ln} (h : WordT t) {m : Ln} (hm : m ∈ keptL ∨ (∃ c ∈ m, ¬ (Let c ∨ Fig c))) : t ≠ m := fun e => by
  subst e
  rcases hm with hm | ⟨c, hc, hn⟩
  · exact h.free hm
  · exact hn (h.all c hc)
theorem neg_dot (ha : WordT a) (hb : WordT b) : f_is_word [ds (a ++ (cs "." ++ b))] = some (.d (.bool false)) := by
  have h1 := ha.len
  have h2 := hb.len
  refine is_word_no (fun h => absurd (h.all 46 (by simp)) (by decide)) ?_
  simp; omega
theorem neg_plus (ha : WordT a) (hb : WordT b) : f_is_word [ds (a ++ (cs "+" ++ b))] = some (.d (.bool false)) := by
  have h1 := ha.len
  have h2 := hb.len
  refine is_word_no (fun h => absurd (h.all 43 (by simp)) (by decide)) ?_
  simp; omega
theorem neg_take : f_is_word [ds (cs "1" ++ a.take 3)] = some (.d (.bool false)) := is_word_no (fun h => by
  obtain ⟨c, r, e, hc⟩ := h.head
  have e1 : cs "1" = [49] := by decide
  rw [e1] at e
  simp at e
  rw [← e.1] at hc
  exact absurd hc (by decide)) (by have : (cs "1").length = 1 := by decide
                                   rw [List.length_append, List.length_take]; omega)
theorem tb {t : Ln} (h : TokB t) {r : List Ln} (hr : ∀ u ∈ r, TokB u) : ∀ u ∈ t :: r, TokB u := List.forall_mem_cons.mpr ⟨h, hr⟩
theorem t0 : ∀ u ∈ ([] : List Ln), TokB u := fun _ h => nomatch h
theorem tk {t : Ln} (h : t ∈ keptL ∨ t = [44] ∨ t = [58] := by decide) : TokB t := by
  rcases h with h | rfl | rfl
  · have hl : ∀ t ∈ keptL, t.length ≤ 25 ∧ t ≠ [] := by decide
    exact ⟨(hl t h).1, (hl t h).2, fun c hc => .inl (kept_let t h c hc)⟩
  · exact ⟨by decide, by decide, by decide⟩
  · exact ⟨by decide, by decide, by decide⟩
theorem one_tok : TokB (cs "1") := ⟨by decide, by decide, by decide⟩
theorem wn0 : f_read_line [.list ((wt0 a b).map ds)] = some (.d .none) := by
  simp (decide := true) [wt0, f_read_line, b_read_line, List.replicate, at_0]
theorem wn1 : f_read_line [.list ((wt1 a b).map ds)] = some (.d .none) := by
  simp (decide := true) [wt1, f_read_line, b_read_line, List.replicate, at_0]
theorem nm_none {t : Ln} (h : f_is_word [ds t] = some (.d (.bool false))) : f_read_line [.list ([cs "name", t].map ds)] = some (.d .none) := by
  simp (decide := true) [f_read_line, b_read_line, List.replicate, at_0, at_1, h]
theorem wn2 : f_read_line [.list ((wt2 a b).map ds)] = some (.d .none) := nm_none neg_word_up
theorem wn3 : f_read_line [.list ((wt3 a b).map ds)] = some (.d .none) := nm_none neg_take
theorem wn4 (ha : WordT a) (hb : WordT b) : f_read_line [.list ((wt4 a b).map ds)] = some (.d .none) := nm_none (neg_dot ha hb)
theorem wn5 : f_read_line [.list ((wt5 a b).map ds)] = some (.d .none) := nm_none neg_word_long
theorem wn6 (ha : WordT a) (hb : WordT b) : f_read_line [.list ((wt6 a b).map ds)] = some (.d .none) := nm_none (neg_plus ha hb)
theorem rel_line {toks : List Ln} (h : f_read_release [.list ((cs "release" :: toks).map ds)] = some (.d .none)) : f_read_line [.list ((cs "release" :: toks).map ds)] = some (.d .none) := by
  rw [List.map_cons] at h ⊢
  simp (decide := true) [f_read_line, b_read_line, List.replicate, at_0, h]
theorem fea_line {toks : List Ln} (h : f_read_feature [.list ((cs "feature" :: toks).map ds)] = some (.d .none)) : f_read_line [.list ((cs "feature" :: toks).map ds)] = some (.d .none) := by
  rw [List.map_cons] at h ⊢
  simp (decide := true) [f_read_line, b_read_line, List.replicate, at_0, h]
theorem sig_line {toks : List Ln} (h : f_read_signer [.list ((cs "signer" :: toks).map ds)] = some (.d .none)) : f_read_line [.list ((cs "signer" :: toks).map ds)] = some (.d .none) := by
  rw [List.map_cons] at h ⊢
  simp (decide := true) [f_read_line, b_read_line, List.replicate, at_0, h]
theorem rel_ver {v e p q u1 u2 u3 : Ln} (ha : WordT a) (h : f_is_version [ds v] = some (.d (.bool false))) : f_read_release [.list ([cs "release", a, v, u1, e, u2, p, u3, q].map ds)] = some (.d .none) := by
  simp (decide := true) [f_read_release, b_read_release, List.replicate, at_0, at_1, at_2, at_3, at_4, at_5, at_6, at_7, at_8, is_word_ok ha, h]
theorem rel_wd {v e p q u1 u2 u3 : Ln} (ha : WordT a) (hv : VerT v) (h : u1 ≠ cs "after" ∨ u2 ≠ cs "up" ∨ u3 ≠ cs "down") : f_read_release [.list ([cs "release", a, v, u1, e, u2, p, u3, q].map ds)] = some (.d .none) := by
  by_cases h1 : u1 = cs "after"
  · by_cases h2 : u2 = cs "up"
    · have h3 : u3 ≠ cs "down" := by rcases h with h | h | h <;> simp_all
      simp [f_read_release, b_read_release, List.replicate, at_0, at_1, at_2, at_3, at_4, at_5, at_6, at_7, at_8, is_word_ok ha, is_version_ok hv, h1, h2, h3]
    · simp [f_read_release, b_read_release, List.replicate, at_0, at_1, at_2, at_3, at_4, at_5, at_6, at_7, at_8, is_word_ok ha, is_version_ok hv, h1, h2]
  · simp [f_read_release, b_read_release, List.replicate, at_0, at_1, at_2, at_3, at_4, at_5, at_6, at_7, at_8, is_word_ok ha, is_version_ok hv, h1]
theorem rel_pr {v p q : Ln} (ha : WordT a) (hv : VerT v) (h : f_is_price [ds p] = some (.d (.bool false))) : f_read_release [.list ([cs "release", a, v, cs "after", cs "none", cs "up", p, cs "down", q].map ds)] = some (.d .none) := by
  simp (decide := true) [f_read_release, b_read_release, List.replicate, at_0, at_1, at_2, at_3, at_4, at_5, at_6, at_7, at_8, is_word_ok ha, is_version_ok hv, h]
theorem rel_len9 {toks : List Ln} (h : toks.length ≠ 8) : f_read_release [.list ((cs "release" :: toks).map ds)] = some (.d .none) := by
  have h' : ¬ ((toks.length : Int) + 1 = 9) := by omega
  simp [f_read_release, b_read_release, List.replicate, h']
theorem fea_len9 {toks : List Ln} (h : toks.length ≠ 8) : f_read_feature [.list ((cs "feature" :: toks).map ds)] = some (.d .none) := by
  have h' : ¬ ((toks.length : Int) + 1 = 9) := by omega
  simp [f_read_feature, b_read_feature, List.replicate, h']
theorem wn7 (ha : WordT a) : f_read_line [.list ((wt7 a b).map ds)] = some (.d .none) := rel_line (rel_ver ha ng_v01)
theorem wn8 (ha : WordT a) : f_read_line [.list ((wt8 a b).map ds)] = some (.d .none) := rel_line (rel_pr ha ver1 ng_p0)
theorem wn9 (ha : WordT a) : f_read_line [.list ((wt9 a b).map ds)] = some (.d .none) := rel_line (rel_pr ha ver1 ng_pG)
theorem wn10 : f_read_line [.list ((wt10 a b).map ds)] = some (.d .none) := rel_line (rel_len9 (by simp))
theorem wn11 (ha : WordT a) : f_read_line [.list ((wt11 a b).map ds)] = some (.d .none) := rel_line (rel_ver ha ng_von)
theorem wn12 (ha : WordT a) : f_read_line [.list ((wt12 a b).map ds)] = some (.d .none) := rel_line (rel_ver ha ng_v4)
theorem wn13 (ha : WordT a) : f_read_line [.list ((wt13 a b).map ds)] = some (.d .none) := rel_line (rel_ver ha ng_v1000)
theorem wn14 (ha : WordT a) : f_read_line [.list ((wt14 a b).map ds)] = some (.d .none) := rel_line (rel_wd ha ver1 (.inl (by decide)))
theorem wn15 (ha : WordT a) : f_read_line [.list ((wt15 a b).map ds)] = some (.d .none) := rel_line (rel_wd ha ver1 (.inr (.inl (by decide))))
theorem fea_ver {v p q u1 u2 u3 : Ln} (ha : WordT a) (hb : WordT b) (h : f_is_version [ds v] = some (.d (.bool false))) : f_read_feature [.list ([cs "feature", a, b, u1, v, u2, p, u3, q].map ds)] = some (.d .none) := by
  simp (decide := true) [f_read_feature, b_read_feature, List.replicate, at_0, at_1, at_2, at_3, at_4, at_5, at_6, at_7, at_8, is_word_ok ha, is_word_ok hb, h]
theorem fea_wd {v p q u1 u2 u3 : Ln} (ha : WordT a) (hb : WordT b) (hv : VerT v) (h : u1 ≠ cs "from") : f_read_feature [.list ([cs "feature", a, b, u1, v, u2, p, u3, q].map ds)] = some (.d .none) := by
  simp (decide := true) [f_read_feature, b_read_feature, List.replicate, at_0, at_1, at_2, at_3, at_4, at_5, at_6, at_7, at_8, is_word_ok ha, is_word_ok hb, is_version_ok hv, h]
theorem wn16 (ha : WordT a) (hb : WordT b) : f_read_line [.list ((wt16 a b).map ds)] = some (.d .none) := fea_line (fea_ver ha hb ng_von)
theorem wn17 : f_read_line [.list ((wt17 a b).map ds)] = some (.d .none) := fea_line (fea_len9 (by simp))
theorem wn18 (ha : WordT a) (hb : WordT b) : f_read_line [.list ((wt18 a b).map ds)] = some (.d .none) := fea_line (fea_wd ha hb ver1 (by decide))
theorem wn19 : f_read_line [.list ((wt19 a b).map ds)] = some (.d .none) := form_row (toks := []) form_nil
theorem wn20 (ha : WordT a) : f_read_line [.list ((wt20 a b).map ds)] = some (.d .none) := form_row (toks := [a, cs "none"]) (none_form (tb (word_tokB ha) (tb tk t0)) (wk ha))
end
end DL

set_option Elab.async false
set_option linter.all false
set_option maxRecDepth 100000
set_option maxHeartbeats 4000000
namespace DL
open PySem PySem.Spec L2 TL

section
variable {a b : Ln}
theorem fm {p : List Ln} {m t : Ln} (h : ∀ t ∈ p, t ≠ m) (ht : t ≠ m) : ∀ u ∈ t :: p, u ≠ m := List.forall_mem_cons.mpr ⟨ht, h⟩
theorem f0 {m : Ln} : ∀ u ∈ ([] : List Ln), u ≠ m := fun _ h => nomatch h
theorem fp {ps : List (List Ln)} {m : Ln} {p : List Ln} (h : ∀ p ∈ ps, ∀ t ∈ p, t ≠ m) (hp : ∀ t ∈ p, t ≠ m) : ∀ q ∈ p :: ps, ∀ t ∈ q, t ≠ m := List.forall_mem_cons.mpr ⟨hp, h⟩
theorem fp0 {m : Ln} : ∀ q ∈ ([] : List (List Ln)), ∀ t ∈ q, t ≠ m := fun _ h => nomatch h
theorem w44 (ha : WordT a) : a ≠ [44] := ww ha (.inr ⟨44, by decide, by decide⟩)
theorem w58 (ha : WordT a) : a ≠ [58] := ww ha (.inr ⟨58, by decide, by decide⟩)
theorem wand (ha : WordT a) : a ≠ cs "and" := ww ha (.inl (by decide))
theorem wor (ha : WordT a) : a ≠ cs "or" := ww ha (.inl (by decide))
theorem wof (ha : WordT a) : a ≠ cs "of" := ww ha (.inl (by decide))
theorem cn_p {m : Ln} (ha : a ≠ m) (hn : cs "none" ≠ m) : ∀ u ∈ [a, cs "none"], u ≠ m := fm (fm f0 hn) ha
theorem ccom : cs "," = [44] := by decide
theorem ccol : cs ":" = [58] := by decide
-- rows of needs
theorem rd_bad (ha : WordT a) {u t : Ln} {m : Ln} {hi : Int} (hb : f_read_condition [.list (([a, t, u] : List Ln).map ds), .bool false] = some (.d .none)) (hm : ∀ x ∈ [a, t, u], x ≠ m) (h1 : 1 ≤ hi) : f_read_conditions [.list (([a, t, u] : List Ln).map ds), ds m, .int 1, .int hi] = some (.d .none) :=
  conds_bad (m := m) (cds := []) (bad := [a, t, u]) (rest := []) (fun _ h => nomatch h) hb (fp fp0 hm) (by show 3 ≤ 100000; decide) (by decide) (by simp) (by simpa using h1)
theorem rd_nil {m : Ln} {hi : Int} (h1 : 1 ≤ hi) : f_read_conditions [.list (([] : List Ln).map ds), ds m, .int 1, .int hi] = some (.d .none) :=
  conds_bad (m := m) (cds := []) (bad := []) (rest := []) (fun _ h => nomatch h) rc_nil (fp fp0 f0) (by simp [joinT]) (by decide) (by simp) (by simpa using h1)
theorem rd_one {m : Ln} {hi : Int} (ha : a ≠ m) (h1 : 1 ≤ hi) : f_read_conditions [.list (([a] : List Ln).map ds), ds m, .int 1, .int hi] = some (.d .none) :=
  conds_bad (m := m) (cds := []) (bad := [a]) (rest := []) (fun _ h => nomatch h) rc_one (fp fp0 (fm f0 ha)) (by show 1 ≤ 100000; decide) (by decide) (by simp) (by simpa using h1)
theorem rd_cn (ha : WordT a) {m : Ln} (hm : ∀ t, CTok t → t ≠ m) {lo hi : Nat} (h1 : 1 ≤ lo) (hl : lo ≤ 1) (h6 : hi ≤ 6) (h1' : 1 ≤ hi) : f_read_conditions [.list (([a, cs "none"] : List Ln).map ds), ds m, .int lo, .int hi] = some (.d (cdat [cn a])) :=
  read_conds_ok (m := m) (cds := [cn a]) ⟨by simpa using cn_ok ha, by simpa using hl, by simpa using h1'⟩ h1 h6 hm
theorem rd_from1 (ha : WordT a) {m : Ln} (hm : ∀ t, CTok t → t ≠ m) {hi : Nat} (h6 : hi ≤ 6) (h1' : 1 ≤ hi) : f_read_conditions [.list (([a, cs "from", cs "1"] : List Ln).map ds), ds m, .int (1 : Nat), .int hi] = some (.d (cdat [(.tuple [ds a, ds (cs "from"), ds (cs "1")], [a, cs "from", cs "1"])])) :=
  read_conds_ok (m := m) (cds := [(.tuple [ds a, ds (cs "from"), ds (cs "1")], [a, cs "from", cs "1"])]) ⟨by simpa using CondT.frm (.inl ha) (.inr ver1), by simp, by simpa using h1'⟩ (by decide) h6 hm
theorem need_one {A : List Ln} (hp : ∀ t ∈ A, t ≠ [58]) (hl : A.length ≤ 100000) : f_read_need [.list (A.map ds)] = some (.d .none) := by
  have hsp := split_ok (m := [58]) (pss := [A]) (by simp) (fp fp0 hp) hl
  have e : joinT [58] [A] = A := rfl
  rw [e] at hsp
  generalize A.map ds = J at *
  simp [f_read_need, b_read_need, List.replicate, hsp]
theorem wn21 (ha : WordT a) : f_read_line [.list ((wt21 a b).map ds)] = some (.d .none) :=
  form_row (toks := [cs "need", a, cs "from", cs "1"]) (need_form (tb tk (tb (word_tokB ha) (tb tk (tb one_tok t0)))) (need_one (fm (fm (fm f0 (by decide)) (by decide)) (w58 ha)) (by show 3 ≤ 100000; decide)))
theorem wn22 (ha : WordT a) : f_read_line [.list ((wt22 a b).map ds)] = some (.d .none) := by
  refine form_row (toks := [cs "need", a, cs "from", cs "1", cs ":"]) (need_form (tb tk (tb (word_tokB ha) (tb tk (tb one_tok (tb tk t0))))) ?_)
  rw [ccol]
  exact need_none (A := [a, cs "from", cs "1"]) (B := []) (fp (fp fp0 f0) (fm (fm (fm f0 (by decide)) (by decide)) (w58 ha))) (by show 4 ≤ 100000; decide)
    (rd_from1 ha (hi := 4) (fun t h => h.nand) (by decide) (by decide)) (rd_nil (by decide)) (.inr ⟨rfl, rfl⟩)
theorem wn23 (ha : WordT a) : f_read_line [.list ((wt23 a b).map ds)] = some (.d .none) := by
  refine form_row (toks := [cs "need", cs ":", a, cs "none"]) (need_form (tb tk (tb tk (tb (word_tokB ha) (tb tk t0)))) ?_)
  rw [ccol]
  exact need_none (A := []) (B := [a, cs "none"]) (fp (fp fp0 (cn_p (w58 ha) (by decide))) f0) (by show 3 ≤ 100000; decide)
    (rd_nil (by decide)) (rd_cn ha (lo := 1) (hi := 6) (fun t h => h.nor) (by decide) (by decide) (by decide) (by decide)) (.inl rfl)
theorem wn24 (ha : WordT a) (hb : WordT b) : f_read_line [.list ((wt24 a b).map ds)] = some (.d .none) := by
  have p := cn_p (a := a) (m := cs "and") (wand ha) (by decide)
  have q : ∀ {r : List Ln}, (∀ t ∈ r, t ≠ [58]) → ∀ t ∈ a :: cs "none" :: cs "and" :: r, t ≠ [58] := fun h => fm (fm (fm h (by decide)) (by decide)) (w58 ha)
  have q' : ∀ {r : List Ln}, (∀ t ∈ r, TokB t) → ∀ t ∈ a :: cs "none" :: cs "and" :: r, TokB t := fun h => tb (word_tokB ha) (tb tk (tb tk h))
  refine form_row (toks := [cs "need", a, cs "none", cs "and", a, cs "none", cs "and", a, cs "none", cs "and", a, cs "none", cs "and", a, cs "none", cs ":", b, cs "none"]) (need_form (tb tk (q' (q' (q' (q' (tb (word_tokB ha) (tb tk (tb tk (tb (word_tokB hb) (tb tk t0)))))))))) ?_)
  rw [ccol]
  exact need_none (A := [a, cs "none", cs "and", a, cs "none", cs "and", a, cs "none", cs "and", a, cs "none", cs "and", a, cs "none"]) (B := [b, cs "none"]) (fp (fp fp0 (cn_p (w58 hb) (by decide))) (q (q (q (q (cn_p (w58 ha) (by decide))))))) (by show 17 ≤ 100000; decide)
    (conds_cnt (m := cs "and") (pss := [[a, cs "none"], [a, cs "none"], [a, cs "none"], [a, cs "none"], [a, cs "none"]]) (by simp) (fp (fp (fp (fp (fp fp0 p) p) p) p) p) (by show 14 ≤ 100000; decide) (by show ¬ ((1 : Int) ≤ (5 : Nat) ∧ ((5 : Nat) : Int) ≤ 4); decide)) (rd_cn hb (lo := 1) (hi := 6) (fun t h => h.nor) (by decide) (by decide) (by decide) (by decide)) (.inl rfl)
theorem wn25 (ha : WordT a) (hb : WordT b) : f_read_line [.list ((wt25 a b).map ds)] = some (.d .none) := by
  have p := cn_p (a := b) (m := cs "or") (wor hb) (by decide)
  have q : ∀ {r : List Ln}, (∀ t ∈ r, t ≠ [58]) → ∀ t ∈ b :: cs "none" :: cs "or" :: r, t ≠ [58] := fun h => fm (fm (fm h (by decide)) (by decide)) (w58 hb)
  have q' : ∀ {r : List Ln}, (∀ t ∈ r, TokB t) → ∀ t ∈ b :: cs "none" :: cs "or" :: r, TokB t := fun h => tb (word_tokB hb) (tb tk (tb tk h))
  refine form_row (toks := [cs "need", a, cs "none", cs ":", b, cs "none", cs "or", b, cs "none", cs "or", b, cs "none", cs "or", b, cs "none", cs "or", b, cs "none", cs "or", b, cs "none", cs "or", b, cs "none"]) (need_form (tb tk (tb (word_tokB ha) (tb tk (tb tk (q' (q' (q' (q' (q' (q' (tb (word_tokB hb) (tb tk t0)))))))))))) ?_)
  rw [ccol]
  exact need_none (A := [a, cs "none"]) (B := [b, cs "none", cs "or", b, cs "none", cs "or", b, cs "none", cs "or", b, cs "none", cs "or", b, cs "none", cs "or", b, cs "none", cs "or", b, cs "none"]) (fp (fp fp0 (q (q (q (q (q (q (cn_p (w58 hb) (by decide))))))))) (cn_p (w58 ha) (by decide))) (by show 23 ≤ 100000; decide)
    (rd_cn ha (lo := 1) (hi := 4) (fun t h => h.nand) (by decide) (by decide) (by decide) (by decide)) (conds_cnt (m := cs "or") (pss := [[b, cs "none"], [b, cs "none"], [b, cs "none"], [b, cs "none"], [b, cs "none"], [b, cs "none"], [b, cs "none"]]) (by simp) (fp (fp (fp (fp (fp (fp (fp fp0 p) p) p) p) p) p) p) (by show 20 ≤ 100000; decide) (by show ¬ ((1 : Int) ≤ (7 : Nat) ∧ ((7 : Nat) : Int) ≤ 6); decide)) (.inr ⟨rfl, rfl⟩)
theorem wn26 (ha : WordT a) : f_read_line [.list ((wt26 a b).map ds)] = some (.d .none) :=
  form_row (toks := [cs "clash", a, cs "none"]) (clash_form (tb tk (tb (word_tokB ha) (tb tk t0))) (conds_cnt (m := [44]) (pss := [[a, cs "none"]]) (by simp) (fp fp0 (cn_p (w44 ha) (by decide))) (by show 2 ≤ 100000; decide) (by show ¬ ((2 : Int) ≤ (1 : Nat) ∧ ((1 : Nat) : Int) ≤ 6); decide)))
theorem wn27 (ha : WordT a) : f_read_line [.list ((wt27 a b).map ds)] = some (.d .none) := by
  have p := cn_p (a := a) (m := [44]) (w44 ha) (by decide)
  have q' : ∀ {r : List Ln}, (∀ t ∈ r, TokB t) → ∀ t ∈ a :: cs "none" :: cs "," :: r, TokB t := fun h => tb (word_tokB ha) (tb tk (tb tk h))
  exact form_row (toks := [cs "clash", a, cs "none", cs ",", a, cs "none", cs ",", a, cs "none", cs ",", a, cs "none", cs ",", a, cs "none", cs ",", a, cs "none", cs ",", a, cs "none"]) (clash_form (tb tk (q' (q' (q' (q' (q' (q' (tb (word_tokB ha) (tb tk t0)))))))))
    (conds_cnt (m := [44]) (pss := [[a, cs "none"], [a, cs "none"], [a, cs "none"], [a, cs "none"], [a, cs "none"], [a, cs "none"], [a, cs "none"]]) (by simp) (fp (fp (fp (fp (fp (fp (fp fp0 p) p) p) p) p) p) p) (by show 20 ≤ 100000; decide) (by show ¬ ((2 : Int) ≤ (7 : Nat) ∧ ((7 : Nat) : Int) ≤ 6); decide)))
theorem wn28 : f_read_line [.list ((wt28 a b).map ds)] = some (.d .none) :=
  form_row (toks := [cs "either"]) (either_form (tb tk t0) (rd_nil (by decide)))
theorem wn29 (ha : WordT a) : f_read_line [.list ((wt29 a b).map ds)] = some (.d .none) :=
  form_row (toks := [cs "either", a, cs "none", cs ","]) (either_form (tb tk (tb (word_tokB ha) (tb tk (tb tk t0)))) (conds_bad (m := [44]) (cds := [cn a]) (bad := []) (rest := []) (by simpa using cn_ok ha) rc_nil (fp (fp fp0 f0) (cn_p (w44 ha) (by decide))) (by show 3 ≤ 100000; decide) (by show 1 < 1000; decide) (by show (1 : Int) ≤ (2 : Nat); decide) (by show ((2 : Nat) : Int) ≤ 6; decide)))
theorem wn30 (ha : WordT a) : f_read_line [.list ((wt30 a b).map ds)] = some (.d .none) :=
  form_row (toks := [cs "either", a, cs "from", cs "none"]) (either_form (tb tk (tb (word_tokB ha) (tb tk (tb tk t0)))) (rd_bad ha (rc_rel ha ng_rnone) (fm (fm (fm f0 (by decide)) (by decide)) (w44 ha)) (by decide)))
theorem wn31 (ha : WordT a) : f_read_line [.list ((wt31 a b).map ds)] = some (.d .none) :=
  form_row (toks := [cs "either", a, cs "not", cs "1"]) (either_form (tb tk (tb (word_tokB ha) (tb tk (tb one_tok t0)))) (rd_bad ha (rc_not ha (.inr ver1)) (fm (fm (fm f0 (by decide)) (by decide)) (w44 ha)) (by decide)))
theorem fgfrom : f_is_figures [ds (cs "from")] = some (.d (.bool false)) := by rfl
theorem ng_rfrom : f_is_release [ds (cs "from")] = some (.d (.bool false)) := rel_no (by decide) (ver_no1 (by decide) (by decide) (is_number_fig fgfrom))
theorem wn32 (ha : WordT a) : f_read_line [.list ((wt32 a b).map ds)] = some (.d .none) :=
  form_row (toks := [cs "either", a, cs "not", cs "from"]) (either_form (tb tk (tb (word_tokB ha) (tb tk (tb tk t0)))) (rd_bad ha (rc_rel ha ng_rfrom) (fm (fm (fm f0 (by decide)) (by decide)) (w44 ha)) (by decide)))
theorem wn33 (ha : WordT a) : f_read_line [.list ((wt33 a b).map ds)] = some (.d .none) :=
  form_row (toks := [cs "either", a]) (either_form (tb tk (tb (word_tokB ha) t0)) (rd_one (w44 ha) (by decide)))
theorem wn34 (ha : WordT a) : f_read_line [.list ((wt34 a b).map ds)] = some (.d .none) := by
  have p := cn_p (a := a) (m := [44]) (w44 ha) (by decide)
  have q' : ∀ {r : List Ln}, (∀ t ∈ r, TokB t) → ∀ t ∈ a :: cs "none" :: cs "," :: r, TokB t := fun h => tb (word_tokB ha) (tb tk (tb tk h))
  exact form_row (toks := [cs "same", a, cs "none", cs ",", a, cs "none", cs ",", a, cs "none"]) (same_form (tb tk (q' (q' (tb (word_tokB ha) (tb tk t0)))))
    (conds_cnt (m := [44]) (pss := [[a, cs "none"], [a, cs "none"], [a, cs "none"]]) (by simp) (fp (fp (fp fp0 p) p) p) (by show 8 ≤ 100000; decide) (by show ¬ ((2 : Int) ≤ (3 : Nat) ∧ ((3 : Nat) : Int) ≤ 2); decide)))
theorem cnt_num {k t : Ln} {r : List Ln} (h : f_is_number [ds t, .int 0, .int 6] = some (.d (.bool false))) : f_read_counted [.list ((k :: t :: r).map ds)] = some (.d .none) := by
  by_cases hl : ((r.length : Int) + 1 + 1 < 4)
  · simp [f_read_counted, b_read_counted, List.replicate, hl]
  · simp [f_read_counted, b_read_counted, List.replicate, hl, at_1, h]
theorem cnt_of {k t u : Ln} {r : List Ln} (h : f_is_number [ds t, .int 0, .int 6] = some (.d (.bool true))) (hu : u ≠ cs "of") : f_read_counted [.list ((k :: t :: u :: r).map ds)] = some (.d .none) := by
  by_cases hl : ((r.length : Int) + 1 + 1 + 1 < 4)
  · simp [f_read_counted, b_read_counted, List.replicate, hl]
  · simp [f_read_counted, b_read_counted, List.replicate, hl, at_1, at_2, h, hu]
theorem seven_tok : TokB (cs "7") := ⟨by decide, by decide, by decide⟩
theorem n1_06 : f_is_number [ds (cs "1"), .int 0, .int 6] = some (.d (.bool true)) := by rw [← num1]; exact is_number_ok (by decide) (by decide) (by decide)
theorem wn35 (ha : WordT a) : f_read_line [.list ((wt35 a b).map ds)] = some (.d .none) :=
  form_row (toks := [cs "most", cs "7", cs "of", a, cs "none"]) (counted_form (.inl rfl) (tb tk (tb seven_tok (tb tk (tb (word_tokB ha) (tb tk t0))))) (cnt_num ng_n7))
theorem wn36 (ha : WordT a) : f_read_line [.list ((wt36 a b).map ds)] = some (.d .none) :=
  form_row (toks := [cs "least", cs "1", a, cs "none"]) (counted_form (.inr rfl) (tb tk (tb one_tok (tb (word_tokB ha) (tb tk t0)))) (cnt_of n1_06 (wof ha)))
theorem wn37 (ha : WordT a) : f_read_line [.list ((wt37 a b).map ds)] = some (.d .none) :=
  form_row (toks := [cs "most", cs "of", a, cs "none"]) (counted_form (.inl rfl) (tb tk (tb tk (tb (word_tokB ha) (tb tk t0)))) (cnt_num ng_nof))
theorem st_line {k t u : Ln} (hk : k = cs "start" ∨ k = cs "later") (ha : WordT t) (h : f_is_release [ds u] = some (.d (.bool false))) : f_read_line [.list ([k, t, u].map ds)] = some (.d .none) := by
  rcases hk with rfl | rfl <;> simp (decide := true) [f_read_line, b_read_line, List.replicate, at_0, at_1, at_2, is_short_ok (.inl ha), h]
theorem wn38 (ha : WordT a) : f_read_line [.list ((wt38 a b).map ds)] = some (.d .none) := st_line (.inl rfl) ha ng_rnone
theorem wn39 : f_read_line [.list ((wt39 a b).map ds)] = some (.d .none) := by
  simp (decide := true) [wt39, f_read_line, b_read_line, List.replicate, at_0]
theorem wn40 (ha : WordT a) : f_read_line [.list ((wt40 a b).map ds)] = some (.d .none) := st_line (.inr rfl) ha ng_rdot
theorem sg_num {t u v : Ln} (ha : WordT t) (h : f_is_number [ds u, .int 1, .int 99] = some (.d (.bool false))) : f_read_signer [.list ([cs "signer", t, u, cs ":", v].map ds)] = some (.d .none) := by
  simp (decide := true) [f_read_signer, b_read_signer, List.replicate, at_1, at_2, is_word_ok ha, h]
theorem wn41 (ha : WordT a) : f_read_line [.list ((wt41 a b).map ds)] = some (.d .none) := sig_line (sg_num ha ng_n0)
theorem wn42 (ha : WordT a) : f_read_line [.list ((wt42 a b).map ds)] = some (.d .none) := sig_line (sg_num ha ng_n100)
theorem wn43 : f_read_line [.list ((wt43 a b).map ds)] = some (.d .none) := sig_line (toks := [a, cs "1", cs ":"]) (by
  simp (decide := true) [f_read_signer, b_read_signer, List.replicate])
theorem wn44 : f_read_line [.list ((wt44 a b).map ds)] = some (.d .none) := by
  simp (decide := true) [wt44, f_read_line, b_read_line, List.replicate, at_0]
theorem wn45 : f_read_line [.list ((wt45 a b).map ds)] = some (.d .none) := by
  simp (decide := true) [wt45, f_read_line, b_read_line, List.replicate, at_0]
end
end DL

set_option Elab.async false
set_option linter.all false
set_option maxRecDepth 100000
set_option maxHeartbeats 4000000
namespace DL
open PySem PySem.Spec L2 TL

/-! ### wrong signs -/
abbrev Ok32 (c : Nat) : Prop := Sg c ∨ c = 32
theorem dIn_bad {c : Nat} (h : ¬ Ok32 c) : dIn (ds [c]) k_SIGNS = some false := by
  unfold k_SIGNS
  rw [dIn_one, codes_mk, in_signs, decide_eq_false]
  rintro (a | a | a | a | a | a | a)
  · exact h (.inl (.inl a))
  · exact h (.inl (.inr (.inl a)))
  · exact h (.inr a)
  · exact h (.inl (.inr (.inr (.inl a))))
  · exact h (.inl (.inr (.inr (.inr (.inl a)))))
  · exact h (.inl (.inr (.inr (.inr (.inr (.inl a))))))
  · exact h (.inl (.inr (.inr (.inr (.inr (.inr a))))))
abbrev sgBody : SS := sIf (bBin dNotIn (eNm 1) (eK k_SIGNS)) (sRet (eK (ds (cs "sign")))) sNext
theorem sg_loop {x : Sl} : ∀ (R : Ln) (y : Sl), (∃ y', forS (gNm 1) sgBody (R.map fun c => ds [c]) [x, y] = some (.nx [x, y'])) ∨ ∃ st', forS (gNm 1) sgBody (R.map fun c => ds [c]) [x, y] = some (.rt (ds (cs "sign")) st')
  | [], y => .inl ⟨y, rfl⟩
  | c :: r, y => by
    rw [List.map_cons, forS_cons, gNm_ap, Option.bind_some]
    by_cases h : Ok32 c
    · rcases sg_loop (x := x) r (.d (ds [c])) with ⟨y', e⟩ | ⟨st', e⟩
      · refine .inl ⟨y', ?_⟩
        simp [dIn_sg h]
        exact e
      · refine .inr ⟨st', ?_⟩
        simp [dIn_sg h]
        exact e
    · exact .inr ⟨_, by simp [dIn_bad h]; rfl⟩
theorem sg_loop_bad {x : Sl} : ∀ (R : Ln) (y : Sl), (∃ c ∈ R, ¬ Ok32 c) → ∃ st', forS (gNm 1) sgBody (R.map fun c => ds [c]) [x, y] = some (.rt (ds (cs "sign")) st')
  | [], y, h => by obtain ⟨c, hc, _⟩ := h; cases hc
  | c :: r, y, h => by
    rw [List.map_cons, forS_cons, gNm_ap, Option.bind_some]
    by_cases h1 : Ok32 c
    · obtain ⟨st', e⟩ := sg_loop_bad (x := x) r (.d (ds [c])) (by
        obtain ⟨d, hd, hn⟩ := h
        rcases List.mem_cons.mp hd with rfl | hd
        · exact absurd h1 hn
        · exact ⟨d, hd, hn⟩)
      refine ⟨st', ?_⟩
      simp [dIn_sg h1]
      exact e
    · exact ⟨_, by simp [dIn_bad h1]; rfl⟩
theorem sf_bad {R : Ln} (h : ∃ c ∈ R, ¬ Ok32 c) : f_sign_fault [ds R] = some (.d (ds (cs "sign"))) := by
  have hR : R ≠ [] := by
    rintro rfl
    obtain ⟨c, hc, _⟩ := h
    cases hc
  obtain ⟨st', loop⟩ := sg_loop_bad (x := .d (ds R)) R .no h
  simp [f_sign_fault, b_sign_fault, List.replicate, hR, loop]
theorem double_in {u v : Ln} : dIn (ds [32, 32]) (ds (u ++ 32 :: 32 :: v)) = some true := by
  show some (!(Builtin.Str.occurrences ⟨(u ++ 32 :: 32 :: v).toArray⟩ ⟨[32, 32].toArray⟩ 0 (⟨(u ++ 32 :: 32 :: v).toArray⟩ : Str).length 1).isEmpty) = some true
  congr 1
  refine (StrLaws.found_iff _ _).mpr ⟨u.length, ?_, ?_⟩
  · show u.length + 2 ≤ (u ++ 32 :: 32 :: v).toArray.size
    simp
  · rw [StrLaws.subAt_eq]
    show (((u ++ 32 :: 32 :: v).drop u.length).take 2 == [32, 32]) = true
    simp
theorem dIn_two {R : Ln} : ∃ b, dIn (ds [32, 32]) (ds R) = some b := ⟨_, rfl⟩
theorem sf_tail {R : Ln} (hl : R.length ≤ 1000) (h : (∃ r, R = 32 :: r) ∨ (∃ r, R = r ++ [32]) ∨ ∃ u v, R = u ++ 32 :: 32 :: v) : f_sign_fault [ds R] = some (.d (ds (cs "sign"))) := by
  have hs := szl
  have hR : R ≠ [] := by rcases h with ⟨r, rfl⟩ | ⟨r, rfl⟩ | ⟨u, v, rfl⟩ <;> simp
  have hz : R.length ≤ sizeLine := by omega
  rcases sg_loop (x := .d (ds R)) R .no with ⟨y', loop⟩ | ⟨st', loop⟩
  · obtain ⟨c0, q, e0⟩ : ∃ c q, R = c :: q := by
      cases R with
      | nil => exact absurd rfl hR
      | cons c q => exact ⟨c, q, rfl⟩
    obtain ⟨q1, c1, e1⟩ : ∃ q c, R = q ++ [c] := ⟨R.dropLast, R.getLast hR, (List.dropLast_concat_getLast hR).symm⟩
    have a0 : dIx (ds R) (.int 0) = some (ds [c0]) := by
      rw [dIx_s, codes_mk, if_pos hz, at_0, e0]; rfl
    have a1 : dIx (ds R) (.int (-1)) = some (ds [c1]) := by
      rw [dIx_s, codes_mk, if_pos hz, e1, at_l]; rfl
    by_cases h0 : c0 = 32
    · simp [-dIx_s, f_sign_fault, b_sign_fault, List.replicate, hR, loop, a0, h0]
    · by_cases h1 : c1 = 32
      · simp [-dIx_s, f_sign_fault, b_sign_fault, List.replicate, hR, loop, a0, a1, h0, h1]
      · have hd : dIn (ds [32, 32]) (ds R) = some true := by
          rcases h with ⟨r, rfl⟩ | ⟨r, rfl⟩ | ⟨u, v, rfl⟩
          · cases e0; exact absurd rfl h0
          · have := List.append_inj_right' e1 rfl
            cases this; exact absurd rfl h1
          · exact double_in
        simp [-dIx_s, f_sign_fault, b_sign_fault, List.replicate, hR, loop, a0, a1, h0, h1, cs_2bl, hd]
  · simp [f_sign_fault, b_sign_fault, List.replicate, hR, loop]
theorem sign_of_bad {R : Ln} (hn : 10 ∉ R) (hl : R.length ≤ 400) (h : ∃ c ∈ R, ¬ Ok32 c) : FaultT R (cs "sign") := ⟨hn, hl, .inl ⟨sf_bad h, by decide⟩⟩
theorem sign_of_tail {R : Ln} (hn : 10 ∉ R) (hl : R.length ≤ 400) (h : (∃ r, R = 32 :: r) ∨ (∃ r, R = r ++ [32]) ∨ ∃ u v, R = u ++ 32 :: 32 :: v) : FaultT R (cs "sign") := ⟨hn, hl, .inl ⟨sf_tail (by omega) h, by decide⟩⟩
theorem dbl_mem {c x : Nat} : ∀ {l : Ln}, x ∈ StrLaws.dbl c l → x ∈ l
  | [], h => h
  | k :: r, h => by
    unfold StrLaws.dbl at h
    split at h
    · rcases List.mem_cons.mp h with rfl | h
      · exact List.mem_cons_self
      · rcases List.mem_cons.mp h with rfl | h
        · exact List.mem_cons_self
        · exact List.mem_cons_of_mem _ (dbl_mem h)
    · rcases List.mem_cons.mp h with rfl | h
      · exact List.mem_cons_self
      · exact List.mem_cons_of_mem _ (dbl_mem h)
theorem dbl_len {c : Nat} : ∀ {l : Ln}, (StrLaws.dbl c l).length ≤ 2 * l.length
  | [] => Nat.le_refl _
  | k :: r => by
    have := dbl_len (c := c) (l := r)
    unfold StrLaws.dbl
    split <;> simp only [List.length_cons] <;> omega
theorem dbl_has {c : Nat} : ∀ {l : Ln}, c ∈ l → ∃ u v, StrLaws.dbl c l = u ++ c :: c :: v
  | [], h => nomatch h
  | k :: r, h => by
    unfold StrLaws.dbl
    by_cases hk : k = c
    · subst hk
      rw [if_pos rfl]
      exact ⟨[], _, rfl⟩
    · rw [if_neg hk]
      obtain ⟨u, v, e⟩ := dbl_has (l := r) (by
        rcases List.mem_cons.mp h with e | h
        · exact absurd e.symm hk
        · exact h)
      exact ⟨k :: u, v, by rw [e]; rfl⟩
theorem repl_ok {R : Ln} (hl : R.length ≤ 1000) : dRepl (Str.ofString " ") (Str.ofString "  ") (ds R) = some (ds (StrLaws.dbl 32 R)) := by
  have e1 : Str.ofString " " = ⟨#[32]⟩ := by decide
  have e2 : Str.ofString "  " = ⟨#[32, 32]⟩ := by decide
  show (if (codes ⟨R.toArray⟩).length ≤ 1000 ∧ (Str.ofString "  ").length ≤ 100 then _ else _) = _
  rw [codes_mk, e1, e2, if_pos ⟨hl, by decide⟩]
  rw [PyProof.Rows.replace_dbl _ _ _ 32 rfl rfl]
end DL

set_option Elab.async false
set_option linter.all false
set_option maxRecDepth 100000
set_option maxHeartbeats 4000000
namespace DL
open PySem PySem.Spec L2 TL

/-! ### all wrong forms, all near rows -/
section
variable {a b : Ln}
theorem wrong_row (ha : WordT a) (hb : WordT b) : ∀ r ∈ wrongTx a b, FaultT r (cs "form") := by
  unfold wrongTx
  exact List.forall_mem_cons.mpr ⟨wf0 ha hb (by first | exact wn0 | exact wn0 ha | exact wn0 ha hb), List.forall_mem_cons.mpr ⟨wf1 ha hb (by first | exact wn1 | exact wn1 ha | exact wn1 ha hb), List.forall_mem_cons.mpr ⟨wf2 ha hb (by first | exact wn2 | exact wn2 ha | exact wn2 ha hb), List.forall_mem_cons.mpr ⟨wf3 ha hb (by first | exact wn3 | exact wn3 ha | exact wn3 ha hb), List.forall_mem_cons.mpr ⟨wf4 ha hb (by first | exact wn4 | exact wn4 ha | exact wn4 ha hb), List.forall_mem_cons.mpr ⟨wf5 ha hb (by first | exact wn5 | exact wn5 ha | exact wn5 ha hb), List.forall_mem_cons.mpr ⟨wf6 ha hb (by first | exact wn6 | exact wn6 ha | exact wn6 ha hb), List.forall_mem_cons.mpr ⟨wf7 ha hb (by first | exact wn7 | exact wn7 ha | exact wn7 ha hb), List.forall_mem_cons.mpr ⟨wf8 ha hb (by first | exact wn8 | exact wn8 ha | exact wn8 ha hb), List.forall_mem_cons.mpr ⟨wf9 ha hb (by first | exact wn9 | exact wn9 ha | exact wn9 ha hb), List.forall_mem_cons.mpr ⟨wf10 ha hb (by first | exact wn10 | exact wn10 ha | exact wn10 ha hb), List.forall_mem_cons.mpr ⟨wf11 ha hb (by first | exact wn11 | exact wn11 ha | exact wn11 ha hb), List.forall_mem_cons.mpr ⟨wf12 ha hb (by first | exact wn12 | exact wn12 ha | exact wn12 ha hb), List.forall_mem_cons.mpr ⟨wf13 ha hb (by first | exact wn13 | exact wn13 ha | exact wn13 ha hb), List.forall_mem_cons.mpr ⟨wf14 ha hb (by first | exact wn14 | exact wn14 ha | exact wn14 ha hb), List.forall_mem_cons.mpr ⟨wf15 ha hb (by first | exact wn15 | exact wn15 ha | exact wn15 ha hb), List.forall_mem_cons.mpr ⟨wf16 ha hb (by first | exact wn16 | exact wn16 ha | exact wn16 ha hb), List.forall_mem_cons.mpr ⟨wf17 ha hb (by first | exact wn17 | exact wn17 ha | exact wn17 ha hb), List.forall_mem_cons.mpr ⟨wf18 ha hb (by first | exact wn18 | exact wn18 ha | exact wn18 ha hb), List.forall_mem_cons.mpr ⟨wf19 ha hb (by first | exact wn19 | exact wn19 ha | exact wn19 ha hb), List.forall_mem_cons.mpr ⟨wf20 ha hb (by first | exact wn20 | exact wn20 ha | exact wn20 ha hb), List.forall_mem_cons.mpr ⟨wf21 ha hb (by first | exact wn21 | exact wn21 ha | exact wn21 ha hb), List.forall_mem_cons.mpr ⟨wf22 ha hb (by first | exact wn22 | exact wn22 ha | exact wn22 ha hb), List.forall_mem_cons.mpr ⟨wf23 ha hb (by first | exact wn23 | exact wn23 ha | exact wn23 ha hb), List.forall_mem_cons.mpr ⟨wf24 ha hb (by first | exact wn24 | exact wn24 ha | exact wn24 ha hb), List.forall_mem_cons.mpr ⟨wf25 ha hb (by first | exact wn25 | exact wn25 ha | exact wn25 ha hb), List.forall_mem_cons.mpr ⟨wf26 ha hb (by first | exact wn26 | exact wn26 ha | exact wn26 ha hb), List.forall_mem_cons.mpr ⟨wf27 ha hb (by first | exact wn27 | exact wn27 ha | exact wn27 ha hb), List.forall_mem_cons.mpr ⟨wf28 ha hb (by first | exact wn28 | exact wn28 ha | exact wn28 ha hb), List.forall_mem_cons.mpr ⟨wf29 ha hb (by first | exact wn29 | exact wn29 ha | exact wn29 ha hb), List.forall_mem_cons.mpr ⟨wf30 ha hb (by first | exact wn30 | exact wn30 ha | exact wn30 ha hb), List.forall_mem_cons.mpr ⟨wf31 ha hb (by first | exact wn31 | exact wn31 ha | exact wn31 ha hb), List.forall_mem_cons.mpr ⟨wf32 ha hb (by first | exact wn32 | exact wn32 ha | exact wn32 ha hb), List.forall_mem_cons.mpr ⟨wf33 ha hb (by first | exact wn33 | exact wn33 ha | exact wn33 ha hb), List.forall_mem_cons.mpr ⟨wf34 ha hb (by first | exact wn34 | exact wn34 ha | exact wn34 ha hb), List.forall_mem_cons.mpr ⟨wf35 ha hb (by first | exact wn35 | exact wn35 ha | exact wn35 ha hb), List.forall_mem_cons.mpr ⟨wf36 ha hb (by first | exact wn36 | exact wn36 ha | exact wn36 ha hb), List.forall_mem_cons.mpr ⟨wf37 ha hb (by first | exact wn37 | exact wn37 ha | exact wn37 ha hb), List.forall_mem_cons.mpr ⟨wf38 ha hb (by first | exact wn38 | exact wn38 ha | exact wn38 ha hb), List.forall_mem_cons.mpr ⟨wf39 ha hb (by first | exact wn39 | exact wn39 ha | exact wn39 ha hb), List.forall_mem_cons.mpr ⟨wf40 ha hb (by first | exact wn40 | exact wn40 ha | exact wn40 ha hb), List.forall_mem_cons.mpr ⟨wf41 ha hb (by first | exact wn41 | exact wn41 ha | exact wn41 ha hb), List.forall_mem_cons.mpr ⟨wf42 ha hb (by first | exact wn42 | exact wn42 ha | exact wn42 ha hb), List.forall_mem_cons.mpr ⟨wf43 ha hb (by first | exact wn43 | exact wn43 ha | exact wn43 ha hb), List.forall_mem_cons.mpr ⟨wf44 ha hb (by first | exact wn44 | exact wn44 ha | exact wn44 ha hb), List.forall_mem_cons.mpr ⟨wf45 ha hb (by first | exact wn45 | exact wn45 ha | exact wn45 ha hb), fun _ h => nomatch h⟩⟩⟩⟩⟩⟩⟩⟩⟩⟩⟩⟩⟩⟩⟩⟩⟩⟩⟩⟩⟩⟩⟩⟩⟩⟩⟩⟩⟩⟩⟩⟩⟩⟩⟩⟩⟩⟩⟩⟩⟩⟩⟩⟩⟩⟩
theorem len_to {r : Ln} {k m : Nat} [h : Bd r k] (hk : k ≤ m) : r.length ≤ m := Nat.le_trans h.le hk
theorem wrong_len (ha : WordT a) (hb : WordT b) : ∀ r ∈ wrongTx a b, r.length ≤ 390 := by
  have b1 : Bd a 12 := ⟨ha.len⟩
  have b2 : Bd b 12 := ⟨hb.len⟩
  have c0 : Bd (joinL (cs " and ") (rep 5 (a ++ cs " none"))) 160 := ⟨rep_short (rsa ha) (by decide) (by decide)⟩
  have c1 : Bd (joinL (cs " or ") (rep 7 (b ++ cs " none"))) 160 := ⟨rep_short (rsa hb) (by decide) (by decide)⟩
  have c2 : Bd (joinL (cs " , ") (rep 7 (a ++ cs " none"))) 160 := ⟨rep_short (rsa ha) (by decide) (by decide)⟩
  have c3 : Bd (joinL (cs " , ") (rep 3 (a ++ cs " none"))) 160 := ⟨rep_short (rsa ha) (by decide) (by decide)⟩
  unfold wrongTx
  exact List.forall_mem_cons.mpr ⟨len_to (by decide), List.forall_mem_cons.mpr ⟨len_to (by decide), List.forall_mem_cons.mpr ⟨len_to (by decide), List.forall_mem_cons.mpr ⟨len_to (by decide), List.forall_mem_cons.mpr ⟨len_to (by decide), List.forall_mem_cons.mpr ⟨len_to (by decide), List.forall_mem_cons.mpr ⟨len_to (by decide), List.forall_mem_cons.mpr ⟨len_to (by decide), List.forall_mem_cons.mpr ⟨len_to (by decide), List.forall_mem_cons.mpr ⟨len_to (by decide), List.forall_mem_cons.mpr ⟨len_to (by decide), List.forall_mem_cons.mpr ⟨len_to (by decide), List.forall_mem_cons.mpr ⟨len_to (by decide), List.forall_mem_cons.mpr ⟨len_to (by decide), List.forall_mem_cons.mpr ⟨len_to (by decide), List.forall_mem_cons.mpr ⟨len_to (by decide), List.forall_mem_cons.mpr ⟨len_to (by decide), List.forall_mem_cons.mpr ⟨len_to (by decide), List.forall_mem_cons.mpr ⟨len_to (by decide), List.forall_mem_cons.mpr ⟨len_to (by decide), List.forall_mem_cons.mpr ⟨len_to (by decide), List.forall_mem_cons.mpr ⟨len_to (by decide), List.forall_mem_cons.mpr ⟨len_to (by decide), List.forall_mem_cons.mpr ⟨len_to (by decide), List.forall_mem_cons.mpr ⟨len_to (by decide), List.forall_mem_cons.mpr ⟨len_to (by decide), List.forall_mem_cons.mpr ⟨len_to (by decide), List.forall_mem_cons.mpr ⟨len_to (by decide), List.forall_mem_cons.mpr ⟨len_to (by decide), List.forall_mem_cons.mpr ⟨len_to (by decide), List.forall_mem_cons.mpr ⟨len_to (by decide), List.forall_mem_cons.mpr ⟨len_to (by decide), List.forall_mem_cons.mpr ⟨len_to (by decide), List.forall_mem_cons.mpr ⟨len_to (by decide), List.forall_mem_cons.mpr ⟨len_to (by decide), List.forall_mem_cons.mpr ⟨len_to (by decide), List.forall_mem_cons.mpr ⟨len_to (by decide), List.forall_mem_cons.mpr ⟨len_to (by decide), List.forall_mem_cons.mpr ⟨len_to (by decide), List.forall_mem_cons.mpr ⟨len_to (by decide), List.forall_mem_cons.mpr ⟨len_to (by decide), List.forall_mem_cons.mpr ⟨len_to (by decide), List.forall_mem_cons.mpr ⟨len_to (by decide), List.forall_mem_cons.mpr ⟨len_to (by decide), List.forall_mem_cons.mpr ⟨len_to (by decide), List.forall_mem_cons.mpr ⟨len_to (by decide), fun _ h => nomatch h⟩⟩⟩⟩⟩⟩⟩⟩⟩⟩⟩⟩⟩⟩⟩⟩⟩⟩⟩⟩⟩⟩⟩⟩⟩⟩⟩⟩⟩⟩⟩⟩⟩⟩⟩⟩⟩⟩⟩⟩⟩⟩⟩⟩⟩⟩
theorem near_len (ha : WordT a) (hb : WordT b) : ∀ r ∈ nearTx a b, r.length ≤ 190 := by
  have b1 : Bd a 12 := ⟨ha.len⟩
  have b2 : Bd b 12 := ⟨hb.len⟩
  have c0 : Bd (joinL (cs " and ") (rep 4 (a ++ cs " none"))) 160 := ⟨rep_short (rsa ha) (by decide) (by decide)⟩
  have c1 : Bd (joinL (cs " or ") (rep 6 (b ++ cs " none"))) 160 := ⟨rep_short (rsa hb) (by decide) (by decide)⟩
  have c2 : Bd (joinL (cs " , ") (rep 6 (a ++ cs " none"))) 160 := ⟨rep_short (rsa ha) (by decide) (by decide)⟩
  unfold nearTx
  exact List.forall_mem_cons.mpr ⟨len_to (by decide), List.forall_mem_cons.mpr ⟨len_to (by decide), List.forall_mem_cons.mpr ⟨len_to (by decide), List.forall_mem_cons.mpr ⟨len_to (by decide), List.forall_mem_cons.mpr ⟨len_to (by decide), List.forall_mem_cons.mpr ⟨len_to (by decide), List.forall_mem_cons.mpr ⟨len_to (by decide), List.forall_mem_cons.mpr ⟨len_to (by decide), List.forall_mem_cons.mpr ⟨len_to (by decide), List.forall_mem_cons.mpr ⟨len_to (by decide), List.forall_mem_cons.mpr ⟨len_to (by decide), List.forall_mem_cons.mpr ⟨len_to (by decide), List.forall_mem_cons.mpr ⟨len_to (by decide), List.forall_mem_cons.mpr ⟨len_to (by decide), List.forall_mem_cons.mpr ⟨len_to (by decide), fun _ h => nomatch h⟩⟩⟩⟩⟩⟩⟩⟩⟩⟩⟩⟩⟩⟩⟩
end
end DL

set_option Elab.async false
set_option linter.all false
set_option maxRecDepth 100000
set_option maxHeartbeats 4000000
namespace DL
open PySem PySem.Spec L2 TL

/-! ### rows with a wrong sign -/
theorem row_sg {d : D} {r : Ln} (h : RowT d r) : ∀ c ∈ r, Sg c ∨ c = 32 := by
  obtain ⟨toks, h1, rfl⟩ := h.line
  exact join_all (line_toks h1).1
theorem dSlS_to {R : Ln} {n : Nat} (h : R.length ≤ 1000) : dSl (ds R) none (some (n : Int)) = some (ds (R.take n)) := by
  show (if (codes ⟨R.toArray⟩).length ≤ sizeLine then some (ds (cutD (codes ⟨R.toArray⟩) none (some ((n : Nat) : Int)))) else none) = _
  rw [codes_mk, if_pos (by rw [szl]; omega), cut_to]
theorem dSlS_from {R : Ln} {n : Nat} (h : R.length ≤ 1000) : dSl (ds R) (some (n : Int)) none = some (ds (R.drop n)) := by
  show (if (codes ⟨R.toArray⟩).length ≤ sizeLine then some (ds (cutD (codes ⟨R.toArray⟩) (some ((n : Nat) : Int)) none)) else none) = _
  rw [codes_mk, if_pos (by rw [szl]; omega), cut_from]
theorem str_at {t : Ln} {n : Nat} (h : n < t.length) (hl : t.length ≤ 1000) : ∃ c, dIx (ds t) (.int n) = some (ds [c]) ∧ c ∈ t := by
  refine ⟨t[n], ?_, List.getElem_mem h⟩
  rw [dIx_s, codes_mk, if_pos (by rw [szl]; omega), at_n, List.getElem?_eq_getElem h]
  rfl
theorem list_at {ls : List Ln} {n : Nat} (h : n < ls.length) : ∃ t, atI (ls.map ds) (n : Int) = some (ds t) ∧ t ∈ ls := by
  refine ⟨ls[n], ?_, List.getElem_mem h⟩
  rw [at_n, List.getElem?_map, List.getElem?_eq_getElem h]
  rfl
theorem marks_len : (cs "ABZ-_/*#;!?()=<>~\x40[]{}'\"&|^$").length = 28 := by decide
theorem marks_bad : ∀ c ∈ (cs "ABZ-_/*#;!?()=<>~\x40[]{}'\"&|^$"), ¬ Ok32 c ∧ c ≠ 10 := by decide
theorem blanks {n : Nat} (h : n < 3) : ∃ r, dMulS (ds (cs " ")) (.int (1 + (n : Int))) = some (ds r) ∧ FaultT r (cs "sign") := by
  have h' : n = 0 ∨ n = 1 ∨ n = 2 := by omega
  rcases h' with rfl | rfl | rfl
  · exact ⟨[32], rfl, sign_of_tail (by decide) (by decide) (.inl ⟨_, rfl⟩)⟩
  · exact ⟨[32, 32], rfl, sign_of_tail (by decide) (by decide) (.inl ⟨_, rfl⟩)⟩
  · exact ⟨[32, 32, 32], rfl, sign_of_tail (by decide) (by decide) (.inl ⟨_, rfl⟩)⟩
theorem sp1 : cs " " = [32] := by decide
theorem dAdd3 {x y z : Ln} (h : x.length + y.length + z.length ≤ 1000) : (dAdd (ds x) (ds y)).bind (fun u => dAdd u (ds z)) = some (ds (x ++ y ++ z)) := by
  have b1 : Bd x 1000 := ⟨by omega⟩
  have b2 : Bd y 1000 := ⟨by omega⟩
  have b3 : Bd z 1000 := ⟨by omega⟩
  rw [dAdd_ok (by decide), Option.bind_some, dAdd_ok (by decide)]
theorem ins_bad {R : Ln} {n c : Nat} (hl : R.length ≤ 190) (hn : 10 ∉ R) (hc : ¬ Ok32 c ∧ c ≠ 10) : FaultT (R.take n ++ [c] ++ R.drop n) (cs "sign") := by
  refine sign_of_bad ?_ ?_ ⟨c, by simp, hc.1⟩
  · intro h
    simp at h
    rcases h with h | h | h
    · exact hn (List.mem_of_mem_take h)
    · exact hc.2 h.symm
    · exact hn (List.mem_of_mem_drop h)
  · simp
    omega
theorem sign_gen {right : Ln} {d : D} (hR : RowT d right) (hl : right.length ≤ 190) : ∀ s, St4 s → ∃ r s', f_law_a_sign s [ds right] = some (.d (ds r), s') ∧ St4 s' ∧ FaultT r (cs "sign") := fun s hs => by
  have hz := szl
  obtain ⟨k, s1, e1, h1, hk⟩ := pick_i 8 hs
  obtain ⟨n, s2, e2, h2, hn⟩ := pick_i ((right.length : Int) + 1) h1 (by omega)
  have nl := row_nl hR
  have bR : Bd right 190 := ⟨hl⟩
  have b1 : Bd [32] 1 := ⟨by decide⟩
  have l0 : fLen [ds right] = some (.int right.length) := fLen_ok (by decide)
  by_cases k0 : k = 0
  · obtain ⟨m, s3, e3, h3, hm⟩ := pick_i 3 h2
    obtain ⟨r, er, hr⟩ := blanks (n := m) (by omega)
    rw [sp1] at er
    exact ⟨r, s3, by simp [f_law_a_sign, b_law_a_sign, List.replicate, e1, l0, e2, e3, er, k0], h3, hr⟩
  · by_cases k1 : k = 1
    · have hd : dAdd (ds [32]) (ds right) = some (ds ([32] ++ right)) := dAdd_ok (by decide)
      refine ⟨[32] ++ right, s2, by simp [-dAdd_ss, f_law_a_sign, b_law_a_sign, List.replicate, e1, l0, e2, k1, sp1, hd], h2, sign_of_tail ?_ ?_ (.inl ⟨_, rfl⟩)⟩
      · simpa using nl
      · simp; omega
    · have hd2 : dAdd (ds right) (ds [32]) = some (ds (right ++ [32])) := dAdd_ok (by decide)
      have f2 : FaultT (right ++ [32]) (cs "sign") := sign_of_tail (by simpa using nl) (by simp; omega) (.inr (.inl ⟨_, rfl⟩))
      by_cases k2 : k = 2
      · exact ⟨right ++ [32], s2, by simp [-dAdd_ss, f_law_a_sign, b_law_a_sign, List.replicate, e1, l0, e2, k2, sp1, hd2], h2, f2⟩
      · by_cases k3 : k = 3
        · by_cases hb : 32 ∈ right
          · refine ⟨StrLaws.dbl 32 right, s2, by simp [-dAdd_ss, f_law_a_sign, b_law_a_sign, List.replicate, e1, l0, e2, k3, sp1, hb, repl_ok (R := right) (by omega)], h2, sign_of_tail (fun h => nl (dbl_mem h)) ?_ (.inr (.inr (dbl_has hb)))⟩
            have := dbl_len (c := 32) (l := right)
            omega
          · exact ⟨right ++ [32], s2, by simp [-dAdd_ss, f_law_a_sign, b_law_a_sign, List.replicate, e1, l0, e2, k3, sp1, hb, hd2], h2, f2⟩
        · have c1 := dSlS_to (R := right) (n := n) (by omega)
          have c2 := dSlS_from (R := right) (n := n) (by omega)
          have tl : (right.take n).length ≤ 190 := by rw [List.length_take]; omega
          have dl : (right.drop n).length ≤ 190 := by rw [List.length_drop]; omega
          by_cases k4 : k = 4
          · have e9 : cs "\t" = [9] := by decide
            have hd := dAdd3 (x := right.take n) (y := [9]) (z := right.drop n) (by simp only [List.length_cons, List.length_nil]; omega)
            have hf := ins_bad (R := right) (n := n) (c := 9) hl nl (by decide)
            generalize right.take n = P at *
            generalize right.drop n = Q at *
            obtain ⟨u, eu, eu'⟩ := Option.bind_eq_some_iff.mp hd
            exact ⟨P ++ [9] ++ Q, s2, by simp [-dAdd_ss, -List.append_assoc, f_law_a_sign, b_law_a_sign, List.replicate, e1, l0, e2, k4, c1, c2, e9, eu, eu'], h2, hf⟩
          · have q1 : ¬ (k : Int) = 1 := by omega
            have q2 : ¬ (k : Int) = 2 := by omega
            have q3 : ¬ (k : Int) = 3 := by omega
            have q4 : ¬ (k : Int) = 4 := by omega
            obtain ⟨m, s3, e3, h3, hm⟩ := pick_i 28 h2
            obtain ⟨c, ec, hc⟩ := str_at (t := (cs "ABZ-_/*#;!?()=<>~\x40[]{}'\"&|^$")) (n := m) (by rw [marks_len]; omega) (by rw [marks_len]; decide)
            have lm : fLen [ds (cs "ABZ-_/*#;!?()=<>~\x40[]{}'\"&|^$")] = some (.int 28) := by
              have bm : Bd (cs "ABZ-_/*#;!?()=<>~\x40[]{}'\"&|^$") 28 := ⟨by rw [marks_len]; exact Nat.le_refl _⟩
              rw [fLen_ok (x := (cs "ABZ-_/*#;!?()=<>~\x40[]{}'\"&|^$")) (by decide), marks_len]
              rfl
            have hd := dAdd3 (x := right.take n) (y := [c]) (z := right.drop n) (by simp only [List.length_cons, List.length_nil]; omega)
            have hf := ins_bad (R := right) (n := n) (c := c) hl nl (marks_bad c hc)
            generalize right.take n = P at *
            generalize right.drop n = Q at *
            obtain ⟨u, eu, eu'⟩ := Option.bind_eq_some_iff.mp hd
            have eB : f_law_a_sign = runS 6 2 b_law_a_sign := rfl
            refine ⟨P ++ [c] ++ Q, s3, ?_, h3, hf⟩
            unfold f_law_a_sign b_law_a_sign
            generalize (cs "ABZ-_/*#;!?()=<>~\x40[]{}'\"&|^$") = M at *
            simp [-dAdd_ss, -dIx_s, -fLen_s, -List.append_assoc, List.replicate, sp1, e1, l0, e2, e3, k0, q1, q2, q3, q4, c1, c2, ec, lm, eu, eu']
end DL

set_option Elab.async false
set_option linter.all false
set_option maxRecDepth 100000
set_option maxHeartbeats 4000000
namespace DL
open PySem PySem.Spec L2 TL

/-! ### words and faults -/
theorem find_blank {t q : Ln} (h : 32 ∉ t) : dFind (ds (t ++ 32 :: q)) (ds [32]) = some (.int t.length) := by
  show some (PyData.int (Txt.find ⟨(t ++ 32 :: q).toArray⟩ ⟨[32].toArray⟩)) = _
  have hat : ∀ i, StrLaws.At (⟨(t ++ 32 :: q).toArray⟩ : Str) ⟨[32].toArray⟩ (⟨(t ++ 32 :: q).toArray⟩ : Str).length i ↔ (i + 1 ≤ (t ++ 32 :: q).length ∧ ((t ++ 32 :: q).drop i).take 1 = [32]) := fun i => by
    unfold StrLaws.At
    rw [StrLaws.subAt_eq]
    show (i + 1 ≤ (t ++ 32 :: q).toArray.size ∧ ((((t ++ 32 :: q).drop i).take 1 == [32]) = true)) ↔ _
    rw [beq_iff_eq, List.size_toArray]
  have h0 := (hat t.length).mpr ⟨by simp, by simp⟩
  rcases PyProof.Rows.find_whole (⟨(t ++ 32 :: q).toArray⟩ : Str) ⟨[32].toArray⟩ with ⟨_, h'⟩ | ⟨i, ei, hi, hk⟩
  · exact absurd h0 (h' _)
  · rw [ei]
    rcases Nat.lt_trichotomy i t.length with hlt | rfl | hgt
    · exfalso
      have := ((hat i).mp hi).2
      rw [List.drop_append_of_le_length (by omega), List.drop_eq_getElem_cons hlt, List.cons_append, List.take_succ_cons] at this
      have hm := List.getElem_mem hlt
      rw [(List.cons.inj this).1] at hm
      exact h hm
    · rfl
    · exact absurd h0 (hk _ hgt)
theorem row_cut {d : D} {r : Ln} (h : RowT d r) (hb : 32 ∈ r) : ∃ (t0 : Ln) (tr : List Ln), r = t0 ++ 32 :: joinL [32] tr ∧ tr ≠ [] ∧ 32 ∉ t0 ∧ ∀ t ∈ tr, TokB t := by
  obtain ⟨toks, h1, rfl⟩ := h.line
  obtain ⟨ht, ⟨t0, tr, rfl, _⟩, _⟩ := line_toks h1
  have hn : 32 ∉ t0 := sg_no (ht t0 List.mem_cons_self) (by decide)
  cases tr with
  | nil => exact absurd hb hn
  | cons t1 tr =>
    refine ⟨t0, t1 :: tr, ?_, by simp, hn, fun t h => ht t (List.mem_cons_of_mem _ h)⟩
    rw [joinL_cons (by simp)]
    simp
def w8 (a : Ln) : List Ln := [a, cs "need", cs "names", cs "1", cs "rows", cs "ends", cs ":", cs "from"]
theorem first_kept : ∀ t ∈ firstL, t ∈ keptL := by decide
theorem w8_ok {a : Ln} (ha : WordT a) : ∀ w ∈ w8 a, TokB w ∧ w ∉ firstL := by
  unfold w8
  exact List.forall_mem_cons.mpr ⟨⟨word_tokB ha, fun h => ha.free (first_kept _ h)⟩, by
    have h : ∀ w ∈ [cs "need", cs "names", cs "1", cs "rows", cs "ends", cs ":", cs "from"], (w.length ≤ 25 ∧ w ≠ [] ∧ ∀ c ∈ w, Sg c) ∧ w ∉ firstL := by decide
    exact fun w hw => ⟨⟨(h w hw).1.1, (h w hw).1.2.1, (h w hw).1.2.2⟩, (h w hw).2⟩⟩
theorem word_row {d : D} {right w : Ln} (hR : RowT d right) (hl : right.length ≤ 190) (hw : TokB w ∧ w ∉ firstL) (hb : 32 ∈ right) :
    ∃ r i, dFind (ds right) (ds [32]) = some (.int i) ∧ ((dSl (ds right) (some i) none).bind fun z => dAdd (ds w) z) = some (ds r) ∧ FaultT r (cs "word") := by
  obtain ⟨t0, tr, e, hne, hn, ht⟩ := row_cut hR hb
  refine ⟨joinL [32] (w :: tr), t0.length, ?_, ?_, ?_⟩
  · rw [e]; exact find_blank hn
  · rw [dSlS_from (by omega), Option.bind_some, e, List.drop_left]
    have b1 : Bd w 25 := ⟨hw.1.len⟩
    have b2 : Bd (32 :: joinL [32] tr) 190 := ⟨by rw [e] at hl; simp at hl ⊢; omega⟩
    rw [dAdd_ok (by decide), joinL_cons hne]
    simp
  · refine word_fault (tb hw.1 ht) ?_ hw.2
    rw [joinL_cons hne]
    have := hw.1.len
    rw [e] at hl
    simp at hl ⊢
    omega
theorem none_row {a : Ln} (ha : WordT a) : dAdd (ds (cs "none ")) (ds a) = some (ds (cs "none " ++ a)) ∧ FaultT (cs "none " ++ a) (cs "word") := by
  have b1 : Bd a 12 := ⟨ha.len⟩
  have b2 : Bd (cs "none ") 5 := ⟨by decide⟩
  refine ⟨dAdd_ok (by decide), ?_⟩
  have e : cs "none " ++ a = joinL [32] [cs "none", a] := by
    have : cs "none " = cs "none" ++ [32] := by decide
    rw [this]; simp [joinL]
  have hl : (cs "none " ++ a).length ≤ 400 := len_to (by decide)
  rw [e] at hl ⊢
  exact word_fault (tb tk (tb (word_tokB ha) t0)) hl (by decide)
def s3 : List Ln := [cs "-", cs "A", cs "=1"]
theorem s3_ok : ∀ t ∈ s3, t.length ≤ 2 ∧ 10 ∉ t ∧ ∃ c ∈ t, ¬ Ok32 c := by decide
theorem line_sign {l t : Ln} (hl : FaultT l (cs "form")) (hlen : l.length ≤ 390) (ht : t ∈ s3) : ((dAdd (ds l) (ds [32])).bind fun u => dAdd u (ds t)) = some (ds (l ++ [32] ++ t)) ∧ FaultT (l ++ [32] ++ t) (cs "sign") := by
  obtain ⟨h1, h2, c, hc, hn⟩ := s3_ok t ht
  refine ⟨dAdd3 (by simp only [List.length_cons, List.length_nil]; omega), sign_of_bad ?_ ?_ ⟨c, by simp [hc], hn⟩⟩
  · have := hl.nl
    simp [this, h2]
  · simp; omega
end DL

set_option Elab.async false
set_option linter.all false
set_option maxRecDepth 100000
set_option maxHeartbeats 4000000
namespace DL
open PySem PySem.Spec L2 TL

/-! ### a drawn fault -/
theorem firsts_in {w : Ln} (h : w ∉ firstL) : dIn (ds w) (.tuple [ds (cs "name"), ds (cs "hidden"), ds (cs "release"), ds (cs "feature"), ds (cs "row"), ds (cs "start"), ds (cs "later"), ds (cs "signer"), ds (cs "book"), ds (cs "end")]) = some false := by
  have := dIn_t (x := w) (ls := firstL)
  rw [decide_eq_false h] at this
  exact this
def kindL : List Ln := [cs "empty", cs "sign", cs "word", cs "form"]
theorem fault_gen {a b right : Ln} {d : D} (ha : WordT a) (hb : WordT b) (hR : RowT d right) (hl : right.length ≤ 190) : ∀ s, St4 s → ∃ r w s', f_law_a_fault s [ds a, ds b, ds right] = some (.d (.tuple [ds r, ds w]), s') ∧ St4 s' ∧ FaultT r w ∧ w ∈ kindL := fun s hs => by
  have ew := wrong_eval ha hb
  have hrow := wrong_row ha hb
  have hlen := wrong_len ha hb
  have hW : (wrongTx a b).length = 46 := rfl
  generalize wrongTx a b = W at *
  obtain ⟨k, s1, e1, h1, hk⟩ := pick_i 6 hs
  by_cases k0 : k = 0
  · exact ⟨[], cs "empty", s1, by simp [f_law_a_fault, b_law_a_fault, List.replicate, ew, e1, k0], h1, empty_fault, by decide⟩
  · by_cases k1 : k = 1
    · obtain ⟨r, s2, e2, h2, hr⟩ := sign_gen hR hl s1 h1
      exact ⟨r, cs "sign", s2, by simp [f_law_a_fault, b_law_a_fault, List.replicate, ew, e1, k1, e2], h2, hr, by decide⟩
    · by_cases k2 : k = 2
      · obtain ⟨m, s2, e2, h2, hm⟩ := pick_i 8 h1
        obtain ⟨w, e3, hw⟩ := list_at (ls := w8 a) (n := m) (by show m < 8; omega)
        have e3' : atI [ds a, ds (cs "need"), ds (cs "names"), ds (cs "1"), ds (cs "rows"), ds (cs "ends"), ds (cs ":"), ds (cs "from")] (m : Int) = some (ds w) := e3
        rw [cs_colon] at e3'
        have hw' := w8_ok ha w hw
        have hf := firsts_in hw'.2
        obtain ⟨en, hn⟩ := none_row ha
        by_cases hbl : 32 ∈ right
        · obtain ⟨r, i, ef, er, hr⟩ := word_row hR hl hw' hbl
          obtain ⟨z, ez, ez'⟩ := Option.bind_eq_some_iff.mp er
          exact ⟨r, cs "word", s2, by simp [-dAdd_ss, f_law_a_fault, b_law_a_fault, List.replicate, ew, e1, k2, e2, e3', sp1, hbl, hf, ef, ez, ez'], h2, hr, by decide⟩
        · exact ⟨cs "none " ++ a, cs "word", s2, by simp [-dAdd_ss, f_law_a_fault, b_law_a_fault, List.replicate, ew, e1, k2, e2, e3', sp1, hbl, en], h2, hn, by decide⟩
      · obtain ⟨m, s2, e2, h2, hm⟩ := pick_i (W.length : Int) h1 (by omega)
        obtain ⟨l, e3, hl3⟩ := list_at (ls := W) (n := m) (by omega)
        have hform := hrow l hl3
        have hll := hlen l hl3
        have q1 : ¬ (k : Int) = 1 := by omega
        have q2 : ¬ (k : Int) = 2 := by omega
        by_cases k3 : k = 3
        · obtain ⟨j, s4, e4, h4, hj⟩ := pick_i 3 h2
          obtain ⟨t, e5, ht⟩ := list_at (ls := s3) (n := j) (by show j < 3; omega)
          have e5' : atI [ds (cs "-"), ds (cs "A"), ds (cs "=1")] (j : Int) = some (ds t) := e5
          obtain ⟨er, hr⟩ := line_sign hform hll ht
          obtain ⟨z, ez, ez'⟩ := Option.bind_eq_some_iff.mp er
          refine ⟨l ++ [32] ++ t, cs "sign", s4, ?_, h4, hr, by decide⟩
          generalize l ++ [32] ++ t = R at *
          simp [-dAdd_ss, f_law_a_fault, b_law_a_fault, List.replicate, ew, e1, k3, e2, e3, sp1, e4, e5', ez, ez']
        · have q3 : ¬ (k : Int) = 3 := by omega
          exact ⟨l, cs "form", s2, by simp [f_law_a_fault, b_law_a_fault, List.replicate, ew, e1, k0, q1, q2, q3, e2, e3], h2, hform, by decide⟩
end DL

set_option Elab.async false
set_option linter.all false
set_option maxRecDepth 100000
set_option maxHeartbeats 4000000
namespace DL
open PySem PySem.Spec L2 TL

/-! ### the least fault -/
theorem kind_ok : ∀ u ∈ kindL, PyData.strOk ⟨u.toArray⟩ = true := fun u h => strOk_sg ((by decide : ∀ u ∈ kindL, ∀ c ∈ u, Sg c) u h)
abbrev tupD (x : Nat × Ln) : D := .tuple [.int x.1, ds x.2]
theorem lt_tup {i j : Nat} {u v : Ln} (h : i ≠ j) : PySem.W.dataLt (tupD (i, u)) (tupD (j, v)) = decide (i < j) := by
  have hne : (Sum.inl (i : Int) : Int ⊕ List Nat) ≠ .inl (j : Int) := fun e => h (by cases e; rfl)
  have e : PySem.W.dataLt (tupD (i, u)) (tupD (j, v)) = PyProof.Rows.lexLt PyProof.Rows.itemOrd (.inl (i : Int) :: ([.inl 1] ++ PySem.W.keyToks (ds u) ++ [.inl 0])) (.inl (j : Int) :: ([.inl 1] ++ PySem.W.keyToks (ds v) ++ [.inl 0])) := by
    rw [← PySem.W.lex_pre [.inl 1]]
    simp [PySem.W.dataLt, PySem.W.keyToks, PySem.W.keyToksAll]
  rw [e, PySem.W.lex_atom hne]
  have := PySem.W.dataLt_int (i : Int) (j : Int)
  simp only [PySem.W.dataLt, PySem.W.keyToks] at this
  rw [this]
  exact decide_eq_decide.mpr (by omega)
theorem alike_tup {x y : Nat × Ln} : PySem.W.alike (tupD x) (tupD y) = true := by
  simp [PySem.W.alike, PySem.W.alikeAll, tupD]
theorem can_tup {x : Nat × Ln} (h : x.2 ∈ kindL) : PyData.canLay0 (tupD x) = true := by
  have := kind_ok x.2 h
  simp [PyData.canLay0, PyData.canLayAll0, tupD, this]
theorem dep_tup {x : Nat × Ln} : PyData.depth (tupD x) ≤ 10 := by
  simp [PyData.depth, PyData.depthAll, tupD]
theorem min1 {x : Nat × Ln} (h : x.2 ∈ kindL) : fMinL [.list [tupD x]] = some (tupD x) := by
  have h1 : alikeB [tupD x] = true := by simp only [alikeB, List.all_cons, List.all_nil, alike_tup]; rfl
  have h2 : PyData.canLayAll0 [tupD x] = true := by simp only [PyData.canLayAll0, can_tup h]; rfl
  have h3 : PyData.depthAll [tupD x] ≤ 60 := by
    have := dep_tup (x := x)
    simp only [PyData.depthAll]; omega
  show (if alikeB [tupD x] = true ∧ PyData.canLayAll0 [tupD x] = true ∧ PyData.depthAll [tupD x] ≤ 60 then some (PySem.W.minD (tupD x) []) else none) = _
  rw [if_pos ⟨h1, h2, h3⟩]
  rfl
theorem min2 {x y : Nat × Ln} (h : x.2 ∈ kindL) (h' : y.2 ∈ kindL) (hne : y.1 ≠ x.1) : fMinL [.list [tupD x, tupD y]] = some (tupD (if y.1 < x.1 then y else x)) := by
  have h1 : alikeB [tupD x, tupD y] = true := by simp only [alikeB, List.all_cons, List.all_nil, alike_tup]; rfl
  have h2 : PyData.canLayAll0 [tupD x, tupD y] = true := by simp only [PyData.canLayAll0, can_tup h, can_tup h']; rfl
  have h3 : PyData.depthAll [tupD x, tupD y] ≤ 60 := by
    have := dep_tup (x := x)
    have := dep_tup (x := y)
    simp only [PyData.depthAll]; omega
  show (if alikeB [tupD x, tupD y] = true ∧ PyData.canLayAll0 [tupD x, tupD y] = true ∧ PyData.depthAll [tupD x, tupD y] ≤ 60 then some (PySem.W.minD (tupD x) [tupD y]) else none) = _
  rw [if_pos ⟨h1, h2, h3⟩]
  show some (if PySem.W.dataLt (tupD y) (tupD x) then tupD y else tupD x) = _
  rw [show PySem.W.dataLt (tupD y) (tupD x) = decide (y.1 < x.1) from lt_tup hne]
  by_cases hl : y.1 < x.1 <;> simp [hl]

/-! ### one round -/
def shf (p : Nat) (x : Nat × Ln) : Nat × Ln := (if p ≤ x.1 then x.1 + 1 else x.1, x.2)
def ins {α : Type} (p : Nat) (r : α) (S : List α) : List α := S.take p ++ [r] ++ S.drop p
theorem ins_map {α β : Type} {f : α → β} {p : Nat} {r : α} {S : List α} : (ins p r S).map f = ins p (f r) (S.map f) := by
  simp [ins, List.map_take, List.map_drop]
def fBody : SS :=
  (sSeq (sSet 12 (eBin dIx (eNm 7) (eCallS f_law_pick 1 (aCons (eCall fLen (aCons (eNm 7) aNil)) aNil))))
  (sSeq (sAsg (gTupD (gsCons (gNm 13) (gsCons (gNm 14) gsNil))) (eCallS f_law_a_fault 1 (aCons (eNm 2) (aCons (eNm 3) (aCons (eNm 12) aNil)))))
  (sSeq (sSet 15 (eIf (bBin dEq (eCallS f_law_pick 1 (aCons (eK (.int 3)) aNil)) (eK (.int 0))) (eCallV fLen (oNm 9)) (eCallS f_law_pick 1 (aCons (eBin dAdd (eCallV fLen (oNm 9)) (eK (.int 1))) aNil))))
  (sSeq (sIns 9 (eNm 15) (eNm 13))
  (sSeq (sIns 10 (eNm 15) (eNm 12))
  (sSet 8 (eFz (oCat (oCompT 16 17 bYes (eTup (aCons (eIf (bBin dGe (eNm 16) (eNm 15)) (eBin dAdd (eNm 16) (eK (.int 1))) (eNm 16)) (aCons (eNm 17) aNil))) (iAny (eNm 8))) (oLst (aCons (eTup (aCons (eNm 15) (aCons (eNm 14) aNil))) aNil))))))))))
abbrev fSt (x0 : Sl) (s : List D) (a b : Ln) (x4 x5 x6 : Sl) (N : List Ln) (F : List (Nat × Ln)) (S G : List Ln) (x11 y12 y13 y14 y15 : Sl) : List Sl :=
  [x0, .own s, .d (ds a), .d (ds b), x4, x5, x6, .d (.list (N.map ds)), .d (.list (F.map tupD)), .own (S.map ds), .own (G.map ds), x11, y12, y13, y14, y15, .no, .no, .no, .no]
@[simp] theorem sIns_ap {i : Nat} {ix u : ES} {st : List Sl} : sIns i ix u st = match st[i]? with
  | some (.own _) => (ix st).bind fun p => (u p.2).bind fun r => match r.2[i]? with
    | some (.own xs) => match p.1 with
      | .int z => if xs.length < 16000000 ∧ 0 ≤ z ∧ z ≤ 16000000 then some (.nx (r.2.set i (.own (xs.take z.toNat ++ [r.1] ++ xs.drop z.toNat)))) else none
      | _ => none
    | _ => none
  | _ => none := rfl
theorem comp_sh {x0 x1 x2 x3 x4 x5 x6 x7 x8 x9 x10 x11 x12 x13 x14 x18 x19 : Sl} {p : Nat} : ∀ F : List (Nat × Ln),
    compT 16 17 bYes (eTup (aCons (eIf (bBin dGe (eNm 16) (eNm 15)) (eBin dAdd (eNm 16) (eK (.int 1))) (eNm 16)) (aCons (eNm 17) aNil))) (F.map tupD) [x0, x1, x2, x3, x4, x5, x6, x7, x8, x9, x10, x11, x12, x13, x14, .d (.int p), .no, .no, x18, x19] =
      some ((F.map (shf p)).map tupD, [x0, x1, x2, x3, x4, x5, x6, x7, x8, x9, x10, x11, x12, x13, x14, .d (.int p), .no, .no, x18, x19])
  | [] => rfl
  | (i, w) :: r => by
    have ih := comp_sh (x0 := x0) (x1 := x1) (x2 := x2) (x3 := x3) (x4 := x4) (x5 := x5) (x6 := x6) (x7 := x7) (x8 := x8) (x9 := x9) (x10 := x10) (x11 := x11) (x12 := x12) (x13 := x13) (x14 := x14) (x18 := x18) (x19 := x19) (p := p) r
    generalize hr : r.map tupD = R at *
    generalize hr' : (r.map (shf p)).map tupD = R' at *
    rw [List.map_cons, List.map_cons, List.map_cons, hr, hr']
    show compT 16 17 bYes _ (.tuple [.int i, ds w] :: R) _ = _
    by_cases h : p ≤ i
    · have h' : (p : Int) ≤ i := by omega
      simp [compT, wipe2, h', ih, shf, h]
    · have h' : ¬ (p : Int) ≤ i := by omega
      simp [compT, wipe2, h', ih, shf, h]
end DL

set_option Elab.async false
set_option linter.all false
set_option maxRecDepth 100000
set_option maxHeartbeats 4000000
namespace DL
open PySem PySem.Spec L2 TL

theorem round_ok {x0 x4 x5 x6 x11 y12 y13 y14 y15 : Sl} {s : List D} {a b : Ln} {N S G : List Ln} {F : List (Nat × Ln)} (ha : WordT a) (hb : WordT b) (hN : N.length = 15) (hrow : ∀ r ∈ N, ∃ d, RowT d r) (hlen : ∀ r ∈ N, r.length ≤ 190)
    (hs : St4 s) (hS : S.length ≤ 1000) (hG : G.length ≤ 1000) (hF : F.length ≤ 1000) :
    ∃ (right : Ln) (d : D) (r w : Ln) (p : Nat) (s' : List D), RowT d right ∧ FaultT r w ∧ w ∈ kindL ∧ p ≤ S.length ∧ St4 s' ∧
      fBody (fSt x0 s a b x4 x5 x6 N F S G x11 y12 y13 y14 y15) = some (.nx (fSt x0 s' a b x4 x5 x6 N (F.map (shf p) ++ [(p, w)]) (ins p r S) (ins p right G) x11 (.d (ds right)) (.d (ds r)) (.d (ds w)) (.d (.int p)))) := by
  obtain ⟨n, s1, e1, h1, hn⟩ := pick_i (N.length : Int) hs (by omega)
  obtain ⟨right, e2, hr⟩ := list_at (ls := N) (n := n) (by omega)
  obtain ⟨d, hd⟩ := hrow right hr
  obtain ⟨r, w, s2, e3, h2, hf, hw⟩ := fault_gen ha hb hd (hlen right hr) s1 h1
  obtain ⟨k, s3, e4, h3, hk⟩ := pick_i 3 h2
  have key : ∃ (p : Nat) (s' : List D), p ≤ S.length ∧ St4 s' ∧ (eIf (bBin dEq (eCallS f_law_pick 1 (aCons (eK (.int 3)) aNil)) (eK (.int 0))) (eCallV fLen (oNm 9)) (eCallS f_law_pick 1 (aCons (eBin dAdd (eCallV fLen (oNm 9)) (eK (.int 1))) aNil)))
      (fSt x0 s2 a b x4 x5 x6 N F S G x11 (.d (ds right)) (.d (ds r)) (.d (ds w)) y15) = some (.int p, fSt x0 s' a b x4 x5 x6 N F S G x11 (.d (ds right)) (.d (ds r)) (.d (ds w)) y15) := by
    by_cases k0 : k = 0
    · exact ⟨S.length, s3, Nat.le_refl _, h3, by simp [fSt, e4, k0]⟩
    · obtain ⟨p, s4, e5, h4, hp⟩ := pick_i ((S.length : Int) + 1) h3 (by omega)
      exact ⟨p, s4, by omega, h4, by simp [fSt, e4, k0, e5]⟩
  obtain ⟨p, s', hp, h4, e5⟩ := key
  refine ⟨right, d, r, w, p, s', hd, hf, hw, hp, h4, ?_⟩
  have st1 : sSet 12 (eBin dIx (eNm 7) (eCallS f_law_pick 1 (aCons (eCall fLen (aCons (eNm 7) aNil)) aNil))) (fSt x0 s a b x4 x5 x6 N F S G x11 y12 y13 y14 y15) = some (.nx (fSt x0 s1 a b x4 x5 x6 N F S G x11 (.d (ds right)) y13 y14 y15)) := by
    simp [fSt, e1, e2]
  have st2 : sAsg (gTupD (gsCons (gNm 13) (gsCons (gNm 14) gsNil))) (eCallS f_law_a_fault 1 (aCons (eNm 2) (aCons (eNm 3) (aCons (eNm 12) aNil)))) (fSt x0 s1 a b x4 x5 x6 N F S G x11 (.d (ds right)) y13 y14 y15) = some (.nx (fSt x0 s2 a b x4 x5 x6 N F S G x11 (.d (ds right)) (.d (ds r)) (.d (ds w)) y15)) := by
    simp [fSt, e3]
  have hS' : (S.map ds).length < 16000000 := by rw [List.length_map]; omega
  have hG' : (G.map ds).length < 16000000 := by rw [List.length_map]; omega
  have hp' : (p : Int) ≤ 16000000 := by omega
  have iS : (S.map ds).take p ++ [ds r] ++ (S.map ds).drop p = (ins p r S).map ds := ins_map.symm
  have iG : (G.map ds).take p ++ [ds right] ++ (G.map ds).drop p = (ins p right G).map ds := ins_map.symm
  have st4 : sIns 9 (eNm 15) (eNm 13) (fSt x0 s' a b x4 x5 x6 N F S G x11 (.d (ds right)) (.d (ds r)) (.d (ds w)) (.d (.int p))) = some (.nx (fSt x0 s' a b x4 x5 x6 N F (ins p r S) G x11 (.d (ds right)) (.d (ds r)) (.d (ds w)) (.d (.int p)))) := by
    simp [-List.append_assoc, fSt, hS', hp', iS]
    omega
  have st5 : sIns 10 (eNm 15) (eNm 12) (fSt x0 s' a b x4 x5 x6 N F (ins p r S) G x11 (.d (ds right)) (.d (ds r)) (.d (ds w)) (.d (.int p))) = some (.nx (fSt x0 s' a b x4 x5 x6 N F (ins p r S) (ins p right G) x11 (.d (ds right)) (.d (ds r)) (.d (ds w)) (.d (.int p)))) := by
    simp [-List.append_assoc, fSt, hG', hp', iG]
    omega
  have hc := comp_sh (x0 := x0) (x1 := .own s') (x2 := .d (ds a)) (x3 := .d (ds b)) (x4 := x4) (x5 := x5) (x6 := x6) (x7 := .d (.list (N.map ds))) (x8 := .d (.list (F.map tupD))) (x9 := .own ((ins p r S).map ds)) (x10 := .own ((ins p right G).map ds)) (x11 := x11) (x12 := .d (ds right)) (x13 := .d (ds r)) (x14 := .d (ds w)) (x18 := .no) (x19 := .no) (p := p) F
  have hFl : (F.map tupD).length ≤ 1000000 := by rw [List.length_map]; omega
  have eF : (F.map (shf p) ++ [(p, w)]).map tupD = (F.map (shf p)).map tupD ++ [tupD (p, w)] := by simp
  have st6 : sSet 8 (eFz (oCat (oCompT 16 17 bYes (eTup (aCons (eIf (bBin dGe (eNm 16) (eNm 15)) (eBin dAdd (eNm 16) (eK (.int 1))) (eNm 16)) (aCons (eNm 17) aNil))) (iAny (eNm 8))) (oLst (aCons (eTup (aCons (eNm 15) (aCons (eNm 14) aNil))) aNil))))
      (fSt x0 s' a b x4 x5 x6 N F (ins p r S) (ins p right G) x11 (.d (ds right)) (.d (ds r)) (.d (ds w)) (.d (.int p))) = some (.nx (fSt x0 s' a b x4 x5 x6 N (F.map (shf p) ++ [(p, w)]) (ins p r S) (ins p right G) x11 (.d (ds right)) (.d (ds r)) (.d (ds w)) (.d (.int p)))) := by
    have hFl2 : ((F.map (shf p)).map tupD).length ≤ 1000 := by rw [List.length_map, List.length_map]; exact hF
    rw [fSt, fSt, eF]
    generalize (F.map (shf p)).map tupD = F2 at *
    generalize F.map tupD = F1 at *
    generalize (ins p right G).map ds = S2 at *
    generalize (ins p r S).map ds = S3 at *
    generalize (eTup (aCons (eIf (bBin dGe (eNm 16) (eNm 15)) (eBin dAdd (eNm 16) (eK (.int 1))) (eNm 16)) (aCons (eNm 17) aNil))) = E at *
    simp [oCat, oCompT, wipe2, hFl, hc, notOwn]
    rw [szl]; omega
  show (sSeq _ _) _ = _
  rw [sSeq_ap, st1, Option.bind_some]
  simp only []
  rw [sSeq_ap, st2, Option.bind_some]
  simp only []
  rw [sSeq_ap, sSet_ap, e5]
  simp only [Option.map_some, Option.bind_some]
  show (sSeq _ _) (fSt x0 s' a b x4 x5 x6 N F S G x11 (.d (ds right)) (.d (ds r)) (.d (ds w)) (.d (.int p))) = _
  rw [sSeq_ap, st4, Option.bind_some]
  simp only []
  rw [sSeq_ap, st5, Option.bind_some]
  simp only []
  exact st6
end DL

set_option Elab.async false
set_option linter.all false
set_option maxRecDepth 100000
set_option maxHeartbeats 4000000
namespace DL
open PySem PySem.Spec L2 TL

/-! ### the lines drawn, and how many -/
theorem lines_len {s : List D} (hs : St4 s) {n : Nat} (hn : n ≤ 100) : ∃ (L : List (D × Ln)) (s' : List D), f_law_a_lines s [.int n] = some (.o (L.map Prod.fst), s') ∧ St4 s' ∧ LinesT L ∧ L.length = n := by
  obtain ⟨ws, s1, e1, h1, hw⟩ := words_gen hs
  obtain ⟨s2, L, z4, z5, e2, h2, hL, hlen⟩ := l_loop hw (n := n) (rints 0 n) s1 [] .no .no h1 (by simp) (by rw [rints_len]; simp; omega)
  refine ⟨L, s2, ?_, h2, ⟨hL, by rw [hlen, rints_len]; simp; omega⟩, by rw [hlen, rints_len]; simp⟩
  have eB : b_law_a_lines = sSeq (sSet 2 (eFz (oCallS f_law_words 0 (aCons (eK (.int 6)) aNil)))) (sSeq (sSetO 3 (oLst aNil)) (sSeq (sFor (gNm 4) (iRng (aCons (eNm 1) aNil)) lBody) (sRetO (oNm 3)))) := rfl
  have rg : iRng (aCons (eNm 1) aNil) [.own s1, .d (.int n), .d (.list (ws.map ds)), .own [], .no, .no] = some (rints 0 n, [.own s1, .d (.int n), .d (.list (ws.map ds)), .own [], .no, .no]) := rng_ok rfl (by omega)
  rw [List.map_nil] at e2
  have a1 : sSet 2 (eFz (oCallS f_law_words 0 (aCons (eK (.int 6)) aNil))) [.own s, .d (.int n), .no, .no, .no, .no] = some (.nx [.own s1, .d (.int n), .d (.list (ws.map ds)), .no, .no, .no]) := by simp [e1]
  have a2 : sSetO 3 (oLst aNil) [.own s1, .d (.int n), .d (.list (ws.map ds)), .no, .no, .no] = some (.nx [.own s1, .d (.int n), .d (.list (ws.map ds)), .own [], .no, .no]) := by simp
  have hst : startD (6 - 1) [PyData.int (n : Int)] = [.d (.int n), .no, .no, .no, .no] := rfl
  rw [f_law_a_lines, runS_ap, if_pos (by rfl), hst, eB, sSeq_ap, a1, Option.bind_some]
  simp only []
  rw [sSeq_ap, a2, Option.bind_some]
  simp only []
  rw [sSeq_ap, sFor_ap, rg, Option.bind_some, e2, Option.bind_some]
  rfl

/-! ### a spoilt text -/
abbrev Any (r : Ln) : Prop := 10 ∉ r ∧ r.length ≤ 400
structure Bad (S : List Ln) (p : Nat) (w : Ln) : Prop where
  ex : ∃ (L : List (D × Ln)) (bad : Ln) (post : List Ln), S = L.map Prod.snd ++ bad :: post ∧ L.length = p ∧ (∀ x ∈ L, RowT x.1 x.2) ∧ FaultT bad w ∧ ∀ r ∈ post, Any r
def Good (G : List Ln) : Prop := ∃ L : List (D × Ln), G = L.map Prod.snd ∧ ∀ x ∈ L, RowT x.1 x.2
theorem row_any {d : D} {r : Ln} (h : RowT d r) : Any r := ⟨row_nl h, h.len⟩
theorem fault_any {r w : Ln} (h : FaultT r w) : Any r := ⟨h.nl, h.len⟩
theorem ins_len {α : Type} {p : Nat} {r : α} {S : List α} : (ins p r S).length = S.length + 1 := by
  simp [ins]; omega
theorem ins_any {p : Nat} {r : Ln} {S : List Ln} (hr : Any r) (h : ∀ x ∈ S, Any x) : ∀ x ∈ ins p r S, Any x := fun x hx => by
  unfold ins at hx
  rcases List.mem_append.mp hx with hx | hx
  · rcases List.mem_append.mp hx with hx | hx
    · exact h x (List.mem_of_mem_take hx)
    · simp at hx; rw [hx]; exact hr
  · exact h x (List.mem_of_mem_drop hx)
theorem good_ins {G : List Ln} {p : Nat} {d : D} {r : Ln} (h : Good G) (hr : RowT d r) : Good (ins p r G) := by
  obtain ⟨L, rfl, hL⟩ := h
  refine ⟨ins p (d, r) L, by rw [ins_map], fun x hx => ?_⟩
  unfold ins at hx
  rcases List.mem_append.mp hx with hx | hx
  · rcases List.mem_append.mp hx with hx | hx
    · exact hL x (List.mem_of_mem_take hx)
    · simp at hx; rw [hx]; exact hr
  · exact hL x (List.mem_of_mem_drop hx)
theorem bad_first {L : List (D × Ln)} {S : List Ln} {p : Nat} {r w : Ln} (hL : ∀ x ∈ L, RowT x.1 x.2) (hp : p ≤ L.length) (hr : FaultT r w) (hS : S.take p = (L.take p).map Prod.snd) (hpost : ∀ x ∈ S.drop p, Any x) : Bad (ins p r S) p w :=
  ⟨⟨L.take p, r, S.drop p, by unfold ins; rw [hS, List.append_assoc]; rfl, by rw [List.length_take]; omega, fun x hx => hL x (List.mem_of_mem_take hx), hr, hpost⟩⟩
theorem ins_cons {α : Type} {k : Nat} {r x : α} {B : List α} : ins (k + 1) r (x :: B) = x :: ins k r B := by simp [ins]
theorem ins_app {α : Type} {k : Nat} {r x : α} {B : List α} : ∀ A : List α, ins (A.length + 1 + k) r (A ++ x :: B) = A ++ x :: ins k r B
  | [] => by
    have e : ([] : List α).length + 1 + k = k + 1 := by simp; omega
    rw [e]; exact ins_cons
  | a :: A => by
    have e : (a :: A).length + 1 + k = (A.length + 1 + k) + 1 := by simp; omega
    rw [e, List.cons_append, ins_cons, ins_app A]; rfl
theorem bad_after {S : List Ln} {p q : Nat} {r w : Ln} (h : Bad S p w) (hq : p < q) (hr : Any r) : Bad (ins q r S) p w := by
  obtain ⟨L, bad, post, rfl, hl, hL, hb, hp⟩ := h.ex
  obtain ⟨k, rfl⟩ : ∃ k, q = p + 1 + k := ⟨q - p - 1, by omega⟩
  have e := ins_app (k := k) (r := r) (x := bad) (B := post) (L.map Prod.snd)
  rw [List.length_map, hl] at e
  rw [e]
  exact ⟨⟨L, bad, ins k r post, rfl, hl, hL, hb, ins_any hr hp⟩⟩
theorem ins_take {α : Type} {p q : Nat} {r : α} {S : List α} (h : q ≤ p) (hp : p ≤ S.length) : (ins p r S).take q = S.take q := by
  unfold ins
  rw [List.append_assoc, List.take_append_of_le_length (by rw [List.length_take]; omega), List.take_take, Nat.min_eq_left h]
/-- what the faults told are worth -/
theorem spoilt1 {L : List (D × Ln)} {p : Nat} {r w : Ln} (hL : ∀ x ∈ L, RowT x.1 x.2) (hp : p ≤ L.length) (hr : FaultT r w) : Bad (ins p r (L.map Prod.snd)) p w :=
  bad_first hL hp hr List.map_take.symm fun x hx => by
    obtain ⟨y, hy, rfl⟩ := List.mem_map.mp (List.mem_of_mem_drop hx)
    exact row_any (hL y hy)
theorem rows_any {L : List (D × Ln)} (hL : ∀ x ∈ L, RowT x.1 x.2) : ∀ x ∈ L.map Prod.snd, Any x := fun x hx => by
  obtain ⟨y, hy, rfl⟩ := List.mem_map.mp hx
  exact row_any (hL y hy)
theorem spoilt2 {L : List (D × Ln)} {p q : Nat} {r1 r2 w1 w2 : Ln} (hL : ∀ x ∈ L, RowT x.1 x.2) (hp : p ≤ L.length) (h1 : FaultT r1 w1) (h2 : FaultT r2 w2) (k1 : w1 ∈ kindL) (k2 : w2 ∈ kindL) (hq : q ≤ L.length + 1) :
    ∃ x : Nat × Ln, fMinL [.list ((([] ++ [(p, w1)]).map (shf q) ++ [(q, w2)]).map tupD)] = some (tupD x) ∧ Bad (ins q r2 (ins p r1 (L.map Prod.snd))) x.1 x.2 := by
  have hb := spoilt1 hL hp h1
  by_cases h : q ≤ p
  · refine ⟨(q, w2), ?_, ?_⟩
    · have e := min2 (x := (p + 1, w1)) (y := (q, w2)) k1 k2 (by show q ≠ p + 1; omega)
      rw [if_pos (by show q < p + 1; omega)] at e
      simpa [shf, h] using e
    · refine bad_first hL (by show q ≤ L.length; omega) h2 ?_ fun x hx => ?_
      · rw [ins_take h (by rw [List.length_map]; exact hp), List.map_take]
      · exact ins_any (fault_any h1) (rows_any hL) x (List.mem_of_mem_drop hx)
  · refine ⟨(p, w1), ?_, bad_after hb (by omega) (fault_any h2)⟩
    have e := min2 (x := (p, w1)) (y := (q, w2)) k1 k2 (by show q ≠ p; omega)
    rw [if_neg (by show ¬ q < p; omega)] at e
    simpa [shf, h] using e
end DL

set_option Elab.async false
set_option linter.all false
set_option maxRecDepth 100000
set_option maxHeartbeats 4000000
namespace DL
open PySem PySem.Spec L2 TL

/-! ### the end of the law -/
theorem i2b (v : Bool) : dIsi2 "tuple" "list" (.bool v) = some (.bool false) := rfl
theorem idb (v : Bool) : dIsi "dict" (.bool v) = some (.bool false) := rfl
theorem ibb (v : Bool) : dIsi "bool" (.bool v) = some (.bool true) := rfl
theorem iib (v : Bool) : dIsi "int" (.bool v) = some (.bool true) := rfl
theorem isb (v : Bool) : dIsi "str" (.bool v) = some (.bool false) := rfl
theorem same_b {g : PF} {v : Bool} : runP 5 2 (b_law_same g) [.bool v, .bool v] = some (.d (.bool true)) := by
  simp [b_law_same, List.replicate, i2b, idb, ibb, iib, isb]
theorem same_ref {w : Ln} {i : Int} : f_law_same 10 [.tuple [ds (cs "BadText"), .int i, ds w, .bool true], .tuple [ds (cs "BadText"), .int i, ds w, .bool true]] = some (.d (.bool true)) := by
  refine same_t (fun x hx => ?_) (by simp)
  simp only [List.mem_cons, List.not_mem_nil, or_false] at hx
  rcases hx with rfl | rfl | rfl | rfl
  · exact same_s
  · exact same_i
  · exact same_s
  · exact same_b
def fTail : SS :=
  (sSeq (sAsg (gTupD (gsCons (gNm 16) (gsCons (gNm 14) gsNil))) (eCall fMinL (aCons (eNm 8) aNil)))
  (sSeq (sSet 18 (eBin dAdd (eJoinV (eK (ds (cs "\n"))) (oNm 9)) (eK (ds (cs "\n")))))
  (sSeq (sIf (bNot (bUn truD (eCallP (f_law_same 10) (aCons (eCallP f_law_a_refusal (aCons (eNm 18) aNil)) (aCons (eTup (aCons (eK (ds (cs "BadText"))) (aCons (eBin dAdd (eNm 16) (eK (.int 1))) (aCons (eNm 14) (aCons (eK (.bool true)) aNil))))) aNil)))))
  (sRet (eK (.bool false)))
  sNext)
  (sSeq (sSet 19 (eFz (oCallP f_read_lines (aCons (eJoinV (eK (ds (cs "\n"))) (oNm 10)) aNil))))
  (sRet (eAnd (eUn (dIsi "list") (eNm 19)) (eAnd (eB (bBin dEq (eCall fLen (aCons (eNm 19) aNil)) (eCallV fLen (oNm 10)))) (eB (bBin dEq (eBin dIx (eCallP f_law_a_refusal (aCons (eNm 18) aNil)) (eK (.int 0))) (eK (ds (cs "BadText"))))))))))))
@[simp] theorem eJoinV_ap {f : ES} {o : OS} {st : List Sl} : eJoinV f o st = (f st).bind fun r => (o r.2).bind fun q => (dJoin r.1 (.list q.1)).map fun z => (z, q.2) := rfl
theorem nl10 : cs "\n" = [10] := by decide
theorem join_bd {S : List Ln} (h : ∀ r ∈ S, Any r) (hl : S.length ≤ 100) : (joinL [10] S).length ≤ 40100 := by
  have h1 := joinL_len (m := [10]) (k := 400) (ps := S) fun p hp => (h p hp).2
  exact Nat.le_trans h1 (Nat.le_trans (Nat.mul_le_mul_right _ hl) (by decide))
theorem tail_ok {x0 x4 x5 x6 x11 y12 y13 y14 y15 : Sl} {s : List D} {a b : Ln} {N S G : List Ln} {F : List (Nat × Ln)} {x : Nat × Ln} (hm : fMinL [.list (F.map tupD)] = some (tupD x)) (hb : Bad S x.1 x.2) (hg : Good G) (hS : S.length ≤ 100) (hG : G.length ≤ 100) (hne : G ≠ []) :
    ∃ st', fTail (fSt x0 s a b x4 x5 x6 N F S G x11 y12 y13 y14 y15) = some (.rt (.bool true) st') := by
  obtain ⟨p, w⟩ := x
  obtain ⟨L, bad, post, eS, hp, hL, hf, hpost⟩ := hb.ex
  obtain ⟨K, eG, hK⟩ := hg
  have lS := congrArg List.length eS
  simp only [List.length_append, List.length_map, List.length_cons] at lS
  have hx := readx_ok hL hf hpost (by omega)
  have hr := refusal_ok hx
  rw [← eS, hp] at hr
  have anyS : ∀ r ∈ S, Any r := fun r hr => by
    rw [eS] at hr
    rcases List.mem_append.mp hr with hr | hr
    · exact rows_any hL r hr
    · rcases List.mem_cons.mp hr with rfl | hr
      · exact fault_any hf
      · exact hpost r hr
  have anyG : ∀ r ∈ G, Any r := by rw [eG]; exact rows_any hK
  have bS : Bd (joinL [10] S) 40100 := ⟨join_bd anyS hS⟩
  have b1 : Bd [10] 1 := ⟨by decide⟩
  have jS : dJoin (ds [10]) (.list (S.map ds)) = some (ds (joinL [10] S)) := dJoin_lk 400 (fun r hr => (anyS r hr).2) (Nat.le_trans (Nat.mul_le_mul_right _ hS) (by decide))
  have jG : dJoin (ds [10]) (.list (G.map ds)) = some (ds (joinL [10] G)) := dJoin_lk 400 (fun r hr => (anyG r hr).2) (Nat.le_trans (Nat.mul_le_mul_right _ hG) (by decide))
  have hd : dAdd (ds (joinL [10] S)) (ds [10]) = some (ds (joinL [10] S ++ [10])) := dAdd_ok (by decide)
  have eT := join_nl' (rows := S) (by rw [eS]; simp)
  rw [← eT] at hd
  have lK : K.length = G.length := by rw [eG, List.length_map]
  have rl := read_lines_ok (L := K) ⟨hK, by omega⟩ (t := joinL [10] G) (.inr ⟨by rw [← eG]; exact hne, by rw [← eG]⟩) (Nat.le_trans (join_bd anyG hG) (by decide))
  have hs := same_ref (w := w) (i := (p : Int) + 1)
  generalize joinL [10] (S ++ [[]]) = T at *
  generalize joinL [10] S = JS at *
  generalize joinL [10] G = JG at *
  have hm' : fMinL [.list (F.map tupD)] = some (.tuple [.int p, ds w]) := hm
  have lG : ((G.map ds).length : Int) = ((K.map Prod.fst).length : Int) := by rw [List.length_map, List.length_map, lK]
  unfold fSt fTail
  generalize S.map ds = S1 at *
  generalize G.map ds = G1 at *
  generalize F.map tupD = F1 at *
  generalize K.map Prod.fst = K1 at *
  exact ⟨_, by simp [-dAdd_ss, hm', nl10, jS, hd, hr, hs, jG, rl, ill, lG, at_0]; rfl⟩
end DL

set_option Elab.async false
set_option linter.all false
set_option maxRecDepth 100000
set_option maxHeartbeats 4000000
namespace DL
open PySem PySem.Spec L2 TL

/-! ### the sources -/
def srcBody : SS := (sSet 2 (eBin dMod (eBin dAdd (eBin dAdd (eBin dAdd (eBin dMul (eNm 2) (eK (.int 69621))) (eBin dMul (eBin dMod (eCall fAbs (aCons (eCall fInt (aCons (eNm 3) aNil)) aNil)) (eK (.int 1000003))) (eK (.int 2)))) (eCall fInt (aCons (eB (bBin dLt (eNm 3) (eK (.int 0)))) aNil))) (eK (.int 17))) (eK (.int 2147483647))))
theorem src_loop {a b : Sl} : ∀ (items : List Int) (seed : Int) (y3 : Sl), ∃ seed' y3', forS (gNm 3) srcBody (items.map PyData.int) [a, b, .d (.int seed), y3, .no] = some (.nx [a, b, .d (.int seed'), y3', .no])
  | [], seed, y3 => ⟨seed, y3, rfl⟩
  | x :: r, seed, y3 => by
    have step : ∃ s1 : Int, srcBody [a, b, .d (.int seed), .d (.int x), .no] = some (.nx [a, b, .d (.int s1), .d (.int x), .no]) := by
      refine ⟨(seed * 69621 + (if x < 0 then -x else x) % 1000003 * 2 + (if x < 0 then 1 else 0) + 17) % 2147483647, ?_⟩
      simp [srcBody, dMul, dMod]
    obtain ⟨s1, e1⟩ := step
    obtain ⟨seed', y3', e⟩ := src_loop (a := a) (b := b) r s1 (.d (.int x))
    refine ⟨seed', y3', ?_⟩
    rw [List.map_cons, forS_cons, gNm_ap, Option.bind_some]
    show (srcBody [a, b, .d (.int seed), .d (.int x), .no]).bind _ = _
    rw [e1]
    exact e
theorem cell_ok {ns : List Int} {k : Nat} : ∃ c : Int, f_law_cell [.list (ns.map PyData.int), .int k] = some (.d (.int c)) := by
  by_cases h : k < ns.length
  · have h' : (k : Int) < ns.length := by omega
    have e : atI (ns.map PyData.int) (k : Int) = some (.int ns[k]) := by
      rw [at_n, List.getElem?_map, List.getElem?_eq_getElem h]
      rfl
    exact ⟨ns[k], by simp [f_law_cell, b_law_cell, List.replicate, h, e]⟩
  · exact ⟨0, by simp [f_law_cell, b_law_cell, List.replicate, h]⟩
theorem pow18 : dPow (.int 10) (.int 18) = some (.int 1000000000000000000) := by rfl
theorem src_q1 {a : D} {k : Int} : sSet 2 (eBin dAdd (eK (.int 1009)) (eBin dMul (eNm 1) (eK (.int 7919)))) [.d a, .d (.int k), .no, .no, .no] = some (.nx [.d a, .d (.int k), .d (.int (1009 + k * 7919)), .no, .no]) := by
  simp [dMul]
theorem src_q2 {xs : List D} {k : Int} {seed : Int} (h : xs.length ≤ 63) : iAny (eSl (eNm 0) pNo (pYes (eK (.int 63)))) [.d (.list xs), .d (.int k), .d (.int seed), .no, .no] = some (xs, [.d (.list xs), .d (.int k), .d (.int seed), .no, .no]) := by
  have e63 : dSl (.list xs) none (some 63) = some (.list xs) := by
    have := dSl_to (xs := xs) 63
    rw [List.take_of_length_le h] at this
    exact this
  simp [e63]
theorem src_q3 {a : D} {k c c' seed : Int} {y3 : Sl} (ec : f_law_cell [a, .int k] = some (.d (.int c))) (ec' : fAbs [.int c] = some (.int c')) : sSet 3 (eCall fAbs (aCons (eCallP f_law_cell (aCons (eNm 0) (aCons (eNm 1) aNil))) aNil)) [.d a, .d (.int k), .d (.int seed), y3, .no] = some (.nx [.d a, .d (.int k), .d (.int seed), .d (.int c'), .no]) := by
  simp [-fAbs_i, ec, ec']
theorem src_p {st : List Sl} : eBin dPow (eK (.int 10)) (eK (.int 18)) st = some (.int 1000000000000000000, st) := by
  rw [eBin_ap, eK_ap, Option.bind_some, eK_ap, Option.bind_some]
  simp only []
  rw [pow18]
  rfl
theorem src_hc {a : D} {k c' seed : Int} : bBin dGe (eNm 3) (eBin dPow (eK (.int 10)) (eK (.int 18))) [.d a, .d (.int k), .d (.int seed), .d (.int c'), .no] = some (decide ((1000000000000000000 : Int) ≤ c'), [.d a, .d (.int k), .d (.int seed), .d (.int c'), .no]) := by
  rw [bBin_ap, eNm_ap]
  simp only [List.getElem?_cons_succ, List.getElem?_cons_zero, Option.bind_some, src_p]
  rfl
theorem src_q4 {a : D} {k c' seed : Int} : ∃ g : Int, sSet 4 (eIf (bBin dGe (eNm 3) (eBin dPow (eK (.int 10)) (eK (.int 18)))) (eNm 3) (eK (.int 0))) [.d a, .d (.int k), .d (.int seed), .d (.int c'), .no] = some (.nx [.d a, .d (.int k), .d (.int seed), .d (.int c'), .d (.int g)]) := by
  rw [sSet_ap, eIf_ap, src_hc, Option.bind_some]
  generalize decide ((1000000000000000000 : Int) ≤ c') = b
  cases b with
  | true => exact ⟨c', rfl⟩
  | false => exact ⟨0, rfl⟩
theorem src_q5 {a : D} {k c' seed g : Int} : sRetO (oLst (aCons (eNm 4) (aCons (eNm 2) (aCons (eBin dMod (eBin dAdd (eBin dAdd (eBin dMul (eNm 2) (eK (.int 48271))) (eBin dMod (eNm 3) (eK (.int 1000033)))) (eK (.int 5))) (eK (.int 2147483629))) (aCons (eK (.int 0)) aNil))))) [.d a, .d (.int k), .d (.int seed), .d (.int c'), .d (.int g)] = some (.ro [.int g, .int seed, .int ((seed * 48271 + c' % 1000033 + 5) % 2147483629), .int 0] [.d a, .d (.int k), .d (.int seed), .d (.int c'), .d (.int g)]) := by
  simp [dMul, dMod]
theorem source_gen {ns : List Int} (h : ns.length ≤ 63) (k : Nat) : ∃ s, f_law_source [.list (ns.map PyData.int), .int k] = some (.o s) ∧ St4 s := by
  obtain ⟨c, ec⟩ := cell_ok (ns := ns) (k := k)
  obtain ⟨seed, y3, e1⟩ := src_loop (a := .d (.list (ns.map PyData.int))) (b := .d (.int k)) ns (1009 + k * 7919) .no
  have eB : b_law_source = sSeq (sSet 2 (eBin dAdd (eK (.int 1009)) (eBin dMul (eNm 1) (eK (.int 7919))))) (sSeq (sFor (gNm 3) (iAny (eSl (eNm 0) pNo (pYes (eK (.int 63))))) srcBody) (sSeq (sSet 3 (eCall fAbs (aCons (eCallP f_law_cell (aCons (eNm 0) (aCons (eNm 1) aNil))) aNil)))
  (sSeq (sSet 4 (eIf (bBin dGe (eNm 3) (eBin dPow (eK (.int 10)) (eK (.int 18)))) (eNm 3) (eK (.int 0))))
  (sRetO (oLst (aCons (eNm 4) (aCons (eNm 2) (aCons (eBin dMod (eBin dAdd (eBin dAdd (eBin dMul (eNm 2) (eK (.int 48271))) (eBin dMod (eNm 3) (eK (.int 1000033)))) (eK (.int 5))) (eK (.int 2147483629))) (aCons (eK (.int 0)) aNil))))))))) := rfl
  have s0 : startD 5 [PyData.list (ns.map PyData.int), .int (k : Int)] = [.d (.list (ns.map PyData.int)), .d (.int k), .no, .no, .no] := rfl
  obtain ⟨g, q4⟩ := src_q4 (a := .list (ns.map PyData.int)) (k := k) (c' := if c < 0 then -c else c) (seed := seed)
  refine ⟨[.int g, .int seed, .int ((seed * 48271 + (if c < 0 then -c else c) % 1000033 + 5) % 2147483629), .int 0], ?_, ⟨_, _, _, _, rfl⟩⟩
  rw [f_law_source, runP_ap, if_pos (by rfl), s0, eB, sSeq_ap, src_q1, Option.bind_some]
  simp only []
  rw [sSeq_ap, sFor_ap, src_q2 (by rw [List.length_map]; exact h), Option.bind_some, e1, Option.bind_some]
  simp only []
  rw [sSeq_ap, src_q3 ec fAbs_i, Option.bind_some]
  simp only []
  rw [sSeq_ap, q4, Option.bind_some]
  simp only []
  rw [src_q5]
  rfl

/-! ### the law -/
theorem comp_rows {x0 x1 x2 x3 : Sl} {L : List (D × Ln)} (hL : ∀ x ∈ L, RowT x.1 x.2) (hl : L.length ≤ 100) : oComp 6 bYes (eCallP f_law_line_words (aCons (eNm 6) aNil)) (iAny (eNm 4)) [x0, x1, x2, x3, .d (.list (L.map Prod.fst)), .no, .no, .no, .no, .no, .no, .no, .no, .no, .no, .no, .no, .no, .no, .no] =
    some ((L.map Prod.snd).map ds, [x0, x1, x2, x3, .d (.list (L.map Prod.fst)), .no, .no, .no, .no, .no, .no, .no, .no, .no, .no, .no, .no, .no, .no, .no]) := by
  have e := compS_map (i := 6) (f := eCallP f_law_line_words (aCons (eNm 6) aNil)) (st := [x0, x1, x2, x3, .d (.list (L.map Prod.fst)), .no, .no, .no, .no, .no, .no, .no, .no, .no, .no, .no, .no, .no, .no, .no]) (a := Prod.fst) (b := fun x : D × Ln => ds x.2) (items := L) fun x hx => by
    simp [(row_words (hL x hx)).2]
  rw [List.map_map]
  exact oComp_ok (items := L.map Prod.fst) rfl rfl (by rw [List.length_map]; omega) e
theorem law_true (ns : List Int) (h : ns.length ≤ 63) : f_law [.list (ns.map PySem.PyData.int)] = some (.d (.bool true)) := by
  obtain ⟨s0, a0, h0⟩ := source_gen h 0
  obtain ⟨a, b, s1, a1, h1, ha, hb⟩ := words_gen2 h0
  obtain ⟨n, s2, a2, h2, hn⟩ := pick_i 8 h1
  obtain ⟨L, s3, a3, h3, hL, hLn⟩ := lines_len (n := n) h2 (by omega)
  have hL8 : L.length ≤ 7 := by omega
  have a0' : f_law_source [.list (ns.map PyData.int), .int 0] = some (.o s0) := a0
  have en := near_eval ha hb
  have hN : (nearTx a b).length = 15 := rfl
  have hrow := near_row ha hb
  have hlen := near_len ha hb
  obtain ⟨m, s4, a4, h4, hm⟩ := pick_i 2 h3
  have cr := fun x0 x1 x2 x3 => comp_rows (x0 := x0) (x1 := x1) (x2 := x2) (x3 := x3) hL.1 hL.2
  have hst : startD (20 - 1) [] = ([.no, .no, .no, .no, .no, .no, .no, .no, .no, .no, .no, .no, .no, .no, .no, .no, .no, .no, .no] : List Sl) := rfl
  have hgood : Good (L.map Prod.snd) := ⟨L, rfl, hL.1⟩
  have hSl : (L.map Prod.snd).length ≤ 7 := by rw [List.length_map]; exact hL8
  -- the loop and what is behind it
  have loop : ∃ st', (sSeq (sFor (gNm 11) (iRng (aCons (eBin dAdd (eK (.int 1)) (eCallS f_law_pick 1 (aCons (eK (.int 2)) aNil))) aNil)) fBody) fTail)
      (fSt (.d (.list (ns.map PyData.int))) s3 a b (.d (.list (L.map Prod.fst))) (.d (.list ((L.map Prod.snd).map ds))) .no (nearTx a b) [] (L.map Prod.snd) (L.map Prod.snd) .no .no .no .no .no) = some (.rt (.bool true) st') := by
    generalize nearTx a b = N at *
    have rg : iRng (aCons (eBin dAdd (eK (.int 1)) (eCallS f_law_pick 1 (aCons (eK (.int 2)) aNil))) aNil) (fSt (.d (.list (ns.map PyData.int))) s3 a b (.d (.list (L.map Prod.fst))) (.d (.list ((L.map Prod.snd).map ds))) .no N [] (L.map Prod.snd) (L.map Prod.snd) .no .no .no .no .no) =
        some (rints 0 (1 + m), fSt (.d (.list (ns.map PyData.int))) s4 a b (.d (.list (L.map Prod.fst))) (.d (.list ((L.map Prod.snd).map ds))) .no N [] (L.map Prod.snd) (L.map Prod.snd) .no .no .no .no .no) := by
      refine rng_ok ?_ (by omega)
      simp [fSt, a4]
    obtain ⟨g1, d1, r1, w1, p1, s5, hd1, hf1, hk1, hp1, h5, e1⟩ := round_ok (x0 := .d (.list (ns.map PyData.int))) (x4 := .d (.list (L.map Prod.fst))) (x5 := .d (.list ((L.map Prod.snd).map ds))) (x6 := .no) (x11 := .d (.int 0)) (y12 := .no) (y13 := .no) (y14 := .no) (y15 := .no) (F := []) (S := L.map Prod.snd) (G := L.map Prod.snd) ha hb hN hrow hlen h4 (by omega) (by omega) (by decide)
    have hp1' : p1 ≤ L.length := by rw [List.length_map] at hp1; exact hp1
    have hm' : m = 0 ∨ m = 1 := by omega
    rcases hm' with rfl | rfl
    · have er : rints 0 (1 + 0) = [.int 0] := by rfl
      obtain ⟨st', t⟩ := tail_ok (x0 := .d (.list (ns.map PyData.int))) (x4 := .d (.list (L.map Prod.fst))) (x5 := .d (.list ((L.map Prod.snd).map ds))) (x6 := .no) (s := s5) (a := a) (b := b) (N := N) (x11 := .d (.int 0)) (y12 := .d (ds g1)) (y13 := .d (ds r1)) (y14 := .d (ds w1)) (y15 := .d (.int p1)) (F := [].map (shf p1) ++ [(p1, w1)]) (x := (p1, w1)) (by simpa using min1 (x := (p1, w1)) hk1) (spoilt1 hL.1 hp1' hf1) (good_ins (p := p1) hgood hd1) (by rw [ins_len]; omega) (by rw [ins_len]; omega) (by
        intro z
        have := congrArg List.length z
        rw [ins_len] at this
        simp at this)
      refine ⟨st', ?_⟩
      rw [sSeq_ap, sFor_ap, rg, Option.bind_some, er, forS_cons, gNm_ap, Option.bind_some]
      show ((fBody (fSt _ s4 a b _ _ .no N [] (L.map Prod.snd) (L.map Prod.snd) (.d (.int 0)) .no .no .no .no)).bind _).bind _ = _
      rw [e1]
      exact t
    · have er : rints 0 (1 + 1) = [.int 0, .int 1] := by rfl
      obtain ⟨g2, d2, r2, w2, p2, s6, hd2, hf2, hk2, hp2, h6, e2⟩ := round_ok (x0 := .d (.list (ns.map PyData.int))) (x4 := .d (.list (L.map Prod.fst))) (x5 := .d (.list ((L.map Prod.snd).map ds))) (x6 := .no) (x11 := .d (.int 1)) (y12 := .d (ds g1)) (y13 := .d (ds r1)) (y14 := .d (ds w1)) (y15 := .d (.int p1)) (F := [].map (shf p1) ++ [(p1, w1)]) (S := ins p1 r1 (L.map Prod.snd)) (G := ins p1 g1 (L.map Prod.snd)) ha hb hN hrow hlen h5 (by rw [ins_len]; omega) (by rw [ins_len]; omega) (by simp)
      rw [ins_len, List.length_map] at hp2
      obtain ⟨x, hx, hbad⟩ := spoilt2 hL.1 hp1' hf1 hf2 hk1 hk2 hp2
      obtain ⟨st', t⟩ := tail_ok (x0 := .d (.list (ns.map PyData.int))) (x4 := .d (.list (L.map Prod.fst))) (x5 := .d (.list ((L.map Prod.snd).map ds))) (x6 := .no) (s := s6) (a := a) (b := b) (N := N) (x11 := .d (.int 1)) (y12 := .d (ds g2)) (y13 := .d (ds r2)) (y14 := .d (ds w2)) (y15 := .d (.int p2)) (x := x) hx hbad (good_ins (p := p2) (good_ins (p := p1) hgood hd1) hd2) (by rw [ins_len, ins_len]; omega) (by rw [ins_len, ins_len]; omega) (by
        intro z
        have := congrArg List.length z
        rw [ins_len] at this
        simp at this)
      refine ⟨st', ?_⟩
      rw [sSeq_ap, sFor_ap, rg, Option.bind_some, er, forS_cons, gNm_ap, Option.bind_some]
      show ((fBody (fSt _ s4 a b _ _ .no N [] (L.map Prod.snd) (L.map Prod.snd) (.d (.int 0)) .no .no .no .no)).bind _).bind _ = _
      rw [e1, Option.bind_some]
      simp only []
      rw [forS_cons, gNm_ap, Option.bind_some]
      show ((fBody (fSt _ s5 a b _ _ .no N _ _ _ (.d (.int 1)) (.d (ds g1)) (.d (ds r1)) (.d (ds w1)) (.d (.int p1)))).bind _).bind _ = _
      rw [e2]
      exact t
  obtain ⟨st', loop⟩ := loop
  have eB : b_law = (sSeq (sSetO 1 (oCallP f_law_source (aCons (eNm 0) (aCons (eK (.int 0)) aNil))))
  (sSeq (sAsg (gLstD (gsCons (gNm 2) (gsCons (gNm 3) gsNil))) (eFz (oCallS f_law_words 1 (aCons (eK (.int 2)) aNil))))
  (sSeq (sSet 4 (eFz (oCallS f_law_a_lines 1 (aCons (eCallS f_law_pick 1 (aCons (eK (.int 8)) aNil)) aNil))))
  (sSeq (sSet 5 (eFz (oComp 6 bYes (eCallP f_law_line_words (aCons (eNm 6) aNil)) (iAny (eNm 4)))))
  (sSeq (sSet 7 (eFz (oCallP f_law_a_near (aCons (eNm 2) (aCons (eNm 3) aNil)))))
  (sSeq (sSet 8 (eFz (oLst aNil)))
  (sSeq (sSetO 9 (oCall fList (aCons (eNm 5) aNil)))
  (sSeq (sSetO 10 (oCall fList (aCons (eNm 5) aNil)))
  (sSeq (sFor (gNm 11) (iRng (aCons (eBin dAdd (eK (.int 1)) (eCallS f_law_pick 1 (aCons (eK (.int 2)) aNil))) aNil)) fBody) fTail))))))))) := rfl
  generalize (sSeq (sFor (gNm 11) (iRng (aCons (eBin dAdd (eK (.int 1)) (eCallS f_law_pick 1 (aCons (eK (.int 2)) aNil))) aNil)) fBody) fTail) = LOOP at *
  unfold fSt at loop
  generalize nearTx a b = N at *
  have hl7 : ((L.map Prod.snd).map ds).length ≤ 1000 := by rw [List.length_map]; omega
  have eS : (L.map Prod.snd).map ds = (L.map Prod.snd).map ds := rfl
  generalize (L.map Prod.snd).map ds = R at *
  generalize L.map Prod.fst = LL at *
  generalize ns.map PyData.int = NS at *
  simp only [List.map_nil] at loop
  have q1 : sSetO 1 (oCallP f_law_source (aCons (eNm 0) (aCons (eK (.int 0)) aNil))) [.d (.list NS), .no, .no, .no, .no, .no, .no, .no, .no, .no, .no, .no, .no, .no, .no, .no, .no, .no, .no, .no] = some (.nx [.d (.list NS), .own s0, .no, .no, .no, .no, .no, .no, .no, .no, .no, .no, .no, .no, .no, .no, .no, .no, .no, .no]) := by simp [a0']
  have q2 : sAsg (gLstD (gsCons (gNm 2) (gsCons (gNm 3) gsNil))) (eFz (oCallS f_law_words 1 (aCons (eK (.int 2)) aNil))) [.d (.list NS), .own s0, .no, .no, .no, .no, .no, .no, .no, .no, .no, .no, .no, .no, .no, .no, .no, .no, .no, .no] = some (.nx [.d (.list NS), .own s1, .d (ds a), .d (ds b), .no, .no, .no, .no, .no, .no, .no, .no, .no, .no, .no, .no, .no, .no, .no, .no]) := by
    simp [a1]
    rfl
  have q3 : sSet 4 (eFz (oCallS f_law_a_lines 1 (aCons (eCallS f_law_pick 1 (aCons (eK (.int 8)) aNil)) aNil))) [.d (.list NS), .own s1, .d (ds a), .d (ds b), .no, .no, .no, .no, .no, .no, .no, .no, .no, .no, .no, .no, .no, .no, .no, .no] = some (.nx [.d (.list NS), .own s3, .d (ds a), .d (ds b), .d (.list LL), .no, .no, .no, .no, .no, .no, .no, .no, .no, .no, .no, .no, .no, .no, .no]) := by simp [a2, a3]
  have q4 : sSet 5 (eFz (oComp 6 bYes (eCallP f_law_line_words (aCons (eNm 6) aNil)) (iAny (eNm 4)))) [.d (.list NS), .own s3, .d (ds a), .d (ds b), .d (.list LL), .no, .no, .no, .no, .no, .no, .no, .no, .no, .no, .no, .no, .no, .no, .no] = some (.nx [.d (.list NS), .own s3, .d (ds a), .d (ds b), .d (.list LL), .d (.list R), .no, .no, .no, .no, .no, .no, .no, .no, .no, .no, .no, .no, .no, .no]) := by
    rw [sSet_ap, eFz_ap, cr]
    rfl
  have q5 : sSet 7 (eFz (oCallP f_law_a_near (aCons (eNm 2) (aCons (eNm 3) aNil)))) [.d (.list NS), .own s3, .d (ds a), .d (ds b), .d (.list LL), .d (.list R), .no, .no, .no, .no, .no, .no, .no, .no, .no, .no, .no, .no, .no, .no] = some (.nx [.d (.list NS), .own s3, .d (ds a), .d (ds b), .d (.list LL), .d (.list R), .no, .d (.list (N.map ds)), .no, .no, .no, .no, .no, .no, .no, .no, .no, .no, .no, .no]) := by simp [en]
  have q6 : sSet 8 (eFz (oLst aNil)) [.d (.list NS), .own s3, .d (ds a), .d (ds b), .d (.list LL), .d (.list R), .no, .d (.list (N.map ds)), .no, .no, .no, .no, .no, .no, .no, .no, .no, .no, .no, .no] = some (.nx [.d (.list NS), .own s3, .d (ds a), .d (ds b), .d (.list LL), .d (.list R), .no, .d (.list (N.map ds)), .d (.list []), .no, .no, .no, .no, .no, .no, .no, .no, .no, .no, .no]) := by simp
  have q7 : sSetO 9 (oCall fList (aCons (eNm 5) aNil)) [.d (.list NS), .own s3, .d (ds a), .d (ds b), .d (.list LL), .d (.list R), .no, .d (.list (N.map ds)), .d (.list []), .no, .no, .no, .no, .no, .no, .no, .no, .no, .no, .no] = some (.nx [.d (.list NS), .own s3, .d (ds a), .d (ds b), .d (.list LL), .d (.list R), .no, .d (.list (N.map ds)), .d (.list []), .own R, .no, .no, .no, .no, .no, .no, .no, .no, .no, .no]) := by simp
  have q8 : sSetO 10 (oCall fList (aCons (eNm 5) aNil)) [.d (.list NS), .own s3, .d (ds a), .d (ds b), .d (.list LL), .d (.list R), .no, .d (.list (N.map ds)), .d (.list []), .own R, .no, .no, .no, .no, .no, .no, .no, .no, .no, .no] = some (.nx [.d (.list NS), .own s3, .d (ds a), .d (ds b), .d (.list LL), .d (.list R), .no, .d (.list (N.map ds)), .d (.list []), .own R, .own R, .no, .no, .no, .no, .no, .no, .no, .no, .no]) := by simp
  have s0' : startD 20 [PyData.list NS] = [.d (.list NS), .no, .no, .no, .no, .no, .no, .no, .no, .no, .no, .no, .no, .no, .no, .no, .no, .no, .no, .no] := rfl
  rw [f_law, runP_ap, if_pos (by rfl), s0', eB, sSeq_ap, q1, Option.bind_some]
  simp only []
  rw [sSeq_ap, q2, Option.bind_some]
  simp only []
  rw [sSeq_ap, q3, Option.bind_some]
  simp only []
  rw [sSeq_ap, q4, Option.bind_some]
  simp only []
  rw [sSeq_ap, q5, Option.bind_some]
  simp only []
  rw [sSeq_ap, q6, Option.bind_some]
  simp only []
  rw [sSeq_ap, q7, Option.bind_some]
  simp only []
  rw [sSeq_ap, q8, Option.bind_some]
  simp only []
  rw [loop]
  rfl
end DL


set_option Elab.async false
set_option maxRecDepth 100000

open PySem PySem.W PyProof.Rows in
set_option maxRecDepth 100000 in
set_option maxHeartbeats 0 in
theorem PySem.Challenge.cw_mustask_k01_first_wrong_line_holds : PySem.Challenge.rw_mustask_k01_first_wrong_line.Holds := by
  w_on; o_law; k_head; (case hw => w_witness2)
  k_fill
  refine DL.walk_law (l := PySem.Challenge.rw_mustask_k01_first_wrong_line) (k := 12) (g := DL.f_law) rfl rfl ⟨rfl, by decide, by decide⟩ (fun w h Y => PySem.W.kIn_of Y) ?F DL.law_true
  case F =>
    intro w mg fa h KX G hmg
    refine' DL.dfn_go (x := "sign_fault") (st := DL.s_sign_fault) (ps := ["line"]) KX G ?a1 ?l1 ?c1 ?k1 (fun _ _ _ _ _ _ us hl => match us, hl with | [_], _ => rfl) ?go1
    (case a1 => k_is)
    (case l1 => k_is)
    (case c1 => k_is)
    (case k1 => k_is)
    intro a_sign_fault t_sign_fault d_sign_fault
    refine' DL.dfn_go (x := "is_figures") (st := DL.s_is_figures) (ps := ["token"]) KX G ?a2 ?l2 ?c2 ?k2 (fun _ _ _ _ _ _ us hl => match us, hl with | [_], _ => rfl) ?go2
    (case a2 => k_is)
    (case l2 => k_is)
    (case c2 => k_is)
    (case k2 => k_is)
    intro a_is_figures t_is_figures d_is_figures
    refine' DL.dfn_go (x := "is_number") (st := DL.s_is_number) (ps := ["token", "least", "most"]) KX G ?a3 ?l3 ?c3 ?k3 (fun _ _ _ _ _ _ us hl => match us, hl with | [_, _, _], _ => rfl) ?go3
    (case a3 => k_is)
    (case l3 => k_is)
    (case c3 => k_is)
    (case k3 => k_is)
    intro a_is_number t_is_number d_is_number
    refine' DL.dfn_go (x := "is_word") (st := DL.s_is_word) (ps := ["token"]) KX G ?a4 ?l4 ?c4 ?k4 (fun _ _ _ _ _ _ us hl => match us, hl with | [_], _ => rfl) ?go4
    (case a4 => k_is)
    (case l4 => k_is)
    (case c4 => k_is)
    (case k4 => k_is)
    intro a_is_word t_is_word d_is_word
    refine' DL.dfn_go (x := "is_version") (st := DL.s_is_version) (ps := ["token"]) KX G ?a5 ?l5 ?c5 ?k5 (fun _ _ _ _ _ _ us hl => match us, hl with | [_], _ => rfl) ?go5
    (case a5 => k_is)
    (case l5 => k_is)
    (case c5 => k_is)
    (case k5 => k_is)
    intro a_is_version t_is_version d_is_version
    refine' DL.dfn_go (x := "is_release") (st := DL.s_is_release) (ps := ["token"]) KX G ?a6 ?l6 ?c6 ?k6 (fun _ _ _ _ _ _ us hl => match us, hl with | [_], _ => rfl) ?go6
    (case a6 => k_is)
    (case l6 => k_is)
    (case c6 => k_is)
    (case k6 => k_is)
    intro a_is_release t_is_release d_is_release
    refine' DL.dfn_go (x := "is_price") (st := DL.s_is_price) (ps := ["token"]) KX G ?a7 ?l7 ?c7 ?k7 (fun _ _ _ _ _ _ us hl => match us, hl with | [_], _ => rfl) ?go7
    (case a7 => k_is)
    (case l7 => k_is)
    (case c7 => k_is)
    (case k7 => k_is)
    intro a_is_price t_is_price d_is_price
    refine' DL.dfn_go (x := "price_of") (st := DL.s_price_of) (ps := ["token"]) KX G ?a8 ?l8 ?c8 ?k8 (fun _ _ _ _ _ _ us hl => match us, hl with | [_], _ => rfl) ?go8
    (case a8 => k_is)
    (case l8 => k_is)
    (case c8 => k_is)
    (case k8 => k_is)
    intro a_price_of t_price_of d_price_of
    refine' DL.dfn_go (x := "is_short_name") (st := DL.s_is_short_name) (ps := ["token"]) KX G ?a9 ?l9 ?c9 ?k9 (fun _ _ _ _ _ _ us hl => match us, hl with | [_], _ => rfl) ?go9
    (case a9 => k_is)
    (case l9 => k_is)
    (case c9 => k_is)
    (case k9 => k_is)
    intro a_is_short_name t_is_short_name d_is_short_name
    refine' DL.dfn_go (x := "is_whole_name") (st := DL.s_is_whole_name) (ps := ["token"]) KX G ?a10 ?l10 ?c10 ?k10 (fun _ _ _ _ _ _ us hl => match us, hl with | [_], _ => rfl) ?go10
    (case a10 => k_is)
    (case l10 => k_is)
    (case c10 => k_is)
    (case k10 => k_is)
    intro a_is_whole_name t_is_whole_name d_is_whole_name
    refine' DL.dfn_go (x := "split_tokens") (st := DL.s_split_tokens) (ps := ["tokens", "mark"]) KX G ?a11 ?l11 ?c11 ?k11 (fun _ _ _ _ _ _ us hl => match us, hl with | [_, _], _ => rfl) ?go11
    (case a11 => k_is)
    (case l11 => k_is)
    (case c11 => k_is)
    (case k11 => k_is)
    intro a_split_tokens t_split_tokens d_split_tokens
    refine' DL.dfn_go (x := "read_condition") (st := DL.s_read_condition) (ps := ["tokens", "whole"]) KX G ?a12 ?l12 ?c12 ?k12 (fun _ _ _ _ _ _ us hl => match us, hl with | [_, _], _ => rfl) ?go12
    (case a12 => k_is)
    (case l12 => k_is)
    (case c12 => k_is)
    (case k12 => k_is)
    intro a_read_condition t_read_condition d_read_condition
    refine' DL.dfn_go (x := "read_conditions") (st := DL.s_read_conditions) (ps := ["tokens", "mark", "least", "most"]) KX G ?a13 ?l13 ?c13 ?k13 (fun _ _ _ _ _ _ us hl => match us, hl with | [_, _, _, _], _ => rfl) ?go13
    (case a13 => k_is)
    (case l13 => k_is)
    (case c13 => k_is)
    (case k13 => k_is)
    intro a_read_conditions t_read_conditions d_read_conditions
    refine' DL.dfn_go (x := "read_need") (st := DL.s_read_need) (ps := ["tokens"]) KX G ?a14 ?l14 ?c14 ?k14 (fun _ _ _ _ _ _ us hl => match us, hl with | [_], _ => rfl) ?go14
    (case a14 => k_is)
    (case l14 => k_is)
    (case c14 => k_is)
    (case k14 => k_is)
    intro a_read_need t_read_need d_read_need
    refine' DL.dfn_go (x := "read_counted") (st := DL.s_read_counted) (ps := ["tokens"]) KX G ?a15 ?l15 ?c15 ?k15 (fun _ _ _ _ _ _ us hl => match us, hl with | [_], _ => rfl) ?go15
    (case a15 => k_is)
    (case l15 => k_is)
    (case c15 => k_is)
    (case k15 => k_is)
    intro a_read_counted t_read_counted d_read_counted
    refine' DL.dfn_go (x := "read_form") (st := DL.s_read_form) (ps := ["tokens"]) KX G ?a16 ?l16 ?c16 ?k16 (fun _ _ _ _ _ _ us hl => match us, hl with | [_], _ => rfl) ?go16
    (case a16 => k_is)
    (case l16 => k_is)
    (case c16 => k_is)
    (case k16 => k_is)
    intro a_read_form t_read_form d_read_form
    refine' DL.dfn_go (x := "bound_check") (st := DL.s_bound_check) (ps := ["what", "number"]) KX G ?a17 ?l17 ?c17 ?k17 (fun _ _ _ _ _ _ us hl => match us, hl with | [_, _], _ => rfl) ?go17
    (case a17 => k_is)
    (case l17 => k_is)
    (case c17 => k_is)
    (case k17 => k_is)
    intro a_bound_check t_bound_check d_bound_check
    refine' DL.dfn_go (x := "text_rows") (st := DL.s_text_rows) (ps := ["text"]) KX G ?a18 ?l18 ?c18 ?k18 (fun _ _ _ _ _ _ us hl => match us, hl with | [_], _ => rfl) ?go18
    (case a18 => k_is)
    (case l18 => k_is)
    (case c18 => k_is)
    (case k18 => k_is)
    intro a_text_rows t_text_rows d_text_rows
    refine' DL.dfn_go (x := "checked_rows") (st := DL.s_checked_rows) (ps := ["text"]) KX G ?a19 ?l19 ?c19 ?k19 (fun _ _ _ _ _ _ us hl => match us, hl with | [_], _ => rfl) ?go19
    (case a19 => k_is)
    (case l19 => k_is)
    (case c19 => k_is)
    (case k19 => k_is)
    intro a_checked_rows t_checked_rows d_checked_rows
    refine' DL.dfn_go (x := "read_release") (st := DL.s_read_release) (ps := ["tokens"]) KX G ?a20 ?l20 ?c20 ?k20 (fun _ _ _ _ _ _ us hl => match us, hl with | [_], _ => rfl) ?go20
    (case a20 => k_is)
    (case l20 => k_is)
    (case c20 => k_is)
    (case k20 => k_is)
    intro a_read_release t_read_release d_read_release
    refine' DL.dfn_go (x := "read_feature") (st := DL.s_read_feature) (ps := ["tokens"]) KX G ?a21 ?l21 ?c21 ?k21 (fun _ _ _ _ _ _ us hl => match us, hl with | [_], _ => rfl) ?go21
    (case a21 => k_is)
    (case l21 => k_is)
    (case c21 => k_is)
    (case k21 => k_is)
    intro a_read_feature t_read_feature d_read_feature
    refine' DL.dfn_go (x := "read_signer") (st := DL.s_read_signer) (ps := ["tokens"]) KX G ?a22 ?l22 ?c22 ?k22 (fun _ _ _ _ _ _ us hl => match us, hl with | [_], _ => rfl) ?go22
    (case a22 => k_is)
    (case l22 => k_is)
    (case c22 => k_is)
    (case k22 => k_is)
    intro a_read_signer t_read_signer d_read_signer
    refine' DL.dfn_go (x := "read_line") (st := DL.s_read_line) (ps := ["tokens"]) KX G ?a23 ?l23 ?c23 ?k23 (fun _ _ _ _ _ _ us hl => match us, hl with | [_], _ => rfl) ?go23
    (case a23 => k_is)
    (case l23 => k_is)
    (case c23 => k_is)
    (case k23 => k_is)
    intro a_read_line t_read_line d_read_line
    refine' DL.dfn_go (x := "read_lines") (st := DL.s_read_lines) (ps := ["text"]) KX G ?a24 ?l24 ?c24 ?k24 (fun _ _ _ _ _ _ us hl => match us, hl with | [_], _ => rfl) ?go24
    (case a24 => k_is)
    (case l24 => k_is)
    (case c24 => k_is)
    (case k24 => k_is)
    intro a_read_lines t_read_lines d_read_lines
    refine' DL.dfn_go (x := "_law_cell") (st := DL.s_law_cell) (ps := ["script", "at"]) KX G ?a25 ?l25 ?c25 ?k25 (fun _ _ _ _ _ _ us hl => match us, hl with | [_, _], _ => rfl) ?go25
    (case a25 => k_is)
    (case l25 => k_is)
    (case c25 => k_is)
    (case k25 => k_is)
    intro a_law_cell t_law_cell d_law_cell
    refine' DL.dfn_go (x := "_law_source") (st := DL.s_law_source) (ps := ["script", "at"]) KX G ?a26 ?l26 ?c26 ?k26 (fun _ _ _ _ _ _ us hl => match us, hl with | [_, _], _ => rfl) ?go26
    (case a26 => k_is)
    (case l26 => k_is)
    (case c26 => k_is)
    (case k26 => k_is)
    intro a_law_source t_law_source d_law_source
    refine' DL.dfn_go (x := "_law_pick") (st := DL.s_law_pick) (ps := ["s", "many"]) KX G ?a27 ?l27 ?c27 ?k27 (fun _ _ _ _ _ _ us hl => match us, hl with | [_, _], _ => rfl) ?go27
    (case a27 => k_is)
    (case l27 => k_is)
    (case c27 => k_is)
    (case k27 => k_is)
    intro a_law_pick t_law_pick d_law_pick
    refine' DL.dfn_go (x := "_law_number") (st := DL.s_law_number) (ps := ["s", "limit"]) KX G ?a28 ?l28 ?c28 ?k28 (fun _ _ _ _ _ _ us hl => match us, hl with | [_, _], _ => rfl) ?go28
    (case a28 => k_is)
    (case l28 => k_is)
    (case c28 => k_is)
    (case k28 => k_is)
    intro a_law_number t_law_number d_law_number
    refine' DL.dfn_go (x := "_law_kept") (st := DL.s_law_kept) (ps := []) KX G ?a29 ?l29 ?c29 ?k29 (fun _ _ _ _ _ _ us hl => match us, hl with | [], _ => rfl) ?go29
    (case a29 => k_is)
    (case l29 => k_is)
    (case c29 => k_is)
    (case k29 => k_is)
    intro a_law_kept t_law_kept d_law_kept
    refine' DL.dfn_go (x := "_law_words") (st := DL.s_law_words) (ps := ["s", "many"]) KX G ?a30 ?l30 ?c30 ?k30 (fun _ _ _ _ _ _ us hl => match us, hl with | [_, _], _ => rfl) ?go30
    (case a30 => k_is)
    (case l30 => k_is)
    (case c30 => k_is)
    (case k30 => k_is)
    intro a_law_words t_law_words d_law_words
    refine' DL.dfn_go (x := "_law_same") (st := DL.s_law_same) (ps := ["answer", "due"]) KX G ?a31 ?l31 ?c31 ?k31 (fun _ _ _ _ _ _ us hl => match us, hl with | [_, _], _ => rfl) ?go31
    (case a31 => k_is)
    (case l31 => k_is)
    (case c31 => k_is)
    (case k31 => k_is)
    intro a_law_same t_law_same d_law_same
    refine' DL.dfn_go (x := "_law_condition_words") (st := DL.s_law_condition_words) (ps := ["c"]) KX G ?a32 ?l32 ?c32 ?k32 (fun _ _ _ _ _ _ us hl => match us, hl with | [_], _ => rfl) ?go32
    (case a32 => k_is)
    (case l32 => k_is)
    (case c32 => k_is)
    (case k32 => k_is)
    intro a_law_condition_words t_law_condition_words d_law_condition_words
    refine' DL.dfn_go (x := "_law_parts") (st := DL.s_law_parts) (ps := ["form"]) KX G ?a33 ?l33 ?c33 ?k33 (fun _ _ _ _ _ _ us hl => match us, hl with | [_], _ => rfl) ?go33
    (case a33 => k_is)
    (case l33 => k_is)
    (case c33 => k_is)
    (case k33 => k_is)
    intro a_law_parts t_law_parts d_law_parts
    refine' DL.dfn_go (x := "_law_form_words") (st := DL.s_law_form_words) (ps := ["form"]) KX G ?a34 ?l34 ?c34 ?k34 (fun _ _ _ _ _ _ us hl => match us, hl with | [_], _ => rfl) ?go34
    (case a34 => k_is)
    (case l34 => k_is)
    (case c34 => k_is)
    (case k34 => k_is)
    intro a_law_form_words t_law_form_words d_law_form_words
    refine' DL.dfn_go (x := "_law_price_word") (st := DL.s_law_price_word) (ps := ["price"]) KX G ?a35 ?l35 ?c35 ?k35 (fun _ _ _ _ _ _ us hl => match us, hl with | [_], _ => rfl) ?go35
    (case a35 => k_is)
    (case l35 => k_is)
    (case c35 => k_is)
    (case k35 => k_is)
    intro a_law_price_word t_law_price_word d_law_price_word
    refine' DL.dfn_go (x := "_law_line_words") (st := DL.s_law_line_words) (ps := ["line"]) KX G ?a36 ?l36 ?c36 ?k36 (fun _ _ _ _ _ _ us hl => match us, hl with | [_], _ => rfl) ?go36
    (case a36 => k_is)
    (case l36 => k_is)
    (case c36 => k_is)
    (case k36 => k_is)
    intro a_law_line_words t_law_line_words d_law_line_words
    refine' DL.dfn_go (x := "_law_a_version") (st := DL.s_law_a_version) (ps := ["s"]) KX G ?a37 ?l37 ?c37 ?k37 (fun _ _ _ _ _ _ us hl => match us, hl with | [_], _ => rfl) ?go37
    (case a37 => k_is)
    (case l37 => k_is)
    (case c37 => k_is)
    (case k37 => k_is)
    intro a_law_a_version t_law_a_version d_law_a_version
    refine' DL.dfn_go (x := "_law_a_release") (st := DL.s_law_a_release) (ps := ["s"]) KX G ?a38 ?l38 ?c38 ?k38 (fun _ _ _ _ _ _ us hl => match us, hl with | [_], _ => rfl) ?go38
    (case a38 => k_is)
    (case l38 => k_is)
    (case c38 => k_is)
    (case k38 => k_is)
    intro a_law_a_release t_law_a_release d_law_a_release
    refine' DL.dfn_go (x := "_law_a_name") (st := DL.s_law_a_name) (ps := ["s", "words"]) KX G ?a39 ?l39 ?c39 ?k39 (fun _ _ _ _ _ _ us hl => match us, hl with | [_, _], _ => rfl) ?go39
    (case a39 => k_is)
    (case l39 => k_is)
    (case c39 => k_is)
    (case k39 => k_is)
    intro a_law_a_name t_law_a_name d_law_a_name
    refine' DL.dfn_go (x := "_law_a_price") (st := DL.s_law_a_price) (ps := ["s"]) KX G ?a40 ?l40 ?c40 ?k40 (fun _ _ _ _ _ _ us hl => match us, hl with | [_], _ => rfl) ?go40
    (case a40 => k_is)
    (case l40 => k_is)
    (case c40 => k_is)
    (case k40 => k_is)
    intro a_law_a_price t_law_a_price d_law_a_price
    refine' DL.dfn_go (x := "_law_a_condition") (st := DL.s_law_a_condition) (ps := ["s", "words"]) KX G ?a41 ?l41 ?c41 ?k41 (fun _ _ _ _ _ _ us hl => match us, hl with | [_, _], _ => rfl) ?go41
    (case a41 => k_is)
    (case l41 => k_is)
    (case c41 => k_is)
    (case k41 => k_is)
    intro a_law_a_condition t_law_a_condition d_law_a_condition
    refine' DL.dfn_go (x := "_law_a_conditions") (st := DL.s_law_a_conditions) (ps := ["s", "words", "least", "most"]) KX G ?a42 ?l42 ?c42 ?k42 (fun _ _ _ _ _ _ us hl => match us, hl with | [_, _, _, _], _ => rfl) ?go42
    (case a42 => k_is)
    (case l42 => k_is)
    (case c42 => k_is)
    (case k42 => k_is)
    intro a_law_a_conditions t_law_a_conditions d_law_a_conditions
    refine' DL.dfn_go (x := "_law_a_form") (st := DL.s_law_a_form) (ps := ["s", "words"]) KX G ?a43 ?l43 ?c43 ?k43 (fun _ _ _ _ _ _ us hl => match us, hl with | [_, _], _ => rfl) ?go43
    (case a43 => k_is)
    (case l43 => k_is)
    (case c43 => k_is)
    (case k43 => k_is)
    intro a_law_a_form t_law_a_form d_law_a_form
    refine' DL.dfn_go (x := "_law_a_line") (st := DL.s_law_a_line) (ps := ["s", "words"]) KX G ?a44 ?l44 ?c44 ?k44 (fun _ _ _ _ _ _ us hl => match us, hl with | [_, _], _ => rfl) ?go44
    (case a44 => k_is)
    (case l44 => k_is)
    (case c44 => k_is)
    (case k44 => k_is)
    intro a_law_a_line t_law_a_line d_law_a_line
    refine' DL.dfn_go (x := "_law_a_lines") (st := DL.s_law_a_lines) (ps := ["s", "many"]) KX G ?a45 ?l45 ?c45 ?k45 (fun _ _ _ _ _ _ us hl => match us, hl with | [_, _], _ => rfl) ?go45
    (case a45 => k_is)
    (case l45 => k_is)
    (case c45 => k_is)
    (case k45 => k_is)
    intro a_law_a_lines t_law_a_lines d_law_a_lines
    refine' DL.dfn_go (x := "_law_a_sign") (st := DL.s_law_a_sign) (ps := ["s", "right"]) KX G ?a46 ?l46 ?c46 ?k46 (fun _ _ _ _ _ _ us hl => match us, hl with | [_, _], _ => rfl) ?go46
    (case a46 => k_is)
    (case l46 => k_is)
    (case c46 => k_is)
    (case k46 => k_is)
    intro a_law_a_sign t_law_a_sign d_law_a_sign
    refine' DL.dfn_go (x := "_law_a_wrong") (st := DL.s_law_a_wrong) (ps := ["a", "b"]) KX G ?a47 ?l47 ?c47 ?k47 (fun _ _ _ _ _ _ us hl => match us, hl with | [_, _], _ => rfl) ?go47
    (case a47 => k_is)
    (case l47 => k_is)
    (case c47 => k_is)
    (case k47 => k_is)
    intro a_law_a_wrong t_law_a_wrong d_law_a_wrong
    refine' DL.dfn_go (x := "_law_a_near") (st := DL.s_law_a_near) (ps := ["a", "b"]) KX G ?a48 ?l48 ?c48 ?k48 (fun _ _ _ _ _ _ us hl => match us, hl with | [_, _], _ => rfl) ?go48
    (case a48 => k_is)
    (case l48 => k_is)
    (case c48 => k_is)
    (case k48 => k_is)
    intro a_law_a_near t_law_a_near d_law_a_near
    refine' DL.dfn_go (x := "_law_a_fault") (st := DL.s_law_a_fault) (ps := ["s", "a", "b", "right"]) KX G ?a49 ?l49 ?c49 ?k49 (fun _ _ _ _ _ _ us hl => match us, hl with | [_, _, _, _], _ => rfl) ?go49
    (case a49 => k_is)
    (case l49 => k_is)
    (case c49 => k_is)
    (case k49 => k_is)
    intro a_law_a_fault t_law_a_fault d_law_a_fault
    refine' DL.dfn_go (x := "_law_a_refusal") (st := DL.s_law_a_refusal) (ps := ["text"]) KX G ?a50 ?l50 ?c50 ?k50 (fun _ _ _ _ _ _ us hl => match us, hl with | [_], _ => rfl) ?go50
    (case a50 => k_is)
    (case l50 => k_is)
    (case c50 => k_is)
    (case k50 => k_is)
    intro a_law_a_refusal t_law_a_refusal d_law_a_refusal
    refine' DL.dfn_law (x := "law") (st := DL.s_law) (ps := ["script"]) KX G ?a51 ?l51 ?c51 ?k51 (fun _ _ _ _ _ _ us hl => match us, hl with | [_], _ => rfl) ?go51
    (case a51 => k_is)
    (case l51 => k_is)
    (case c51 => k_is)
    (case k51 => k_is)
    intro a_law t_law d_law bind_law
    refine' DL.glob_str_go (x := "LETTERS") (l := DL.cs "abcdefghijklmnopqrstuvwxyz") KX G ?a_LETTERS ?e_LETTERS ?g_LETTERS
    (case a_LETTERS => k_is)
    (case e_LETTERS => decide +kernel)
    intro k_LETTERS
    refine' DL.glob_str_go (x := "FIGURES") (l := DL.cs "0123456789") KX G ?a_FIGURES ?e_FIGURES ?g_FIGURES
    (case a_FIGURES => k_is)
    (case e_FIGURES => decide +kernel)
    intro k_FIGURES
    refine' DL.glob_str_go (x := "SIGNS") (l := DL.cs "abcdefghijklmnopqrstuvwxyz0123456789 .,:+") KX G ?a_SIGNS ?e_SIGNS ?g_SIGNS
    (case a_SIGNS => k_is)
    (case e_SIGNS => decide +kernel)
    intro k_SIGNS
    refine' DL.glob_tup_go (x := "KEPT") (ls := [DL.cs "name", DL.cs "hidden", DL.cs "release", DL.cs "feature", DL.cs "row", DL.cs "start", DL.cs "later", DL.cs "signer", DL.cs "book", DL.cs "end", DL.cs "after", DL.cs "up", DL.cs "down", DL.cs "never", DL.cs "from", DL.cs "not", DL.cs "at", DL.cs "none", DL.cs "on", DL.cs "need", DL.cs "clash", DL.cs "either", DL.cs "same", DL.cs "most", DL.cs "least", DL.cs "of", DL.cs "and", DL.cs "or", DL.cs "come", DL.cs "go", DL.cs "publish", DL.cs "withdraw", DL.cs "answer", DL.cs "letter", DL.cs "heard"]) KX G ?a_KEPT ?l_KEPT ?e_KEPT ?z_KEPT ?g_KEPT
    (case a_KEPT => k_is)
    (case l_KEPT => k_is)
    (case e_KEPT => decide +kernel)
    (case z_KEPT => decide +kernel)
    intro k_KEPT
    refine' DL.glob_int_go (x := "GREATEST_PRICE") (z := 1000000000) KX G ?a_GREATEST_PRICE ?g_GREATEST_PRICE
    (case a_GREATEST_PRICE => k_is)
    intro k_GREATEST_PRICE
    refine' DL.tab_go (x := "LIMITS") (w := w) (kvs := [(DL.cs "lines", 900), (DL.cs "signs", 400)]) KX G ?a_LIMITS ?r_LIMITS ?g_LIMITS
    (case a_LIMITS => k_is)
    (case r_LIMITS =>
      refine' DL.tab_cons (w := w) ?lLIMITS0 ?kLIMITS0 ?eLIMITS0 ?rLIMITS0
      (case lLIMITS0 => k_is)
      (case kLIMITS0 => repeat (first | exact True.intro | refine' ⟨⟨_, _, rfl, rfl⟩, ?_⟩))
      (case eLIMITS0 => k_is)
      refine' DL.tab_cons (w := w) ?lLIMITS1 ?kLIMITS1 ?eLIMITS1 ?rLIMITS1
      (case lLIMITS1 => k_is)
      (case kLIMITS1 => repeat (first | exact True.intro | refine' ⟨⟨_, _, rfl, rfl⟩, ?_⟩))
      (case eLIMITS1 => k_is)
      exact fun _ _ z => by cases z)
    intro k_LIMITS
    refine' DL.glob_tup_go (x := "FIRST_WORDS") (ls := [DL.cs "name", DL.cs "hidden", DL.cs "release", DL.cs "feature", DL.cs "row", DL.cs "start", DL.cs "later", DL.cs "signer", DL.cs "book", DL.cs "end"]) KX G ?a_FIRST_WORDS ?l_FIRST_WORDS ?e_FIRST_WORDS ?z_FIRST_WORDS ?g_FIRST_WORDS
    (case a_FIRST_WORDS => k_is)
    (case l_FIRST_WORDS => k_is)
    (case e_FIRST_WORDS => decide +kernel)
    (case z_FIRST_WORDS => decide +kernel)
    intro k_FIRST_WORDS
    refine' DL.err_go (c := "BadText") (fs := ["line", "what"]) KX G ?aC_BadText ?xL_BadText ?hb_BadText ?sa_BadText ?ga_BadText ?gg_BadText (DL.no_two ?n1_BadText ?n2_BadText) ?kC_BadText ?eC_BadText ?tC_BadText ?hC_BadText ?sC_BadText ?ca_BadText ?cn_BadText ?ct_BadText ?cm_BadText ?go_BadText
    (case aC_BadText => k_is)
    (case xL_BadText => k_is)
    (case hb_BadText => first | rfl | decide +kernel)
    (case sa_BadText => k_is)
    (case ga_BadText => k_is)
    (case gg_BadText => k_is)
    (case n1_BadText => k_is)
    (case n2_BadText => k_is)
    (case kC_BadText => k_is)
    (case eC_BadText => k_is)
    (case tC_BadText => k_is)
    (case hC_BadText => k_is)
    (case sC_BadText => first | rfl | k_is)
    (case ca_BadText => k_is)
    (case cn_BadText => k_is)
    (case ct_BadText => k_is)
    (case cm_BadText => k_is)
    intro e_BadText
    refine' DL.ini_go e_BadText (qual := "BadText.__init__") (st := DL.s_BadText_init) (ps := ["self", "line", "what"]) ?i1_BadText ?i2_BadText ?i3_BadText ?i4_BadText ?i5_BadText (fun _ _ _ _ _ _ us hl => match us, hl with | [_, _, _], _ => rfl) ?i6_BadText
    (case i1_BadText => k_is)
    (case i2_BadText => k_is)
    (case i3_BadText => k_is)
    (case i4_BadText => k_is)
    (case i5_BadText => k_is)
    intro ti_BadText i_BadText
    refine' DL.cls_go (x := "AskError") KX G ?a_AskError ?g_AskError
    (case a_AskError => k_is)
    intro m_AskError
    refine' DL.isa_go e_BadText m_AskError ?h_BadText_AskError ?g_BadText_AskError
    (case h_BadText_AskError => first | rfl | k_is | decide +kernel)
    intro is_BadText_AskError
    refine' DL.isa_goT (T := "ValueError") e_BadText ?h_BadText_ValueError ?g_BadText_ValueError
    (case h_BadText_ValueError => first | rfl | k_is | decide +kernel)
    intro is_BadText_ValueError
    have z_ValueError : mg "ValueError" = none := by
      refine' PySem.W.mg_none_of KX G ?a
      (case a => k_is)
    have z_abs : mg "abs" = none := by
      refine' PySem.W.mg_none_of KX G ?a
      (case a => k_is)
    have z_all : mg "all" = none := by
      refine' PySem.W.mg_none_of KX G ?a
      (case a => k_is)
    have z_bool : mg "bool" = none := by
      refine' PySem.W.mg_none_of KX G ?a
      (case a => k_is)
    have z_dict : mg "dict" = none := by
      refine' PySem.W.mg_none_of KX G ?a
      (case a => k_is)
    have z_enumerate : mg "enumerate" = none := by
      refine' PySem.W.mg_none_of KX G ?a
      (case a => k_is)
    have z_int : mg "int" = none := by
      refine' PySem.W.mg_none_of KX G ?a
      (case a => k_is)
    have z_isinstance : mg "isinstance" = none := by
      refine' PySem.W.mg_none_of KX G ?a
      (case a => k_is)
    have z_len : mg "len" = none := by
      refine' PySem.W.mg_none_of KX G ?a
      (case a => k_is)
    have z_list : mg "list" = none := by
      refine' PySem.W.mg_none_of KX G ?a
      (case a => k_is)
    have z_min : mg "min" = none := by
      refine' PySem.W.mg_none_of KX G ?a
      (case a => k_is)
    have z_range : mg "range" = none := by
      refine' PySem.W.mg_none_of KX G ?a
      (case a => k_is)
    have z_str : mg "str" = none := by
      refine' PySem.W.mg_none_of KX G ?a
      (case a => k_is)
    have z_tuple : mg "tuple" = none := by
      refine' PySem.W.mg_none_of KX G ?a
      (case a => k_is)
    have e := hmg.symm.trans d_law.m
    cases e
    exact ⟨t_law, fun s u => bind_law s [u] rfl, fun base => DL.ok_law { a_sign_fault := a_sign_fault, t_sign_fault := t_sign_fault, d_sign_fault := d_sign_fault, a_is_figures := a_is_figures, t_is_figures := t_is_figures, d_is_figures := d_is_figures, a_is_number := a_is_number, t_is_number := t_is_number, d_is_number := d_is_number, a_is_word := a_is_word, t_is_word := t_is_word, d_is_word := d_is_word, a_is_version := a_is_version, t_is_version := t_is_version, d_is_version := d_is_version, a_is_release := a_is_release, t_is_release := t_is_release, d_is_release := d_is_release, a_is_price := a_is_price, t_is_price := t_is_price, d_is_price := d_is_price, a_price_of := a_price_of, t_price_of := t_price_of, d_price_of := d_price_of, a_is_short_name := a_is_short_name, t_is_short_name := t_is_short_name, d_is_short_name := d_is_short_name, a_is_whole_name := a_is_whole_name, t_is_whole_name := t_is_whole_name, d_is_whole_name := d_is_whole_name, a_split_tokens := a_split_tokens, t_split_tokens := t_split_tokens, d_split_tokens := d_split_tokens, a_read_condition := a_read_condition, t_read_condition := t_read_condition, d_read_condition := d_read_condition, a_read_conditions := a_read_conditions, t_read_conditions := t_read_conditions, d_read_conditions := d_read_conditions, a_read_need := a_read_need, t_read_need := t_read_need, d_read_need := d_read_need, a_read_counted := a_read_counted, t_read_counted := t_read_counted, d_read_counted := d_read_counted, a_read_form := a_read_form, t_read_form := t_read_form, d_read_form := d_read_form, a_bound_check := a_bound_check, t_bound_check := t_bound_check, d_bound_check := d_bound_check, a_text_rows := a_text_rows, t_text_rows := t_text_rows, d_text_rows := d_text_rows, a_checked_rows := a_checked_rows, t_checked_rows := t_checked_rows, d_checked_rows := d_checked_rows, a_read_release := a_read_release, t_read_release := t_read_release, d_read_release := d_read_release, a_read_feature := a_read_feature, t_read_feature := t_read_feature, d_read_feature := d_read_feature, a_read_signer := a_read_signer, t_read_signer := t_read_signer, d_read_signer := d_read_signer, a_read_line := a_read_line, t_read_line := t_read_line, d_read_line := d_read_line, a_read_lines := a_read_lines, t_read_lines := t_read_lines, d_read_lines := d_read_lines, a_law_cell := a_law_cell, t_law_cell := t_law_cell, d_law_cell := d_law_cell, a_law_source := a_law_source, t_law_source := t_law_source, d_law_source := d_law_source, a_law_pick := a_law_pick, t_law_pick := t_law_pick, d_law_pick := d_law_pick, a_law_number := a_law_number, t_law_number := t_law_number, d_law_number := d_law_number, a_law_kept := a_law_kept, t_law_kept := t_law_kept, d_law_kept := d_law_kept, a_law_words := a_law_words, t_law_words := t_law_words, d_law_words := d_law_words, a_law_same := a_law_same, t_law_same := t_law_same, d_law_same := d_law_same, a_law_condition_words := a_law_condition_words, t_law_condition_words := t_law_condition_words, d_law_condition_words := d_law_condition_words, a_law_parts := a_law_parts, t_law_parts := t_law_parts, d_law_parts := d_law_parts, a_law_form_words := a_law_form_words, t_law_form_words := t_law_form_words, d_law_form_words := d_law_form_words, a_law_price_word := a_law_price_word, t_law_price_word := t_law_price_word, d_law_price_word := d_law_price_word, a_law_line_words := a_law_line_words, t_law_line_words := t_law_line_words, d_law_line_words := d_law_line_words, a_law_a_version := a_law_a_version, t_law_a_version := t_law_a_version, d_law_a_version := d_law_a_version, a_law_a_release := a_law_a_release, t_law_a_release := t_law_a_release, d_law_a_release := d_law_a_release, a_law_a_name := a_law_a_name, t_law_a_name := t_law_a_name, d_law_a_name := d_law_a_name, a_law_a_price := a_law_a_price, t_law_a_price := t_law_a_price, d_law_a_price := d_law_a_price, a_law_a_condition := a_law_a_condition, t_law_a_condition := t_law_a_condition, d_law_a_condition := d_law_a_condition, a_law_a_conditions := a_law_a_conditions, t_law_a_conditions := t_law_a_conditions, d_law_a_conditions := d_law_a_conditions, a_law_a_form := a_law_a_form, t_law_a_form := t_law_a_form, d_law_a_form := d_law_a_form, a_law_a_line := a_law_a_line, t_law_a_line := t_law_a_line, d_law_a_line := d_law_a_line, a_law_a_lines := a_law_a_lines, t_law_a_lines := t_law_a_lines, d_law_a_lines := d_law_a_lines, a_law_a_sign := a_law_a_sign, t_law_a_sign := t_law_a_sign, d_law_a_sign := d_law_a_sign, a_law_a_wrong := a_law_a_wrong, t_law_a_wrong := t_law_a_wrong, d_law_a_wrong := d_law_a_wrong, a_law_a_near := a_law_a_near, t_law_a_near := t_law_a_near, d_law_a_near := d_law_a_near, a_law_a_fault := a_law_a_fault, t_law_a_fault := t_law_a_fault, d_law_a_fault := d_law_a_fault, a_law_a_refusal := a_law_a_refusal, t_law_a_refusal := t_law_a_refusal, d_law_a_refusal := d_law_a_refusal, a_law := _, t_law := t_law, d_law := d_law, k_LETTERS := k_LETTERS, k_FIGURES := k_FIGURES, k_SIGNS := k_SIGNS, k_KEPT := k_KEPT, k_GREATEST_PRICE := k_GREATEST_PRICE, k_LIMITS := k_LIMITS, k_FIRST_WORDS := k_FIRST_WORDS, C_BadText := _, e_BadText := e_BadText, ai_BadText := _, ti_BadText := ti_BadText, i_BadText := i_BadText, C_AskError := _, m_AskError := m_AskError, is_BadText_AskError := is_BadText_AskError, is_BadText_ValueError := is_BadText_ValueError, z_ValueError := z_ValueError, z_abs := z_abs, z_all := z_all, z_bool := z_bool, z_dict := z_dict, z_enumerate := z_enumerate, z_int := z_int, z_isinstance := z_isinstance, z_len := z_len, z_list := z_list, z_min := z_min, z_range := z_range, z_str := z_str, z_tuple := z_tuple }⟩

